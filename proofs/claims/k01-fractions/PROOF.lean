import PyProof.Rows.All
import Wide.All
import OpenK.AllK
import Wide.FinOn
import PyProof.EqAt
import PyProof.EqKinds
import PyProof.TupleCall
import HandS.ForMost
import HandS.ForExc
import HandS.HeadHook2
import HandS.CallSlots
import HandS.Wide
import HandS.Gcd
import HandS.IsInst
import HandS.TupAny
import HandS.Text
import HandS.StrMore
import HandS.SortInts
import HandS.RaiseMore
import PyProof.ListMulRight
import KE.KOpsOwn
import KE.KCallOwn
import KE.KFmtOwn
import HandS.SlotsOwn
import HandS.ClsMeth
import HandS.FStr
import HandS.ExcIs
import HandS.ExcField
import HandS.ExcInit
import HandS.HotCalls
import PyProof.StrOps2
import HandS.HeadEnd
import HandS.Ends
import HandS.Words
import HandS.WordsExc
import HandS.Iter
import HandS.Head3
import HandS.Codes
import PySem.Challenge.RW_rodwebs_k01_fractions
set_option Elab.async false
set_option linter.all false
set_option maxRecDepth 100000
set_option maxHeartbeats 4000000
/-! Fx0: pure data D, owned data Sl, what stands for them in the abstract heap, frames. -/
namespace Fx
open PySem PySem.Spec PyProof.Rows L2
abbrev Fg := PySem.W.Frag
abbrev St := L2.St

/-- data that never changes any more -/
inductive D where
  | non | bl (b : Bool) | int (i : Int) | str (x : Str)
  | tup (xs : List D) | lst (xs : List D)
  /-- a list that may be read alone -/
  | rl (xs : List D)
  | ins (c : String) (ns : List String) (xs : List D)
  /-- an error that is held -/
  | err (c : String) (ns : List String) (xs : List D)

/-- at e: an error of the class at C, its dict at d -/
def eob (e C : Addr) (d : Option Addr) : HO := .ext fun h => ∃ oe : Obj, h.get? e = some oe ∧ Zc (.ref C) d oe ∧ ∃ us, oe.data = .fields us
/-- the fields of an error -/
def EFd (F : Hp) (ns : List String) (vs : List V) (d : Option Addr) : Prop := (ns = [] ∧ d = none) ∨ ∃ dd, d = some dd ∧ F dd = some (.xd ((ns.map Str.ofString).zip vs))
theorem EFd.mono {F G : Hp} {ns : List String} {vs : List V} {d : Option Addr} (h : EFd F ns vs d) (e : Same F G) : EFd G ns vs d := by
  rcases h with h | ⟨dd, h1, h2⟩
  · exact .inl h
  · exact .inr ⟨dd, h1, e _ _ h2⟩

mutual
/-- the value v stands for x over the frozen heap F -/
def Rp (K : Fg) (F : Hp) : V → D → Prop
  | v, .non => v = .non
  | v, .bl b => v = .bl b
  | v, .int i => v = .int i
  | v, .str x => v = .str x
  | v, .tup xs => ∃ a vs, v = .ref a ∧ SqT K F a vs ∧ RpL K F vs xs
  | v, .lst xs => ∃ a vs, v = .ref a ∧ F a = some (.lst vs) ∧ RpL K F vs xs
  | v, .rl xs => ∃ a vs, v = .ref a ∧ SqL K F a vs ∧ RpL K F vs xs
  | v, .ins c ns xs => ∃ a dx vs, v = .ref a ∧ F a = some (.ins (He.ga K c) dx ((ns.map Str.ofString).zip vs)) ∧ F dx = some (.own a) ∧ ns.length = xs.length ∧ RpL K F vs xs
  | v, .err c ns xs => ∃ a d vs, v = .ref a ∧ F a = some (eob a (He.ga K c) d) ∧ EFd F ns vs d ∧ ns.length = xs.length ∧ RpL K F vs xs
def RpL (K : Fg) (F : Hp) : List V → List D → Prop
  | [], [] => True
  | v :: vs, x :: xs => Rp K F v x ∧ RpL K F vs xs
  | [], _ :: _ => False
  | _ :: _, [] => False
end

theorem sameT {K : Fg} {H H' : Hp} {a : Addr} {xs : List V} (e : Same H H') (h : SqT K H a xs) : SqT K H' a xs := by
  rcases h with (h | ⟨o, h⟩) | h
  · exact .inl (.inl (e _ _ h))
  · exact .inl (.inr ⟨o, e _ _ h⟩)
  · exact .inr h

mutual
theorem Rp.mono {K : Fg} {F G : Hp} (e : Same F G) : ∀ (x : D) (v : V), Rp K F v x → Rp K G v x
  | .non, _, h => h
  | .bl _, _, h => h
  | .int _, _, h => h
  | .str _, _, h => h
  | .tup xs, _, h => by
    obtain ⟨a, vs, r, s, t⟩ := (by simpa only [Rp] using h : ∃ a vs, _ = V.ref a ∧ SqT K F a vs ∧ RpL K F vs xs)
    simp only [Rp]
    exact ⟨a, vs, r, sameT e s, RpL.mono e xs vs t⟩
  | .lst xs, _, h => by
    simp only [Rp] at h ⊢
    obtain ⟨a, vs, r, s, t⟩ := h
    exact ⟨a, vs, r, e _ _ s, RpL.mono e xs vs t⟩
  | .rl xs, _, h => by
    simp only [Rp] at h ⊢
    obtain ⟨a, vs, r, s, t⟩ := h
    exact ⟨a, vs, r, e.seq s, RpL.mono e xs vs t⟩
  | .ins c ns xs, _, h => by
    simp only [Rp] at h ⊢
    obtain ⟨a, dx, vs, r, s, t, l, u⟩ := h
    exact ⟨a, dx, vs, r, e _ _ s, e _ _ t, l, RpL.mono e xs vs u⟩
  | .err c ns xs, _, h => by
    simp only [Rp] at h ⊢
    obtain ⟨a, d, vs, r, s, t, l, u⟩ := h
    exact ⟨a, d, vs, r, e _ _ s, t.mono e, l, RpL.mono e xs vs u⟩
theorem RpL.mono {K : Fg} {F G : Hp} (e : Same F G) : ∀ (xs : List D) (vs : List V), RpL K F vs xs → RpL K G vs xs
  | [], [], h => by simp only [RpL]
  | x :: xs, v :: vs, h => by
    simp only [RpL] at h ⊢
    exact ⟨Rp.mono e x v h.1, RpL.mono e xs vs h.2⟩
  | [], _ :: _, h => by simp only [RpL] at h
  | _ :: _, [], h => by simp only [RpL] at h
end

theorem RpL.length {K : Fg} {F : Hp} : ∀ {xs : List D} {vs : List V}, RpL K F vs xs → vs.length = xs.length
  | [], [], _ => rfl
  | x :: xs, v :: vs, h => by simp only [RpL] at h; simp [RpL.length h.2]
  | [], _ :: _, h => by simp only [RpL] at h
  | _ :: _, [], h => by simp only [RpL] at h
theorem RpL.get {K : Fg} {F : Hp} : ∀ {xs : List D} {vs : List V} {i : Nat} {x : D}, RpL K F vs xs → xs[i]? = some x → ∃ v, vs[i]? = some v ∧ Rp K F v x
  | [], [], _, _, _, e => by simp at e
  | x :: xs, v :: vs, 0, y, h, e => by
    simp only [RpL] at h
    simp at e
    subst e
    exact ⟨v, by simp, h.1⟩
  | x :: xs, v :: vs, i + 1, y, h, e => by
    simp only [RpL] at h
    obtain ⟨u, h1, h2⟩ := RpL.get (i := i) (x := y) h.2 (by simpa using e)
    exact ⟨u, by simpa using h1, h2⟩
  | [], _ :: _, _, _, h, _ => by simp only [RpL] at h
  | _ :: _, [], _, _, h, _ => by simp only [RpL] at h
theorem RpL.nil {K : Fg} {F : Hp} : RpL K F [] [] := by simp only [RpL]
theorem RpL.cons {K : Fg} {F : Hp} {v : V} {x : D} {vs : List V} {xs : List D} (h : Rp K F v x) (t : RpL K F vs xs) : RpL K F (v :: vs) (x :: xs) := by simp only [RpL]; exact ⟨h, t⟩
theorem RpL.append {K : Fg} {F : Hp} : ∀ {xs ys : List D} {vs us : List V}, RpL K F vs xs → RpL K F us ys → RpL K F (vs ++ us) (xs ++ ys)
  | [], _, [], _, _, h => h
  | x :: xs, ys, v :: vs, us, h, k => by
    simp only [RpL] at h
    exact RpL.cons h.1 (RpL.append h.2 k)
  | [], _, _ :: _, _, h, _ => by simp only [RpL] at h
  | _ :: _, _, [], _, h, _ => by simp only [RpL] at h
theorem RpL.take {K : Fg} {F : Hp} : ∀ (n : Nat) {xs : List D} {vs : List V}, RpL K F vs xs → RpL K F (vs.take n) (xs.take n)
  | 0, _, _, _ => by simpa using RpL.nil
  | n + 1, [], [], _ => by simpa using RpL.nil
  | n + 1, x :: xs, v :: vs, h => by
    simp only [RpL] at h
    exact RpL.cons h.1 (RpL.take n h.2)
  | _, [], _ :: _, h => by simp only [RpL] at h
  | _, _ :: _, [], h => by simp only [RpL] at h
theorem RpL.drop {K : Fg} {F : Hp} : ∀ (n : Nat) {xs : List D} {vs : List V}, RpL K F vs xs → RpL K F (vs.drop n) (xs.drop n)
  | 0, _, _, h => by simpa using h
  | n + 1, [], [], _ => by simpa using RpL.nil
  | n + 1, x :: xs, v :: vs, h => by
    simp only [RpL] at h
    simpa using RpL.drop n h.2
  | _, [], _ :: _, h => by simp only [RpL] at h
  | _, _ :: _, [], h => by simp only [RpL] at h

/-- data that may still be changed, held by one name alone -/
inductive Sl where
  | d (x : D) | lst (xs : List Sl) | obj (c : String) (ns : List String) (xs : List Sl)
mutual
def Sl.fz : Sl → D
  | .d x => x
  | .lst xs => .lst (fzL xs)
  | .obj c ns xs => .ins c ns (fzL xs)
def fzL : List Sl → List D
  | [] => []
  | x :: xs => x.fz :: fzL xs
end
theorem fzL_map : ∀ xs : List Sl, fzL xs = xs.map Sl.fz
  | [] => rfl
  | x :: xs => by simp only [fzL, List.map_cons, fzL_map xs]
@[simp] theorem fzL_d (xs : List D) : fzL (xs.map Sl.d) = xs := by
  rw [fzL_map, List.map_map]
  have : (Sl.fz ∘ Sl.d) = id := by funext x; simp [Sl.fz]
  rw [this, List.map_id]
theorem fzL_length : ∀ xs : List Sl, (fzL xs).length = xs.length := fun xs => by rw [fzL_map, List.length_map]

mutual
/-- v stands for s: the objects fp are s's own -/
def At (K : Fg) (F H : Hp) : V → Sl → List Addr → Prop
  | v, .d x, fp => fp = [] ∧ Rp K F v x
  | v, .lst xs, fp => ∃ a vs f, v = .ref a ∧ fp = a :: f ∧ F a = none ∧ H a = some (.lst vs) ∧ AtL K F H vs xs f
  | v, .obj c ns xs, fp => ∃ a dx vs f, v = .ref a ∧ fp = a :: dx :: f ∧ F a = none ∧ F dx = none ∧ H a = some (.ins (He.ga K c) dx ((ns.map Str.ofString).zip vs)) ∧ H dx = some (.own a) ∧ ns.length = xs.length ∧ AtL K F H vs xs f
def AtL (K : Fg) (F H : Hp) : List V → List Sl → List Addr → Prop
  | [], [], fp => fp = []
  | v :: vs, x :: xs, fp => ∃ f g, fp = f ++ g ∧ At K F H v x f ∧ AtL K F H vs xs g
  | [], _ :: _, _ => False
  | _ :: _, [], _ => False
end

mutual
theorem At.mono {K : Fg} {F H F' H' : Hp} (e : Same F F') : ∀ (s : Sl) (v : V) (fp : List Addr), (∀ a ∈ fp, F' a = none) → (∀ a ∈ fp, H' a = H a) → At K F H v s fp → At K F' H' v s fp
  | .d x, v, fp, _, _, h => by
    simp only [At] at h ⊢
    exact ⟨h.1, Rp.mono e x v h.2⟩
  | .lst xs, v, fp, hn, hh, h => by
    simp only [At] at h ⊢
    obtain ⟨a, vs, f, r, p, q, s, t⟩ := h
    subst p
    exact ⟨a, vs, f, r, rfl, hn a List.mem_cons_self, (hh a List.mem_cons_self).trans s, AtL.mono e xs vs f (fun b hb => hn b (List.mem_cons_of_mem _ hb)) (fun b hb => hh b (List.mem_cons_of_mem _ hb)) t⟩
  | .obj c ns xs, v, fp, hn, hh, h => by
    simp only [At] at h ⊢
    obtain ⟨a, dx, vs, f, r, p, q, q2, s, s2, l, t⟩ := h
    subst p
    exact ⟨a, dx, vs, f, r, rfl, hn a (by simp), hn dx (by simp), (hh a (by simp)).trans s, (hh dx (by simp)).trans s2, l, AtL.mono e xs vs f (fun b hb => hn b (by simp [hb])) (fun b hb => hh b (by simp [hb])) t⟩
theorem AtL.mono {K : Fg} {F H F' H' : Hp} (e : Same F F') : ∀ (xs : List Sl) (vs : List V) (fp : List Addr), (∀ a ∈ fp, F' a = none) → (∀ a ∈ fp, H' a = H a) → AtL K F H vs xs fp → AtL K F' H' vs xs fp
  | [], [], fp, _, _, h => by simp only [AtL] at h ⊢; exact h
  | x :: xs, v :: vs, fp, hn, hh, h => by
    simp only [AtL] at h ⊢
    obtain ⟨f, g, p, s, t⟩ := h
    subst p
    exact ⟨f, g, rfl, At.mono e x v f (fun b hb => hn b (by simp [hb])) (fun b hb => hh b (by simp [hb])) s, AtL.mono e xs vs g (fun b hb => hn b (by simp [hb])) (fun b hb => hh b (by simp [hb])) t⟩
  | [], _ :: _, _, _, _, h => by simp only [AtL] at h
  | _ :: _, [], _, _, _, h => by simp only [AtL] at h
end
mutual
theorem At.out {K : Fg} {F H : Hp} : ∀ (s : Sl) (v : V) (fp : List Addr), At K F H v s fp → ∀ a ∈ fp, F a = none ∧ H a ≠ none
  | .d x, v, fp, h => by
    simp only [At] at h
    rw [h.1]
    simp
  | .lst xs, v, fp, h => by
    simp only [At] at h
    obtain ⟨a, vs, f, r, p, q, s, t⟩ := h
    subst p
    intro b hb
    rcases List.mem_cons.mp hb with rfl | hb
    · exact ⟨q, by rw [s]; simp⟩
    · exact AtL.out xs vs f t b hb
  | .obj c ns xs, v, fp, h => by
    simp only [At] at h
    obtain ⟨a, dx, vs, f, r, p, q, q2, s, s2, l, t⟩ := h
    subst p
    intro b hb
    rcases List.mem_cons.mp hb with rfl | hb
    · exact ⟨q, by rw [s]; simp⟩
    · rcases List.mem_cons.mp hb with rfl | hb
      · exact ⟨q2, by rw [s2]; simp⟩
      · exact AtL.out xs vs f t b hb
theorem AtL.out {K : Fg} {F H : Hp} : ∀ (xs : List Sl) (vs : List V) (fp : List Addr), AtL K F H vs xs fp → ∀ a ∈ fp, F a = none ∧ H a ≠ none
  | [], [], fp, h => by simp only [AtL] at h; rw [h]; simp
  | x :: xs, v :: vs, fp, h => by
    simp only [AtL] at h
    obtain ⟨f, g, p, s, t⟩ := h
    subst p
    intro b hb
    rcases List.mem_append.mp hb with hb | hb
    · exact At.out x v f s b hb
    · exact AtL.out xs vs g t b hb
  | [], _ :: _, _, h => by simp only [AtL] at h
  | _ :: _, [], _, h => by simp only [AtL] at h
end
mutual
/-- frozen: G holds the objects too -/
theorem At.freeze {K : Fg} {F H G : Hp} (e : Same F G) : ∀ (s : Sl) (v : V) (fp : List Addr), (∀ a ∈ fp, G a = H a) → At K F H v s fp → Rp K G v s.fz
  | .d x, v, fp, hg, h => by
    simp only [At] at h
    simp only [Sl.fz]
    exact Rp.mono e x v h.2
  | .lst xs, v, fp, hg, h => by
    simp only [At] at h
    obtain ⟨a, vs, f, r, p, q, s, t⟩ := h
    subst p
    simp only [Sl.fz, Rp]
    exact ⟨a, vs, r, (hg a List.mem_cons_self).trans s, AtL.freeze e xs vs f (fun b hb => hg b (List.mem_cons_of_mem _ hb)) t⟩
  | .obj c ns xs, v, fp, hg, h => by
    simp only [At] at h
    obtain ⟨a, dx, vs, f, r, p, q, q2, s, s2, l, t⟩ := h
    subst p
    simp only [Sl.fz, Rp]
    exact ⟨a, dx, vs, r, (hg a (by simp)).trans s, (hg dx (by simp)).trans s2, by rw [l, fzL_length], AtL.freeze e xs vs f (fun b hb => hg b (by simp [hb])) t⟩
theorem AtL.freeze {K : Fg} {F H G : Hp} (e : Same F G) : ∀ (xs : List Sl) (vs : List V) (fp : List Addr), (∀ a ∈ fp, G a = H a) → AtL K F H vs xs fp → RpL K G vs (fzL xs)
  | [], [], fp, _, h => by simp only [fzL, RpL]
  | x :: xs, v :: vs, fp, hg, h => by
    simp only [AtL] at h
    obtain ⟨f, g, p, s, t⟩ := h
    subst p
    simp only [fzL, RpL]
    exact ⟨At.freeze e x v f (fun b hb => hg b (by simp [hb])) s, AtL.freeze e xs vs g (fun b hb => hg b (by simp [hb])) t⟩
  | [], _ :: _, _, _, h => by simp only [AtL] at h
  | _ :: _, [], _, _, h => by simp only [AtL] at h
end
theorem AtL.length {K : Fg} {F H : Hp} : ∀ {xs : List Sl} {vs : List V} {fp : List Addr}, AtL K F H vs xs fp → vs.length = xs.length
  | [], [], _, _ => rfl
  | x :: xs, v :: vs, _, h => by
    simp only [AtL] at h
    obtain ⟨f, g, p, s, t⟩ := h
    simp [AtL.length t]
  | [], _ :: _, _, h => by simp only [AtL] at h
  | _ :: _, [], _, h => by simp only [AtL] at h
/-- frozen things, as owned ones of no object -/
theorem AtL.of {K : Fg} {F H : Hp} : ∀ {xs : List D} {vs : List V}, RpL K F vs xs → AtL K F H vs (xs.map Sl.d) []
  | [], [], _ => by simp only [List.map_nil, AtL]
  | x :: xs, v :: vs, h => by
    simp only [RpL] at h
    simp only [List.map_cons, AtL]
    exact ⟨[], [], rfl, by simp only [At]; exact ⟨trivial, h.1⟩, AtL.of h.2⟩
  | [], _ :: _, h => by simp only [RpL] at h
  | _ :: _, [], h => by simp only [RpL] at h
theorem At.of {K : Fg} {F H : Hp} {x : D} {v : V} (h : Rp K F v x) : At K F H v (.d x) [] := by simp only [At]; exact ⟨trivial, h⟩

/-! ### freezing some objects -/
open Classical in
noncomputable def fzH (F H : Hp) (fp : List Addr) : Hp := fun b => if b ∈ fp then H b else F b
theorem fzH_in {F H : Hp} {fp : List Addr} {b : Addr} (h : b ∈ fp) : fzH F H fp b = H b := by unfold fzH; rw [if_pos h]
theorem fzH_out {F H : Hp} {fp : List Addr} {b : Addr} (h : b ∉ fp) : fzH F H fp b = F b := by unfold fzH; rw [if_neg h]
theorem fzH_same {F H : Hp} {fp : List Addr} (h : ∀ a ∈ fp, F a = none) : Same F (fzH F H fp) := fun b o e => by
  rw [fzH_out (fun m => by rw [h b m] at e; cases e)]
  exact e
theorem fzH_sub {F H : Hp} {fp : List Addr} (h : Same F H) : Same (fzH F H fp) H := fun b o e => by
  by_cases m : b ∈ fp
  · rw [fzH_in m] at e; exact e
  · rw [fzH_out m] at e; exact h _ _ e

/-! ### frames -/
/-- from F, H with the own objects A to F', H' with A': all else is kept, nothing of it is frozen -/
structure Fm (F H : Hp) (A : Addr → Prop) (F' H' : Hp) (A' : Addr → Prop) : Prop where
  same : Same F F'
  keep : ∀ b, H b ≠ none → ¬ A b → H' b = H b
  newF : ∀ b, F' b ≠ none → F b ≠ none ∨ H b = none ∨ A b
  newA : ∀ b, A' b → A b ∨ H b = none
  there : ∀ b, H b ≠ none → H' b ≠ none
theorem Fm.refl {F H : Hp} {A A' : Addr → Prop} (h : ∀ b, A' b → A b) : Fm F H A F H A' := ⟨Same.refl F, fun _ _ _ => rfl, fun _ h => .inl h, fun b hb => .inl (h b hb), fun _ h => h⟩
theorem Fm.none_of {F H F' H' : Hp} {A A' : Addr → Prop} (f : Fm F H A F' H' A') {b : Addr} (h : H' b = none) : H b = none := by
  cases e : H b with
  | none => rfl
  | some o => exact absurd h (f.there b (by rw [e]; simp))
theorem Fm.trans {F H F1 H1 F2 H2 : Hp} {A A1 A2 : Addr → Prop} (f : Fm F H A F1 H1 A1) (g : Fm F1 H1 A1 F2 H2 A2) : Fm F H A F2 H2 A2 where
  same := f.same.trans g.same
  keep := fun b hb ha => by
    have e := f.keep b hb ha
    have h1 : ¬ A1 b := fun z => by
      rcases f.newA b z with z | z
      · exact ha z
      · exact hb z
    rw [g.keep b (by rw [e]; exact hb) h1, e]
  newF := fun b hb => by
    rcases g.newF b hb with h | h | h
    · exact f.newF b h
    · exact .inr (.inl (f.none_of h))
    · rcases f.newA b h with h | h
      · exact .inr (.inr h)
      · exact .inr (.inl h)
  newA := fun b hb => by
    rcases g.newA b hb with h | h
    · exact f.newA b h
    · exact .inr (f.none_of h)
  there := fun b hb => g.there b (f.there b hb)
theorem Fm.weak {F H F' H' : Hp} {A A' A'' : Addr → Prop} (f : Fm F H A F' H' A') (h : ∀ b, A'' b → A' b) : Fm F H A F' H' A'' := ⟨f.same, f.keep, f.newF, fun b hb => f.newA b (h b hb), f.there⟩
theorem Fm.wider {F H F' H' : Hp} {A A' B : Addr → Prop} (f : Fm F H A F' H' A') (h : ∀ b, A b → B b) : Fm F H B F' H' A' := ⟨f.same, fun b hb hB => f.keep b hb fun z => hB (h b z), fun b hb => by
  rcases f.newF b hb with z | z | z
  · exact .inl z
  · exact .inr (.inl z)
  · exact .inr (.inr (h b z)), fun b hb => by
  rcases f.newA b hb with z | z
  · exact .inl (h b z)
  · exact .inr z, f.there⟩
/-- own objects of somebody else stay so -/
theorem Fm.at_ {K : Fg} {F H F' H' : Hp} {A A' : Addr → Prop} (f : Fm F H A F' H' A') {s : Sl} {v : V} {fp : List Addr} (h : At K F H v s fp) (d : ∀ a ∈ fp, ¬ A a) : At K F' H' v s fp := by
  have o := At.out s v fp h
  refine At.mono f.same s v fp (fun a ha => ?_) (fun a ha => f.keep a (o a ha).2 (d a ha)) h
  cases e : F' a with
  | none => rfl
  | some z =>
    rcases f.newF a (by rw [e]; simp) with q | q | q
    · exact absurd (o a ha).1 q
    · exact absurd q (o a ha).2
    · exact absurd q (d a ha)
theorem Fm.atL {K : Fg} {F H F' H' : Hp} {A A' : Addr → Prop} (f : Fm F H A F' H' A') {xs : List Sl} {vs : List V} {fp : List Addr} (h : AtL K F H vs xs fp) (d : ∀ a ∈ fp, ¬ A a) : AtL K F' H' vs xs fp := by
  have o := AtL.out xs vs fp h
  refine AtL.mono f.same xs vs fp (fun a ha => ?_) (fun a ha => f.keep a (o a ha).2 (d a ha)) h
  cases e : F' a with
  | none => rfl
  | some z =>
    rcases f.newF a (by rw [e]; simp) with q | q | q
    · exact absurd (o a ha).1 q
    · exact absurd q (o a ha).2
    · exact absurd q (d a ha)
/-- a new object -/
theorem Fm.new {F H : Hp} {A : Addr → Prop} {p : Addr} {o : HO} (hp : H p = none) (hs : Same F H) : Fm F H A F (upd H p o) (fun b => b = p ∨ A b) where
  same := Same.refl F
  keep := fun b hb _ => upd_ne fun z => hb (by rw [z]; exact hp)
  newF := fun b hb => .inl hb
  newA := fun b hb => by
    rcases hb with rfl | hb
    · exact .inr hp
    · exact .inl hb
  there := fun b hb => by rw [upd_ne fun z => hb (by rw [z]; exact hp)]; exact hb
end Fx
/-! Fx1: slots, outcomes, what a reading asks (wpE, wpT, wpA, wpS). -/
namespace Fx
open PySem PySem.Spec PyProof.Rows L2

/-- a slot: nothing known; a local's; a parameter's own object, still there -/
inductive Slot where
  | no | loc (s : Sl) | par (s : Sl)
@[simp] def Slot.sl : Slot → Option Sl
  | .no => none
  | .loc s => some s
  | .par s => some s
abbrev En := List Slot

/-- an outcome: a value; an error of the class c with its fields, and what stands then; nothing is promised -/
inductive R (β α : Type) where
  | ok (a : α) | exc (c : String) (ns : List String) (xs : List D) (b : β) | stk
def R.bind {β α γ : Type} (r : R β α) (f : α → R β γ) : R β γ := match r with
  | .ok a => f a
  | .exc c ns xs b => .exc c ns xs b
  | .stk => .stk
abbrev Ex := En → R En (Sl × En)
abbrev Tx := En → R En (Bool × En)
inductive Fl where
  | nx | bk | ct | rt (s : Sl)
abbrev Sx := En → R En (Fl × En)

structure EOk (K : Fg) (F H : Hp) (σ : St) (δ : En) (av : Nat → V) (fp : Nat → List Addr) : Prop where
  sub : Same F H
  len : σ.length = δ.length
  at_ : ∀ i x s, δ[i]? = some x → x.sl = some s → ∃ v, σ[i]? = some (some v) ∧ At K F H v s (fp i)
  par : ∀ i s, δ[i]? = some (.par s) → σ[i]? = some (some (av i))
  nod : ∀ i, (fp i).Nodup
  dis : ∀ i j, i ≠ j → ∀ a ∈ fp i, a ∉ fp j
  out : ∀ i, ∀ a ∈ fp i, F a = none ∧ H a ≠ none
/-- the own objects of the slots -/
def Ow (fp : Nat → List Addr) : Addr → Prop := fun a => ∃ i, a ∈ fp i
/-- what an error bears -/
def ExV (K : Fg) (F H : Hp) (c : String) (ns : List String) (xs : List D) (cls : Value) (d : Option Addr) : Prop :=
  cls = .ref (He.ga K c) ∧ ∃ vs, EFd F ns vs d ∧ ns.length = xs.length ∧ RpL K F vs xs

def PX (K : Fg) (W : WX) (F H : Hp) (av : Nat → V) (fp : Nat → List Addr) (c : String) (ns : List String) (xs : List D) (δ' : En) : Prop :=
  ∀ σ' H' F' fp' cls d, EOk K F' H' σ' δ' av fp' → ExV K F' H' c ns xs cls d → Fm F H (Ow fp) F' H' (Ow fp') → W cls d σ' H'
/-- an outcome met: Qo of what is given, W of what is raised -/
def Po {α : Type} (K : Fg) (W : WX) (F H : Hp) (σ : St) (av : Nat → V) (fp : Nat → List Addr) (Qo : α → En → Prop) : R En (α × En) → Prop
  | .ok (a, δ') => Qo a δ'
  | .exc c ns xs δ' => ∀ H' F' fp' cls d, EOk K F' H' σ δ' av fp' → ExV K F' H' c ns xs cls d → Fm F H (Ow fp) F' H' (Ow fp') → W cls d σ H'
  | .stk => False
/-- behind an expression -/
def QE (K : Fg) (F H : Hp) (σ : St) (av : Nat → V) (fp : Nat → List Addr) (Q : VK) : Sl → En → Prop :=
  fun s δ' => ∀ v H' F' fp' f, EOk K F' H' σ δ' av fp' → At K F' H' v s f → f.Nodup → (∀ a ∈ f, ∀ i, a ∉ fp' i) → Fm F H (Ow fp) F' H' (fun a => a ∈ f ∨ Ow fp' a) → Q v H'
abbrev PEx (K : Fg) (W : WX) (F H : Hp) (σ : St) (av : Nat → V) (fp : Nat → List Addr) (Q : VK) : R En (Sl × En) → Prop := Po K W F H σ av fp (QE K F H σ av fp Q)
def wpE (K : Fg) (W : WX) (c : Ex) : TE := fun σ H Q => ∃ F δ av fp, EOk K F H σ δ av fp ∧ PEx K W F H σ av fp Q (c δ)
/-- behind a test -/
def QT (K : Fg) (F H : Hp) (σ : St) (av : Nat → V) (fp : Nat → List Addr) (Q : Bool → Hp → Prop) : Bool → En → Prop :=
  fun b δ' => ∀ H' F' fp', EOk K F' H' σ δ' av fp' → Fm F H (Ow fp) F' H' (Ow fp') → Q b H'
abbrev PTx (K : Fg) (W : WX) (F H : Hp) (σ : St) (av : Nat → V) (fp : Nat → List Addr) (Q : Bool → Hp → Prop) : R En (Bool × En) → Prop := Po K W F H σ av fp (QT K F H σ av fp Q)
def wpT (K : Fg) (W : WX) (c : Tx) : TT := fun σ H Q => ∃ F δ av fp, EOk K F H σ δ av fp ∧ PTx K W F H σ av fp Q (c δ)
/-- behind frozen arguments -/
abbrev Ax := En → R En (List D × En)
def QA (K : Fg) (F H : Hp) (σ : St) (av : Nat → V) (fp : Nat → List Addr) (Q : List V → Hp → Prop) : List D → En → Prop :=
  fun xs δ' => ∀ vs H' F' fp', EOk K F' H' σ δ' av fp' → RpL K F' vs xs → Fm F H (Ow fp) F' H' (Ow fp') → Q vs H'
abbrev PAx (K : Fg) (W : WX) (F H : Hp) (σ : St) (av : Nat → V) (fp : Nat → List Addr) (Q : List V → Hp → Prop) : R En (List D × En) → Prop := Po K W F H σ av fp (QA K F H σ av fp Q)
def wpA (K : Fg) (W : WX) (c : Ax) : TA := fun σ H Q => ∃ F δ av fp, EOk K F H σ δ av fp ∧ PAx K W F H σ av fp Q (c δ)
/-- behind a statement -/
def PSx (K : Fg) (W : WX) (F H : Hp) (av : Nat → V) (fp : Nat → List Addr) (D : Ends) : R En (Fl × En) → Prop
  | .ok (.nx, δ') => ∀ σ' H' F' fp', EOk K F' H' σ' δ' av fp' → Fm F H (Ow fp) F' H' (Ow fp') → D.nx σ' H'
  | .ok (.bk, δ') => ∀ σ' H' F' fp', EOk K F' H' σ' δ' av fp' → Fm F H (Ow fp) F' H' (Ow fp') → D.bk σ' H'
  | .ok (.ct, δ') => ∀ σ' H' F' fp', EOk K F' H' σ' δ' av fp' → Fm F H (Ow fp) F' H' (Ow fp') → D.ct σ' H'
  | .ok (.rt s, δ') => ∀ v σ' H' F' fp' f, EOk K F' H' σ' δ' av fp' → At K F' H' v s f → f.Nodup → (∀ a ∈ f, ∀ i, a ∉ fp' i) → Fm F H (Ow fp) F' H' (fun a => a ∈ f ∨ Ow fp' a) → D.rt v H'
  | .exc c ns xs δ' => PX K W F H av fp c ns xs δ'
  | .stk => False
def wpS (K : Fg) (W : WX) (c : Sx) : TS := fun D σ H => ∃ F δ av fp, EOk K F H σ δ av fp ∧ PSx K W F H av fp D (c δ)

/-! ### weakening -/
section
variable {X : Cx} {K : Fg} {W : WX} {F H F' H' F1 H1 : Hp} {σ σ' : St} {δ δ' δ1 : En} {av : Nat → V} {fp fp' fp1 : Nat → List Addr}
theorem PE.wk {e : Expr} {t t' : TE} (h : PE X e t) (i : ∀ σ H Q, t' σ H Q → t σ H Q) : PE X e t' := ⟨fun pins s σ H Q I q => h.run pins s σ H Q I (i σ H Q q)⟩
theorem PT.wk {e : Expr} {t t' : TT} (h : PT X e t) (i : ∀ σ H Q, t' σ H Q → t σ H Q) : PT X e t' := ⟨fun pins s σ H Q I q => h.run pins s σ H Q I (i σ H Q q)⟩
theorem PW.wk {e : Expr} {t t' : TT} (h : PW X e t) (i : ∀ σ H Q, t' σ H Q → t σ H Q) : PW X e t' := ⟨fun wh pins s σ H Q I q => h.run wh pins s σ H Q I (i σ H Q q)⟩
theorem PA.wk {e : List Expr} {t t' : TA} (h : PA X e t) (i : ∀ σ H Q, t' σ H Q → t σ H Q) : PA X e t' := ⟨fun pos pins s σ H Q I q => h.run pos pins s σ H Q I (i σ H Q q)⟩
theorem PS.wk {e : Stmt} {t t' : TS} (h : PS X e t) (i : ∀ D σ H, t' D σ H → t D σ H) : PS X e t' := ⟨fun pins s σ H D I q => h.run pins s σ H D I (i D σ H q)⟩
theorem PSs.wk {e : List Stmt} {t t' : TS} (h : PSs X e t) (i : ∀ D σ H, t' D σ H → t D σ H) : PSs X e t' := ⟨fun pins s σ H D I q => h.run pins s σ H D I (i D σ H q)⟩
theorem OpR.wk {f : Value → Value → Sem Value} {r r' : R2} (h : OpR X f r) (i : ∀ x y H Q, r' x y H Q → r x y H Q) : OpR X f r' := fun pins s σ H x y v u Q I rx ry q => h pins s σ H x y v u Q I rx ry (i x y H Q q)

theorem ExV.mono {c : String} {ns : List String} {xs : List D} {cls : Value} {d : Option Addr} (h : ExV K F H c ns xs cls d) (e : Same F F') : ExV K F' H' c ns xs cls d := by
  obtain ⟨h1, vs, h2, h3, h4⟩ := h
  exact ⟨h1, vs, h2.mono e, h3, RpL.mono e _ _ h4⟩

/-! ### the slots of an environment -/
theorem EOk.same {H' : Hp} (E : EOk K F H σ δ av fp) (e : Same H H') (k : ∀ i, ∀ a ∈ fp i, H' a = H a) : EOk K F H' σ δ av fp :=
  ⟨E.sub.trans e, E.len, fun i x s h1 h2 => by
    obtain ⟨v, h3, h4⟩ := E.at_ i x s h1 h2
    exact ⟨v, h3, At.mono (Same.refl F) s v (fp i) (fun a ha => (E.out i a ha).1) (k i) h4⟩, E.par, E.nod, E.dis, fun i a ha => ⟨(E.out i a ha).1, by rw [k i a ha]; exact (E.out i a ha).2⟩⟩
/-- a new object is laid; it is nobody's -/
theorem EOk.new {p : Addr} {o : HO} (E : EOk K F H σ δ av fp) (hp : H p = none) : EOk K F (upd H p o) σ δ av fp :=
  E.same (fun b u e => by rw [upd_ne fun z => by rw [z, hp] at e; cases e]; exact e) (fun i a ha => upd_ne fun z => (E.out i a ha).2 (by rw [z]; exact hp))
theorem EOk.free {p : Addr} (E : EOk K F H σ δ av fp) (hp : H p = none) : ∀ i, p ∉ fp i := fun i hm => (E.out i p hm).2 hp
theorem EOk.freeF {p : Addr} (E : EOk K F H σ δ av fp) (hp : H p = none) : F p = none := by
  cases e : F p with
  | none => rfl
  | some o => rw [E.sub p o e] at hp; cases hp
/-- what is in flight is frozen -/
theorem EOk.freeze {s : Sl} {v : V} {f : List Addr} (E : EOk K F H σ δ av fp) (h : At K F H v s f) (hd : ∀ a ∈ f, ∀ i, a ∉ fp i) : EOk K (fzH F H f) H σ δ av fp ∧ Rp K (fzH F H f) v s.fz := by
  have o := At.out s v f h
  have sm : Same F (fzH F H f) := fzH_same fun a ha => (o a ha).1
  refine ⟨⟨fzH_sub E.sub, E.len, fun i x t h1 h2 => ?_, E.par, E.nod, E.dis, fun i a ha => ⟨?_, (E.out i a ha).2⟩⟩, At.freeze sm s v f (fun a ha => fzH_in ha) h⟩
  · obtain ⟨u, h3, h4⟩ := E.at_ i x t h1 h2
    refine ⟨u, h3, At.mono sm t u (fp i) (fun a ha => ?_) (fun _ _ => rfl) h4⟩
    rw [fzH_out fun m => hd a m i ha]
    exact (E.out i a ha).1
  · rw [fzH_out fun m => hd a m i ha]
    exact (E.out i a ha).1
theorem Fm.freeze {f : List Addr} {A : Addr → Prop} (g : Fm F H A F1 H1 (fun a => a ∈ f ∨ Ow fp1 a)) (hf : ∀ a ∈ f, F1 a = none) : Fm F H A (fzH F1 H1 f) H1 (Ow fp1) where
  same := g.same.trans (fzH_same hf)
  keep := g.keep
  newF := fun b hb => by
    by_cases m : b ∈ f
    · rcases g.newA b (.inl m) with z | z
      · exact .inr (.inr z)
      · exact .inr (.inl z)
    · rw [fzH_out m] at hb
      exact g.newF b hb
  newA := fun b hb => g.newA b (.inr hb)
  there := g.there
/-- the value of a slot is set; f: the new value's objects -/
def setN {α : Type} (fp : Nat → α) (i : Nat) (f : α) : Nat → α := fun j => if j = i then f else fp j
theorem setN_eq {α : Type} {fp : Nat → α} {i : Nat} {f : α} : setN fp i f i = f := if_pos rfl
theorem setN_ne {α : Type} {fp : Nat → α} {i j : Nat} {f : α} (h : j ≠ i) : setN fp i f j = fp j := if_neg h
theorem ow_set {i : Nat} {f : List Addr} {a : Addr} (h : Ow (setN fp i f) a) : a ∈ f ∨ Ow fp a := by
  obtain ⟨j, hj⟩ := h
  by_cases e : j = i
  · subst e; rw [setN_eq] at hj; exact .inl hj
  · rw [setN_ne e] at hj; exact .inr ⟨j, hj⟩
theorem EOk.set {s : Sl} {v : V} {f : List Addr} {i : Nat} (E : EOk K F H σ δ av fp) (hi : i < δ.length) (h : At K F H v s f) (hn : f.Nodup) (hd : ∀ a ∈ f, ∀ i, a ∉ fp i) : EOk K F H (σ.set i (some v)) (δ.set i (.loc s)) av (setN fp i f) where
  sub := E.sub
  len := by rw [List.length_set, List.length_set, E.len]
  at_ := fun j x t h1 h2 => by
    by_cases e : j = i
    · subst e
      rw [List.getElem?_set_self hi] at h1
      cases h1
      cases h2
      refine ⟨v, by rw [List.getElem?_set_self (by rw [E.len]; exact hi)], ?_⟩
      rw [setN_eq]; exact h
    · rw [List.getElem?_set_ne (Ne.symm e)] at h1
      obtain ⟨u, h3, h4⟩ := E.at_ j x t h1 h2
      exact ⟨u, by rw [List.getElem?_set_ne (Ne.symm e)]; exact h3, by rw [setN_ne e]; exact h4⟩
  par := fun j t h1 => by
    by_cases e : j = i
    · subst e
      rw [List.getElem?_set_self hi] at h1
      cases h1
    · rw [List.getElem?_set_ne (Ne.symm e)] at h1 ⊢
      exact E.par j t h1
  nod := fun j => by
    by_cases e : j = i
    · subst e; rw [setN_eq]; exact hn
    · rw [setN_ne e]; exact E.nod j
  dis := fun j k hjk a ha => by
    by_cases e : j = i
    · subst e
      rw [setN_eq] at ha
      rw [setN_ne (Ne.symm hjk)]
      exact hd a ha k
    · rw [setN_ne e] at ha
      by_cases e2 : k = i
      · subst e2
        rw [setN_eq]
        exact fun m => hd a m j ha
      · rw [setN_ne e2]
        exact E.dis j k hjk a ha
  out := fun j a ha => by
    by_cases e : j = i
    · subst e
      rw [setN_eq] at ha
      exact At.out s v f h a ha
    · rw [setN_ne e] at ha
      exact E.out j a ha
/-- a slot is forgotten -/
theorem EOk.forget {i : Nat} (E : EOk K F H σ δ av fp) : EOk K F H σ (δ.set i .no) av (setN fp i []) where
  sub := E.sub
  len := by rw [List.length_set, E.len]
  at_ := fun j x t h1 h2 => by
    by_cases e : j = i
    · subst e
      have hl : j < δ.length := by
        have := (List.getElem?_eq_some_iff.mp h1).1
        rwa [List.length_set] at this
      rw [List.getElem?_set_self hl] at h1
      cases h1
      cases h2
    · rw [List.getElem?_set_ne (Ne.symm e)] at h1
      obtain ⟨u, h3, h4⟩ := E.at_ j x t h1 h2
      exact ⟨u, h3, by rw [setN_ne e]; exact h4⟩
  par := fun j t h1 => by
    by_cases e : j = i
    · subst e
      have hl : j < δ.length := by
        have := (List.getElem?_eq_some_iff.mp h1).1
        rwa [List.length_set] at this
      rw [List.getElem?_set_self hl] at h1
      cases h1
    · rw [List.getElem?_set_ne (Ne.symm e)] at h1
      exact E.par j t h1
  nod := fun j => by
    by_cases e : j = i
    · subst e; rw [setN_eq]; exact List.nodup_nil
    · rw [setN_ne e]; exact E.nod j
  dis := fun j k hjk a ha => by
    by_cases e : j = i
    · subst e
      rw [setN_eq] at ha
      cases ha
    · rw [setN_ne e] at ha
      by_cases e2 : k = i
      · subst e2
        rw [setN_eq]
        exact fun m => by cases m
      · rw [setN_ne e2]
        exact E.dis j k hjk a ha
  out := fun j a ha => by
    by_cases e : j = i
    · subst e
      rw [setN_eq] at ha
      cases ha
    · rw [setN_ne e] at ha
      exact E.out j a ha
/-- the object of a slot is changed where it stands: a parameter's stays a parameter's -/
@[simp] def Slot.to (s : Sl) : Slot → Slot
  | .no => .no
  | .loc _ => .loc s
  | .par _ => .par s
theorem EOk.turn {F' H' : Hp} {i : Nat} {x : Slot} {s s' : Sl} {v : V} {f : List Addr} (E : EOk K F H σ δ av fp) (hx : δ[i]? = some x) (hs : x.sl = some s) (hv : σ[i]? = some (some v)) (sub : Same F' H') (e : Same F F')
    (kf : ∀ j, j ≠ i → ∀ a ∈ fp j, F' a = none ∧ H' a = H a) (h : At K F' H' v s' f) (hn : f.Nodup) (hd : ∀ a ∈ f, ∀ j, j ≠ i → a ∉ fp j) : EOk K F' H' σ (δ.set i (x.to s')) av (setN fp i f) where
  sub := sub
  len := by rw [List.length_set, E.len]
  at_ := fun j y t h1 h2 => by
    by_cases ej : j = i
    · subst ej
      have hl := (List.getElem?_eq_some_iff.mp hx).1
      rw [List.getElem?_set_self hl] at h1
      cases h1
      have : t = s' := by
        cases x with
        | no => cases hs
        | loc _ => cases h2; rfl
        | par _ => cases h2; rfl
      subst this
      exact ⟨v, hv, by rw [setN_eq]; exact h⟩
    · rw [List.getElem?_set_ne (Ne.symm ej)] at h1
      obtain ⟨u, h3, h4⟩ := E.at_ j y t h1 h2
      refine ⟨u, h3, ?_⟩
      rw [setN_ne ej]
      exact At.mono e t u (fp j) (fun a ha => (kf j ej a ha).1) (fun a ha => (kf j ej a ha).2) h4
  par := fun j t h1 => by
    by_cases ej : j = i
    · subst ej
      have hl := (List.getElem?_eq_some_iff.mp hx).1
      rw [List.getElem?_set_self hl] at h1
      cases x with
      | no => cases hs
      | loc _ => cases h1
      | par z => exact E.par j z hx
    · rw [List.getElem?_set_ne (Ne.symm ej)] at h1
      exact E.par j t h1
  nod := fun j => by
    by_cases ej : j = i
    · subst ej; rw [setN_eq]; exact hn
    · rw [setN_ne ej]; exact E.nod j
  dis := fun j k hjk a ha => by
    by_cases ej : j = i
    · subst ej
      rw [setN_eq] at ha
      rw [setN_ne (Ne.symm hjk)]
      exact hd a ha k (Ne.symm hjk)
    · rw [setN_ne ej] at ha
      by_cases e2 : k = i
      · subst e2
        rw [setN_eq]
        exact fun m => hd a m j ej ha
      · rw [setN_ne e2]
        exact E.dis j k hjk a ha
  out := fun j a ha => by
    by_cases ej : j = i
    · subst ej
      rw [setN_eq] at ha
      exact At.out s' v f h a ha
    · rw [setN_ne ej] at ha
      exact ⟨(kf j ej a ha).1, by rw [(kf j ej a ha).2]; exact (E.out j a ha).2⟩

/-! ### outcomes, one behind the other -/
theorem Po.bind {α β : Type} {Qo : β → En → Prop} {r : R En (α × En)} {f : α × En → R En (β × En)} (h : Po K W F H σ av fp Qo (r.bind f)) : Po K W F H σ av fp (fun a δ' => r = .ok (a, δ') ∧ Po K W F H σ av fp Qo (f (a, δ'))) r := by
  cases r with
  | ok p => exact ⟨rfl, h⟩
  | exc c ns xs b => exact h
  | stk => exact h
theorem Po.imp {α : Type} {Qo Qo' : α → En → Prop} {r : R En (α × En)} (h : Po K W F H σ av fp Qo r) (i : ∀ a δ', Qo a δ' → Qo' a δ') : Po K W F H σ av fp Qo' r := by
  cases r with
  | ok p => exact i _ _ h
  | exc c ns xs b => exact h
  | stk => exact h
theorem QE.frame {Q : VK} {s : Sl} {δ' : En} (h : QE K F H σ av fp Q s δ') (g : Fm F H (Ow fp) F1 H1 (Ow fp1)) : QE K F1 H1 σ av fp1 Q s δ' := fun v H' F' fp' f E a n d m => h v H' F' fp' f E a n d (g.trans m)
theorem QT.frame {Q : Bool → Hp → Prop} {b : Bool} {δ' : En} (h : QT K F H σ av fp Q b δ') (g : Fm F H (Ow fp) F1 H1 (Ow fp1)) : QT K F1 H1 σ av fp1 Q b δ' := fun H' F' fp' E m => h H' F' fp' E (g.trans m)
theorem QA.frame {Q : List V → Hp → Prop} {s : List D} {δ' : En} (h : QA K F H σ av fp Q s δ') (g : Fm F H (Ow fp) F1 H1 (Ow fp1)) : QA K F1 H1 σ av fp1 Q s δ' := fun vs H' F' fp' E a m => h vs H' F' fp' E a (g.trans m)
theorem Po.frame {α : Type} {Qo Qo' : α → En → Prop} {r : R En (α × En)} (h : Po K W F H σ av fp Qo r) (g : Fm F H (Ow fp) F1 H1 (Ow fp1)) (i : ∀ a δ', Qo a δ' → Qo' a δ') : Po K W F1 H1 σ av fp1 Qo' r := by
  cases r with
  | ok p => exact i _ _ h
  | exc c ns xs b => exact fun H' F' fp' cls d E v m => h H' F' fp' cls d E v (g.trans m)
  | stk => exact h
theorem PEx.frame {Q : VK} {r : R En (Sl × En)} (h : PEx K W F H σ av fp Q r) (g : Fm F H (Ow fp) F1 H1 (Ow fp1)) : PEx K W F1 H1 σ av fp1 Q r := Po.frame h g fun _ _ z => z.frame g
theorem PTx.frame {Q : Bool → Hp → Prop} {r : R En (Bool × En)} (h : PTx K W F H σ av fp Q r) (g : Fm F H (Ow fp) F1 H1 (Ow fp1)) : PTx K W F1 H1 σ av fp1 Q r := Po.frame h g fun _ _ z => z.frame g
theorem PAx.frame {Q : List V → Hp → Prop} {r : R En (List D × En)} (h : PAx K W F H σ av fp Q r) (g : Fm F H (Ow fp) F1 H1 (Ow fp1)) : PAx K W F1 H1 σ av fp1 Q r := Po.frame h g fun _ _ z => z.frame g
theorem PSx.frame {D : Ends} {r : R En (Fl × En)} (h : PSx K W F H av fp D r) (g : Fm F H (Ow fp) F1 H1 (Ow fp1)) : PSx K W F1 H1 av fp1 D r := by
  match r, h with
  | .ok (.nx, δ'), h => exact fun σ' H' F' fp' E m => h σ' H' F' fp' E (g.trans m)
  | .ok (.bk, δ'), h => exact fun σ' H' F' fp' E m => h σ' H' F' fp' E (g.trans m)
  | .ok (.ct, δ'), h => exact fun σ' H' F' fp' E m => h σ' H' F' fp' E (g.trans m)
  | .ok (.rt s, δ'), h => exact fun v σ' H' F' fp' f E a n d m => h v σ' H' F' fp' f E a n d (g.trans m)
  | .exc c ns xs δ', h => exact fun σ' H' F' fp' cls d E v m => h σ' H' F' fp' cls d E v (g.trans m)
  | .stk, h => exact h
/-- a statement's part -/
theorem PSx.bind {α : Type} {D : Ends} {r : R En (α × En)} {f : α × En → R En (Fl × En)} (h : PSx K W F H av fp D (r.bind f)) (σ : St) : Po K W F H σ av fp (fun a δ' => r = .ok (a, δ') ∧ PSx K W F H av fp D (f (a, δ'))) r := by
  cases r with
  | ok p => exact ⟨rfl, h⟩
  | exc c ns xs b => exact fun H' F' fp' cls d E v m => h σ H' F' fp' cls d E v m
  | stk => exact h
/-- an expression whose value is frozen; P: what stands then, at any frame -/
theorem Po.fz {P : Hp → Hp → (Nat → List Addr) → Sl → En → Prop} {r : R En (Sl × En)} (h : Po K W F H σ av fp (fun s δ' => ∀ F1 H1 fp1, Fm F H (Ow fp) F1 H1 (Ow fp1) → P F1 H1 fp1 s δ') r) :
    PEx K W F H σ av fp (fun v H1 => ∃ F1 fp1 s δ1, EOk K F1 H1 σ δ1 av fp1 ∧ Rp K F1 v s.fz ∧ Fm F H (Ow fp) F1 H1 (Ow fp1) ∧ P F1 H1 fp1 s δ1) r := by
  refine Po.imp h fun s δ' z v H1 F1 fp1 f E a n d m => ?_
  obtain ⟨E2, rp⟩ := E.freeze a d
  have m2 := Fm.freeze m fun b hb => (At.out s v f a b hb).1
  exact ⟨_, fp1, s, δ', E2, rp, m2, z _ _ _ m2⟩
end
end Fx
/-! Fx2: expressions: names, constants, primitives, tests, displays, calls of defs. -/
namespace Fx
open PySem PySem.Spec PyProof.Rows L2
section
variable {X : Cx} {K : Fg} {W : WX} {F H F' H' F1 H1 : Hp} {σ σ' : St} {δ δ' δ1 : En} {av : Nat → V} {fp fp' fp1 : Nat → List Addr}

/-! ### more about environments -/
/-- a slot's own object is frozen -/
theorem EOk.fzSlot {i : Nat} {x : Slot} {s : Sl} (E : EOk K F H σ δ av fp) (hx : δ[i]? = some x) (hs : x.sl = some s) :
    ∃ v, σ[i]? = some (some v) ∧ EOk K (fzH F H (fp i)) H σ (δ.set i (x.to (.d s.fz))) av (setN fp i []) ∧ Rp K (fzH F H (fp i)) v s.fz ∧ Fm F H (Ow fp) (fzH F H (fp i)) H (Ow (setN fp i [])) := by
  obtain ⟨v, hv, h⟩ := E.at_ i x s hx hs
  have sm : Same F (fzH F H (fp i)) := fzH_same fun a ha => (E.out i a ha).1
  have rp : Rp K (fzH F H (fp i)) v s.fz := At.freeze sm s v (fp i) (fun a ha => fzH_in ha) h
  refine ⟨v, hv, ?_, rp, ?_⟩
  · refine E.turn hx hs hv (fzH_sub E.sub) sm (fun j hj a ha => ⟨?_, rfl⟩) (At.of rp) List.nodup_nil (fun a ha => by cases ha)
    rw [fzH_out fun m => E.dis i j (Ne.symm hj) a m ha]
    exact (E.out j a ha).1
  · refine ⟨sm, fun _ _ _ => rfl, fun b hb => ?_, fun b hb => ?_, fun _ h => h⟩
    · by_cases m : b ∈ fp i
      · exact .inr (.inr ⟨i, m⟩)
      · rw [fzH_out m] at hb
        exact .inl hb
    · rcases ow_set hb with z | z
      · cases z
      · exact .inl z
theorem Fm.noA {A A' : Addr → Prop} {f : List Addr} (g : Fm F H A F' H' A') (h : ∀ a ∈ f, False) : Fm F H A F' H' (fun a => a ∈ f ∨ A' a) := g.weak fun b hb => hb.elim (fun z => (h b z).elim) id
/-- what comes of frozen data -/
theorem QE.fzd {Q : VK} {x : D} {v : V} (h : QE K F H σ av fp Q (.d x) δ') (E : EOk K F' H' σ δ' av fp') (r : Rp K F' v x) (g : Fm F H (Ow fp) F' H' (Ow fp')) : Q v H' :=
  h v H' F' fp' [] E (At.of r) List.nodup_nil (fun a ha => by cases ha) (g.noA fun a ha => by cases ha)
theorem QE.here {Q : VK} {x : D} {v : V} (h : QE K F H σ av fp Q (.d x) δ') (E : EOk K F H σ δ' av fp) (r : Rp K F v x) : Q v H := h.fzd E r (Fm.refl fun _ h => h)
/-- a new object is laid and frozen -/
theorem EOk.newF {p : Addr} {o : HO} (E : EOk K F H σ δ av fp) (hp : H p = none) : EOk K (upd F p o) (upd H p o) σ δ av fp := by
  have hF := E.freeF hp
  have nf := E.free hp
  have sm : Same F (upd F p o) := fun b u e => by rw [upd_ne fun z => by rw [z, hF] at e; cases e]; exact e
  refine ⟨fun b u e => ?_, E.len, fun i x s h1 h2 => ?_, E.par, E.nod, E.dis, fun i a ha => ?_⟩
  · by_cases hb : b = p
    · subst hb; rw [upd_same] at e ⊢; exact e
    · rw [upd_ne hb] at e ⊢; exact E.sub b u e
  · obtain ⟨v, h3, h4⟩ := E.at_ i x s h1 h2
    exact ⟨v, h3, At.mono sm s v (fp i) (fun a ha => by rw [upd_ne fun z => nf i (by rw [← z]; exact ha)]; exact (E.out i a ha).1) (fun a ha => upd_ne fun z => nf i (by rw [← z]; exact ha)) h4⟩
  · have ne : a ≠ p := fun z => nf i (by rw [← z]; exact ha)
    rw [upd_ne ne, upd_ne ne]
    exact E.out i a ha
theorem Fm.lay {p : Addr} {o : HO} {A : Addr → Prop} (hp : H p = none) (hF : F p = none) : Fm F H A (upd F p o) (upd H p o) A where
  same := fun b u e => by rw [upd_ne fun z => by rw [z, hF] at e; cases e]; exact e
  keep := fun b hb _ => upd_ne fun z => hb (by rw [z]; exact hp)
  newF := fun b hb => by
    by_cases e : b = p
    · subst e; exact .inr (.inl hp)
    · rw [upd_ne e] at hb; exact .inl hb
  newA := fun b hb => .inl hb
  there := fun b hb => by rw [upd_ne fun z => hb (by rw [z]; exact hp)]; exact hb
theorem Same.newF {p : Addr} {o : HO} (hF : F p = none) : Same F (upd F p o) := fun b u e => by rw [upd_ne fun z => by rw [z, hF] at e; cases e]; exact e

/-! ### names, constants -/
def cV (i : Nat) : Ex := fun δ => match δ[i]? with
  | some x => (match x.sl with
    | some s => .ok (.d s.fz, δ.set i (x.to (.d s.fz)))
    | none => .stk)
  | none => .stk
theorem e_var {i : Nat} {x : Str} {pos : Pos} (hN : X.N[i]? = some x) (hv : Vis X.env.scope x) (hd : (x == ("__debug__" : Str)) = false := by decide) (hcd : (x == ("__classdict__" : Str)) = false := by decide) : PE X (.Name x pos) (wpE X.K W (cV i)) := by
  refine PE.wk (pe_var hN hv hd hcd) fun σ H Q h => ?_
  obtain ⟨F, δ, av, fp, E, h⟩ := h
  unfold cV at h
  cases e : δ[i]? with
  | none => rw [e] at h; exact h.elim
  | some y =>
    rw [e] at h
    cases e2 : y.sl with
    | none => simp only [e2] at h; exact h.elim
    | some s =>
      simp only [e2] at h
      obtain ⟨v, hv, E2, r, m⟩ := E.fzSlot e e2
      exact ⟨v, hv, QE.fzd h E2 r m⟩
def cC (x : D) : Ex := fun δ => .ok (.d x, δ)
theorem e_int {i j pos} : PE X (.Constant (.int i) j pos) (wpE X.K W (cC (.int i))) := PE.wk pe_int fun σ H Q ⟨F, δ, av, fp, E, h⟩ => QE.here h E (by simp only [Rp])
theorem e_bl {b j pos} : PE X (.Constant (.bool b) j pos) (wpE X.K W (cC (.bl b))) := PE.wk pe_bl fun σ H Q ⟨F, δ, av, fp, E, h⟩ => QE.here h E (by simp only [Rp])
theorem e_non {j pos} : PE X (.Constant .none j pos) (wpE X.K W (cC .non)) := PE.wk pe_non fun σ H Q ⟨F, δ, av, fp, E, h⟩ => QE.here h E (by simp only [Rp])
theorem e_str {x j pos} : PE X (.Constant (.str x) j pos) (wpE X.K W (cC (.str x))) := PE.wk pe_str fun σ H Q ⟨F, δ, av, fp, E, h⟩ => QE.here h E (by simp only [Rp])
/-- a global's value, frozen everywhere -/
theorem e_glob {x : Str} {v : V} {u : Value} {d : D} {pos : Pos} (hg : Gl X x) (hm : X.mg x = some u) (r : RelV v u) (rd : ∀ F, Rp X.K F v d) (hd : (x == ("__debug__" : Str)) = false := by decide) : PE X (.Name x pos) (wpE X.K W (cC d)) :=
  PE.wk (pe_glob hg hm r hd) fun σ H Q ⟨F, δ, av, fp, E, h⟩ => QE.here h E (rd F)

/-! ### primitives -/
abbrev RO := R Unit Sl
@[simp] def up : RO → En → R En (Sl × En)
  | .ok s, δ => .ok (s, δ)
  | .exc c ns xs _, δ => .exc c ns xs δ
  | .stk, _ => .stk
abbrev P1 := D → RO
abbrev P2 := D → D → RO
def Un1 (X : Cx) (W : WX) (g : Value → Sem Value) (f : P1) : Prop :=
  ∀ (pins : List (Addr × Obj)) (s : Shared) (σ : St) (H : Hp) (x : V) (v : Value) (Q : VK) (F : Hp) (δ : En) (av : Nat → V) (fp : Nat → List Addr) (dx : D), Inv X pins σ H s → RelV x v → EOk X.K F H σ δ av fp → Rp X.K F x dx →
    PEx X.K W F H σ av fp Q (up (f dx) δ) → wpAny (model X.prog X.w) X.A (g v) (EP X pins σ Q) X.xe s
def Op2 (X : Cx) (W : WX) (g : Value → Value → Sem Value) (f : P2) : Prop :=
  ∀ (pins : List (Addr × Obj)) (s : Shared) (σ : St) (H : Hp) (x y : V) (v u : Value) (Q : VK) (F : Hp) (δ : En) (av : Nat → V) (fp : Nat → List Addr) (dx dy : D), Inv X pins σ H s → RelV x v → RelV y u → EOk X.K F H σ δ av fp → Rp X.K F x dx → Rp X.K F y dy →
    PEx X.K W F H σ av fp Q (up (f dx dy) δ) → wpAny (model X.prog X.w) X.A (g v u) (EP X pins σ Q) X.xe s
/-- an expression's value, frozen -/
theorem go1 {a : Expr} {ca : Ex} {pins : List (Addr × Obj)} {s : Shared} {Q : VK} {f : Sl × En → R En (Sl × En)} (ha : PE X a (wpE X.K W ca)) (I : Inv X pins σ H s) (E : EOk X.K F H σ δ av fp) (h : PEx X.K W F H σ av fp Q ((ca δ).bind f)) :
    wpAny (model X.prog X.w) X.A (eval a X.env) (EP X pins σ fun v H1 => ∃ F1 fp1 s δ1, EOk X.K F1 H1 σ δ1 av fp1 ∧ Rp X.K F1 v s.fz ∧ Fm F H (Ow fp) F1 H1 (Ow fp1) ∧ PEx X.K W F1 H1 σ av fp1 Q (f (s, δ1))) X.xe s :=
  ha.run pins s σ H _ I ⟨F, δ, av, fp, E, Po.fz (P := fun F1 H1 fp1 s δ1 => PEx X.K W F1 H1 σ av fp1 Q (f (s, δ1))) (Po.imp (Po.bind h) fun s δ' z F1 H1 fp1 m => PEx.frame z.2 m)⟩
def c1 (f : P1) (a : Ex) : Ex := fun δ => (a δ).bind fun p => up (f p.1.fz) p.2
def c2 (f : P2) (a b : Ex) : Ex := fun δ => (a δ).bind fun p => (b p.2).bind fun q => up (f p.1.fz q.1.fz) q.2
theorem go2 {a b : Expr} {ca cb : Ex} {f : P2} {g : Value → Value → Sem Value} {pins : List (Addr × Obj)} {s : Shared} {Q : VK} (ho : Op2 X W g f) (ha : PE X a (wpE X.K W ca)) (hb : PE X b (wpE X.K W cb)) (I : Inv X pins σ H s) (E : EOk X.K F H σ δ av fp) (h : PEx X.K W F H σ av fp Q (c2 f ca cb δ)) :
    wpAny (model X.prog X.w) X.A (eval a X.env) (fun v s₁ => wpAny (model X.prog X.w) X.A (eval b X.env) (fun u s₂ => wpAny (model X.prog X.w) X.A (g v u) (EP X pins σ Q) X.xe s₂) X.xe s₁) X.xe s := by
  refine thn (go1 ha I E h) fun v s1 ⟨x, H1, I1, r1, F1, fp1, t, δ1, E1, q1, m1, h1⟩ => ?_
  refine thn (go1 hb I1 E1 h1) fun u s2 ⟨y, H2, I2, r2, F2, fp2, t2, δ2, E2, q2, m2, h2⟩ => ?_
  exact ho pins s2 σ H2 x y v u Q F2 δ2 av fp2 _ _ I2 r1 r2 E2 (Rp.mono m2.same _ _ q1) q2 h2
theorem e_bin {a b : Expr} {ca cb : Ex} {f : P2} {op : Operator} {pos : Pos} (ho : Op2 X W (binaryOp op) f) (ha : PE X a (wpE X.K W ca)) (hb : PE X b (wpE X.K W cb)) : PE X (.BinOp a op b pos) (wpE X.K W (c2 f ca cb)) :=
  ⟨fun pins s σ H Q I ⟨F, δ, av, fp, E, h⟩ => wpAny_BinOp (go2 ho ha hb I E h)⟩
theorem e_un {a : Expr} {ca : Ex} {f : P1} {op : UnaryOp} {pos : Pos} (ho : Un1 X W (unaryOp op) f) (ha : PE X a (wpE X.K W ca)) : PE X (.UnaryOp op a pos) (wpE X.K W (c1 f ca)) :=
  ⟨fun pins s σ H Q I ⟨F, δ, av, fp, E, h⟩ => UnaryOp_ (thn (go1 ha I E h) fun v s1 ⟨x, H1, I1, r1, F1, fp1, t, δ1, E1, q1, m1, h1⟩ => ho pins s1 σ H1 x v Q F1 δ1 av fp1 _ I1 r1 E1 q1 h1)⟩
theorem e_cmp {a b : Expr} {ca cb : Ex} {f : P2} {op : CmpOp} {pos : Pos} (ho : Op2 X W (compareOp op) f) (ha : PE X a (wpE X.K W ca)) (hb : PE X b (wpE X.K W cb)) (hm : behindInMarks op b = false := by first | exact nobehind _ (by decide) (by decide) | rfl) : PE X (.Compare a [op] [b] pos) (wpE X.K W (c2 f ca cb)) :=
  ⟨fun pins s σ H Q I ⟨F, δ, av, fp, E, h⟩ => wpAny_Compare1 (go2 ho ha hb I E h) hm⟩

/-! ### tests -/
/-- a value that must be True or False -/
def bo : Sl × En → R En (Bool × En)
  | (.d (.bl b), δ) => .ok (b, δ)
  | _ => .stk
def cB (a : Ex) : Tx := fun δ => (a δ).bind bo
theorem bo_ok {Q : Bool → Hp → Prop} {t : Sl} {v : V} (h : PTx K W F H σ av fp Q (bo (t, δ))) (E : EOk K F H σ δ av fp) (r : Rp K F v t.fz) : ∃ b, v = .bl b ∧ Q b H := by
  cases t with
  | d x =>
    cases x with
    | bl b =>
      simp only [Sl.fz, Rp] at r
      exact ⟨b, r, h H F fp E (Fm.refl fun _ z => z)⟩
    | _ => exact h.elim
  | _ => exact h.elim
theorem goT {a : Expr} {ca : Ex} {pins : List (Addr × Obj)} {s : Shared} {Q : Bool → Hp → Prop} {f : Sl × En → R En (Bool × En)} (ha : PE X a (wpE X.K W ca)) (I : Inv X pins σ H s) (E : EOk X.K F H σ δ av fp) (h : PTx X.K W F H σ av fp Q ((ca δ).bind f)) :
    wpAny (model X.prog X.w) X.A (eval a X.env) (EP X pins σ fun v H1 => ∃ F1 fp1 s δ1, EOk X.K F1 H1 σ δ1 av fp1 ∧ Rp X.K F1 v s.fz ∧ Fm F H (Ow fp) F1 H1 (Ow fp1) ∧ PTx X.K W F1 H1 σ av fp1 Q (f (s, δ1))) X.xe s :=
  ha.run pins s σ H _ I ⟨F, δ, av, fp, E, Po.fz (P := fun F1 H1 fp1 s δ1 => PTx X.K W F1 H1 σ av fp1 Q (f (s, δ1))) (Po.imp (Po.bind h) fun s δ' z F1 H1 fp1 m => PTx.frame z.2 m)⟩
/-- an expression that gives True or False, as a test -/
theorem t_val {e : Expr} {ca : Ex} (h : PE X e (wpE X.K W ca)) (he : ∀ whole, isTrue e X.env whole = (do let v ← whole; standAt e.pos; holding [v] (truthy v)) := by intro _; rfl) : PT X e (wpT X.K W (cB ca)) := by
  refine PT.wk (pt_val h he) fun σ H Q ⟨F, δ, av, fp, E, q⟩ => ?_
  refine ⟨F, δ, av, fp, E, ?_⟩
  refine Po.imp (Po.fz (P := fun F1 H1 fp1 s δ1 => PTx X.K W F1 H1 σ av fp1 Q (bo (s, δ1))) (Po.imp (Po.bind q) fun s δ' z F1 H1 fp1 m => PTx.frame z.2 m)) fun s δ' z v H1 F1 fp1 f E1 a n d m => ?_
  obtain ⟨F2, fp2, t, δ2, E2, r2, m2, q2⟩ := z v H1 F1 fp1 f E1 a n d m
  exact bo_ok q2 E2 r2
theorem t_cmp {a b : Expr} {ca cb : Ex} {f : P2} {op : CmpOp} {pos : Pos} (ho : Op2 X W (compareOp op) f) (ha : PE X a (wpE X.K W ca)) (hb : PE X b (wpE X.K W cb)) (hm : behindInMarks op b = false := by first | exact nobehind _ (by decide) (by decide) | rfl) :
    PT X (.Compare a [op] [b] pos) (wpT X.K W (cB (c2 f ca cb))) := by
  refine ⟨fun pins s σ H Q I ⟨F, δ, av, fp, E, h⟩ => ?_⟩
  refine wpAny_isTrue_Compare1 ?_ hm
  have h' : PEx X.K W F H σ av fp (fun v H1 => ∃ F1 fp1 t δ1, EOk X.K F1 H1 σ δ1 av fp1 ∧ Rp X.K F1 v t.fz ∧ Fm F H (Ow fp) F1 H1 (Ow fp1) ∧ PTx X.K W F1 H1 σ av fp1 Q (bo (t, δ1))) (c2 f ca cb δ) :=
    Po.fz (P := fun F1 H1 fp1 s δ1 => PTx X.K W F1 H1 σ av fp1 Q (bo (s, δ1))) (Po.imp (Po.bind h) fun s δ' z F1 H1 fp1 m => PTx.frame z.2 m)
  refine thn (go2 ho ha hb I E h') fun v s1 h1 => thn h1 fun u s2 h2 => thn h2 fun c s3 ⟨z, H3, I3, r3, F3, fp3, t, δ3, E3, q3, m3, k3⟩ => ?_
  obtain ⟨k, e, q⟩ := bo_ok k3 E3 q3
  subst e
  cases r3
  exact wpAny_truthy_bool ⟨H3, I3, q⟩
def tNo (a : Tx) : Tx := fun δ => (a δ).bind fun p => .ok (!p.1, p.2)
def tAn (a b : Tx) : Tx := fun δ => (a δ).bind fun p => if p.1 = true then b p.2 else .ok (false, p.2)
def tOr' (a b : Tx) : Tx := fun δ => (a δ).bind fun p => if p.1 = true then .ok (true, p.2) else b p.2
theorem t_not {a : Expr} {ca : Tx} {pos : Pos} (ha : PT X a (wpT X.K W ca)) : PT X (.UnaryOp .Not a pos) (wpT X.K W (tNo ca)) :=
  PT.wk (pt_not ha) fun σ H Q ⟨F, δ, av, fp, E, h⟩ => ⟨F, δ, av, fp, E, Po.imp (Po.bind h) fun b δ' z H' F' fp' E' m => z.2 H' F' fp' E' m⟩
theorem t_goB {Q : Bool → Hp → Prop} {r : R En (Bool × En)} {f : Bool × En → R En (Bool × En)} (h : PTx K W F H σ av fp Q (r.bind f)) : PTx K W F H σ av fp (fun b H1 => ∃ F1 δ1 fp1, EOk K F1 H1 σ δ1 av fp1 ∧ Fm F H (Ow fp) F1 H1 (Ow fp1) ∧ PTx K W F1 H1 σ av fp1 Q (f (b, δ1))) r :=
  Po.imp (Po.bind h) fun b δ' z H' F' fp' E' m => ⟨F', δ', fp', E', m, PTx.frame z.2 m⟩
theorem t_and {a b : Expr} {r : List Expr} {pos : Pos} {ca cb : Tx} (ha : PT X a (wpT X.K W ca)) (hb : PW X (.BoolOp .And (b :: r) pos) (wpT X.K W cb)) : PW X (.BoolOp .And (a :: b :: r) pos) (wpT X.K W (tAn ca cb)) := by
  refine PW.wk (pw_and ha hb) fun σ H Q ⟨F, δ, av, fp, E, h⟩ => ⟨F, δ, av, fp, E, Po.imp (t_goB h) fun b δ' z H' F' fp' E' m => ?_⟩
  obtain ⟨F1, δ1, fp1, E1, m1, q⟩ := z H' F' fp' E' m
  cases b with
  | true => exact ⟨F1, δ1, av, fp1, E1, q⟩
  | false => exact q _ _ _ E1 (Fm.refl fun _ z => z)
theorem t_or {a b : Expr} {r : List Expr} {pos : Pos} {ca cb : Tx} (ha : PT X a (wpT X.K W ca)) (hb : PW X (.BoolOp .Or (b :: r) pos) (wpT X.K W cb)) : PW X (.BoolOp .Or (a :: b :: r) pos) (wpT X.K W (tOr' ca cb)) := by
  refine PW.wk (pw_or ha hb) fun σ H Q ⟨F, δ, av, fp, E, h⟩ => ⟨F, δ, av, fp, E, Po.imp (t_goB h) fun b δ' z H' F' fp' E' m => ?_⟩
  obtain ⟨F1, δ1, fp1, E1, m1, q⟩ := z H' F' fp' E' m
  cases b with
  | true => exact q _ _ _ E1 (Fm.refl fun _ z => z)
  | false => exact ⟨F1, δ1, av, fp1, E1, q⟩
theorem t_and1 {a : Expr} {pos : Pos} {ca : Tx} (ha : PT X a (wpT X.K W ca)) : PW X (.BoolOp .And [a] pos) (wpT X.K W ca) := pw_and1 ha
theorem t_or1 {a : Expr} {pos : Pos} {ca : Tx} (ha : PT X a (wpT X.K W ca)) : PW X (.BoolOp .Or [a] pos) (wpT X.K W ca) := pw_or1 ha
/-- not, and, or as values, of things that are True or False -/
def cNo (a : Ex) : Ex := fun δ => (cB a δ).bind fun p => .ok (.d (.bl (!p.1)), p.2)
def cAn (a b : Ex) : Ex := fun δ => (cB a δ).bind fun p => if p.1 = true then b p.2 else .ok (.d (.bl false), p.2)
def cOr (a b : Ex) : Ex := fun δ => (cB a δ).bind fun p => if p.1 = true then .ok (.d (.bl true), p.2) else b p.2
theorem goB {Q : VK} {r : R En (Sl × En)} {f : Bool × En → R En (Sl × En)} (h : PEx K W F H σ av fp Q ((r.bind bo).bind f)) :
    PEx K W F H σ av fp (fun v H1 => ∃ c, v = .bl c ∧ ∃ F1 δ1 fp1, EOk K F1 H1 σ δ1 av fp1 ∧ Fm F H (Ow fp) F1 H1 (Ow fp1) ∧ PEx K W F1 H1 σ av fp1 Q (f (c, δ1))) r := by
  cases r with
  | ok p =>
    obtain ⟨t, δ'⟩ := p
    cases t with
    | d x =>
      cases x with
      | bl b =>
        intro v H1 F1 fp1 f1 E1 a n d m
        simp only [At, Rp] at a
        refine ⟨b, a.2, F1, δ', fp1, E1, m.weak fun b hb => .inr hb, PEx.frame h (m.weak fun b hb => .inr hb)⟩
      | _ => exact h.elim
    | _ => exact h.elim
  | exc c ns xs b => exact h
  | stk => exact h
theorem e_not {a : Expr} {ca : Ex} {pos : Pos} (ha : PE X a (wpE X.K W ca)) : PE X (.UnaryOp .Not a pos) (wpE X.K W (cNo ca)) := by
  refine PE.wk (pe_not ha) fun σ H Q ⟨F, δ, av, fp, E, h⟩ => ⟨F, δ, av, fp, E, Po.imp (goB h) fun s δ' z v H' F' fp' f E' a n d m => ?_⟩
  obtain ⟨c, e, F1, δ1, fp1, E1, m1, q⟩ := z v H' F' fp' f E' a n d m
  exact ⟨c, e, QE.here q E1 (by simp only [Rp])⟩
theorem e_and {a b : Expr} {r : List Expr} {pos : Pos} {ca cb : Ex} (ha : PE X a (wpE X.K W ca)) (hb : PE X (.BoolOp .And (b :: r) pos) (wpE X.K W cb)) : PE X (.BoolOp .And (a :: b :: r) pos) (wpE X.K W (cAn ca cb)) := by
  refine PE.wk (pe_and ha hb) fun σ H Q ⟨F, δ, av, fp, E, h⟩ => ⟨F, δ, av, fp, E, Po.imp (goB h) fun s δ' z v H' F' fp' f E' a n d m => ?_⟩
  obtain ⟨c, e, F1, δ1, fp1, E1, m1, q⟩ := z v H' F' fp' f E' a n d m
  refine ⟨c, e, ?_⟩
  cases c with
  | true => exact ⟨F1, δ1, av, fp1, E1, q⟩
  | false => exact QE.here q E1 (by simp only [Rp])
theorem e_or {a b : Expr} {r : List Expr} {pos : Pos} {ca cb : Ex} (ha : PE X a (wpE X.K W ca)) (hb : PE X (.BoolOp .Or (b :: r) pos) (wpE X.K W cb)) : PE X (.BoolOp .Or (a :: b :: r) pos) (wpE X.K W (cOr ca cb)) := by
  refine PE.wk (pe_or ha hb) fun σ H Q ⟨F, δ, av, fp, E, h⟩ => ⟨F, δ, av, fp, E, Po.imp (goB h) fun s δ' z v H' F' fp' f E' a n d m => ?_⟩
  obtain ⟨c, e, F1, δ1, fp1, E1, m1, q⟩ := z v H' F' fp' f E' a n d m
  refine ⟨c, e, ?_⟩
  cases c with
  | true => exact QE.here q E1 (by simp only [Rp])
  | false => exact ⟨F1, δ1, av, fp1, E1, q⟩
theorem e_one {op} {a : Expr} {pos : Pos} {ca : Ex} (ha : PE X a (wpE X.K W ca)) : PE X (.BoolOp op [a] pos) (wpE X.K W ca) := pe_one ha
def cIf (t : Tx) (a b : Ex) : Ex := fun δ => (t δ).bind fun p => if p.1 = true then a p.2 else b p.2
theorem tE {Q : VK} {r : R En (Bool × En)} {f : Bool × En → R En (Sl × En)} (h : PEx K W F H σ av fp Q (r.bind f)) : PTx K W F H σ av fp (fun b H1 => ∃ F1 δ1 fp1, EOk K F1 H1 σ δ1 av fp1 ∧ Fm F H (Ow fp) F1 H1 (Ow fp1) ∧ PEx K W F1 H1 σ av fp1 Q (f (b, δ1))) r :=
  Po.imp (Po.bind h) fun b δ' z H' F' fp' E' m => ⟨F', δ', fp', E', m, PEx.frame z.2 m⟩
theorem e_ifx {t a b : Expr} {ct : Tx} {ca cb : Ex} {pos : Pos} (ht : PT X t (wpT X.K W ct)) (ha : PE X a (wpE X.K W ca)) (hb : PE X b (wpE X.K W cb)) : PE X (.IfExp t a b pos) (wpE X.K W (cIf ct ca cb)) := by
  refine PE.wk (pe_ifExp ht ha hb) fun σ H Q ⟨F, δ, av, fp, E, h⟩ => ⟨F, δ, av, fp, E, Po.imp (tE h) fun b δ' z H' F' fp' E' m => ?_⟩
  obtain ⟨F1, δ1, fp1, E1, m1, q⟩ := z H' F' fp' E' m
  cases b with
  | true => exact ⟨F1, δ1, av, fp1, E1, q⟩
  | false => exact ⟨F1, δ1, av, fp1, E1, q⟩

/-! ### arguments, displays -/
def aN : Ax := fun δ => .ok ([], δ)
def aC (a : Ex) (b : Ax) : Ax := fun δ => (a δ).bind fun p => (b p.2).bind fun q => .ok (p.1.fz :: q.1, q.2)
theorem a_nil : PA X [] (wpA X.K W aN) := PA.wk pa_nil fun σ H Q ⟨F, δ, av, fp, E, h⟩ => h [] H F fp E (by simp only [RpL]) (Fm.refl fun _ z => z)
theorem a_cons {e : Expr} {es : List Expr} {ca : Ex} {cb : Ax} (ha : PE X e (wpE X.K W ca)) (hb : PA X es (wpA X.K W cb)) (hs : starEach (e :: es) X.env = (false, eval e X.env) :: starEach es X.env := by rfl) : PA X (e :: es) (wpA X.K W (aC ca cb)) := by
  refine PA.wk (pa_cons ha hb hs) fun σ H Q ⟨F, δ, av, fp, E, h⟩ => ?_
  refine ⟨F, δ, av, fp, E, ?_⟩
  refine Po.imp (Po.fz (P := fun F1 H1 fp1 s δ1 => PAx X.K W F1 H1 σ av fp1 Q ((cb δ1).bind fun q => .ok (s.fz :: q.1, q.2))) (Po.imp (Po.bind h) fun s δ' z F1 H1 fp1 m => PAx.frame z.2 m)) fun s δ' z v H1 F1 fp1 f E1 a n d m => ?_
  obtain ⟨F2, fp2, t, δ2, E2, r2, m2, q2⟩ := z v H1 F1 fp1 f E1 a n d m
  refine ⟨F2, δ2, av, fp2, E2, ?_⟩
  refine Po.imp (Po.bind q2) fun xs δ' z vs H' F' fp' E' r' m' => ?_
  exact z.2 (v :: vs) H' F' fp' E' (RpL.cons (Rp.mono m'.same _ _ r2) r') m'
/-- behind the arguments -/
theorem goA {Q : VK} {r : R En (List D × En)} {f : List D × En → R En (Sl × En)} (h : PEx K W F H σ av fp Q (r.bind f)) :
    PAx K W F H σ av fp (fun vs H1 => ∃ F1 δ1 fp1 xs, EOk K F1 H1 σ δ1 av fp1 ∧ RpL K F1 vs xs ∧ Fm F H (Ow fp) F1 H1 (Ow fp1) ∧ PEx K W F1 H1 σ av fp1 Q (f (xs, δ1))) r :=
  Po.imp (Po.bind h) fun xs δ' z vs H' F' fp' E' r' m => ⟨F', δ', fp', xs, E', r', m, PEx.frame z.2 m⟩
@[simp] def mTup (xs : List D) : RO := if xs.length ≤ 16777216 then .ok (.d (.tup xs)) else .stk
@[simp] def mLst (xs : List D) : RO := if xs.length ≤ 16777216 then .ok (.lst (xs.map .d)) else .stk
def cA (f : List D → RO) (a : Ax) : Ex := fun δ => (a δ).bind fun p => up (f p.1) p.2
theorem newTup {Q : VK} {xs : List D} {vs : List V} (h : PEx K W F H σ av fp Q (up (mTup xs) δ)) (E : EOk K F H σ δ av fp) (r : RpL K F vs xs) : vs.length ≤ sizeLine ∧ ∀ p, H p = none → Q (.ref p) (upd H p (.tup vs)) := by
  unfold mTup at h
  by_cases c : xs.length ≤ 16777216
  · rw [if_pos c] at h
    refine ⟨by rw [r.length, sizeLine_eq]; exact c, fun p hp => ?_⟩
    refine QE.fzd h (E.newF hp) ?_ (Fm.lay hp (E.freeF hp))
    simp only [Rp]
    exact ⟨p, vs, rfl, SqT.of upd_same, RpL.mono (Same.newF (E.freeF hp)) _ _ r⟩
  · rw [if_neg c] at h; exact h.elim
theorem newLst {Q : VK} {xs : List D} {vs : List V} (h : PEx K W F H σ av fp Q (up (mLst xs) δ)) (E : EOk K F H σ δ av fp) (r : RpL K F vs xs) : vs.length ≤ sizeLine ∧ ∀ p, H p = none → Q (.ref p) (upd H p (.lst vs)) := by
  unfold mLst at h
  by_cases c : xs.length ≤ 16777216
  · rw [if_pos c] at h
    refine ⟨by rw [r.length, sizeLine_eq]; exact c, fun p hp => ?_⟩
    refine h (.ref p) _ F fp [p] (E.new hp) ?_ (by simp) (fun a ha i => ?_) ((Fm.new hp E.sub).weak fun b hb => ?_)
    · simp only [At]
      exact ⟨p, vs, [], rfl, rfl, E.freeF hp, upd_same, AtL.of r⟩
    · rw [List.mem_singleton] at ha
      subst ha
      exact E.free hp i
    · rcases hb with hb | hb
      · rw [List.mem_singleton] at hb
        exact .inl hb
      · exact .inr hb
  · rw [if_neg c] at h; exact h.elim
theorem e_tup {es : List Expr} {ca : Ax} {x1} {pos : Pos} (ha : PA X es (wpA X.K W ca)) : PE X (.Tuple es x1 pos) (wpE X.K W (cA mTup ca)) := by
  refine PE.wk (pe_tup ha) fun σ H Q ⟨F, δ, av, fp, E, h⟩ => ⟨F, δ, av, fp, E, Po.imp (goA h) fun xs δ' z vs H' F' fp' E' r' m => ?_⟩
  obtain ⟨F1, δ1, fp1, ys, E1, r1, m1, q⟩ := z vs H' F' fp' E' r' m
  exact newTup q E1 r1
theorem e_lst {es : List Expr} {ca : Ax} {pos : Pos} (ha : PA X es (wpA X.K W ca)) : PE X (.List es pos) (wpE X.K W (cA mLst ca)) := by
  refine PE.wk (pe_lst ha) fun σ H Q ⟨F, δ, av, fp, E, h⟩ => ⟨F, δ, av, fp, E, Po.imp (goA h) fun xs δ' z vs H' F' fp' E' r' m => ?_⟩
  obtain ⟨F1, δ1, fp1, ys, E1, r1, m1, q⟩ := z vs H' F' fp' E' r' m
  exact newLst q E1 r1
end
end Fx
/-! Fx3: defs and their calls. -/
namespace Fx
open PySem PySem.Spec PyProof.Rows L2
/-- what a def does: of its arguments, the value and what the arguments are then -/
abbrev Fn := List Sl → R (List Sl) (Sl × List Sl)
def PF (K : Fg) (F H : Hp) (vs : List V) (av : Nat → V) (fp : Nat → List Addr) (Q : VK) (E : XK) : R (List Sl) (Sl × List Sl) → Prop
  | .ok (r, ss') => ∀ v H' F' fp' f, EOk K F' H' (vs.map some) (ss'.map Slot.par) av fp' → At K F' H' v r f → f.Nodup → (∀ a ∈ f, ∀ i, a ∉ fp' i) → Fm F H (Ow fp) F' H' (fun a => a ∈ f ∨ Ow fp' a) → Q v H'
  | .exc c ns xs ss' => ∀ H' F' fp' cls d, EOk K F' H' (vs.map some) (ss'.map Slot.par) av fp' → ExV K F' H' c ns xs cls d → Fm F H (Ow fp) F' H' (Ow fp') → E cls d H'
  | .stk => False
def spF (K : Fg) (m : Fn) : Sp := fun vs H Q E => ∃ F ss av fp, EOk K F H (vs.map some) (ss.map Slot.par) av fp ∧ PF K F H vs av fp Q E (m ss)
/-- the arguments behind a def's end -/
@[simp] def backS : List Sl → En → Option (List Sl)
  | [], _ => some []
  | .d y :: ss, _ :: δ => (backS ss δ).map (Sl.d y :: ·)
  | .lst _ :: ss, .par t :: δ => (backS ss δ).map (t :: ·)
  | .obj _ _ _ :: ss, .par t :: δ => (backS ss δ).map (t :: ·)
  | _ :: _, _ => none
def finS (ss : List Sl) (r : Sl) (δ : En) : R (List Sl) (Sl × List Sl) := match backS ss δ with
  | some ss' => .ok (r, ss')
  | none => .stk
def endS (ss : List Sl) : R En (Fl × En) → R (List Sl) (Sl × List Sl)
  | .ok (.nx, δ) => finS ss (.d .non) δ
  | .ok (.rt s, δ) => finS ss s δ
  | .ok (_, _) => .stk
  | .exc c ns xs δ => (match backS ss δ with
    | some ss' => .exc c ns xs ss'
    | none => .stk)
  | .stk => .stk
def mkFn (np n : Nat) (body : Sx) : Fn := fun ss => if ss.length = np then endS ss (body (ss.map Slot.par ++ List.replicate (n - np) Slot.no)) else .stk

theorem backS_get : ∀ {ss : List Sl} {δ : En} {ss' : List Sl}, backS ss δ = some ss' → ss'.length = ss.length ∧ ∀ (i : Nat) (s' : Sl), ss'[i]? = some s' → (∃ y, ss[i]? = some (Sl.d y) ∧ s' = Sl.d y) ∨ ((∃ s, ss[i]? = some s ∧ ∀ y, s ≠ Sl.d y) ∧ δ[i]? = some (Slot.par s'))
  | [], _, _, h => by
    simp only [backS, Option.some.injEq] at h
    subst h
    exact ⟨rfl, fun i s' e => by simp at e⟩
  | .d y :: ss, x :: δ, ss', h => by
    simp only [backS, Option.map_eq_some_iff] at h
    obtain ⟨t, h1, rfl⟩ := h
    obtain ⟨l, g⟩ := backS_get h1
    refine ⟨by simp [l], fun i s' e => ?_⟩
    cases i with
    | zero =>
      simp at e
      exact .inl ⟨y, by simp, e.symm⟩
    | succ i =>
      have := g i s' (by simpa using e)
      simpa using this
  | .lst u :: ss, .par t0 :: δ, ss', h => by
    simp only [backS, Option.map_eq_some_iff] at h
    obtain ⟨t, h1, rfl⟩ := h
    obtain ⟨l, g⟩ := backS_get h1
    refine ⟨by simp [l], fun i s' e => ?_⟩
    cases i with
    | zero =>
      simp at e
      subst e
      exact .inr ⟨⟨.lst u, by simp, fun y z => by cases z⟩, by simp⟩
    | succ i =>
      have := g i s' (by simpa using e)
      simpa using this
  | .obj u1 u2 u3 :: ss, .par t0 :: δ, ss', h => by
    simp only [backS, Option.map_eq_some_iff] at h
    obtain ⟨t, h1, rfl⟩ := h
    obtain ⟨l, g⟩ := backS_get h1
    refine ⟨by simp [l], fun i s' e => ?_⟩
    cases i with
    | zero =>
      simp at e
      subst e
      exact .inr ⟨⟨.obj u1 u2 u3, by simp, fun y z => by cases z⟩, by simp⟩
    | succ i =>
      have := g i s' (by simpa using e)
      simpa using this
  | .d _ :: _, [], _, h => by simp [backS] at h
  | .lst _ :: _, [], _, h => by simp [backS] at h
  | .obj _ _ _ :: _, [], _, h => by simp [backS] at h
  | .lst _ :: _, .no :: _, _, h => by simp [backS] at h
  | .lst _ :: _, .loc _ :: _, _, h => by simp [backS] at h
  | .obj _ _ _ :: _, .no :: _, _, h => by simp [backS] at h
  | .obj _ _ _ :: _, .loc _ :: _, _, h => by simp [backS] at h

section
variable {K : Fg} {W : WX} {F H F' H' F1 H1 : Hp} {σ σ' : St} {δ δ' δ1 : En} {av : Nat → V} {fp fp' fp1 : Nat → List Addr}
/-- the environment at a def's entry -/
theorem EOk.enter {vs : List V} {ss : List Sl} {n : Nat} {N : List Str} (E : EOk K F H (vs.map some) (ss.map Slot.par) av fp) (hn : N.length - vs.length = n) :
    EOk K F H (L2.start N vs) (ss.map Slot.par ++ List.replicate n Slot.no) av (fun i => if i < ss.length then fp i else []) := by
  have hl : vs.length = ss.length := by have := E.len; simpa using this
  refine ⟨E.sub, ?_, fun i x s h1 h2 => ?_, fun i s h1 => ?_, fun i => ?_, fun i j hij a ha => ?_, fun i a ha => ?_⟩
  · simp [L2.start, hl, ← hn]
  · by_cases hi : i < ss.length
    · rw [List.getElem?_append_left (by simpa using hi)] at h1
      obtain ⟨v, h3, h4⟩ := E.at_ i x s h1 h2
      refine ⟨v, ?_, by simp only [hi, if_true]; exact h4⟩
      unfold L2.start
      rw [List.getElem?_append_left (by simp [hl, hi])]
      exact h3
    · rw [List.getElem?_append_right (by simp; omega)] at h1
      have := List.mem_of_getElem? h1
      rw [List.mem_replicate] at this
      rw [this.2] at h2
      cases h2
  · by_cases hi : i < ss.length
    · rw [List.getElem?_append_left (by simpa using hi)] at h1
      have := E.par i s h1
      unfold L2.start
      rw [List.getElem?_append_left (by simp [hl, hi])]
      exact this
    · rw [List.getElem?_append_right (by simp; omega)] at h1
      have := List.mem_of_getElem? h1
      rw [List.mem_replicate] at this
      cases this.2
  · try dsimp only
    split
    · exact E.nod i
    · exact List.nodup_nil
  · try dsimp only at ha ⊢
    split at ha
    · split
      · exact E.dis i j hij a ha
      · exact fun z => by cases z
    · cases ha
  · try dsimp only at ha
    split at ha
    · exact E.out i a ha
    · cases ha
/-- and at its end -/
theorem EOk.leave {vs : List V} {ss ss' : List Sl} (E0 : EOk K F H (vs.map some) (ss.map Slot.par) av fp) (E : EOk K F' H' σ' δ' av fp') (e : Same F F') (h : backS ss δ' = some ss') :
    ∃ fp'', EOk K F' H' (vs.map some) (ss'.map Slot.par) av fp'' ∧ ∀ i, ∀ a ∈ fp'' i, a ∈ fp' i := by
  obtain ⟨hl, g⟩ := backS_get h
  have hl0 : vs.length = ss.length := by have := E0.len; simpa using this
  let fp'' : Nat → List Addr := fun i => match ss'[i]? with
    | some (.d _) => []
    | none => []
    | some _ => fp' i
  have sub : ∀ i, ∀ a ∈ fp'' i, a ∈ fp' i := fun i a ha => by
    simp only [fp''] at ha
    split at ha
    · cases ha
    · cases ha
    · exact ha
  refine ⟨fp'', ⟨E.sub, by simp [hl, hl0], fun i x s h1 h2 => ?_, fun i s h1 => ?_, fun i => ?_, fun i j hij a ha hb => E.dis i j hij a (sub i a ha) (sub j a hb), fun i a ha => E.out i a (sub i a ha)⟩, sub⟩
  · rw [List.getElem?_map] at h1
    cases hs : ss'[i]? with
    | none => rw [hs] at h1; simp at h1
    | some s' =>
      rw [hs] at h1
      simp at h1
      subst h1
      simp at h2
      subst h2
      rcases g i s' hs with ⟨y, h3, rfl⟩ | ⟨⟨t, h3, h4⟩, h5⟩
      · obtain ⟨v, h6, h7⟩ := E0.at_ i (.par (.d y)) (.d y) (by rw [List.getElem?_map, h3]; rfl) rfl
        refine ⟨v, h6, ?_⟩
        simp only [At] at h7
        simp only [fp'', hs]
        exact At.of (Rp.mono e _ _ h7.2)
      · obtain ⟨v, h6, h7⟩ := E.at_ i (.par s') s' h5 rfl
        have h8 := E.par i s' h5
        have h9 := E0.par i t (by rw [List.getElem?_map, h3]; rfl)
        rw [h6] at h8
        have ev : v = av i := by simpa using h8
        subst ev
        refine ⟨av i, h9, ?_⟩
        cases s' with
        | d y =>
          simp only [fp'', hs]
          simp only [At] at h7
          exact At.of h7.2
        | lst _ => simp only [fp'', hs]; exact h7
        | obj _ _ _ => simp only [fp'', hs]; exact h7
  · rw [List.getElem?_map] at h1
    cases hs : ss'[i]? with
    | none => rw [hs] at h1; simp at h1
    | some s' =>
      rcases g i s' hs with ⟨y, h3, _⟩ | ⟨⟨t, h3, h4⟩, h5⟩
      · exact E0.par i (.d y) (by rw [List.getElem?_map, h3]; rfl)
      · exact E0.par i t (by rw [List.getElem?_map, h3]; rfl)
  · simp only [fp'']
    split
    · exact List.nodup_nil
    · exact List.nodup_nil
    · exact E.nod i
theorem spF_len {N ps : List Str} {body : Sx} : ∀ vs H Q E, spF K (mkFn ps.length N.length body) vs H Q E → vs.length = ps.length := by
  rintro vs H Q E ⟨F, ss, av, fp, E0, h⟩
  have hl : vs.length = ss.length := by have := E0.len; simpa using this
  unfold mkFn at h
  by_cases c : ss.length = ps.length
  · omega
  · rw [if_neg c] at h; exact h.elim
/-- at a def's entry -/
theorem fn_enter {N ps : List Str} {body : Sx} {vs : List V} {H : Hp} {Q : VK} {E : XK} (hsp : spF K (mkFn ps.length N.length body) vs H Q E) : wpS K (fun cls d _ H => E cls d H) body { nx := fun _ H' => Q .non H', rt := Q } (L2.start N vs) H := by
  have hvl := spF_len _ _ _ _ hsp
  obtain ⟨F, ss, av, fp, E0, h⟩ := hsp
  have hl : vs.length = ss.length := by have := E0.len; simpa using this
  have c : ss.length = ps.length := by omega
  unfold mkFn at h
  rw [if_pos c] at h
  have Ee := E0.enter (N := N) (n := N.length - ps.length) (by omega)
  refine ⟨F, _, av, _, Ee, ?_⟩
  have wide : ∀ {A' : Addr → Prop} {F' H' : Hp}, Fm F H (Ow fun i => if i < ss.length then fp i else []) F' H' A' → Fm F H (Ow fp) F' H' A' := fun m => m.wider fun b ⟨i, hi⟩ => by
    dsimp only at hi
    split at hi
    · exact ⟨i, hi⟩
    · cases hi
  revert h
  generalize body (ss.map Slot.par ++ List.replicate (N.length - ps.length) Slot.no) = r
  intro h
  match r, h with
  | .ok (.nx, δ'), h =>
    intro σ' H' F' fp' E' m
    simp only [endS, finS] at h
    cases hb : backS ss δ' with
    | none => rw [hb] at h; exact h.elim
    | some ss' =>
      rw [hb] at h
      obtain ⟨fp'', E'', sub⟩ := E0.leave E' m.same hb
      exact h .non H' F' fp'' [] E'' (At.of (by simp only [Rp])) List.nodup_nil (fun a ha => by cases ha) ((wide m).weak fun b hb => hb.elim (fun z => by cases z) fun ⟨i, hi⟩ => ⟨i, sub i b hi⟩)
  | .ok (.rt t, δ'), h =>
    intro v σ' H' F' fp' f E' a n d m
    simp only [endS, finS] at h
    cases hb : backS ss δ' with
    | none => rw [hb] at h; exact h.elim
    | some ss' =>
      rw [hb] at h
      obtain ⟨fp'', E'', sub⟩ := E0.leave E' ((m.weak fun b hb => .inr hb : Fm _ _ _ _ _ (Ow fp')).same) hb
      exact h v H' F' fp'' f E'' a n (fun b hb i hi => d b hb i (sub i b hi)) ((wide m).weak fun b hb => hb.elim .inl fun ⟨i, hi⟩ => .inr ⟨i, sub i b hi⟩)
  | .ok (.bk, _), h => exact h.elim
  | .ok (.ct, _), h => exact h.elim
  | .exc cn ns xs δ', h =>
    intro σ' H' F' fp' cls d E' ev m
    simp only [endS] at h
    cases hb : backS ss δ' with
    | none => rw [hb] at h; exact h.elim
    | some ss' =>
      rw [hb] at h
      obtain ⟨fp'', E'', sub⟩ := E0.leave E' m.same hb
      exact h H' F' fp'' cls d E'' ev ((wide m).weak fun b ⟨i, hi⟩ => ⟨i, sub i b hi⟩)
  | .stk, h => exact h.elim

/-- THE RULE for a def, by its body -/
theorem fn_ok {P : Program} {w : World} {mg : Str → Option Value} {base : Heap} {x qual : Str} {params : Arguments} {dvs : List V} {kws : List (Str × V)} {f : Addr} {fd : FuncData} {N ps : List Str} {k : Nat} {st : List Stmt} {scope : Scope} {body : Sx}
    (G : FunD K x qual params st scope dvs kws f fd) (S : FnScope N ps scope)
    (hb : ∀ (cdv : Value) (A : Around) (outer : List PySem.Env) (s : Shared) (H : Hp) (E : XK), Room k (A.deeper (envOfC qual scope s.heap.objs.size f cdv)) →
      PSs (cxOf (L2.CX P w) P w K mg base N qual scope f cdv A outer s H E) st (wpS K (fun cls d _ H => E cls d H) body)) :
    FnOk P w K mg base (L2.CX P w) (k + 1) f fd ps (spF K (mkFn ps.length N.length body)) :=
  G.ok S spF_len (fun cdv A outer s H vs Q E hr hsp => ⟨_, hb cdv A outer s H E hr, fn_enter hsp⟩)

/-! ### calls -/
theorem EOk.args {vs : List V} {xs : List D} (h : RpL K F vs xs) (e : Same F H) : EOk K F H (vs.map some) ((xs.map Sl.d).map Slot.par) (fun i => (vs[i]?).getD .non) (fun _ => []) where
  sub := e
  len := by simp [h.length]
  at_ := fun i x s h1 h2 => by
    rw [List.map_map, List.getElem?_map] at h1
    cases hx : xs[i]? with
    | none => rw [hx] at h1; simp at h1
    | some y =>
      rw [hx] at h1
      simp at h1
      subst h1
      simp at h2
      subst h2
      obtain ⟨v, hv, rv⟩ := h.get hx
      exact ⟨v, by rw [List.getElem?_map, hv]; rfl, At.of rv⟩
  par := fun i s h1 => by
    rw [List.map_map, List.getElem?_map] at h1
    cases hx : xs[i]? with
    | none => rw [hx] at h1; simp at h1
    | some y =>
      obtain ⟨v, hv, rv⟩ := h.get hx
      rw [List.getElem?_map, hv]
      rfl
  nod := fun _ => List.nodup_nil
  dis := fun _ _ _ a ha => by cases ha
  out := fun _ a ha => by cases ha
theorem EOk.across {A A' : Addr → Prop} (E : EOk K F H σ δ av fp) (m : Fm F H A F' H' A') (h : ∀ i, ∀ a ∈ fp i, ¬ A a) (e : Same F' H') : EOk K F' H' σ δ av fp := by
  have nF : ∀ i, ∀ a ∈ fp i, F' a = none := fun i a ha => by
    cases q : F' a with
    | none => rfl
    | some o =>
      rcases m.newF a (by rw [q]; simp) with z | z | z
      · exact absurd (E.out i a ha).1 z
      · exact absurd z (E.out i a ha).2
      · exact absurd z (h i a ha)
  have kH : ∀ i, ∀ a ∈ fp i, H' a = H a := fun i a ha => m.keep a (E.out i a ha).2 (h i a ha)
  exact ⟨e, E.len, fun i x s h1 h2 => by
    obtain ⟨v, h3, h4⟩ := E.at_ i x s h1 h2
    exact ⟨v, h3, At.mono m.same s v (fp i) (nF i) (kH i) h4⟩, E.par, E.nod, E.dis, fun i a ha => ⟨nF i a ha, by rw [kH i a ha]; exact (E.out i a ha).2⟩⟩
/-- what a call hands back -/
def upF : R (List Sl) (Sl × List Sl) → En → R En (Sl × En)
  | .ok (r, _), δ => .ok (r, δ)
  | .exc c ns xs _, δ => .exc c ns xs δ
  | .stk, _ => .stk
def cCall (m : Fn) (dfl : List D) (a : Ax) : Ex := fun δ => (a δ).bind fun p => upF (m ((p.1 ++ dfl).map Sl.d)) p.2
theorem call_sp {m : Fn} {vs : List V} {xs : List D} {Q : VK} (h : PEx K W F H σ av fp Q (upF (m (xs.map Sl.d)) δ)) (E : EOk K F H σ δ av fp) (r : RpL K F vs xs) : spF K m vs H Q (WE W σ) := by
  refine ⟨F, xs.map Sl.d, _, _, EOk.args r E.sub, ?_⟩
  revert h
  generalize m (xs.map Sl.d) = q
  intro h
  have no : ∀ {b : Addr}, ¬ Ow (fun _ => ([] : List Addr)) b := fun ⟨_, z⟩ => by cases z
  match q, h with
  | .ok (t, ss'), h =>
    intro v H' F' fp' f E' a n d m
    have E2 := E.across m (fun i a ha z => no z) E'.sub
    refine h v H' F' fp f E2 a n (fun b hb i hi => ?_) ?_
    · rcases m.newA b (.inl hb) with z | z
      · exact no z
      · exact (E.out i b hi).2 z
    · refine ⟨m.same, fun b hb _ => m.keep b hb no, fun b hb => ?_, fun b hb => ?_, m.there⟩
      · rcases m.newF b hb with z | z | z
        · exact .inl z
        · exact .inr (.inl z)
        · exact (no z).elim
      · rcases hb with hb | hb
        · rcases m.newA b (.inl hb) with z | z
          · exact (no z).elim
          · exact .inr z
        · exact .inl hb
  | .exc c ns xs' ss', h =>
    intro H' F' fp' cls d E' ev m
    have E2 := E.across m (fun i a ha z => no z) E'.sub
    refine h H' F' fp cls d E2 ev ?_
    refine ⟨m.same, fun b hb _ => m.keep b hb no, fun b hb => ?_, fun b hb => .inl hb, m.there⟩
    rcases m.newF b hb with z | z | z
    · exact .inl z
    · exact .inr (.inl z)
    · exact (no z).elim
  | .stk, h => exact h.elim
end
/-! ### fields by names -/
theorem str_inj {a b : String} (h : Str.ofString a = Str.ofString b) : a = b := by
  rw [Str.ofString_eq_toList, Str.ofString_eq_toList] at h
  have h1 : (a.toList.map Char.toNat).toArray = (b.toList.map Char.toNat).toArray := congrArg Str.cps h
  have h2 : a.toList.map Char.toNat = b.toList.map Char.toNat := by simpa using h1
  have h3 : a.toList = b.toList := by
    refine List.map_inj_right (f := Char.toNat) (fun x y hxy => ?_) |>.mp h2
    exact Char.toNat_inj.mp hxy
  exact String.toList_inj.mp h3
theorem str_iff {a b : String} : Str.ofString a = Str.ofString b ↔ a = b := ⟨str_inj, fun h => by rw [h]⟩
@[simp] def fieldAt {α : Type} (n : String) : List String → List α → Option α
  | m :: ns, x :: xs => if m = n then some x else fieldAt n ns xs
  | _, _ => none
theorem lookup_field {K : Fg} {F : Hp} {n : String} : ∀ {ns : List String} {xs : List D} {vs : List V} {x : D}, RpL K F vs xs → fieldAt n ns xs = some x → ∃ v, ((ns.map Str.ofString).zip vs).lookup (Str.ofString n) = some v ∧ Rp K F v x
  | m :: ns, x :: xs, v :: vs, y, h, e => by
    simp only [RpL] at h
    simp only [fieldAt] at e
    simp only [List.map_cons, List.zip_cons_cons, List.lookup]
    by_cases c : m = n
    · subst c
      rw [if_pos rfl] at e
      cases e
      exact ⟨v, by simp, h.1⟩
    · rw [if_neg c] at e
      have : (Str.ofString n == Str.ofString m) = false := beq_eq_false_iff_ne.mpr fun z => c (str_inj z).symm
      rw [this]
      exact lookup_field h.2 e
  | [], _, _, _, _, e => by simp at e
  | _ :: _, [], _, _, _, e => by simp at e
  | _ :: _, _ :: _, [], _, h, _ => by simp only [RpL] at h
theorem lookup_nofield {n : String} : ∀ {ns : List String} {vs : List V}, n ∉ ns → ((ns.map Str.ofString).zip vs).lookup (Str.ofString n) = none
  | [], _, _ => rfl
  | m :: ns, [], _ => rfl
  | m :: ns, v :: vs, h => by
    simp only [List.map_cons, List.zip_cons_cons, List.lookup]
    have : (Str.ofString n == Str.ofString m) = false := beq_eq_false_iff_ne.mpr fun z => h (by rw [str_inj z]; exact List.mem_cons_self)
    rw [this]
    exact lookup_nofield fun z => h (List.mem_cons_of_mem _ z)

/-! ### defs as callers know them -/
/-- the def x of the text, of level k: what it does, the defaults that fill up -/
structure FnG (P : Program) (w : World) (K : Fg) (mg : Str → Option Value) (base : Heap) (x : Str) (k : Nat) (m : Fn) (dfl : List D) : Prop where
  ex : ∃ (f : Addr) (fd : FuncData) (ps : List Str) (dvs : List V) (ds : List Value), FnOk P w K mg base (L2.CX P w) k f fd ps (spF K m) ∧ mg x = some (.ref f) ∧ PySem.W.keepIn K (.ref f) = true ∧ Binds K fd ps ds ∧ Vals dvs ds ∧ ∀ F, RpL K F dvs dfl
/-- the method x of the class c -/
structure MtG (P : Program) (w : World) (K : Fg) (mg : Str → Option Value) (base : Heap) (c : String) (x : String) (k : Nat) (m : Fn) (dfl : List D) : Prop where
  cl : Cls K (He.ga K c)
  ex : ∃ (f : Addr) (fd : FuncData) (ps : List Str) (dvs : List V) (ds : List Value), FnOk P w K mg base (L2.CX P w) k f fd ps (spF K m) ∧ Meth K (He.ga K c) (Str.ofString x) f ∧ Binds K fd ps ds ∧ Vals dvs ds ∧ ∀ F, RpL K F dvs dfl
/-- the class c, made by its __init__ -/
structure MkG (P : Program) (w : World) (K : Fg) (mg : Str → Option Value) (base : Heap) (c : String) (k : Nat) (m : Fn) (dfl : List D) : Prop where
  gl : mg (Str.ofString c) = some (.ref (He.ga K c))
  ex : ∃ (f : Addr) (fd : FuncData) (ps : List Str) (dvs : List V) (ds : List Value), FnOk P w K mg base (L2.CX P w) k f fd ps (spF K m) ∧ Mk K (He.ga K c) f ∧ Binds K fd ps ds ∧ Vals dvs ds ∧ ∀ F, RpL K F dvs dfl
/-- the attribute x of an instance of c -/
structure FdG (K : Fg) (c : String) (x : String) : Prop where
  cl : Cls K (He.ga K c)
  no : NoAttr K (He.ga K c) (Str.ofString x)

section
variable {X : Cx} {W : WX} {k : Nat} {f C : Addr} {fd : FuncData} {ps : List Str} {m : Fn} {dvs : List V} {ds : List Value} {dfl : List D} {x : Str} {p pos apos : Pos} {e o : Expr} {es : List Expr} {ca : Ax} {co : Ex}
theorem e_call (G : FnG X.prog X.w X.K X.mg X.base x k m dfl) (hr : Room k X.A) (tk : Takes X W) (hg : Gl X x)
    (ha : PA X (e :: es) (wpA X.K W ca)) (hdb : (x == ("__debug__" : Str)) = false := by decide) (he : starEach (e :: es) X.env = (false, eval e X.env) :: starEach es X.env := by rfl) (hpl : (backTo pos (starEach es X.env)).any (·.1) = false := by rfl) :
    PE X (.Call (.Name x p) (e :: es) [] pos) (wpE X.K W (cCall m dfl ca)) := by
  obtain ⟨f, fd, ps, dvs, ds, F, hm, hk, hb, hd, hrd⟩ := G.ex
  refine PE.wk (pe_callSD F hr hg hm hk hb hd (fun σ => passAt tk σ) ha hdb he hpl) fun σ H Q ⟨F, δ, av, fp, E, h⟩ => ⟨F, δ, av, fp, E, Po.imp (goA h) fun xs δ' z vs H' F' fp' E' r' mm => ?_⟩
  obtain ⟨F1, δ1, fp1, ys, E1, r1, m1, q⟩ := z vs H' F' fp' E' r' mm
  exact call_sp q E1 (r1.append (hrd F1))
theorem e_call0 (G : FnG X.prog X.w X.K X.mg X.base x k m dfl) (hr : Room k X.A) (tk : Takes X W) (hg : Gl X x) (hdb : (x == ("__debug__" : Str)) = false := by decide) : PE X (.Call (.Name x p) [] [] pos) (wpE X.K W (cCall m dfl aN)) := by
  obtain ⟨f, fd, ps, dvs, ds, Fo, hm, hk, hb, hd, hrd⟩ := G.ex
  refine ⟨fun pins s σ H Q I ⟨F, δ, av, fp, E, h⟩ => ?_⟩
  refine wpAny_Call_Name_kw (ld_glob I hg hm ?_ hdb)
  exact PySem.W.callWith_K0 I.kIn hk (run_fnSD (us := []) (vs := []) Fo hr hb hd (passAt tk σ) I .nil (call_sp (xs := dfl) h E (hrd F)))
/-- o.m(e, ..), o of one of these classes -/
@[simp] def mOf (c : String) : List (String × Fn) → Option Fn
  | [] => none
  | (c', m) :: r => if c' = c then some m else mOf c r
@[simp] def rcv (n : String) (tb : List (String × Fn)) (s : Sl) : Option Fn := match s.fz with
  | .ins c ns _ => if n ∈ ns then none else mOf c tb
  | _ => none
def cMeth (n : String) (tb : List (String × Fn)) (dfl : List D) (o : Ex) (a : Ax) : Ex := fun δ => (o δ).bind fun q => match rcv n tb q.1 with
  | some m => (a q.2).bind fun p => upF (m ((q.1.fz :: (p.1 ++ dfl)).map Sl.d)) p.2
  | none => .stk
theorem mOf_mem {c : String} : ∀ {tb : List (String × Fn)} {m : Fn}, mOf c tb = some m → (c, m) ∈ tb
  | [], _, h => by cases h
  | (c', m') :: r, m, h => by
    simp only [mOf] at h
    by_cases e : c' = c
    · rw [if_pos e] at h
      cases h
      rw [e]
      exact List.mem_cons_self
    · rw [if_neg e] at h
      exact List.mem_cons_of_mem _ (mOf_mem h)
theorem rcv_ok {K : Fg} {F H : Hp} {n : String} {tb : List (String × Fn)} {s : Sl} {m : Fn} {v : V} (h : rcv n tb s = some m) (r : Rp K F v s.fz) (e : Same F H) :
    ∃ c a dx fs, (c, m) ∈ tb ∧ v = .ref a ∧ H a = some (.ins (He.ga K c) dx fs) ∧ fs.lookup (Str.ofString n) = none := by
  unfold rcv at h
  cases q : s.fz with
  | ins c ns xs =>
    rw [q] at h r
    simp only [Rp] at r
    obtain ⟨a, dx, vs, r1, r2, r3, r4, r5⟩ := r
    by_cases z : n ∈ ns
    · simp only [z, if_true] at h
      cases h
    · simp only [z, if_false] at h
      exact ⟨c, a, dx, _, mOf_mem h, r1, e _ _ r2, lookup_nofield z⟩
  | _ => rw [q] at h; cases h
theorem e_meth {n : String} {tb : List (String × Fn)} {pl : Sem Bool} (ho : PE X o (wpE X.K W co)) (ht1 : ∀ q ∈ tb, MtG X.prog X.w X.K X.mg X.base q.1 n k q.2 dfl) (hr : Room k X.A) (tk : Takes X W) (ha : PA X (e :: es) (wpA X.K W ca))
    (hst : starEach (e :: es) X.env = (false, eval e X.env) :: starEach es X.env := by rfl) (hpl : (backTo pos (starEach es X.env)).any (·.1) = false := by rfl)
    (ht : eval (.Call (.Attribute o (Str.ofString n) apos) (e :: es) [] pos) X.env = (do
      let ov ← eval o X.env
      standAt apos.atName
      let (f, first) ← holding [ov] (getMethod ov (Str.ofString n) pl)
      callWith pos f first (backTo pos (starEach (e :: es) X.env)) (backToKw pos (keywordEach [] X.env))) := by rfl) :
    PE X (.Call (.Attribute o (Str.ofString n) apos) (e :: es) [] pos) (wpE X.K W (cMeth n tb dfl co ca)) := by
  refine ⟨fun pins s σ H Q I ⟨F, δ, av, fp, E, h⟩ => ?_⟩
  refine PySem.W.methodCall_KW (pl := pl) (thn (go1 ho I E h) fun u s1 ⟨v, H1, I1, rx, F1, fp1, t, δ1, E1, q1, m1, h1⟩ => ?_) ht
  cases hm : rcv n tb t with
  | none => simp only [hm] at h1; exact h1.elim
  | some m =>
    simp only [hm] at h1
    obtain ⟨c, a, dx, fs, hmem, ev, hH, hl⟩ := rcv_ok hm q1 E1.sub
    subst ev
    obtain rfl : u = Value.ref a := rx
    have G := ht1 _ hmem
    obtain ⟨f, fd, ps, dvs, ds, Fo, hme, hb, hd, hrd⟩ := G.ex
    refine getmeth_ok I1 hH G.cl hme hl ?_
    refine PySem.W.callWith_K (first := [.ref a]) (h₀ := X.base) I.ok.mod.kin hme.kp (thn (ha.run pos pins s1 σ H1 _ I1 ⟨F1, δ1, av, fp1, E1, goA h1⟩) fun us s2 ⟨vs, H2, I2, r, F2, δ2, fp2, xs, E2, r2, m2, q2⟩ => ⟨I2.kIn, ?_⟩) hst hpl
    exact run_fnSD (us := .ref a :: us) (vs := .ref a :: vs) Fo hr hb hd (passAt tk σ) I2 (.cons rfl r) (call_sp q2 E2 (RpL.cons (Rp.mono m2.same _ _ q1) (r2.append (hrd F2))))
theorem e_meth0 {n : String} {tb : List (String × Fn)} {pl : Sem Bool} (ho : PE X o (wpE X.K W co)) (ht1 : ∀ q ∈ tb, MtG X.prog X.w X.K X.mg X.base q.1 n k q.2 dfl) (hr : Room k X.A) (tk : Takes X W)
    (ht : eval (.Call (.Attribute o (Str.ofString n) apos) [] [] pos) X.env = (do
      let ov ← eval o X.env
      standAt apos.atName
      let (f, first) ← holding [ov] (getMethod ov (Str.ofString n) pl)
      callWith pos f first (backTo pos (starEach [] X.env)) (backToKw pos (keywordEach [] X.env))) := by rfl) :
    PE X (.Call (.Attribute o (Str.ofString n) apos) [] [] pos) (wpE X.K W (cMeth n tb dfl co aN)) := by
  refine ⟨fun pins s σ H Q I ⟨F, δ, av, fp, E, h⟩ => ?_⟩
  refine PySem.W.methodCall_KW (pl := pl) (thn (go1 ho I E h) fun u s1 ⟨v, H1, I1, rx, F1, fp1, t, δ1, E1, q1, m1, h1⟩ => ?_) ht
  cases hm : rcv n tb t with
  | none => simp only [hm] at h1; exact h1.elim
  | some m =>
    simp only [hm] at h1
    obtain ⟨c, a, dx, fs, hmem, ev, hH, hl⟩ := rcv_ok hm q1 E1.sub
    subst ev
    obtain rfl : u = Value.ref a := rx
    have G := ht1 _ hmem
    obtain ⟨f, fd, ps, dvs, ds, Fo, hme, hb, hd, hrd⟩ := G.ex
    refine getmeth_ok I1 hH G.cl hme hl ?_
    exact PySem.W.callWith_K0 (first := [.ref a]) I1.kIn hme.kp (run_fnSD (us := [.ref a]) (vs := [.ref a]) Fo hr hb hd (passAt tk σ) I1 (.cons rfl .nil) (call_sp (xs := t.fz :: dfl) h1 E1 (RpL.cons q1 (hrd F1))))

/-! ### attributes -/
@[simp] def mFld (n : String) (tb : List String) : P1
  | .ins c ns xs => if c ∈ tb then (match fieldAt n ns xs with
    | some y => .ok (.d y)
    | none => .stk) else .stk
  | _ => .stk
theorem e_fld {n : String} {tb : List String} (ho : PE X o (wpE X.K W co)) (ht : ∀ c ∈ tb, FdG X.K c n) (hb : attributeBase o (Str.ofString n) X.env (eval o X.env) = eval o X.env := by rfl) : PE X (.Attribute o (Str.ofString n) pos) (wpE X.K W (c1 (mFld n tb) co)) := by
  refine ⟨fun pins s σ H Q I ⟨F, δ, av, fp, E, h⟩ => ?_⟩
  refine attr_of hb (thn (go1 ho I E h) fun u s1 ⟨v, H1, I1, rx, F1, fp1, t, δ1, E1, q1, m1, h1⟩ => ?_)
  revert q1 h1
  generalize t.fz = y
  intro q1 h1
  cases y with
  | ins c ns xs =>
    simp only [mFld] at h1
    by_cases z : c ∈ tb
    · rw [if_pos z] at h1
      simp only [Rp] at q1
      obtain ⟨a, dx, vs, r1, r2, r3, r4, r5⟩ := q1
      subst r1
      obtain rfl : u = Value.ref a := rx
      cases e : fieldAt n ns xs with
      | none => rw [e] at h1; exact h1.elim
      | some y =>
        rw [e] at h1
        obtain ⟨v, hl, hv⟩ := lookup_field r5 e
        exact getattr_ok I1 (E1.sub _ _ r2) (ht c z).cl (ht c z).no hl fun u s' I' r => ⟨v, H1, I', r, QE.here h1 E1 hv⟩
    · rw [if_neg z] at h1; exact h1.elim
  | _ => exact h1.elim
end
end Fx
/-! Fx4: instances made, calls that change their first argument, attributes of own objects. -/
namespace Fx
open PySem PySem.Spec PyProof.Rows L2
section
variable {X : Cx} {W : WX} {F H F' H' F1 H1 : Hp} {σ σ' : St} {δ δ' δ1 : En} {av : Nat → V} {fp fp' fp1 : Nat → List Addr} {k : Nat} {f C : Addr} {fd : FuncData} {ps : List Str} {m : Fn} {dvs : List V} {ds : List Value} {dfl : List D} {x : Str} {p pos apos : Pos} {e o : Expr} {es : List Expr} {ca : Ax} {co : Ex}
theorem run_makeS {CX : CXT} {sp : Sp} {pins : List (Addr × Obj)} {s : Shared} {Q : VK} {us : List Value} {vs : List V} {E : XK} (M : Mk X.K C f) (F : FnOk X.prog X.w X.K X.mg X.base CX k f fd ps sp) (hr : Room (k + 1) X.A) (hb : Binds X.K fd ps ds) (hd : Vals dvs ds)
    (hx : PassesAt CX X σ E) (I : Inv X pins σ H s) (r : Vals vs us)
    (h : ∀ x dx, H x = none → H dx = none → dx ≠ x → sp (.ref x :: (vs ++ dvs)) (upd (upd H dx (.own x)) x (.ins C dx [])) (fun v H2 => v = .non ∧ Q (.ref x) H2) E) :
    wpAny (model X.prog X.w) X.A (call (.ref C) us) (EP X pins σ Q) X.xe s := by
  have hq := h (s.heap.objs.size + 1) s.heap.objs.size (I.hok.fresh (Nat.le_succ _)) (I.hok.fresh (Nat.le_refl _)) (Nat.ne_of_lt (Nat.lt_succ_self _))
  have I2 := Inv.made (C := C) I
  have r2 : Vals (V.ref (s.heap.objs.size + 1) :: (vs ++ dvs)) (Value.ref (s.heap.objs.size + 1) :: (us ++ ds)) := .cons rfl (r.append hd)
  have hl : (Value.ref (s.heap.objs.size + 1) :: us ++ ds).length = ps.length := by
    have e := r2.length
    rw [F.len _ _ _ _ hq] at e
    exact e.symm
  refine wpAny_call (make_map (f := f) I.kIn M.makes M.init (beq_iff_eq.mp M.fn) (codeAny_mono (F.run _ X.stack _ _ ⟨Value.ref (s.heap.objs.size + 1) :: us, []⟩ (Value.ref (s.heap.objs.size + 1) :: (us ++ ds)) _ _ E (hr.make C us [])
    (I2.env0.make C us []) (hb _ (Value.ref (s.heap.objs.size + 1) :: us) I2.kIn hl) r2 hq) fun r s' hq' => ?_))
  cases r with
  | error e => exact hx pins _ _ e s' I2 hq'
  | ok fl =>
    cases fl with
    | ret u =>
      obtain ⟨v, H', I3, rv, ev, q3⟩ := I2.after hq'
      subst ev
      exact ⟨rv, ⟨V.ref (s.heap.objs.size + 1), H', I3, rfl, q3⟩⟩
    | next => exact False.elim hq'
    | brk => exact False.elim hq'
    | cont => exact False.elim hq'
/-- what C(..) hands back -/
def upM : R (List Sl) (Sl × List Sl) → En → R En (Sl × En)
  | .ok (.d .non, s :: _), δ => .ok (s, δ)
  | .exc c ns xs _, δ => .exc c ns xs δ
  | _, _ => .stk
def cMake (c : String) (m : Fn) (dfl : List D) (a : Ax) : Ex := fun δ => (a δ).bind fun p => upM (m (Sl.obj c [] [] :: (p.1 ++ dfl).map Sl.d)) p.2
theorem make_sp {c : String} {vs : List V} {xs : List D} {Q : VK} (h : PEx X.K W F H σ av fp Q (upM (m (Sl.obj c [] [] :: xs.map Sl.d)) δ)) (E : EOk X.K F H σ δ av fp) (r : RpL X.K F vs xs) (x dx : Addr) (hx : H x = none) (hdx : H dx = none) (ne : dx ≠ x) :
    spF X.K m (.ref x :: vs) (upd (upd H dx (.own x)) x (.ins (He.ga X.K c) dx [])) (fun v H2 => v = .non ∧ Q (.ref x) H2) (WE W σ) := by
  have hHx : (upd (upd H dx (.own x)) x (.ins (He.ga X.K c) dx [])) x = some (.ins (He.ga X.K c) dx []) := upd_same
  have hHd : (upd (upd H dx (.own x)) x (.ins (He.ga X.K c) dx [])) dx = some (.own x) := by rw [upd_ne ne, upd_same]
  have same : Same H (upd (upd H dx (.own x)) x (.ins (He.ga X.K c) dx [])) := fun b u e => by
    rw [upd_ne (ne_of_none e hx), upd_ne (ne_of_none e hdx)]; exact e
  have E1 : EOk X.K F (upd (upd H dx (.own x)) x (.ins (He.ga X.K c) dx [])) σ δ av fp := (E.new hdx).new (by rw [upd_ne (Ne.symm ne)]; exact hx)
  have Ea := EOk.args (H := upd (upd H dx (.own x)) x (.ins (He.ga X.K c) dx [])) r (E.sub.trans same)
  -- the callee's environment
  let fpc : Nat → List Addr := fun i => if i = 0 then [x, dx] else []
  have ao : At X.K F (upd (upd H dx (.own x)) x (.ins (He.ga X.K c) dx [])) (.ref x) (Sl.obj c [] []) [x, dx] := by
    simp only [At]
    exact ⟨x, dx, [], [], rfl, rfl, E.freeF hx, E.freeF hdx, by simpa using hHx, hHd, rfl, by simp only [AtL]⟩
  have Ec : EOk X.K F (upd (upd H dx (.own x)) x (.ins (He.ga X.K c) dx [])) ((V.ref x :: vs).map some) ((Sl.obj c [] [] :: xs.map Sl.d).map Slot.par) (fun i => ((V.ref x :: vs)[i]?).getD .non) fpc := by
    refine ⟨Ea.sub, by have := Ea.len; simp only [List.map_cons, List.length_cons]; rw [this], fun i y s h1 h2 => ?_, fun i s h1 => ?_, fun i => ?_, fun i j hij a ha => ?_, fun i a ha => ?_⟩
    · cases i with
      | zero =>
        simp at h1
        subst h1
        simp at h2
        subst h2
        exact ⟨.ref x, by simp, by simp only [fpc, if_true]; exact ao⟩
      | succ i =>
        obtain ⟨v, h3, h4⟩ := Ea.at_ i y s (by simpa using h1) h2
        exact ⟨v, by simpa using h3, by simp only [fpc, Nat.succ_ne_zero, if_false]; exact h4⟩
    · cases i with
      | zero => simp
      | succ i =>
        have := Ea.par i s (by simpa using h1)
        simpa using this
    · simp only [fpc]
      split
      · simp only [List.nodup_cons, List.mem_singleton, List.not_mem_nil, not_false_eq_true, List.nodup_nil, and_true]
        exact Ne.symm ne
      · exact List.nodup_nil
    · simp only [fpc] at ha ⊢
      split at ha
      · rw [if_neg (by omega)]
        exact fun z => by cases z
      · cases ha
    · simp only [fpc] at ha
      split at ha
      · exact At.out _ _ _ ao a ha
      · cases ha
  have owc : ∀ {b : Addr}, Ow fpc b → b = x ∨ b = dx := fun ⟨i, hi⟩ => by
    simp only [fpc] at hi
    split at hi
    · simpa using hi
    · cases hi
  refine ⟨F, Sl.obj c [] [] :: xs.map Sl.d, _, fpc, Ec, ?_⟩
  revert h
  generalize m (Sl.obj c [] [] :: xs.map Sl.d) = q
  intro h
  have hne : ∀ i, ∀ a ∈ fp i, ¬ Ow fpc a := fun i a ha z => by
    rcases owc z with rfl | rfl
    · exact (E.out i a ha).2 hx
    · exact (E.out i a ha).2 hdx
  have fmm : ∀ {F' H' : Hp} {A' : Addr → Prop}, Fm F (upd (upd H dx (.own x)) x (.ins (He.ga X.K c) dx [])) (Ow fpc) F' H' A' → Fm F H (Ow fp) F' H' (fun b => A' b ∨ Ow fp b) := fun {F' H' A'} mm => by
    refine ⟨mm.same, fun b hb _ => ?_, fun b hb => ?_, fun b hb => ?_, fun b hb => ?_⟩
    · have hb' : (upd (upd H dx (.own x)) x (.ins (He.ga X.K c) dx [])) b = H b := by
        rw [upd_ne fun z => hb (by rw [z]; exact hx), upd_ne fun z => hb (by rw [z]; exact hdx)]
      rw [mm.keep b (by rw [hb']; exact hb) fun z => ?_, hb']
      rcases owc z with rfl | rfl
      · exact hb hx
      · exact hb hdx
    · rcases mm.newF b hb with z | z | z
      · exact .inl z
      · refine .inr (.inl ?_)
        by_cases h1 : b = x
        · rw [h1]; exact hx
        · by_cases h2 : b = dx
          · rw [h2]; exact hdx
          · rw [upd_ne h1, upd_ne h2] at z; exact z
      · rcases owc z with rfl | rfl
        · exact .inr (.inl hx)
        · exact .inr (.inl hdx)
    · rcases hb with hb | hb
      · rcases mm.newA b hb with z | z
        · rcases owc z with rfl | rfl
          · exact .inr hx
          · exact .inr hdx
        · refine .inr ?_
          by_cases h1 : b = x
          · rw [h1]; exact hx
          · by_cases h2 : b = dx
            · rw [h2]; exact hdx
            · rw [upd_ne h1, upd_ne h2] at z; exact z
      · exact .inl hb
    · refine mm.there b ?_
      cases e : H b with
      | none => exact absurd e hb
      | some u => rw [same b u e]; simp
  match q, h with
  | .ok (.d .non, s :: ss'), h =>
    intro v H' F' fp' f E' a n d mm
    simp only [At, Rp] at a
    refine ⟨a.2, ?_⟩
    obtain ⟨v0, hv0, a0⟩ := E'.at_ 0 (.par s) s (by simp) rfl
    have ev : v0 = .ref x := by simpa using hv0.symm
    subst ev
    have E2 := E1.across mm hne E'.sub
    refine h (.ref x) H' F' fp (fp' 0) E2 a0 (E'.nod 0) (fun b hb i hi => ?_) ((fmm mm).weak fun b hb => ?_)
    · rcases mm.newA b (.inr ⟨0, hb⟩) with z | z
      · exact hne i b hi z
      · exact (E1.out i b hi).2 z
    · rcases hb with hb | hb
      · exact .inl (.inr ⟨0, hb⟩)
      · exact .inr hb
  | .exc cn ns xs' ss', h =>
    intro H' F' fp' cls d E' ev mm
    have E2 := E1.across mm hne E'.sub
    exact h H' F' fp cls d E2 ev ((fmm mm).weak fun b hb => .inr hb)
  | .stk, h => exact h.elim
  | .ok (.d .non, []), h => exact h.elim
  | .ok (.d (.bl _), _), h => exact h.elim
  | .ok (.d (.int _), _), h => exact h.elim
  | .ok (.d (.str _), _), h => exact h.elim
  | .ok (.d (.tup _), _), h => exact h.elim
  | .ok (.d (.lst _), _), h => exact h.elim
  | .ok (.d (.ins _ _ _), _), h => exact h.elim
  | .ok (.d (.err _ _ _), _), h => exact h.elim
  | .ok (.lst _, _), h => exact h.elim
  | .ok (.obj _ _ _, _), h => exact h.elim
theorem e_make {c : String} (G : MkG X.prog X.w X.K X.mg X.base c k m dfl) (hr : Room (k + 1) X.A) (tk : Takes X W) (hg : Gl X (Str.ofString c)) (ha : PA X (e :: es) (wpA X.K W ca))
    (hdb : (Str.ofString c == ("__debug__" : Str)) = false := by decide) (he : starEach (e :: es) X.env = (false, eval e X.env) :: starEach es X.env := by rfl) (hpl : (backTo pos (starEach es X.env)).any (·.1) = false := by rfl) :
    PE X (.Call (.Name (Str.ofString c) p) (e :: es) [] pos) (wpE X.K W (cMake c m dfl ca)) := by
  obtain ⟨f, fd, ps, dvs, ds, Fo, M, hb, hd, hrd⟩ := G.ex
  refine ⟨fun pins s σ H Q I ⟨F, δ, av, fp, E, h⟩ => ?_⟩
  refine wpAny_Call_Name_kw (ld_glob I hg G.gl ?_ hdb)
  refine PySem.W.callWith_K (h₀ := X.base) I.ok.mod.kin M.kp (thn (ha.run pos pins s σ H _ I ⟨F, δ, av, fp, E, goA h⟩) fun us s1 ⟨vs, H1, I1, r, F1, δ1, fp1, xs, E1, r1, m1, q⟩ => ⟨I1.kIn, ?_⟩) he hpl
  exact run_makeS M Fo hr hb hd (passAt tk σ) I1 r fun x dx hx hdx ne => make_sp q E1 (r1.append (hrd F1)) x dx hx hdx ne
theorem e_make0 {c : String} (G : MkG X.prog X.w X.K X.mg X.base c k m dfl) (hr : Room (k + 1) X.A) (tk : Takes X W) (hg : Gl X (Str.ofString c)) (hdb : (Str.ofString c == ("__debug__" : Str)) = false := by decide) :
    PE X (.Call (.Name (Str.ofString c) p) [] [] pos) (wpE X.K W (cMake c m dfl aN)) := by
  obtain ⟨f, fd, ps, dvs, ds, Fo, M, hb, hd, hrd⟩ := G.ex
  refine ⟨fun pins s σ H Q I ⟨F, δ, av, fp, E, h⟩ => ?_⟩
  refine wpAny_Call_Name_kw (ld_glob I hg G.gl ?_ hdb)
  exact PySem.W.callWith_K0 I.kIn M.kp (run_makeS (us := []) (vs := []) M Fo hr hb hd (passAt tk σ) I .nil fun x dx hx hdx ne => make_sp (xs := dfl) h E (hrd F) x dx hx hdx ne)

/-! ### a call whose first argument is a name: what it holds may be changed by the callee -/
def upO : R (List Sl) (Sl × List Sl) → Nat → Slot → En → R En (Sl × En)
  | .ok (r, s :: _), i, y, δ => .ok (r, δ.set i (y.to s))
  | .exc c ns xs (s :: _), i, y, δ => .exc c ns xs (δ.set i (y.to s))
  | _, _, _, _ => .stk
def goO (m : Fn) (dfl : List D) (i : Nat) (p : List D × En) : R En (Sl × En) := match p.2[i]? with
  | some y => (match y.sl with
    | some s => upO (m (s :: (p.1 ++ dfl).map Sl.d)) i y p.2
    | none => .stk)
  | none => .stk
def cCallO (m : Fn) (dfl : List D) (i : Nat) (a : Ax) : Ex := fun δ => match δ[i]? with
  | some y => (match y.sl with
    | some _ => (a δ).bind (goO m dfl i)
    | none => .stk)
  | none => .stk
theorem callO_sp {i : Nat} {v : V} {vs : List V} {xs : List D} {Q : VK} (h : PEx X.K W F H σ av fp Q (goO m [] i (xs, δ))) (E : EOk X.K F H σ δ av fp) (r : RpL X.K F vs xs) (hv : σ[i]? = some (some v)) : spF X.K m (v :: vs) H Q (WE W σ) := by
  unfold goO at h
  cases hy : δ[i]? with
  | none => simp only [hy] at h; exact h.elim
  | some y =>
    simp only [hy] at h
    cases hs : y.sl with
    | none => simp only [hs] at h; exact h.elim
    | some s =>
      simp only [hs, List.append_nil] at h
      obtain ⟨v', hv', a0⟩ := E.at_ i y s hy hs
      rw [hv] at hv'
      have ev : v = v' := by simpa using hv'
      subst ev
      have Ea := EOk.args r E.sub
      let fpc : Nat → List Addr := fun j => if j = 0 then fp i else []
      have Ec : EOk X.K F H ((v :: vs).map some) ((s :: xs.map Sl.d).map Slot.par) (fun j => ((v :: vs)[j]?).getD .non) fpc := by
        refine ⟨E.sub, by have := Ea.len; simp only [List.map_cons, List.length_cons]; rw [this], fun j y s h1 h2 => ?_, fun j s h1 => ?_, fun j => ?_, fun j l hij a ha => ?_, fun j a ha => ?_⟩
        · cases j with
          | zero =>
            simp at h1
            subst h1
            simp at h2
            subst h2
            exact ⟨v, by simp, by simp only [fpc, if_true]; exact a0⟩
          | succ j =>
            obtain ⟨v, h3, h4⟩ := Ea.at_ j y s (by simpa using h1) h2
            exact ⟨v, by simpa using h3, by simp only [fpc, Nat.succ_ne_zero, if_false]; exact h4⟩
        · cases j with
          | zero => simp
          | succ j =>
            have := Ea.par j s (by simpa using h1)
            simpa using this
        · simp only [fpc]
          split
          · exact E.nod i
          · exact List.nodup_nil
        · simp only [fpc] at ha ⊢
          split at ha
          · rw [if_neg (by omega)]
            exact fun z => by cases z
          · cases ha
        · simp only [fpc] at ha
          split at ha
          · exact E.out i a ha
          · cases ha
      have owc : ∀ {b : Addr}, Ow fpc b → b ∈ fp i := fun ⟨j, hj⟩ => by
        simp only [fpc] at hj
        split at hj
        · exact hj
        · cases hj
      have owc' : ∀ {b : Addr}, b ∈ fp i → Ow fpc b := fun hb => ⟨0, by simp only [fpc, if_true]; exact hb⟩
      refine ⟨F, s :: xs.map Sl.d, _, fpc, Ec, ?_⟩
      revert h
      generalize m (s :: xs.map Sl.d) = q
      intro h
      have turn : ∀ {F' H' : Hp} {fp' : Nat → List Addr} {A' : Addr → Prop} {s' : Sl} {ss' : List Sl}, EOk X.K F' H' ((v :: vs).map some) ((s' :: ss').map Slot.par) (fun j => ((v :: vs)[j]?).getD .non) fp' → Fm F H (Ow fpc) F' H' A' → (∀ a ∈ fp' 0, A' a) →
          EOk X.K F' H' σ (δ.set i (y.to s')) av (setN fp i (fp' 0)) := fun {F' H' fp' A' s' ss'} E' mm hA => by
        obtain ⟨v0, hv0, a1⟩ := E'.at_ 0 (.par s') s' (by simp) rfl
        have ev : v0 = v := by simpa using hv0.symm
        subst ev
        refine E.turn hy hs hv E'.sub mm.same (fun j hj a ha => ?_) a1 (E'.nod 0) (fun a ha j hj hm => ?_)
        · have na : ¬ Ow fpc a := fun z => E.dis j i hj a ha (owc z)
          refine ⟨?_, mm.keep a (E.out j a ha).2 na⟩
          cases q : F' a with
          | none => rfl
          | some o =>
            rcases mm.newF a (by rw [q]; simp) with z | z | z
            · exact absurd (E.out j a ha).1 z
            · exact absurd z (E.out j a ha).2
            · exact absurd z na
        · rcases mm.newA a (hA a ha) with z | z
          · exact E.dis j i hj a hm (owc z)
          · exact (E.out j a hm).2 z
      match q, h with
      | .ok (t, s' :: ss'), h =>
        intro u H' F' fp' f E' a n d mm
        have E2 := turn E' mm fun a ha => .inr ⟨0, ha⟩
        refine h u H' F' _ f E2 a n (fun b hb j hj => ?_) ?_
        · by_cases ej : j = i
          · subst ej
            rw [setN_eq] at hj
            exact d b hb 0 hj
          · rw [setN_ne ej] at hj
            rcases mm.newA b (.inl hb) with z | z
            · exact E.dis j i ej b hj (owc z)
            · exact (E.out j b hj).2 z
        · have mw : Fm F H (Ow fp) F' H' (fun a => a ∈ f ∨ Ow fp' a) := mm.wider fun b hb => ⟨i, owc hb⟩
          refine ⟨mw.same, mw.keep, mw.newF, fun b hb => ?_, mw.there⟩
          rcases hb with hb | hb
          · exact mw.newA b (.inl hb)
          · rcases ow_set hb with z | z
            · exact mw.newA b (.inr ⟨0, z⟩)
            · exact .inl z
      | .exc cn ns xs' (s' :: ss'), h =>
        intro H' F' fp' cls d E' ev mm
        have E2 := turn E' mm fun a ha => ⟨0, ha⟩
        refine h H' F' _ cls d E2 ev ?_
        have mw : Fm F H (Ow fp) F' H' (Ow fp') := mm.wider fun b hb => ⟨i, owc hb⟩
        refine ⟨mw.same, mw.keep, mw.newF, fun b hb => ?_, mw.there⟩
        rcases ow_set hb with z | z
        · exact mw.newA b ⟨0, z⟩
        · exact .inl z
      | .ok (_, []), h => exact h.elim
      | .exc _ _ _ [], h => exact h.elim
      | .stk, h => exact h.elim
theorem e_callO {i : Nat} {y : Str} {py : Pos} (G : FnG X.prog X.w X.K X.mg X.base x k m dfl) (hr : Room k X.A) (tk : Takes X W) (hg : Gl X x) (hN : X.N[i]? = some y) (hv : Vis X.env.scope y)
    (ha : PA X es (wpA X.K W ca)) (hd1 : (y == ("__debug__" : Str)) = false := by decide) (hd2 : (y == ("__classdict__" : Str)) = false := by decide) (hdb : (x == ("__debug__" : Str)) = false := by decide) (he : starEach (Expr.Name y py :: es) X.env = (false, eval (Expr.Name y py) X.env) :: starEach es X.env := by rfl) (hpl : (backTo pos (starEach es X.env)).any (·.1) = false := by rfl) :
    PE X (.Call (.Name x p) (.Name y py :: es) [] pos) (wpE X.K W (cCallO m dfl i ca)) := by
  obtain ⟨f, fd, ps, dvs, ds, Fo, hm, hk, hb, hd, hrd⟩ := G.ex
  refine PE.wk (pe_callSD Fo hr hg hm hk hb hd (fun σ => passAt tk σ) (pa_cons (pe_var hN hv hd1 hd2) ha he) hdb he hpl) fun σ H Q ⟨F, δ, av, fp, E, h⟩ => ?_
  unfold cCallO at h
  cases hy : δ[i]? with
  | none => simp only [hy] at h; exact h.elim
  | some z =>
    simp only [hy] at h
    cases hs : z.sl with
    | none => simp only [hs] at h; exact h.elim
    | some s =>
      simp only [hs] at h
      obtain ⟨v, hv', a0⟩ := E.at_ i z s hy hs
      refine ⟨v, hv', F, δ, av, fp, E, Po.imp (goA h) fun xs δ' z vs H' F' fp' E' r' mm => ?_⟩
      obtain ⟨F1, δ1, fp1, ys, E1, r1, m1, q⟩ := z vs H' F' fp' E' r' mm
      refine callO_sp (xs := ys ++ dfl) (vs := vs ++ dvs) ?_ E1 (r1.append (hrd F1)) hv'
      have : goO m [] i (ys ++ dfl, δ1) = goO m dfl i (ys, δ1) := by simp only [goO, List.append_nil]
      rw [this]
      exact q

/-! ### an attribute of what a name holds -/
@[simp] def sFld (n : String) (tb : List String) : Sl → Option D
  | .d (.ins c ns xs) => if c ∈ tb then fieldAt n ns xs else none
  | .obj c ns xs => if c ∈ tb then (match fieldAt n ns xs with
    | some (.d y) => some y
    | _ => none) else none
  | _ => none
def cFldV (n : String) (tb : List String) (i : Nat) : Ex := fun δ => match δ[i]? with
  | some y => (match y.sl with
    | some s => (match sFld n tb s with
      | some z => .ok (.d z, δ)
      | none => .stk)
    | none => .stk)
  | none => .stk
theorem lookup_fieldS {K : Fg} {F H : Hp} {n : String} : ∀ {ns : List String} {xs : List Sl} {vs : List V} {f : List Addr} {y : D}, AtL K F H vs xs f → fieldAt n ns xs = some (.d y) → ∃ v, ((ns.map Str.ofString).zip vs).lookup (Str.ofString n) = some v ∧ Rp K F v y
  | m :: ns, x :: xs, v :: vs, f, y, h, e => by
    simp only [AtL] at h
    obtain ⟨f1, f2, _, h1, h2⟩ := h
    simp only [fieldAt] at e
    simp only [List.map_cons, List.zip_cons_cons, List.lookup]
    by_cases c : m = n
    · subst c
      rw [if_pos rfl] at e
      cases e
      simp only [At] at h1
      exact ⟨v, by simp, h1.2⟩
    · rw [if_neg c] at e
      have : (Str.ofString n == Str.ofString m) = false := beq_eq_false_iff_ne.mpr fun z => c (str_inj z).symm
      rw [this]
      exact lookup_fieldS h2 e
  | [], _, _, _, _, _, e => by simp at e
  | _ :: _, [], _, _, _, _, e => by simp at e
  | _ :: _, _ :: _, [], _, _, h, _ => by simp only [AtL] at h
theorem e_fldV {n : String} {tb : List String} {i : Nat} {y : Str} {py : Pos} (hN : X.N[i]? = some y) (hv : Vis X.env.scope y) (ht : ∀ c ∈ tb, FdG X.K c n) (hd1 : (y == ("__debug__" : Str)) = false := by decide) (hd2 : (y == ("__classdict__" : Str)) = false := by decide)
    (hb : attributeBase (Expr.Name y py) (Str.ofString n) X.env (eval (Expr.Name y py) X.env) = eval (Expr.Name y py) X.env := by rfl) : PE X (.Attribute (.Name y py) (Str.ofString n) pos) (wpE X.K W (cFldV n tb i)) := by
  refine PE.wk (pe_fld (pe_var hN hv hd1 hd2) hb) fun σ H Q ⟨F, δ, av, fp, E, h⟩ => ?_
  unfold cFldV at h
  cases hy : δ[i]? with
  | none => simp only [hy] at h; exact h.elim
  | some z =>
    simp only [hy] at h
    cases hs : z.sl with
    | none => simp only [hs] at h; exact h.elim
    | some s =>
      simp only [hs] at h
      obtain ⟨v, hv', a0⟩ := E.at_ i z s hy hs
      refine ⟨v, hv', ?_⟩
      cases s with
      | d x =>
        cases x with
        | ins c ns xs =>
          simp only [sFld] at h
          by_cases q : c ∈ tb
          · rw [if_pos q] at h
            cases e : fieldAt n ns xs with
            | none => rw [e] at h; exact h.elim
            | some y =>
              rw [e] at h
              simp only [At, Rp] at a0
              obtain ⟨_, a, dx, vs, r1, r2, r3, r4, r5⟩ := a0
              obtain ⟨v, hl, hv⟩ := lookup_field r5 e
              exact ⟨a, _, dx, _, v, r1, E.sub _ _ r2, (ht c q).cl, (ht c q).no, hl, QE.here h E hv⟩
          · rw [if_neg q] at h; exact h.elim
        | _ => exact h.elim
      | lst _ => exact h.elim
      | obj c ns xs =>
        simp only [sFld] at h
        by_cases q : c ∈ tb
        · rw [if_pos q] at h
          cases e : fieldAt n ns xs with
          | none => rw [e] at h; exact h.elim
          | some t =>
            rw [e] at h
            cases t with
            | d y =>
              simp only [At] at a0
              obtain ⟨a, dx, vs, f, r1, _, _, _, r2, r3, _, r5⟩ := a0
              obtain ⟨v, hl, hv⟩ := lookup_fieldS r5 e
              exact ⟨a, _, dx, _, v, r1, r2, (ht c q).cl, (ht c q).no, hl, QE.here h E hv⟩
            | _ => exact h.elim
        · rw [if_neg q] at h; exact h.elim
end
end Fx
/-! Fx5: statements. -/
namespace Fx
open PySem PySem.Spec PyProof.Rows L2
section
variable {X : Cx} {K : Fg} {W : WX} {F H F' H' F1 H1 : Hp} {σ σ' : St} {δ δ' δ1 : En} {av : Nat → V} {fp fp' fp1 : Nat → List Addr}
theorem PSx.fz {D : Ends} {r : R En (Sl × En)} {f : Sl × En → R En (Fl × En)} (h : PSx K W F H av fp D (r.bind f)) (σ : St) :
    PEx K W F H σ av fp (fun v H1 => ∃ F1 fp1 s δ1, EOk K F1 H1 σ δ1 av fp1 ∧ Rp K F1 v s.fz ∧ Fm F H (Ow fp) F1 H1 (Ow fp1) ∧ PSx K W F1 H1 av fp1 D (f (s, δ1))) r :=
  Po.fz (P := fun F1 H1 fp1 s δ1 => PSx K W F1 H1 av fp1 D (f (s, δ1))) (Po.imp (PSx.bind h σ) fun s δ' z F1 H1 fp1 m => PSx.frame z.2 m)
theorem PSx.own {D : Ends} {r : R En (Sl × En)} {f : Sl × En → R En (Fl × En)} (h : PSx K W F H av fp D (r.bind f)) (σ : St) :
    PEx K W F H σ av fp (fun v H1 => ∃ F1 fp1 s δ1 g, EOk K F1 H1 σ δ1 av fp1 ∧ At K F1 H1 v s g ∧ g.Nodup ∧ (∀ a ∈ g, ∀ i, a ∉ fp1 i) ∧ Fm F H (Ow fp) F1 H1 (fun a => a ∈ g ∨ Ow fp1 a) ∧ PSx K W F H av fp D (f (s, δ1))) r :=
  Po.imp (PSx.bind h σ) fun s δ' z v H1 F1 fp1 g E a n d m => ⟨F1, fp1, s, δ', g, E, a, n, d, m, z.2⟩
theorem PSx.tst {D : Ends} {r : R En (Bool × En)} {f : Bool × En → R En (Fl × En)} (h : PSx K W F H av fp D (r.bind f)) (σ : St) :
    PTx K W F H σ av fp (fun b H1 => ∃ F1 δ1 fp1, EOk K F1 H1 σ δ1 av fp1 ∧ Fm F H (Ow fp) F1 H1 (Ow fp1) ∧ PSx K W F1 H1 av fp1 D (f (b, δ1))) r :=
  Po.imp (PSx.bind h σ) fun b δ' z H' F' fp' E' m => ⟨F', δ', fp', E', m, PSx.frame z.2 m⟩
/-- on to the next statement -/
theorem PSx.nx {D : Ends} (h : PSx K W F H av fp D (.ok (.nx, δ'))) (E : EOk K F' H' σ' δ' av fp') (m : Fm F H (Ow fp) F' H' (Ow fp')) : D.nx σ' H' := h σ' H' F' fp' E m
theorem PSx.here {D : Ends} (h : PSx K W F H av fp D (.ok (.nx, δ'))) (E : EOk K F H σ' δ' av fp) : D.nx σ' H := h σ' H F fp E (Fm.refl fun _ z => z)

/-! ### blocks -/
def seqk (b : Sx) : Fl × En → R En (Fl × En)
  | (.nx, δ) => b δ
  | (fl, δ) => .ok (fl, δ)
def sSeq (a b : Sx) : Sx := fun δ => (a δ).bind (seqk b)
def sNx : Sx := fun δ => .ok (.nx, δ)
def sBk : Sx := fun δ => .ok (.bk, δ)
def sCt : Sx := fun δ => .ok (.ct, δ)
theorem seq_wp {c1 c2 : Sx} {D : Ends} {H : Hp} (h : wpS K W (sSeq c1 c2) D σ H) : wpS K W c1 { D with nx := wpS K W c2 D } σ H := by
  obtain ⟨F, δ, av, fp, E, h⟩ := h
  refine ⟨F, δ, av, fp, E, ?_⟩
  unfold sSeq at h
  revert h
  generalize c1 δ = r
  intro h
  match r, h with
  | .ok (.nx, δ'), h => exact fun σ' H' F' fp' E' m => ⟨F', δ', av, fp', E', PSx.frame h m⟩
  | .ok (.bk, δ'), h => exact h
  | .ok (.ct, δ'), h => exact h
  | .ok (.rt s, δ'), h => exact h
  | .exc c ns xs δ', h => exact h
  | .stk, h => exact h
theorem ss_nil : PSs X [] (wpS X.K W sNx) := PSs.wk pss_nil fun D σ H ⟨F, δ, av, fp, E, h⟩ => PSx.here h E
theorem ss_cons {st : Stmt} {rest : List Stmt} {c1 c2 : Sx} (h1 : PS X st (wpS X.K W c1)) (h2 : PSs X rest (wpS X.K W c2)) : PSs X (st :: rest) (wpS X.K W (sSeq c1 c2)) := PSs.wk (pss_cons h1 h2) fun D σ H h => seq_wp h
theorem ss_one {st : Stmt} {c : Sx} (h : PS X st (wpS X.K W c)) : PSs X [st] (wpS X.K W c) := pss_one h
theorem s_pass {pos : Pos} : PS X (.Pass pos) (wpS X.K W sNx) := PS.wk ps_pass fun D σ H ⟨F, δ, av, fp, E, h⟩ => PSx.here h E
theorem s_break {pos : Pos} : PS X (.Break pos) (wpS X.K W sBk) := PS.wk ps_break fun D σ H ⟨F, δ, av, fp, E, h⟩ => h σ H F fp E (Fm.refl fun _ z => z)
theorem s_continue {pos : Pos} : PS X (.Continue pos) (wpS X.K W sCt) := PS.wk ps_continue fun D σ H ⟨F, δ, av, fp, E, h⟩ => h σ H F fp E (Fm.refl fun _ z => z)
theorem s_doc {x j pos pos'} : PS X (.Expr (.Constant (.str x) j pos) pos') (wpS X.K W sNx) := PS.wk ps_doc fun D σ H ⟨F, δ, av, fp, E, h⟩ => PSx.here h E
/-- a statement that is not walked: its way must not be taken -/
def sStk : Sx := fun _ => .stk
theorem s_stk {st : Stmt} : PS X st (wpS X.K W sStk) := ⟨fun _ _ _ _ _ _ ⟨_, _, _, _, _, h⟩ => h.elim⟩
def cStk : Ex := fun _ => .stk
theorem e_stk {e : Expr} : PE X e (wpE X.K W cStk) := ⟨fun _ _ _ _ _ _ ⟨_, _, _, _, _, h⟩ => h.elim⟩

/-! ### expressions, returns -/
def sEx (c : Ex) : Sx := fun δ => (c δ).bind fun p => .ok (.nx, p.2)
theorem s_expr {e : Expr} {c : Ex} {pos : Pos} (he : PE X e (wpE X.K W c)) (hs : swapsWith e none pos.line X.env = pure false := by rfl) : PS X (.Expr e pos) (wpS X.K W (sEx c)) :=
  PS.wk (ps_expr he hs) fun D σ H ⟨F, δ, av, fp, E, h⟩ => ⟨F, δ, av, fp, E, Po.imp (PSx.fz h σ) fun s δ' z v H' F' fp' f E' a n d m => by
    obtain ⟨F1, fp1, t, δ1, E1, r1, m1, q⟩ := z v H' F' fp' f E' a n d m
    exact PSx.here q E1⟩
def sRt (c : Ex) : Sx := fun δ => (c δ).bind fun p => .ok (.rt p.1, p.2)
theorem s_ret {e : Expr} {c : Ex} {pos : Pos} (he : PE X e (wpE X.K W c)) : PS X (.Return (some e) pos) (wpS X.K W (sRt c)) :=
  PS.wk (ps_ret he) fun D σ H ⟨F, δ, av, fp, E, h⟩ => ⟨F, δ, av, fp, E, Po.imp (PSx.own h σ) fun s δ' z v H' F' fp' f E' a n d m => by
    obtain ⟨F1, fp1, t, δ1, g, E1, a1, n1, d1, m1, q⟩ := z v H' F' fp' f E' a n d m
    exact q v σ H' F1 fp1 g E1 a1 n1 d1 m1⟩
def sRtN : Sx := fun δ => .ok (.rt (.d .non), δ)
theorem s_retN {pos : Pos} : PS X (.Return none pos) (wpS X.K W sRtN) := PS.wk ps_retN fun D σ H ⟨F, δ, av, fp, E, h⟩ => h .non σ H F fp [] E (At.of (by simp only [Rp])) List.nodup_nil (fun a ha => by cases ha) (Fm.refl fun b hb => hb.elim (fun z => by cases z) id)
/-- return x, x a local that holds an own object: it goes to the caller -/
def sRtV (i : Nat) : Sx := fun δ => match δ[i]? with
  | some (.loc s) => .ok (.rt s, δ.set i .no)
  | some (.par (.d x)) => .ok (.rt (.d x), δ)
  | _ => .stk
theorem s_retV {i : Nat} {y : Str} {py pos : Pos} (hN : X.N[i]? = some y) (hv : Vis X.env.scope y) (hd1 : (y == ("__debug__" : Str)) = false := by decide) (hd2 : (y == ("__classdict__" : Str)) = false := by decide) : PS X (.Return (some (.Name y py)) pos) (wpS X.K W (sRtV i)) := by
  refine PS.wk (ps_ret (pe_var hN hv hd1 hd2)) fun D σ H ⟨F, δ, av, fp, E, h⟩ => ?_
  unfold sRtV at h
  cases hy : δ[i]? with
  | none => simp only [hy] at h; exact h.elim
  | some y =>
    cases y with
    | no => simp only [hy] at h; exact h.elim
    | loc s =>
      simp only [hy] at h
      obtain ⟨v, hv, a⟩ := E.at_ i _ s hy rfl
      refine ⟨v, hv, h v σ H F (setN fp i []) (fp i) E.forget a (E.nod i) (fun b hb j hj => ?_) ⟨Same.refl F, fun _ _ _ => rfl, fun b hb => .inl hb, fun b hb => .inl ?_, fun _ z => z⟩⟩
      · by_cases e : j = i
        · subst e; rw [setN_eq] at hj; cases hj
        · rw [setN_ne e] at hj; exact E.dis j i e b hj hb
      · rcases hb with hb | hb
        · exact ⟨i, hb⟩
        · rcases ow_set hb with z | z
          · cases z
          · exact z
    | par s =>
      cases s with
      | d x =>
        simp only [hy] at h
        obtain ⟨v, hv, a⟩ := E.at_ i _ (.d x) hy rfl
        simp only [At] at a
        exact ⟨v, hv, h v σ H F fp [] E (At.of a.2) List.nodup_nil (fun a ha => by cases ha) (Fm.refl fun b hb => hb.elim (fun z => by cases z) id)⟩
      | lst _ => simp only [hy] at h; exact h.elim
      | obj _ _ _ => simp only [hy] at h; exact h.elim

/-! ### stores into names -/
def stN (i : Nat) (s : Sl) (δ : En) : R En (Fl × En) := if i < δ.length then .ok (.nx, δ.set i (.loc s)) else .stk
def sSet (i : Nat) (c : Ex) : Sx := fun δ => (c δ).bind fun p => stN i p.1 p.2
theorem stN_ok {i : Nat} {s : Sl} {v : V} {g : List Addr} {D : Ends} (h : PSx K W F H av fp D (stN i s δ1)) (E : EOk K F1 H1 σ δ1 av fp1) (a : At K F1 H1 v s g) (n : g.Nodup) (d : ∀ b ∈ g, ∀ i, b ∉ fp1 i) (m : Fm F H (Ow fp) F1 H1 (fun b => b ∈ g ∨ Ow fp1 b)) : D.nx (σ.set i (some v)) H1 := by
  unfold stN at h
  by_cases c : i < δ1.length
  · rw [if_pos c] at h
    exact PSx.nx h (E.set c a n d) (m.weak fun b hb => ow_set hb)
  · rw [if_neg c] at h; exact h.elim
theorem s_set {i : Nat} {x : Str} {e : Expr} {c : Ex} {pos pos' : Pos} (hN : X.N.Nodup) (hi : X.N[i]? = some x) (hx : Loc X.env.scope x) (he : PE X e (wpE X.K W c)) (hs : swapsWith e (some (.Name x pos')) pos.line X.env = pure false := by rfl)
    (hf : X.fn x = true ∨ X.env.scope.names.lookup x = some .local := by first | exact .inl rfl | exact .inr rfl | assumption) : PS X (.Assign [.Name x pos'] e pos) (wpS X.K W (sSet i c)) :=
  PS.wk (ps_set hN hi hx he hs hf) fun D σ H ⟨F, δ, av, fp, E, h⟩ => ⟨F, δ, av, fp, E, Po.imp (PSx.own h σ) fun s δ' z v H' F' fp' f E' a n d m => by
    obtain ⟨F1, fp1, t, δ1, g, E1, a1, n1, d1, m1, q⟩ := z v H' F' fp' f E' a n d m
    exact stN_ok q E1 a1 n1 d1 m1⟩
/-- targets: a name, a tuple of targets; they take frozen data -/
abbrev Gx := D → En → R En (Fl × En)
abbrev Gxs := List D → En → R En (Fl × En)
/-- the slots but vs are as they were -/
def Ag (vs : List Nat) (σ σ' : St) : Prop := σ'.length = σ.length ∧ ∀ i, i ∉ vs → σ'[i]? = σ[i]?
theorem Ag.refl {vs : List Nat} : Ag vs σ σ := ⟨rfl, fun _ _ => rfl⟩
theorem Ag.trans {vs : List Nat} {σ1 σ2 σ3 : St} (a : Ag vs σ1 σ2) (b : Ag vs σ2 σ3) : Ag vs σ1 σ3 := ⟨b.1.trans a.1, fun i h => (b.2 i h).trans (a.2 i h)⟩
theorem Ag.set {vs : List Nat} {i : Nat} {x : Option V} (h : i ∈ vs) : Ag vs σ (σ.set i x) := ⟨List.length_set, fun j hj => List.getElem?_set_ne fun e => hj (by rw [← e]; exact h)⟩
def PGx (K : Fg) (W : WX) (F H : Hp) (σ : St) (av : Nat → V) (fp : Nat → List Addr) (vs : List Nat) (Q : St → Hp → Prop) : R En (Fl × En) → Prop
  | .ok (.nx, δ') => ∀ σ' H' F' fp', EOk K F' H' σ' δ' av fp' → Ag vs σ σ' → Fm F H (Ow fp) F' H' (Ow fp') → Q σ' H'
  | .ok _ => False
  | .exc c ns xs δ' => PX K W F H av fp c ns xs δ'
  | .stk => False
theorem PGx.frame {vs : List Nat} {Q : St → Hp → Prop} {r : R En (Fl × En)} (h : PGx K W F H σ av fp vs Q r) (a : Ag vs σ σ') (g : Fm F H (Ow fp) F1 H1 (Ow fp1)) : PGx K W F1 H1 σ' av fp1 vs Q r := by
  match r, h with
  | .ok (.nx, δ'), h => exact fun σ' H' F' fp' E b m => h σ' H' F' fp' E (a.trans b) (g.trans m)
  | .ok (.bk, δ'), h => exact h
  | .ok (.ct, δ'), h => exact h
  | .ok (.rt s, δ'), h => exact h
  | .exc c ns xs δ', h => exact fun σ' H' F' fp' cls d E v m => h σ' H' F' fp' cls d E v (g.trans m)
  | .stk, h => exact h
def wpG (K : Fg) (W : WX) (vs : List Nat) (g : Gx) : TG := fun v σ H Q => ∃ F δ av fp x, EOk K F H σ δ av fp ∧ Rp K F v x ∧ PGx K W F H σ av fp vs Q (g x δ)
def wpGs (K : Fg) (W : WX) (vs : List Nat) (g : Gxs) : TGs := fun us σ H Q => ∃ F δ av fp xs, EOk K F H σ δ av fp ∧ RpL K F us xs ∧ PGx K W F H σ av fp vs Q (g xs δ)
theorem PG.wk {e : Expr} {t t' : TG} (h : PG X e t) (i : ∀ v σ H Q, t' v σ H Q → t v σ H Q) : PG X e t' := ⟨fun pins s σ H v u Q I r q => h.run pins s σ H v u Q I r (i v σ H Q q)⟩
theorem PGs.wk {e : List Expr} {t t' : TGs} (h : PGs X e t) (i : ∀ v σ H Q, t' v σ H Q → t v σ H Q) : PGs X e t' := ⟨fun pins s σ H v u Q I r q => h.run pins s σ H v u Q I r (i v σ H Q q)⟩
variable {vs : List Nat}
def gN (i : Nat) : Gx := fun x δ => stN i (.d x) δ
theorem g_name {i : Nat} {x : Str} {pos : Pos} (hN : X.N.Nodup) (hi : X.N[i]? = some x) (hx : Loc X.env.scope x) (hv : i ∈ vs := by decide) (hf : X.fn x = true ∨ X.env.scope.names.lookup x = some .local := by first | exact .inl rfl | exact .inr rfl | assumption) : PG X (.Name x pos) (wpG X.K W vs (gN i)) :=
  PG.wk (pg_name hN hi hx hf) fun v σ H Q ⟨F, δ, av, fp, x, E, r, h⟩ => by
    simp only [gN, stN] at h
    by_cases c : i < δ.length
    · rw [if_pos c] at h
      exact h _ H F _ (E.set c (At.of r) List.nodup_nil (fun a ha => by cases ha)) (Ag.set hv) (Fm.refl fun b hb => (ow_set hb).elim (fun z => by cases z) id)
    · rw [if_neg c] at h; exact h.elim
def gNil : Gxs := fun xs δ => match xs with
  | [] => .ok (.nx, δ)
  | _ => .stk
def gCons (g : Gx) (gs : Gxs) : Gxs := fun xs δ => match xs with
  | x :: r => (g x δ).bind (seqk (gs r))
  | [] => .stk
theorem g_nil : PGs X [] (wpGs X.K W vs gNil) := PGs.wk pgs_nil fun us σ H Q ⟨F, δ, av, fp, xs, E, r, h⟩ => by
  cases xs with
  | nil =>
    cases us with
    | nil => exact ⟨rfl, h σ H F fp E Ag.refl (Fm.refl fun _ z => z)⟩
    | cons _ _ => simp only [RpL] at r
  | cons _ _ => exact h.elim
theorem g_cons {e : Expr} {es : List Expr} {g : Gx} {gs : Gxs} (h1 : PG X e (wpG X.K W vs g)) (h2 : PGs X es (wpGs X.K W vs gs)) (ha : (assignEach (e :: es) X.env).map (·.2) = assign e X.env :: (assignEach es X.env).map (·.2) := by rfl) : PGs X (e :: es) (wpGs X.K W vs (gCons g gs)) := by
  refine PGs.wk (pgs_cons h1 h2 ha) fun us σ H Q ⟨F, δ, av, fp, xs, E, r, h⟩ => ?_
  cases xs with
  | nil => exact h.elim
  | cons x xs =>
    cases us with
    | nil => simp only [RpL] at r
    | cons v us =>
      simp only [RpL] at r
      refine ⟨v, us, rfl, F, δ, av, fp, x, E, r.1, ?_⟩
      simp only [gCons] at h
      revert h
      generalize g x δ = q
      intro h
      match q, h with
      | .ok (.nx, δ'), h => exact fun σ' H' F' fp' E' a m => ⟨F', δ', av, fp', xs, E', RpL.mono m.same _ _ r.2, PGx.frame h a m⟩
      | .ok (.bk, δ'), h => exact h
      | .ok (.ct, δ'), h => exact h
      | .ok (.rt s, δ'), h => exact h
      | .exc c ns xs δ', h => exact h
      | .stk, h => exact h
def gTup (n : Nat) (gs : Gxs) : Gx := fun x δ => match x with
  | .tup xs => if xs.length = n then gs xs δ else .stk
  | _ => .stk
theorem g_tup {es : List Expr} {k : Nat} {gs : Gxs} {n : Nat} {pos : Pos} (hc : X.calm = true) (h : PGs X es (wpGs X.K W vs gs)) (hn : (assignEach es X.env).length = n := by rfl) (hst : (assignEach es X.env).findIdx? (·.1) = none := by rfl) : PG X (.Tuple es k pos) (wpG X.K W vs (gTup n gs)) :=
  PG.wk (pg_tup hc h hn hst) fun v σ H Q ⟨F, δ, av, fp, x, E, r, h⟩ => by
    cases x with
    | tup xs =>
      simp only [gTup] at h
      by_cases c : xs.length = n
      · rw [if_pos c] at h
        simp only [Rp] at r
        obtain ⟨a, vs, r1, r2, r3⟩ := r
        exact ⟨a, vs, r1, sameT E.sub r2, r3.length.trans c, F, δ, av, fp, xs, E, r3, h⟩
      · rw [if_neg c] at h; exact h.elim
    | _ => exact h.elim
/-- target = e, e's value frozen -/
def sAsg (g : Gx) (c : Ex) : Sx := fun δ => (c δ).bind fun p => g p.1.fz p.2
/-- a store neither returns nor leaves a loop -/
def still1 : R En (Fl × En) → Prop
  | .ok (.nx, _) => True
  | .ok _ => False
  | _ => True
def Gx.still (g : Gx) : Prop := ∀ x δ, still1 (g x δ)
def Gxs.still (g : Gxs) : Prop := ∀ x δ, still1 (g x δ)
theorem PSx.toG {D : Ends} {r : R En (Fl × En)} (h : PSx K W F H av fp D r) (hs : still1 r) (σ : St) : PGx K W F H σ av fp vs D.nx r := by
  match r, h, hs with
  | .ok (.nx, δ'), h, _ => exact fun σ' H' F' fp' E _ m => h σ' H' F' fp' E m
  | .ok (.bk, δ'), h, hs => exact hs.elim
  | .ok (.ct, δ'), h, hs => exact hs.elim
  | .ok (.rt s, δ'), h, hs => exact hs.elim
  | .exc c ns xs δ', h, _ => exact h
  | .stk, h, _ => exact h
theorem s_asg {tg e : Expr} {c : Ex} {g : Gx} {pos : Pos} (he : PE X e (wpE X.K W c)) (hg : PG X tg (wpG X.K W vs g)) (st : g.still) (hs : swapsWithSole [tg] e pos.line X.env = pure false := by rfl) (hw : swappedStores [tg] e X.env = pure none := by rfl)
    (h1 : (assignEach [tg] X.env).map (·.2) = [assign tg X.env] := by rfl) : PS X (.Assign [tg] e pos) (wpS X.K W (sAsg g c)) :=
  PS.wk (ps_asg he hg hs hw h1) fun D σ H ⟨F, δ, av, fp, E, h⟩ => ⟨F, δ, av, fp, E, Po.imp (PSx.fz h σ) fun s δ' z v H' F' fp' f E' a n d m => by
    obtain ⟨F1, fp1, t, δ1, E1, r1, m1, q⟩ := z v H' F' fp' f E' a n d m
    exact ⟨F1, δ1, av, fp1, _, E1, r1, PSx.toG q (st _ _) σ⟩⟩
theorem st_name {i : Nat} : (gN i).still := fun x δ => by
  simp only [gN, stN]
  by_cases c : i < δ.length
  · rw [if_pos c]; trivial
  · rw [if_neg c]; trivial
theorem st_nil : gNil.still := fun x δ => by
  cases x <;> simp [gNil, still1]
theorem st_cons {g : Gx} {gs : Gxs} (h1 : g.still) (h2 : gs.still) : (gCons g gs).still := fun x δ => by
  cases x with
  | nil => simp [gCons, still1]
  | cons x xs =>
    have a := h1 x δ
    simp only [gCons]
    revert a
    generalize g x δ = r
    intro a
    match r, a with
    | .ok (.nx, δ'), _ => exact h2 xs δ'
    | .ok (.bk, δ'), a => exact a
    | .ok (.ct, δ'), a => exact a
    | .ok (.rt s, δ'), a => exact a
    | .exc c ns xs δ', _ => trivial
    | .stk, _ => trivial
theorem st_tup {n : Nat} {gs : Gxs} (h : gs.still) : (gTup n gs).still := fun x δ => by
  cases x with
  | tup xs =>
    simp only [gTup]
    by_cases c : xs.length = n
    · rw [if_pos c]; exact h xs δ
    · rw [if_neg c]; trivial
  | _ => simp [gTup, still1]
/-- a, b = x, y -/
def sPar (i j : Nat) (a : Ax) : Sx := fun δ => (a δ).bind fun p => match p.1 with
  | [x, y] => if i < p.2.length ∧ j < p.2.length then .ok (.nx, (p.2.set i (.loc (.d x))).set j (.loc (.d y))) else .stk
  | _ => .stk
theorem s_par {i j : Nat} {x y : Str} {a b : Expr} {ca : Ax} {px py pt : Pos} {kt k2 pt2} {pos : Pos} (hc : X.calm = true) (hN : X.N.Nodup) (hi : X.N[i]? = some x) (hj : X.N[j]? = some y) (hij : i ≠ j)
    (hx : X.env.scope.names.lookup x = some .local) (hy : X.env.scope.names.lookup y = some .local) (ha : PA X [a, b] (wpA X.K W ca))
    (hw : swappedStores [.Tuple [.Name x px, .Name y py] kt pt] (.Tuple [a, b] k2 pt2) X.env = pure (some [x, y]))
    (hs : swapsWithSole [.Tuple [.Name x px, .Name y py] kt pt] (.Tuple [a, b] k2 pt2) pos.line X.env = pure false := by rfl) :
    PS X (.Assign [.Tuple [.Name x px, .Name y py] kt pt] (.Tuple [a, b] k2 pt2) pos) (wpS X.K W (sPar i j ca)) := by
  refine PS.wk (ps_par hc hN hi hj hij hx hy ha hw hs) fun D σ H ⟨F, δ, av, fp, E, h⟩ => ⟨F, δ, av, fp, E, ?_⟩
  refine Po.imp (PSx.bind h σ) fun xs δ' z vs H1 F1 fp1 E1 r m => ?_
  have q := PSx.frame z.2 m
  match xs, q, r with
  | [x, y], q, r =>
    match vs, r with
    | [v, w], r =>
      simp only [RpL] at r
      dsimp only at q
      by_cases c : i < δ'.length ∧ j < δ'.length
      · rw [if_pos c] at q
        refine ⟨v, w, rfl, ?_⟩
        have E2 := E1.set c.1 (At.of r.1) List.nodup_nil (fun a ha => by cases ha)
        have E3 := E2.set (i := j) (by rw [List.length_set]; exact c.2) (At.of r.2.1) List.nodup_nil (fun a ha => by cases ha)
        refine PSx.nx q E3 (Fm.refl fun b hb => ?_)
        rcases ow_set hb with hb | hb
        · cases hb
        · rcases ow_set hb with hb | hb
          · cases hb
          · exact hb
      · rw [if_neg c] at q; exact q.elim
    | [], r => simp only [RpL] at r
    | [_], r => simp [RpL] at r
    | _ :: _ :: _ :: _, r => simp [RpL] at r
  | [], q, _ => exact q.elim
  | [_], q, _ => exact q.elim
  | _ :: _ :: _ :: _, q, _ => exact q.elim

/-! ### if, while -/
def sIf (t : Tx) (a b : Sx) : Sx := fun δ => (t δ).bind fun p => if p.1 = true then a p.2 else b p.2
theorem s_if {t : Expr} {a b : List Stmt} {ct : Tx} {ca cb : Sx} {pos : Pos} (ht : PT X t (wpT X.K W ct)) (ha : PSs X a (wpS X.K W ca)) (hb : PSs X b (wpS X.K W cb)) : PS X (.If t a b pos) (wpS X.K W (sIf ct ca cb)) :=
  PS.wk (ps_if ht ha hb) fun D σ H ⟨F, δ, av, fp, E, h⟩ => ⟨F, δ, av, fp, E, Po.imp (PSx.tst h σ) fun b δ' z H' F' fp' E' m => by
    obtain ⟨F1, δ1, fp1, E1, m1, q⟩ := z H' F' fp' E' m
    cases b with
    | true => exact ⟨F1, δ1, av, fp1, E1, q⟩
    | false => exact ⟨F1, δ1, av, fp1, E1, q⟩⟩
/-- a while of at most n turns -/
def whk (w : Sx) : Fl × En → R En (Fl × En)
  | (.nx, δ) => w δ
  | (.ct, δ) => w δ
  | (.bk, δ) => .ok (.nx, δ)
  | (.rt s, δ) => .ok (.rt s, δ)
def whileN (t : Tx) (b : Sx) : Nat → Sx
  | 0 => fun _ => .stk
  | n + 1 => fun δ => (t δ).bind fun p => if p.1 = true then (b p.2).bind (whk (whileN t b n)) else .ok (.nx, p.2)
theorem whileN_mono {t : Tx} {b : Sx} : ∀ {n : Nat} {δ : En}, whileN t b n δ ≠ .stk → ∀ m, n ≤ m → whileN t b m δ = whileN t b n δ
  | 0, δ, h, _, _ => absurd rfl h
  | n + 1, δ, h, 0, hm => absurd hm (by omega)
  | n + 1, δ, h, m + 1, hm => by
    simp only [whileN] at h ⊢
    cases e : t δ with
    | ok p =>
      obtain ⟨c, δ1⟩ := p
      rw [e] at h
      simp only [R.bind] at h ⊢
      cases c with
      | false => rfl
      | true =>
        simp only [if_true] at h ⊢
        cases e2 : b δ1 with
        | ok q =>
          obtain ⟨fl, δ2⟩ := q
          rw [e2] at h
          cases fl with
          | nx =>
            simp only [whk] at h ⊢
            exact whileN_mono h m (by omega)
          | ct =>
            simp only [whk] at h ⊢
            exact whileN_mono h m (by omega)
          | bk => rfl
          | rt s => rfl
        | exc _ _ _ _ => rfl
        | stk => rfl
    | exc _ _ _ _ => rfl
    | stk => rfl
open Classical in
/-- the while's outcome: the one that some number of turns gives -/
noncomputable def sWh (t : Tx) (b : Sx) : Sx := fun δ => if h : ∃ n, whileN t b n δ ≠ .stk then whileN t b (Classical.choose h) δ else .stk
theorem sWh_of {t : Tx} {b : Sx} {δ : En} {n : Nat} {r : R En (Fl × En)} (h : whileN t b n δ = r) (hr : r ≠ .stk) : sWh t b δ = r := by
  have ex : ∃ n, whileN t b n δ ≠ .stk := ⟨n, by rw [h]; exact hr⟩
  unfold sWh
  rw [dif_pos ex]
  have h1 := Classical.choose_spec ex
  have a := whileN_mono h1 (max n (Classical.choose ex)) (Nat.le_max_right _ _)
  have b' := whileN_mono (show whileN t b n δ ≠ .stk by rw [h]; exact hr) (max n (Classical.choose ex)) (Nat.le_max_left _ _)
  rw [← a, b', h]
theorem sWh_done {t : Tx} {b : Sx} {δ δ1 : En} (h : t δ = .ok (false, δ1)) : sWh t b δ = .ok (.nx, δ1) := sWh_of (n := 1) (by simp [whileN, h, R.bind]) (by simp)
theorem sWh_get {t : Tx} {b : Sx} {δ : En} (h : sWh t b δ ≠ .stk) : ∃ n, whileN t b n δ = sWh t b δ := by
  unfold sWh at h ⊢
  by_cases ex : ∃ n, whileN t b n δ ≠ .stk
  · rw [dif_pos ex]; exact ⟨_, rfl⟩
  · rw [dif_neg ex] at h; exact absurd rfl h
theorem sWh_step {t : Tx} {b : Sx} {δ δ1 δ2 : En} {r : R En (Fl × En)} (h : t δ = .ok (true, δ1)) (h2 : b δ1 = .ok (.nx, δ2)) (h3 : sWh t b δ2 = r) (hr : r ≠ .stk) : sWh t b δ = r := by
  obtain ⟨n, hn⟩ := sWh_get (t := t) (b := b) (δ := δ2) (by rw [h3]; exact hr)
  exact sWh_of (n := n + 1) (by simp [whileN, h, h2, hn, h3, R.bind, whk]) hr
theorem s_while {t : Expr} {body : List Stmt} {ct : Tx} {cb : Sx} {pos : Pos} (hp : PassesOwn (model X.prog X.w) X.A X.env X.xe) (ht : PT X t (wpT X.K W ct)) (hb : PSs X body (wpS X.K W cb)) : PS X (.While t body [] pos) (wpS X.K W (sWh ct cb)) := by
  refine PS.wk (ps_while hp ht hb) fun D σ H ⟨F, δ, av, fp, E, h⟩ => ?_
  obtain ⟨n, hn⟩ := sWh_get (t := ct) (b := cb) (δ := δ) (fun z => by rw [z] at h; exact h)
  rw [← hn] at h
  refine ⟨fun m σ H => ∃ F δ av fp, EOk X.K F H σ δ av fp ∧ PSx X.K W F H av fp D (whileN ct cb m δ), ⟨n, F, δ, av, fp, E, h⟩, ?_⟩
  rintro m σ H ⟨F, δ, av, fp, E, h⟩
  cases m with
  | zero => exact h.elim
  | succ m =>
    simp only [whileN] at h
    refine ⟨F, δ, av, fp, E, Po.imp (PSx.tst h σ) fun b δ' z H' F' fp' E' mm => ?_⟩
    obtain ⟨F1, δ1, fp1, E1, m1, q⟩ := z H' F' fp' E' mm
    cases b with
    | false => exact PSx.here q E1
    | true =>
      refine ⟨fun σ H => ∃ F δ av fp, EOk X.K F H σ δ av fp ∧ PSx X.K W F H av fp D (whileN ct cb m δ), fun σ' H' w => ⟨m, Nat.lt_succ_self m, w⟩, F1, δ1, av, fp1, E1, ?_⟩
      dsimp only at q
      rw [if_pos rfl] at q
      revert q
      generalize cb δ1 = r
      intro q
      match r, q with
      | .ok (.nx, δ'), q => exact fun σ' H' F' fp' E' m => ⟨F', δ', av, fp', E', PSx.frame q m⟩
      | .ok (.ct, δ'), q => exact fun σ' H' F' fp' E' m => ⟨F', δ', av, fp', E', PSx.frame q m⟩
      | .ok (.bk, δ'), q => exact q
      | .ok (.rt s, δ'), q => exact q
      | .exc c ns xs δ', q => exact q
      | .stk, q => exact q.elim

/-! ### for -/
/-- J walks through what ds say -/
def Walks (K : Fg) (J : It) (F : Hp) (ds : List D) : Prop := ∀ G H, Same F G → Same G H →
  (∀ i, i < ds.length → J.go i H ∧ ∀ x H', J.yld i H x H' → ∃ G' d, ds[i]? = some d ∧ Same G' H' ∧ Rp K G' x d ∧ ∀ A : Addr → Prop, Fm G H A G' H' A) ∧ J.stop ds.length H
def QI (K : Fg) (F H : Hp) (σ : St) (av : Nat → V) (fp : Nat → List Addr) (R : It → Hp → Prop) : List D → En → Prop :=
  fun ds δ' => ∀ J H' F' fp', EOk K F' H' σ δ' av fp' → Fm F H (Ow fp) F' H' (Ow fp') → Walks K J F' ds → R J H'
def wpI (K : Fg) (W : WX) (c : Ax) : TI := fun σ H R => ∃ F δ av fp, EOk K F H σ δ av fp ∧ Po K W F H σ av fp (QI K F H σ av fp R) (c δ)
theorem PI.wk {tg e : Expr} {t t' : TI} (h : PI X tg e t) (i : ∀ σ H Q, t' σ H Q → t σ H Q) : PI X tg e t' := ⟨fun pins s σ H Q I q => h.run pins s σ H Q I (i σ H Q q)⟩
theorem Walks.frame {J : It} {ds : List D} (w : Walks K J F ds) (e : Same F F') : Walks K J F' ds := fun G H h1 h2 => w G H (e.trans h1) h2
def forL (g : Gx) (b : Sx) : List D → Sx
  | [] => fun δ => .ok (.nx, δ)
  | x :: xs => fun δ => (g x δ).bind (seqk fun δ1 => (b δ1).bind (whk (forL g b xs)))
def sFor (g : Gx) (b : Sx) (c : Ax) : Sx := fun δ => (c δ).bind fun p => forL g b p.1 p.2
theorem s_for {tg it : Expr} {body : List Stmt} {ci : Ax} {g : Gx} {cb : Sx} {pos : Pos} (hp : PassesOwn (model X.prog X.w) X.A X.env X.xe) (hc : X.calm = true) (hi : PI X tg it (wpI X.K W ci)) (hg : PG X tg (wpG X.K W vs g)) (st : g.still) (hb : PSs X body (wpS X.K W cb))
    (hs : ∀ x, foldedSetIterable it X.env x = pure x := by intro _; rfl) : PS X (.For tg it body [] pos) (wpS X.K W (sFor g cb ci)) := by
  refine PS.wk (ps_for hp hc hi hg hb hs) fun D σ H ⟨F, δ, av, fp, E, h⟩ => ⟨F, δ, av, fp, E, Po.imp (PSx.bind h σ) fun ds δ1 z J H1 F1 fp1 E1 m1 wk => ?_⟩
  refine ⟨fun i m σ H => ∃ F δ fp, EOk X.K F H σ δ av fp ∧ Same F1 F ∧ i + m = ds.length ∧ PSx X.K W F H av fp D (forL g cb (ds.drop i) δ), ⟨ds.length, F1, δ1, fp1, E1, Same.refl _, by omega, ?_⟩, ?_⟩
  · simpa using PSx.frame z.2 m1
  · rintro i m σ H ⟨F, δ, fp, E, sm, hm, h⟩
    obtain ⟨w1, w2⟩ := wk F H sm E.sub
    by_cases hi : i < ds.length
    · refine .inr ⟨(w1 i hi).1, fun σ H => ∃ F δ fp, EOk X.K F H σ δ av fp ∧ Same F1 F ∧ (i + 1) + (m - 1) = ds.length ∧ PSx X.K W F H av fp D (forL g cb (ds.drop (i + 1)) δ), fun σ' H' w => ⟨m - 1, by omega, w⟩, fun x H' hy => ?_⟩
      obtain ⟨G', d, hd, sG, rx, fm⟩ := (w1 i hi).2 x H' hy
      have ed : ds.drop i = d :: ds.drop (i + 1) := by
        rw [List.drop_eq_getElem_cons hi]
        rw [List.getElem?_eq_getElem hi] at hd
        rw [Option.some.inj hd]
      rw [ed] at h
      have E2 := E.across (fm fun _ => False) (fun _ _ _ z => z) sG
      have h2 : PSx X.K W G' H' av fp D (forL g cb (d :: ds.drop (i + 1)) δ) := PSx.frame h (fm _)
      refine ⟨G', δ, av, fp, d, E2, rx, ?_⟩
      simp only [forL] at h2
      have hst := st d δ
      revert h2 hst
      generalize g d δ = r
      intro h2 hst
      match r, h2, hst with
      | .ok (.nx, δ'), h2, _ =>
        intro σ2 H2 F2 fp2 E2 _ m2
        refine ⟨F2, δ', av, fp2, E2, ?_⟩
        have h3 := PSx.frame h2 m2
        have sm2 : Same F1 F2 := (sm.trans (fm fun _ => False).same).trans m2.same
        have h3 : PSx X.K W F2 H2 av fp2 D ((cb δ').bind (whk (forL g cb (ds.drop (i + 1))))) := h3
        revert h3
        generalize cb δ' = r2
        intro h3
        match r2, h3 with
        | .ok (.nx, δ'), q => exact fun σ' H' F' fp' E' m => ⟨F', δ', fp', E', sm2.trans m.same, by omega, PSx.frame q m⟩
        | .ok (.ct, δ'), q => exact fun σ' H' F' fp' E' m => ⟨F', δ', fp', E', sm2.trans m.same, by omega, PSx.frame q m⟩
        | .ok (.bk, δ'), q => exact q
        | .ok (.rt s, δ'), q => exact q
        | .exc c ns xs δ', q => exact q
        | .stk, q => exact q.elim
      | .exc c ns xs δ', h2, _ => exact h2
      | .stk, h2, _ => exact h2.elim
      | .ok (.bk, _), _, hst => exact hst.elim
      | .ok (.ct, _), _, hst => exact hst.elim
      | .ok (.rt _, _), _, hst => exact hst.elim
    · have e0 : i = ds.length := by omega
      subst e0
      refine .inl ⟨w2, ?_⟩
      rw [List.drop_length] at h
      simp only [forL] at h
      exact PSx.here h E
end
end Fx
/-! Fx6: what is walked; list comprehensions. -/
namespace Fx
open PySem PySem.Spec PyProof.Rows L2
section
variable {X : Cx} {K : Fg} {W : WX} {F H F' H' F1 H1 : Hp} {σ σ' : St} {δ δ' δ1 : En} {av : Nat → V} {fp fp' fp1 : Nat → List Addr} {vs : List Nat}
/-! ### what is walked -/
theorem goI {Rk : It → Hp → Prop} {r : R En (Sl × En)} {f : Sl × En → R En (List D × En)} (h : Po K W F H σ av fp (QI K F H σ av fp Rk) (r.bind f)) :
    PEx K W F H σ av fp (fun v H1 => ∃ F1 fp1 s δ1, EOk K F1 H1 σ δ1 av fp1 ∧ Rp K F1 v s.fz ∧ Fm F H (Ow fp) F1 H1 (Ow fp1) ∧ Po K W F1 H1 σ av fp1 (QI K F1 H1 σ av fp1 Rk) (f (s, δ1))) r :=
  Po.fz (P := fun F1 H1 fp1 s δ1 => Po K W F1 H1 σ av fp1 (QI K F1 H1 σ av fp1 Rk) (f (s, δ1))) (Po.imp (Po.bind h) fun s δ' z F1 H1 fp1 m => Po.frame z.2 m fun a δ' z J H' F' fp' E' m' w => z J H' F' fp' E' (m.trans m') w)
theorem goIA {Rk : It → Hp → Prop} {r : R En (List D × En)} {f : List D × En → R En (List D × En)} (h : Po K W F H σ av fp (QI K F H σ av fp Rk) (r.bind f)) :
    PAx K W F H σ av fp (fun us H1 => ∃ F1 δ1 fp1 xs, EOk K F1 H1 σ δ1 av fp1 ∧ RpL K F1 us xs ∧ Fm F H (Ow fp) F1 H1 (Ow fp1) ∧ Po K W F1 H1 σ av fp1 (QI K F1 H1 σ av fp1 Rk) (f (xs, δ1))) r :=
  Po.imp (Po.bind h) fun xs δ' z us H' F' fp' E' r' m => ⟨F', δ', fp', xs, E', r', m, Po.frame z.2 m fun a δ' z J H' F' fp' E' m' w => z J H' F' fp' E' (m.trans m') w⟩
theorem walks_list {a : Addr} {us : List V} {xs : List D} (h : SqL K F a us) (r : RpL K F us xs) : Walks K (Itl K a) F xs := fun G H e1 e2 => by
  have hG : SqL K H a us := (e1.trans e2).seq h
  refine ⟨fun i hi => ?_, ⟨us, hG, by rw [r.length]; exact Nat.le_refl _⟩⟩
  obtain ⟨v, hv, rv⟩ := r.get (List.getElem?_eq_getElem hi)
  refine ⟨⟨us, v, hG, hv⟩, fun x H' ⟨eH, hx⟩ => ?_⟩
  subst eH
  have := hx us hG
  rw [hv] at this
  cases this
  exact ⟨G, _, List.getElem?_eq_getElem hi, e2, Rp.mono e1 _ _ rv, fun A => Fm.refl fun _ z => z⟩
theorem walks_tup {a : Addr} {us : List V} {xs : List D} (h : SqT K F a us) (r : RpL K F us xs) : Walks K (Itt K a) F xs := fun G H e1 e2 => by
  have hG : SqT K H a us := sameT (e1.trans e2) h
  refine ⟨fun i hi => ?_, ⟨us, hG, by rw [r.length]; exact Nat.le_refl _⟩⟩
  obtain ⟨v, hv, rv⟩ := r.get (List.getElem?_eq_getElem hi)
  refine ⟨⟨us, v, hG, hv⟩, fun x H' ⟨eH, hx⟩ => ?_⟩
  subst eH
  have := hx us hG
  rw [hv] at this
  cases this
  exact ⟨G, _, List.getElem?_eq_getElem hi, e2, Rp.mono e1 _ _ rv, fun A => Fm.refl fun _ z => z⟩
theorem pi_seq {tg l : Expr} {tl : TE} (hl : PE X l tl) : PI X tg l (fun σ H R => tl σ H fun x H1 => ∃ a, x = .ref a ∧ (((∃ xs, SqL X.K H1 a xs) ∧ R (Itl X.K a) H1) ∨ ((∃ xs, SqT X.K H1 a xs) ∧ R (Itt X.K a) H1))) := by
  refine ⟨fun pins s σ H R I h => ?_⟩
  refine thn (hl.run pins s σ H _ I h) fun v s1 ⟨x, H1, I1, r1, q1⟩ => ?_
  obtain ⟨a, e, q⟩ := q1
  subst e
  cases r1
  rcases q with ⟨⟨xs, hq⟩, q⟩ | ⟨⟨xs, hq⟩, q⟩
  · obtain ⟨its, rv, p, hz⟩ := I1.list hq
    refine wpAny_pyIter_list p.isList ?_
    refine ⟨s1.heap.objs.size, [s1.heap.objs.size], _, _, H1, rfl, I1.kept (t' := s1.toks) fun b o e => Heap.get?_push_of_some _ e, turn_list a _, ⟨_, Heap.get?_push_size _ rfl, rfl, rfl⟩, fun b hb => ?_, q⟩
    have e : b = s1.heap.objs.size := by simpa using hb
    subst e
    exact I1.fpOk (Nat.le_refl _) (I1.hok.fresh (Nat.le_refl _))
  · obtain ⟨its, rv, p, hz⟩ := I1.tuple hq
    refine wpAny_pyIter_tuple (show s1.heap.IsTuple a its.toArray from p) ?_
    refine ⟨s1.heap.objs.size, [s1.heap.objs.size], _, _, H1, rfl, I1.kept (t' := s1.toks) fun b o e => Heap.get?_push_of_some _ e, turn_tuple a _, ⟨_, Heap.get?_push_size _ rfl, rfl, rfl⟩, fun b hb => ?_, q⟩
    have e : b = s1.heap.objs.size := by simpa using hb
    subst e
    exact I1.fpOk (Nat.le_refl _) (I1.hok.fresh (Nat.le_refl _))
/-- a list or a tuple -/
def mIt : Sl × En → R En (List D × En)
  | (s, δ) => match s.fz with
    | .lst xs => .ok (xs, δ)
    | .tup xs => .ok (xs, δ)
    | .rl xs => .ok (xs, δ)
    | _ => .stk
def iSeq (c : Ex) : Ax := fun δ => (c δ).bind mIt
theorem i_seq {tg e : Expr} {c : Ex} (he : PE X e (wpE X.K W c)) : PI X tg e (wpI X.K W (iSeq c)) :=
  PI.wk (pi_seq he) fun σ H R ⟨F, δ, av, fp, E, h⟩ => ⟨F, δ, av, fp, E, Po.imp (goI h) fun s δ' z v H' F' fp' f E' a n d m => by
    obtain ⟨F1, fp1, t, δ1, E1, r1, m1, q⟩ := z v H' F' fp' f E' a n d m
    simp only [mIt] at q
    revert r1 q
    generalize t.fz = y
    intro r1 q
    cases y with
    | lst xs =>
      simp only [Rp] at r1
      obtain ⟨a, us, e, h1, h2⟩ := r1
      exact ⟨a, e, .inl ⟨⟨us, SqL.of (E1.sub _ _ h1)⟩, q _ _ F1 fp1 E1 (Fm.refl fun _ z => z) (walks_list (SqL.of h1) h2)⟩⟩
    | rl xs =>
      simp only [Rp] at r1
      obtain ⟨a, us, e, h1, h2⟩ := r1
      exact ⟨a, e, .inl ⟨⟨us, E1.sub.seq h1⟩, q _ _ F1 fp1 E1 (Fm.refl fun _ z => z) (walks_list h1 h2)⟩⟩
    | tup xs =>
      simp only [Rp] at r1
      obtain ⟨a, us, e, h1, h2⟩ := r1
      exact ⟨a, e, .inr ⟨⟨us, sameT E1.sub h1⟩, q _ _ F1 fp1 E1 (Fm.refl fun _ z => z) (walks_tup h1 h2)⟩⟩
    | _ => exact q.elim⟩
/-- range(n), range(a, b) -/
@[simp] def rng (lo : Int) (n : Nat) : List D := (List.range n).map fun k => D.int (lo + (k : Nat))
@[simp] def asI : D → Option Int
  | .int i => some i
  | _ => none
theorem asI_ok {d : D} {i : Int} (h : asI d = some i) : d = .int i := by
  cases d <;> simp [asI] at h
  rw [h]
def mRng : List D × En → R En (List D × En)
  | ([x], δ) => (match asI x with
    | some n => if -4611686018427387904 ≤ n ∧ n < 4611686018427387904 then .ok (rng 0 n.toNat, δ) else .stk
    | none => .stk)
  | _ => .stk
def mRng2 : List D × En → R En (List D × En)
  | ([x, y], δ) => (match asI x, asI y with
    | some a, some b => if -4611686018427387904 ≤ a ∧ a < 4611686018427387904 ∧ -4611686018427387904 ≤ b ∧ b < 4611686018427387904 then .ok (rng a (b - a).toNat, δ) else .stk
    | _, _ => .stk)
  | _ => .stk
def iRng (a : Ax) : Ax := fun δ => (a δ).bind mRng
def iRng2 (a : Ax) : Ax := fun δ => (a δ).bind mRng2
theorem walks_rng {lo : Int} {n : Nat} : Walks K (Itr lo n) F (rng lo n) := fun G H e1 e2 => by
  refine ⟨fun i hi => ?_, by show n ≤ (rng lo n).length; simp [rng]⟩
  have hi' : i < n := by simpa [rng] using hi
  refine ⟨hi', fun x H' ⟨eH, hx⟩ => ?_⟩
  subst eH hx
  exact ⟨G, .int (lo + (i : Nat)), by simp [rng, hi'], e2, by simp only [Rp], fun A => Fm.refl fun _ z => z⟩
theorem i_rng1 {tg a : Expr} {ca : Ax} {p pos : Pos} (hg : Gl X "range") (hm : X.mg "range" = none) (ha : PA X [a] (wpA X.K W ca)) (hs : starEach [a] X.env = [(false, eval a X.env)] := by rfl) : PI X tg (.Call (.Name "range" p) [a] [] pos) (wpI X.K W (iRng ca)) :=
  PI.wk (pi_range1 hg hm ha hs) fun σ H R ⟨F, δ, av, fp, E, h⟩ => ⟨F, δ, av, fp, E, Po.imp (goIA h) fun xs δ' z us H' F' fp' E' r' m => by
    obtain ⟨F1, δ1, fp1, ys, E1, r1, m1, q⟩ := z us H' F' fp' E' r' m
    match ys, us, r1, q with
    | [x], [u], r1, q =>
      simp only [mRng] at q
      cases hx : asI x with
      | none => rw [hx] at q; exact q.elim
      | some n =>
        rw [hx] at q
        rw [asI_ok hx] at r1
        simp only [RpL, Rp] at r1
        by_cases c : -4611686018427387904 ≤ n ∧ n < 4611686018427387904
        · simp only [if_pos c] at q
          exact ⟨n, by rw [r1.1], c.1, c.2, q _ _ F1 fp1 E1 (Fm.refl fun _ z => z) walks_rng⟩
        · simp only [if_neg c] at q; exact q.elim
    | [_], [], r1, _ => simp [RpL] at r1
    | [_], _ :: _ :: _, r1, _ => simp [RpL] at r1
    | [], _, _, q => exact q.elim
    | _ :: _ :: _, _, _, q => exact q.elim⟩
theorem i_rng2 {tg a b : Expr} {ca : Ax} {p pos : Pos} (hg : Gl X "range") (hm : X.mg "range" = none) (ha : PA X [a, b] (wpA X.K W ca)) (hs : starEach [a, b] X.env = [(false, eval a X.env), (false, eval b X.env)] := by rfl) (hs2 : starEach [b] X.env = [(false, eval b X.env)] := by rfl) : PI X tg (.Call (.Name "range" p) [a, b] [] pos) (wpI X.K W (iRng2 ca)) :=
  PI.wk (pi_range2 hg hm ha hs hs2) fun σ H Rk ⟨F, δ, av, fp, E, h⟩ => ⟨F, δ, av, fp, E, Po.imp (goIA h) fun xs δ' z us H' F' fp' E' r' m => by
    obtain ⟨F1, δ1, fp1, ys, E1, r1, m1, q⟩ := z us H' F' fp' E' r' m
    match ys, us, r1, q with
    | [x, y], [u, v], r1, q =>
      simp only [mRng2] at q
      cases hx : asI x with
      | none => rw [hx] at q; exact q.elim
      | some i =>
        cases hy : asI y with
        | none => rw [hx, hy] at q; exact q.elim
        | some j =>
          rw [hx, hy] at q
          rw [asI_ok hx, asI_ok hy] at r1
          simp only [RpL, Rp] at r1
          by_cases c : -4611686018427387904 ≤ i ∧ i < 4611686018427387904 ∧ -4611686018427387904 ≤ j ∧ j < 4611686018427387904
          · simp only [if_pos c] at q
            exact ⟨i, j, by rw [r1.1, r1.2.1], ⟨c.1, c.2.1, c.2.2.1, c.2.2.2⟩, q _ _ F1 fp1 E1 (Fm.refl fun _ z => z) walks_rng⟩
          · simp only [if_neg c] at q; exact q.elim
    | [_, _], [], r1, _ => simp [RpL] at r1
    | [_, _], [_], r1, _ => simp [RpL] at r1
    | [_, _], _ :: _ :: _ :: _, r1, _ => simp [RpL] at r1
    | [], _, _, q => exact q.elim
    | [_], _, _, q => exact q.elim
    | _ :: _ :: _ :: _, _, _, q => exact q.elim⟩
/-- enumerate(xs), xs a list -/
@[simp] def enuF : Nat → List D → List D
  | _, [] => []
  | k, x :: xs => .tup [.int (k : Nat), x] :: enuF (k + 1) xs
abbrev enu (xs : List D) : List D := enuF 0 xs
theorem enuF_get : ∀ {xs : List D} {k i : Nat} {x : D}, xs[i]? = some x → (enuF k xs)[i]? = some (D.tup [.int ((k + i : Nat) : Int), x])
  | y :: xs, k, 0, x, h => by simp at h; subst h; simp
  | y :: xs, k, i + 1, x, h => by
    have := enuF_get (k := k + 1) (i := i) (x := x) (xs := xs) (by simpa using h)
    simp only [enuF, List.getElem?_cons_succ, this]
    simp only [Option.some.injEq, D.tup.injEq, List.cons.injEq, D.int.injEq, and_true]
    omega
  | [], _, _, _, h => by simp at h
theorem enu_get {xs : List D} {i : Nat} {x : D} (h : xs[i]? = some x) : (enu xs)[i]? = some (D.tup [.int (i : Nat), x]) := by
  have := enuF_get (k := 0) h
  simpa using this
theorem enuF_length : ∀ {xs : List D} {k : Nat}, (enuF k xs).length = xs.length
  | [], _ => rfl
  | _ :: xs, k => by simp only [enuF, List.length_cons, enuF_length]
theorem enu_length {xs : List D} : (enu xs).length = xs.length := enuF_length
/-- a new tuple is yielded -/
theorem yield_tup {G : Hp} {T : Addr} {us : List V} {ds : List D} (e : Same G H) (hT : H T = none) (r : RpL K G us ds) :
    ∃ G', Same G' (upd H T (.tup us)) ∧ Rp K G' (.ref T) (.tup ds) ∧ ∀ A : Addr → Prop, Fm G H A G' (upd H T (.tup us)) A := by
  have hG : G T = none := by
    cases q : G T with
    | none => rfl
    | some o => rw [e T o q] at hT; cases hT
  refine ⟨upd G T (.tup us), fun b u q => ?_, ?_, fun A => Fm.lay hT hG⟩
  · by_cases hb : b = T
    · subst hb; rw [upd_same] at q ⊢; exact q
    · rw [upd_ne hb] at q ⊢; exact e b u q
  · simp only [Rp]
    exact ⟨T, us, rfl, SqT.of upd_same, RpL.mono (Same.newF hG) _ _ r⟩
theorem walks_enum {a : Addr} {us : List V} {xs : List D} (h : SqL K F a us) (r : RpL K F us xs) : Walks K (Ite K a) F (enu xs) := fun G H e1 e2 => by
  have hG : SqL K H a us := (e1.trans e2).seq h
  refine ⟨fun i hi => ?_, ⟨us, hG, by rw [r.length, enu_length]; exact Nat.le_refl _⟩⟩
  rw [enu_length] at hi
  obtain ⟨v, hv, rv⟩ := r.get (List.getElem?_eq_getElem hi)
  refine ⟨⟨us, v, hG, hv⟩, fun x H' ⟨T, y, ex, hT, eH, hx⟩ => ?_⟩
  subst ex eH
  have := hx us hG
  rw [hv] at this
  cases this
  obtain ⟨G', g1, g2, g3⟩ := yield_tup (us := [.int (i : Nat), v]) (ds := [.int (i : Nat), xs[i]]) e2 hT (RpL.cons (by simp only [Rp]) (RpL.cons (Rp.mono e1 _ _ rv) RpL.nil))
  exact ⟨G', _, enu_get (List.getElem?_eq_getElem hi), g1, g2, g3⟩
/-- zip(xs, ys): two lists, or two tuples -/
@[simp] def zp : List D → List D → List D
  | x :: xs, y :: ys => .tup [x, y] :: zp xs ys
  | _, _ => []
theorem zp_length : ∀ {xs ys : List D}, (zp xs ys).length = min xs.length ys.length
  | x :: xs, y :: ys => by simp only [zp, List.length_cons, zp_length]; omega
  | [], _ => by simp
  | _ :: _, [] => by simp
theorem zp_get : ∀ {xs ys : List D} {i : Nat} {x y : D}, xs[i]? = some x → ys[i]? = some y → (zp xs ys)[i]? = some (.tup [x, y])
  | x :: xs, y :: ys, 0, _, _, h1, h2 => by simp at h1 h2; subst h1 h2; simp
  | x :: xs, y :: ys, i + 1, _, _, h1, h2 => by simp only [zp]; simpa using zp_get (i := i) (by simpa using h1) (by simpa using h2)
  | [], _, _, _, _, h1, _ => by simp at h1
  | _ :: _, [], _, _, _, _, h2 => by simp at h2
theorem walks_zip {a b : Addr} {us ws : List V} {xs ys : List D} (h : SqL K F a us) (r : RpL K F us xs) (h2 : SqL K F b ws) (r2 : RpL K F ws ys) : Walks K (Itz K a b) F (zp xs ys) := fun G H e1 e2 => by
  have hG : SqL K H a us := (e1.trans e2).seq h
  have hG2 : SqL K H b ws := (e1.trans e2).seq h2
  have l1 := r.length
  have l2 := r2.length
  refine ⟨fun i hi => ?_, ⟨us, ws, hG, hG2, by rw [zp_length]; omega⟩⟩
  rw [zp_length] at hi
  have hi1 : i < xs.length := by omega
  have hi2 : i < ys.length := by omega
  obtain ⟨v, hv, rv⟩ := r.get (List.getElem?_eq_getElem hi1)
  obtain ⟨w, hw, rw'⟩ := r2.get (List.getElem?_eq_getElem hi2)
  refine ⟨⟨us, ws, v, w, hG, hG2, hv, hw⟩, fun x H' ⟨T, y, z, ex, hT, eH, hx, hz⟩ => ?_⟩
  subst ex eH
  have t1 := hx us hG
  rw [hv] at t1
  cases t1
  have t2 := hz ws hG2
  rw [hw] at t2
  cases t2
  obtain ⟨G', g1, g2, g3⟩ := yield_tup (ds := [xs[i], ys[i]]) e2 hT (RpL.cons (Rp.mono e1 _ _ rv) (RpL.cons (Rp.mono e1 _ _ rw') RpL.nil))
  exact ⟨G', _, zp_get (List.getElem?_eq_getElem hi1) (List.getElem?_eq_getElem hi2), g1, g2, g3⟩

/-! ### list comprehensions -/
/-- nothing may be raised within -/
def nox {α : Type} : R En α → R En α
  | .ok a => .ok a
  | _ => .stk
abbrev W0 : WX := fun _ _ _ _ => False
@[simp] def wipeN : List Nat → En → En
  | [], δ => δ
  | v :: vs, δ => (wipeN vs δ).set v .no
def lcL (vs : List Nat) (g : Gx) (t : Tx) (e : Ex) : List D → List D → En → R En (List D × En)
  | [], acc, δ => .ok (acc, δ)
  | x :: xs, acc, δ => (g x δ).bind fun p => match p.1 with
    | .nx => (t p.2).bind fun q => if q.1 = true then (e q.2).bind fun r => if acc.length < 16777216 then lcL vs g t e xs (acc ++ [r.1.fz]) (wipeN vs r.2) else .stk else lcL vs g t e xs acc (wipeN vs q.2)
    | _ => .stk
def cLc (vs : List Nat) (g : Gx) (t : Tx) (e : Ex) (c : Ax) : Ex := fun δ => (c δ).bind fun p => (nox (lcL vs g t e p.1 [] (wipeN vs p.2))).bind fun q => .ok (.lst (q.1.map .d), wipeN vs q.2)
def tYs : Tx := fun δ => .ok (true, δ)
theorem wipeN_length : ∀ {vs : List Nat}, (wipeN vs δ).length = δ.length
  | [] => rfl
  | v :: vs => by simp only [wipeN, List.length_set]; exact wipeN_length
theorem wipeN_get : ∀ {vs : List Nat} {i : Nat} {x : Slot}, (wipeN vs δ)[i]? = some x → (x = .no ∨ (i ∉ vs ∧ δ[i]? = some x))
  | [], i, x, h => .inr ⟨by simp, h⟩
  | v :: vs, i, x, h => by
    simp only [wipeN] at h
    by_cases e : v = i
    · subst e
      have hl := (List.getElem?_eq_some_iff.mp h).1
      rw [List.length_set] at hl
      rw [List.getElem?_set_self hl] at h
      cases h
      exact .inl rfl
    · rw [List.getElem?_set_ne e] at h
      rcases wipeN_get h with q | ⟨q1, q2⟩
      · exact .inl q
      · exact .inr ⟨by simp [q1, Ne.symm e], q2⟩
theorem wipe_get : ∀ {vs : List Nat} {i : Nat}, i ∉ vs → (wipe σ vs)[i]? = σ[i]?
  | [], i, _ => rfl
  | v :: vs, i, h => by
    unfold wipe
    rw [List.getElem?_set_ne (fun e => h (by rw [e]; exact List.mem_cons_self)), wipe_get fun z => h (List.mem_cons_of_mem _ z)]
theorem EOk.wipe (E : EOk K F H σ δ av fp) : EOk K F H (wipe σ vs) (wipeN vs δ) av fp where
  sub := E.sub
  len := by rw [wipe_length, wipeN_length, E.len]
  at_ := fun i x s h1 h2 => by
    rcases wipeN_get h1 with q | ⟨q1, q2⟩
    · subst q; cases h2
    · rw [wipe_get q1]; exact E.at_ i x s q2 h2
  par := fun i s h1 => by
    rcases wipeN_get h1 with q | ⟨q1, q2⟩
    · cases q
    · rw [wipe_get q1]; exact E.par i s q2
  nod := E.nod
  dis := E.dis
  out := E.out
theorem EOk.unwipe (E : EOk K F H (L2.wipe σ vs) δ av fp) : EOk K F H σ (wipeN vs δ) av fp where
  sub := E.sub
  len := by rw [wipeN_length, ← E.len, wipe_length]
  at_ := fun i x s h1 h2 => by
    rcases wipeN_get h1 with q | ⟨q1, q2⟩
    · subst q; cases h2
    · rw [← wipe_get (σ := σ) q1]; exact E.at_ i x s q2 h2
  par := fun i s h1 => by
    rcases wipeN_get h1 with q | ⟨q1, q2⟩
    · cases q
    · rw [← wipe_get (σ := σ) q1]; exact E.par i s q2
  nod := E.nod
  dis := E.dis
  out := E.out
theorem wipe_of {σ' : St} : ∀ {vs : List Nat}, σ'.length = σ.length → (∀ i, i ∉ vs → σ'[i]? = σ[i]?) → wipe σ' vs = wipe σ vs := fun {vs} hl h => by
  have key : ∀ (vs : List Nat) (σ : St) (i : Nat), i ∈ vs → i < σ.length → (wipe σ vs)[i]? = some none := fun vs => by
    induction vs with
    | nil => intro σ i h; cases h
    | cons v vs ih =>
      intro σ i hi hl
      unfold wipe
      by_cases e : v = i
      · subst e; rw [List.getElem?_set_self (by rw [wipe_length]; exact hl)]
      · rw [List.getElem?_set_ne e]
        rcases List.mem_cons.mp hi with q | q
        · exact absurd q.symm e
        · exact ih σ i q hl
  refine List.ext_getElem? fun i => ?_
  by_cases hi : i ∈ vs
  · by_cases hil : i < σ.length
    · rw [key vs σ' i hi (by omega), key vs σ i hi hil]
    · rw [List.getElem?_eq_none (by rw [wipe_length]; omega), List.getElem?_eq_none (by rw [wipe_length]; omega)]
  · rw [wipe_get hi, wipe_get hi, h i hi]
theorem ptE {Q : Bool → Hp → Prop} {r : R En (Bool × En)} (h : Po K W F H σ av fp (fun b δ' => ∀ H' F' fp', EOk K F' H' σ δ' av fp' → Fm F H (Ow fp) F' H' (Ow fp') → Q b H') r) : PTx K W F H σ av fp Q r := h
end
end Fx
/-! Fx7: list comprehensions. -/
namespace Fx
open PySem PySem.Spec PyProof.Rows L2
section
variable {X : Cx} {K : Fg} {W : WX} {F H F' H' F1 H1 F2 H2 : Hp} {σ σ' : St} {δ δ' δ1 : En} {av : Nat → V} {fp fp' fp1 fp2 : Nat → List Addr} {vs : List Nat}
/-- an own object D beside is written -/
theorem Fm.write {A A' : Addr → Prop} {p : Addr} {o : HO} (m : Fm F H A F' H' A') (hA : A p) : Fm F H A F' (upd H' p o) (fun b => b = p ∨ A' b) where
  same := m.same
  keep := fun b hb ha => by rw [upd_ne fun z => ha (by rw [z]; exact hA)]; exact m.keep b hb ha
  newF := m.newF
  newA := fun b hb => by
    rcases hb with rfl | hb
    · exact .inl hA
    · exact m.newA b hb
  there := fun b hb => by
    by_cases e : b = p
    · subst e; rw [upd_same]; simp
    · rw [upd_ne e]; exact m.there b hb
theorem Fm.plus {A A' B : Addr → Prop} (m : Fm F H A F' H' A') : Fm F H (fun b => B b ∨ A b) F' H' (fun b => B b ∨ A' b) where
  same := m.same
  keep := fun b hb h => m.keep b hb fun z => h (.inr z)
  newF := fun b hb => by
    rcases m.newF b hb with z | z | z
    · exact .inl z
    · exact .inr (.inl z)
    · exact .inr (.inr (.inr z))
  newA := fun b hb => by
    rcases hb with hb | hb
    · exact .inl (.inl hb)
    · rcases m.newA b hb with z | z
      · exact .inl (.inr z)
      · exact .inr z
  there := m.there
theorem EOk.wr {p : Addr} {o : HO} (E : EOk K F H σ δ av fp) (hF : F p = none) (hp : ∀ i, p ∉ fp i) : EOk K F (upd H p o) σ δ av fp := by
  have ne : ∀ i, ∀ a ∈ fp i, a ≠ p := fun i a ha z => hp i (by rw [← z]; exact ha)
  exact ⟨fun b u e => by rw [upd_ne fun z => by rw [z, hF] at e; cases e]; exact E.sub b u e, E.len, fun i x s h1 h2 => by
    obtain ⟨v, h3, h4⟩ := E.at_ i x s h1 h2
    exact ⟨v, h3, At.mono (Same.refl F) s v (fp i) (fun a ha => (E.out i a ha).1) (fun a ha => upd_ne (ne i a ha)) h4⟩, E.par, E.nod, E.dis, fun i a ha => ⟨(E.out i a ha).1, by rw [upd_ne (ne i a ha)]; exact (E.out i a ha).2⟩⟩
/-- what stands at a turn's beginning -/
def LcI (K : Fg) (W : WX) (F1 H1 : Hp) (σ : St) (av : Nat → V) (fp1 : Nat → List Addr) (vs : List Nat) (Q : VK) (g : Gx) (t : Tx) (e : Ex) (ds : List D) (dl : Addr) (i : Nat) (H : Hp) : Prop :=
  ∃ F δ fp acc us, EOk K F H (wipe σ vs) δ av fp ∧ Same F1 F ∧ H dl = some (.lst us) ∧ RpL K F us acc ∧ F dl = none ∧ (∀ j, dl ∉ fp j) ∧ Fm F1 H1 (Ow fp1) F H (fun b => b = dl ∨ Ow fp b) ∧
    PEx K W F1 H1 σ av fp1 Q ((nox (lcL vs g t e (ds.drop i) acc δ)).bind fun q => .ok (.lst (q.1.map .d), wipeN vs q.2))
theorem lc_wp {wi : TI} {g : Gx} {t : Tx} {e : Ex} {c : Ax} {Q : VK} (h : wpE K W (cLc vs g t e c) σ H Q) (hwi : ∀ σ H R, wpI K W c σ H R → wi σ H R) : tLc wi (wpG K W0 vs g) (wpT K W0 t) (wpE K W0 e) vs σ H Q := by
  obtain ⟨F, δ, av, fp, E, h⟩ := h
  refine hwi _ _ _ ⟨F, δ, av, fp, E, Po.imp (Po.bind h) fun ds δ1 z J H1 F1 fp1 E1 m1 wk => ?_⟩
  intro dl hD
  have h1 : PEx K W F1 H1 σ av fp1 Q ((nox (lcL vs g t e ds [] (wipeN vs δ1))).bind fun q => .ok (.lst (q.1.map .d), wipeN vs q.2)) := PEx.frame z.2 m1
  refine ⟨fun i m H => i + m = ds.length ∧ LcI K W F1 H1 σ av fp1 vs Q g t e ds dl i H, ⟨ds.length, by omega, F1, wipeN vs δ1, fp1, [], [], (E1.new hD).wipe, Same.refl _, upd_same, RpL.nil, E1.freeF hD, E1.free hD, Fm.new hD E1.sub, by rw [List.drop_zero]; exact h1⟩, ?_⟩
  rintro i m H ⟨hm, F, δ, fp, acc, us, E, sm, hH, rU, hF, hfp, fm, h⟩
  obtain ⟨w1, w2⟩ := wk F H sm E.sub
  by_cases hi : i < ds.length
  · refine .inr ⟨(w1 i hi).1, fun H => (i + 1) + (m - 1) = ds.length ∧ LcI K W F1 H1 σ av fp1 vs Q g t e ds dl (i + 1) H, fun H' w => ⟨m - 1, by omega, w⟩, fun x H' hy => ?_⟩
    obtain ⟨G', d, hd, sG, rx, fy⟩ := (w1 i hi).2 x H' hy
    have ed : ds.drop i = d :: ds.drop (i + 1) := by
      rw [List.drop_eq_getElem_cons hi]
      rw [List.getElem?_eq_getElem hi] at hd
      rw [Option.some.inj hd]
    rw [ed] at h
    have E2 : EOk K G' H' (wipe σ vs) δ av fp := E.across (fy fun _ => False) (fun _ _ _ z => z) sG
    -- the list that is made stands through all of it
    have dD : ∀ {F3 H3 : Hp} {fp3 : Nat → List Addr}, Fm F H (Ow fp) F3 H3 (Ow fp3) → F3 dl = none ∧ H3 dl = some (.lst us) ∧ ∀ j, dl ∉ fp3 j := fun {F3 H3 fp3} mm => by
      have nD : ¬ Ow fp dl := fun ⟨j, hj⟩ => hfp j hj
      have hs : H dl ≠ none := by rw [hH]; simp
      refine ⟨?_, by rw [mm.keep dl hs nD, hH], fun j hj => ?_⟩
      · cases q : F3 dl with
        | none => rfl
        | some o =>
          rcases mm.newF dl (by rw [q]; simp) with z | z | z
          · exact absurd hF z
          · exact absurd z hs
          · exact absurd z nD
      · rcases mm.newA dl ⟨j, hj⟩ with z | z
        · exact nD z
        · exact hs z
    refine ⟨G', δ, av, fp, d, E2, rx, ?_⟩
    simp only [lcL] at h
    revert h
    generalize g d δ = r
    intro h
    match r, h with
    | .ok (.nx, δ3), h =>
      intro σ3 H3 F3 fp3 E3 ag m3
      have hw : wipe σ3 vs = wipe σ vs := by
        have h4 : wipe σ3 vs = wipe (wipe σ vs) vs := wipe_of ag.1 ag.2
        rw [h4]
        exact wipe_of (wipe_length _ _) fun i hi => wipe_get hi
      refine ⟨hw, F3, δ3, av, fp3, E3, ?_⟩
      simp only [R.bind] at h
      revert h
      generalize t δ3 = r2
      intro h
      match r2, h with
      | .ok (b, δ4), h =>
        intro H4 F4 fp4 E4 m4
        simp only [R.bind] at h
        have mm4 : Fm F H (Ow fp) F4 H4 (Ow fp4) := ((fy (Ow fp)).trans m3).trans m4
        cases b with
        | false =>
          obtain ⟨d1, d2, d3⟩ := dD mm4
          simp only [Bool.false_eq_true, if_false] at h ⊢
          refine ⟨by omega, F4, wipeN vs δ4, fp4, acc, us, ?_, sm.trans mm4.same, d2, RpL.mono mm4.same _ _ rU, d1, d3, fm.trans mm4.plus, h⟩
          have := E4.wipe (vs := vs)
          rwa [hw] at this
        | true =>
          simp only [if_true] at h ⊢
          refine ⟨F4, δ4, av, fp4, E4, ?_⟩
          revert h
          generalize e δ4 = r3
          intro h
          match r3, h with
          | .ok (s, δ5), h =>
            intro v H5 F5 fp5 f5 E5 a5 n5 dj5 m5
            simp only [R.bind] at h
            obtain ⟨E6, rv⟩ := E5.freeze a5 dj5
            have m6 := Fm.freeze m5 fun b hb => (At.out s v f5 a5 b hb).1
            have mm6 : Fm F H (Ow fp) (fzH F5 H5 f5) H5 (Ow fp5) := mm4.trans m6
            obtain ⟨d1, d2, d3⟩ := dD mm6
            by_cases c : acc.length < 16777216
            · rw [if_pos c] at h
              have d1' : (fzH F5 H5 f5) dl = none := d1
              refine ⟨us, d2, by rw [rU.length, sizeLine_eq]; exact c, by omega, fzH F5 H5 f5, wipeN vs δ5, fp5, acc ++ [s.fz], us ++ [v], ?_, sm.trans mm6.same, upd_same, (RpL.mono mm6.same _ _ rU).append (RpL.cons rv RpL.nil), d1', d3, ?_, h⟩
              · have := (E6.wr (o := .lst (us ++ [v])) d1' d3).wipe (vs := vs)
                rwa [hw] at this
              · have w : Fm (fzH F5 H5 f5) H5 (fun b => b = dl ∨ Ow fp5 b) (fzH F5 H5 f5) (upd H5 dl (.lst (us ++ [v]))) (fun b => b = dl ∨ (b = dl ∨ Ow fp5 b)) := Fm.write (Fm.refl fun _ h => h) (Or.inl rfl)
                exact (fm.trans mm6.plus).trans (w.weak fun b hb => .inr hb)
            · rw [if_neg c] at h; exact h.elim
          | .exc c ns xs δ5, h => exact h.elim
          | .stk, h => exact h.elim
      | .exc c ns xs δ4, h => exact h.elim
      | .stk, h => exact h.elim
    | .ok (.bk, _), h => exact h.elim
    | .ok (.ct, _), h => exact h.elim
    | .ok (.rt _, _), h => exact h.elim
    | .exc c ns xs δ4, h => exact h.elim
    | .stk, h => exact h.elim
  · have e0 : i = ds.length := by omega
    subst e0
    refine .inl ⟨w2, ?_⟩
    rw [List.drop_length] at h
    simp only [lcL, nox, R.bind] at h
    refine h (.ref dl) H F fp [dl] E.unwipe ?_ (by simp) (fun a ha j => ?_) (fm.weak fun b hb => ?_)
    · simp only [At]
      exact ⟨dl, us, [], rfl, rfl, hF, hH, AtL.of rU⟩
    · rw [List.mem_singleton] at ha
      subst ha
      exact hfp j
    · rcases hb with hb | hb
      · rw [List.mem_singleton] at hb
        exact .inl hb
      · exact .inr hb
theorem e_lc {elt tg iter : Expr} {ifs : List Expr} {scope : Scope} {own : List (Str × Nat)} {pos : Pos} {g : Gx} {t : Tx} {e : Ex} {c : Ax} (hc : X.calm = true) (hN : X.N.Nodup) (hi : PI X tg iter (wpI X.K W c)) (ok : BlkOk X.N X.env.scope scope own)
    (hg : ∀ (s : Shared) (H : Hp) (C : Addr) (cl : List (Str × Addr)) (fp : List Addr), PG (X.blk s H scope (compEnvC scope cl C X.env) fp) tg (wpG X.K W0 (own.map (·.2)) g))
    (ht : ∀ (s : Shared) (H : Hp) (C : Addr) (cl : List (Str × Addr)) (fp : List Addr), PTs (X.blk s H scope (compEnvC scope cl C X.env) fp) ifs (wpT X.K W0 t))
    (he : ∀ (s : Shared) (H : Hp) (C : Addr) (cl : List (Str × Addr)) (fp : List Addr), PE (X.blk s H scope (compEnvC scope cl C X.env) fp) elt (wpE X.K W0 e)) (hs : ∀ x, foldedSetIterable iter X.env x = pure x := by intro _; rfl) :
    PE X (.ListComp elt [⟨tg, iter, ifs, 0⟩] scope pos) (wpE X.K W (cLc (own.map (·.2)) g t e c)) :=
  PE.wk (pe_lc hc hN hi ok hg ht he hs) fun σ H Q h => lc_wp h fun _ _ _ z => z
theorem PTs.wk {X : Cx} {ifs : List Expr} {t t' : TT} (h : PTs X ifs t) (i : ∀ σ H Q, t' σ H Q → t σ H Q) : PTs X ifs t' := ⟨fun pins s σ H Q I q => h.run pins s σ H Q I (i σ H Q q)⟩
theorem ts_nil {X : Cx} {K : Fg} {W : WX} : PTs X [] (wpT K W tYs) := PTs.wk pts_nil fun σ H Q ⟨F, δ, av, fp, E, h⟩ => h H F fp E (Fm.refl fun _ z => z)
theorem ts_one {X : Cx} {K : Fg} {W : WX} {c : Expr} {t : Tx} (h : PT X c (wpT K W t)) : PTs X [c] (wpT K W t) := pts_one h
/-- name = [..] on one line, the name a local -/
theorem s_setLc {i : Nat} {y : Str} {py : Pos} {elt tg iter : Expr} {ifs : List Expr} {scope : Scope} {own : List (Str × Nat)} {pos spos : Pos} {g : Gx} {t : Tx} {e : Ex} {c : Ax} (hc : X.calm = true) (hN : X.N.Nodup) (hy : X.N[i]? = some y) (hyl : X.env.scope.names.lookup y = some .local)
    (hsw : swapsWith (.ListComp elt [⟨tg, iter, ifs, 0⟩] scope pos) (some (.Name y py)) spos.line X.env = pure true) (hi : PI X tg iter (wpI X.K W c)) (ok : BlkOk X.N X.env.scope scope own)
    (hg : ∀ (s : Shared) (H : Hp) (C : Addr) (cl : List (Str × Addr)) (fp : List Addr), PG (X.blk s H scope (compEnvC scope cl C X.env) fp) tg (wpG X.K W0 (own.map (·.2)) g))
    (ht : ∀ (s : Shared) (H : Hp) (C : Addr) (cl : List (Str × Addr)) (fp : List Addr), PTs (X.blk s H scope (compEnvC scope cl C X.env) fp) ifs (wpT X.K W0 t))
    (he : ∀ (s : Shared) (H : Hp) (C : Addr) (cl : List (Str × Addr)) (fp : List Addr), PE (X.blk s H scope (compEnvC scope cl C X.env) fp) elt (wpE X.K W0 e)) (hs : ∀ x, foldedSetIterable iter X.env x = pure x := by intro _; rfl) :
    PS X (.Assign [.Name y py] (.ListComp elt [⟨tg, iter, ifs, 0⟩] scope pos) spos) (wpS X.K W (sSet i (cLc (own.map (·.2)) g t e c))) :=
  PS.wk (ps_setLc hc hN hy hyl hsw hi ok hg ht he hs) fun D σ H ⟨F, δ, av, fp, E, h⟩ => lc_wp (Q := fun x H1 => gName i x σ H1 D.nx) ⟨F, δ, av, fp, E, Po.imp (PSx.own h σ) fun s δ' z v H' F' fp' f E' a n d m => by
    obtain ⟨F1, fp1, t, δ1, g, E1, a1, n1, d1, m1, q⟩ := z v H' F' fp' f E' a n d m
    exact stN_ok q E1 a1 n1 d1 m1⟩ fun _ _ _ z => z
end
end Fx
/-! Fx8: operators and built-in functions over data. -/
namespace Fx
open PySem PySem.Spec PyProof.Rows L2
section
variable {X : Cx} {K : Fg} {W : WX} {F H F' H' F1 H1 : Hp} {σ σ' : St} {δ δ' δ1 : En} {av : Nat → V} {fp fp' fp1 : Nat → List Addr}
@[simp] def okS (x : D) : RO := .ok (.d x)
/-- several kinds of operands -/
def P2.or (f g : P2) : P2 := fun x y => match f x y with
  | .stk => g x y
  | r => r
theorem Op2.or {o : Value → Value → Sem Value} {f g : P2} (h1 : Op2 X W o f) (h2 : Op2 X W o g) : Op2 X W o (P2.or f g) := fun pins s σ H x y v u Q F δ av fp dx dy I rx ry E r1 r2 h => by
  unfold P2.or at h
  cases e : f dx dy with
  | stk => simp only [e] at h; exact h2 pins s σ H x y v u Q F δ av fp dx dy I rx ry E r1 r2 h
  | ok a => simp only [e] at h; exact h1 pins s σ H x y v u Q F δ av fp dx dy I rx ry E r1 r2 (by rw [e]; exact h)
  | exc c ns xs b => simp only [e] at h; exact h1 pins s σ H x y v u Q F δ av fp dx dy I rx ry E r1 r2 (by rw [e]; exact h)
def P1.or (f g : P1) : P1 := fun x => match f x with
  | .stk => g x
  | r => r
theorem Un1.or {o : Value → Sem Value} {f g : P1} (h1 : Un1 X W o f) (h2 : Un1 X W o g) : Un1 X W o (P1.or f g) := fun pins s σ H x v Q F δ av fp dx I rx E r1 h => by
  unfold P1.or at h
  cases e : f dx with
  | stk => simp only [e] at h; exact h2 pins s σ H x v Q F δ av fp dx I rx E r1 h
  | ok a => simp only [e] at h; exact h1 pins s σ H x v Q F δ av fp dx I rx E r1 (by rw [e]; exact h)
  | exc c ns xs b => simp only [e] at h; exact h1 pins s σ H x v Q F δ av fp dx I rx E r1 (by rw [e]; exact h)
@[simp] theorem P2.or_stk {f g : P2} {x y : D} (h : f x y = .stk) : P2.or f g x y = g x y := by unfold P2.or; rw [h]

/-! ### sizes -/
/-- a bound that is never unfolded -/
@[irreducible] def big : Nat := 2 ^ 500000
theorem big_eq : big = 2 ^ 500000 := by unfold big; rfl
@[irreducible] def divb : Nat := 2 ^ 9000
theorem divb_eq : divb = 2 ^ 9000 := by unfold divb; rfl
def okMul (i j : Int) : Prop := i.natAbs < 18446744073709551616 ∨ j.natAbs < 18446744073709551616 ∨ (i.natAbs < big ∧ j.natAbs < big)
instance (i j : Int) : Decidable (okMul i j) := by unfold okMul; infer_instance
def okDiv (j : Int) : Prop := j ≠ 0 ∧ j.natAbs < divb
instance (j : Int) : Decidable (okDiv j) := by unfold okDiv; infer_instance
theorem okMul.ok {i j : Int} (h : okMul i j) : IntMulOk i j := by
  rcases h with h | h | ⟨h1, h2⟩
  · exact .of_left (intBits_le_64 (by omega) (by omega))
  · exact .of_right (intBits_le_64 (by omega) (by omega))
  · rw [big_eq] at h1 h2
    have a := PySem.Flt.log2_lt_of (by omega : 0 < 500000) h1
    have b := PySem.Flt.log2_lt_of (by omega : 0 < 500000) h2
    exact CMulW.ok (show i.natAbs.log2 + j.natAbs.log2 < 1000000 by omega)
theorem okDiv.ok {i j : Int} (h : okDiv j) : Builtin.divisionGoesByPylong i j = false := by
  obtain ⟨h0, h1⟩ := h
  rw [divb_eq] at h1
  exact PyProof.noPylong_of_log2 (PySem.Flt.log2_lt_of (by omega : 0 < 9000) h1)

/-! ### whole numbers -/
@[simp] def iAdd : P2
  | .int i, .int j => okS (.int (i + j))
  | _, _ => .stk
@[simp] def iSub : P2
  | .int i, .int j => okS (.int (i - j))
  | _, _ => .stk
@[simp] def iMul : P2
  | .int i, .int j => if okMul i j then okS (.int (i * j)) else .stk
  | _, _ => .stk
@[simp] def iFdv : P2
  | .int i, .int j => if okDiv j then okS (.int (i.fdiv j)) else .stk
  | _, _ => .stk
@[simp] def iMod : P2
  | .int i, .int j => if j ≠ 0 then okS (.int (i.fmod j)) else .stk
  | _, _ => .stk
@[simp] def iPow : P2
  | .int i, .int j => if 0 ≤ j ∧ j ≤ 1000000 ∧ i.natAbs < 18446744073709551616 then okS (.int (i ^ j.toNat)) else .stk
  | _, _ => .stk
@[simp] def iNeg : P1
  | .int i => okS (.int (-i))
  | _ => .stk
@[simp] def iCmp (p : Int → Int → Bool) : P2
  | .int i, .int j => okS (.bl (p i j))
  | _, _ => .stk
theorem okS_here {Q : VK} {x : D} {v : V} (h : PEx K W F H σ av fp Q (up (okS x) δ)) (E : EOk K F H σ δ av fp) (r : Rp K F v x) : Q v H := QE.here h E r
theorem opInt {o : Value → Value → Sem Value} {r : R2} {f : P2} (ho : OpR X o r) (hf : ∀ i j, f (.int i) (.int j) = .stk ∨ ∃ k, f (.int i) (.int j) = okS k ∧ ∃ w : V, (∀ F, Rp X.K F w k) ∧ ∀ H (Q : VK), Q w H → r (.int i) (.int j) H Q)
    (hn : ∀ x y, (∀ i j, ¬ (x = .int i ∧ y = .int j)) → f x y = .stk) : Op2 X W o f := fun pins s σ H x y v u Q F δ av fp dx dy I rx ry E r1 r2 h => by
  by_cases c : ∃ i j, dx = .int i ∧ dy = .int j
  · obtain ⟨i, j, rfl, rfl⟩ := c
    simp only [Rp] at r1 r2
    subst r1 r2
    rcases hf i j with e | ⟨k, e, w, hw, hr⟩
    · rw [e] at h; exact h.elim
    · rw [e] at h
      exact ho pins s σ H _ _ v u Q I rx ry (hr H Q (okS_here h E (hw F)))
  · rw [hn dx dy fun i j z => c ⟨i, j, z⟩] at h
    exact h.elim
theorem nn2 {f : P2} (h : ∀ x y, f x y ≠ .stk → ∃ i j, x = .int i ∧ y = .int j) : ∀ x y, (∀ i j, ¬ (x = .int i ∧ y = .int j)) → f x y = .stk := fun x y c => by
  by_cases e : f x y = .stk
  · exact e
  · obtain ⟨i, j, z⟩ := h x y e
    exact absurd z (c i j)
theorem o_iadd : Op2 X W (binaryOp .Add) iAdd := opInt op_add (fun i j => .inr ⟨_, rfl, .int (i + j), fun F => by simp only [Rp], fun H Q q => ⟨i, j, rfl, rfl, q⟩⟩) (nn2 fun x y h => by cases x <;> cases y <;> simp_all)
theorem o_isub : Op2 X W (binaryOp .Sub) iSub := opInt op_sub (fun i j => .inr ⟨_, rfl, .int (i - j), fun F => by simp only [Rp], fun H Q q => ⟨i, j, rfl, rfl, q⟩⟩) (nn2 fun x y h => by cases x <;> cases y <;> simp_all)
theorem op_mulA : OpR X (binaryOp .Mult) (rI okMul fun i j => .int (i * j)) := opI fun _ _ _ _ _ _ _ hc q => mul_int q hc.ok
theorem op_fdivA : OpR X (binaryOp .FloorDiv) (rI (fun _ j => okDiv j) fun i j => .int (i.fdiv j)) := opI fun _ _ _ _ _ _ _ hc q => floordiv_int hc.1 q (.inl hc.ok)
theorem o_imul : Op2 X W (binaryOp .Mult) iMul := opInt op_mulA (fun i j => by
  by_cases c : okMul i j
  · exact .inr ⟨.int (i * j), by simp [c], .int (i * j), fun F => by simp only [Rp], fun H Q q => ⟨i, j, rfl, rfl, c, q⟩⟩
  · exact .inl (by simp [c])) (nn2 fun x y h => by cases x <;> cases y <;> simp_all)
theorem o_ifdv : Op2 X W (binaryOp .FloorDiv) iFdv := opInt op_fdivA (fun i j => by
  by_cases c : okDiv j
  · exact .inr ⟨.int (i.fdiv j), by simp [c], .int (i.fdiv j), fun F => by simp only [Rp], fun H Q q => ⟨i, j, rfl, rfl, c, q⟩⟩
  · exact .inl (by simp [c])) (nn2 fun x y h => by cases x <;> cases y <;> simp_all)
theorem o_imod : Op2 X W (binaryOp .Mod) iMod := opInt op_modN (fun i j => by
  by_cases c : j ≠ 0
  · exact .inr ⟨.int (i.fmod j), by simp [c], .int (i.fmod j), fun F => by simp only [Rp], fun H Q q => ⟨i, j, rfl, rfl, c, q⟩⟩
  · exact .inl (by simp [c])) (nn2 fun x y h => by cases x <;> cases y <;> simp_all)
theorem o_ipow : Op2 X W (binaryOp .Pow) iPow := opInt op_pow (fun i j => by
  by_cases c : 0 ≤ j ∧ j ≤ 1000000 ∧ i.natAbs < 18446744073709551616
  · exact .inr ⟨_, by simp only [iPow, if_pos c]; rfl, .int (i ^ j.toNat), fun F => by simp only [Rp], fun H Q q => ⟨i, j, rfl, rfl, ⟨c.1, c.2.1, c.2.2⟩, q⟩⟩
  · exact .inl (by simp only [iPow, if_neg c])) (nn2 fun x y h => by cases x <;> cases y <;> simp_all)
theorem o_ineg : Un1 X W (unaryOp .USub) iNeg := fun pins s σ H x v Q F δ av fp dx I rx E r1 h => by
  cases dx with
  | int i =>
    simp only [Rp] at r1
    subst r1
    exact un_neg pins s σ H _ v Q I rx ⟨i, rfl, okS_here h E (by simp only [Rp])⟩
  | _ => exact h.elim
theorem opCmp {o : Value → Value → Sem Value} {p : Int → Int → Bool} (ho : OpR X o (rI0 fun i j => .bl (p i j))) : Op2 X W o (iCmp p) :=
  opInt ho (fun i j => .inr ⟨_, rfl, .bl (p i j), fun F => by simp only [Rp], fun H Q q => ⟨i, j, rfl, rfl, q⟩⟩) (nn2 fun x y h => by cases x <;> cases y <;> simp_all)
theorem o_ilt : Op2 X W (compareOp .Lt) (iCmp fun i j => decide (i < j)) := opCmp op_lt
theorem o_ile : Op2 X W (compareOp .LtE) (iCmp fun i j => decide (i ≤ j)) := opCmp op_le
theorem o_igt : Op2 X W (compareOp .Gt) (iCmp fun i j => decide (j < i)) := opCmp op_gt
theorem o_ige : Op2 X W (compareOp .GtE) (iCmp fun i j => decide (j ≤ i)) := opCmp op_ge

/-! ### texts, lists, tuples put together -/
@[simp] def sAdd : P2
  | .str x, .str y => if x.length + y.length ≤ 16777216 then okS (.str (x ++ y)) else .stk
  | _, _ => .stk
theorem o_sadd : Op2 X W (binaryOp .Add) sAdd := fun pins s σ H x y v u Q F δ av fp dx dy I rx ry E r1 r2 h => by
  match dx, dy, r1, r2, h with
  | .str a, .str b, r1, r2, h =>
    simp only [Rp] at r1 r2
    subst r1 r2
    simp only [sAdd] at h
    by_cases c : a.length + b.length ≤ 16777216
    · rw [if_pos c] at h
      exact op_add_str pins s σ H _ _ v u Q I rx ry ⟨a, b, rfl, rfl, by rw [sizeLine_eq]; exact c, okS_here h E (by simp only [Rp])⟩
    · rw [if_neg c] at h; exact h.elim
  | .non, _, _, _, h => exact h.elim
  | .bl _, _, _, _, h => exact h.elim
  | .int _, _, _, _, h => exact h.elim
  | .tup _, _, _, _, h => exact h.elim
  | .lst _, _, _, _, h => exact h.elim
  | .rl _, _, _, _, h => exact h.elim
  | .ins _ _ _, _, _, _, h => exact h.elim
  | .str _, .non, _, _, h => exact h.elim
  | .str _, .bl _, _, _, h => exact h.elim
  | .str _, .int _, _, _, h => exact h.elim
  | .str _, .tup _, _, _, h => exact h.elim
  | .str _, .lst _, _, _, h => exact h.elim
  | .str _, .rl _, _, _, h => exact h.elim
  | .str _, .ins _ _ _, _, _, h => exact h.elim
@[simp] def lAdd : P2
  | .lst xs, .lst ys => mLst (xs ++ ys)
  | _, _ => .stk
theorem o_ladd : Op2 X W (binaryOp .Add) lAdd := fun pins s σ H x y v u Q F δ av fp dx dy I rx ry E r1 r2 h => by
  by_cases c : ∃ xs ys, dx = .lst xs ∧ dy = .lst ys
  · obtain ⟨xs, ys, rfl, rfl⟩ := c
    simp only [Rp] at r1 r2
    obtain ⟨a, us, rfl, h1, h2⟩ := r1
    obtain ⟨b, ws, rfl, h3, h4⟩ := r2
    obtain ⟨z, q⟩ := newLst h E (h2.append h4)
    exact op_cat pins s σ H _ _ v u Q I rx ry ⟨a, b, us, ws, rfl, rfl, E.sub _ _ h1, E.sub _ _ h3, by rw [← List.length_append]; exact z, q⟩
  · have : lAdd dx dy = .stk := by cases dx <;> cases dy <;> simp_all
    rw [this] at h; exact h.elim
@[simp] def tAdd : P2
  | .tup xs, .tup ys => if xs.length + ys.length ≤ 16777216 then okS (.tup (xs ++ ys)) else .stk
  | _, _ => .stk
theorem o_tadd : Op2 X W (binaryOp .Add) tAdd := fun pins s σ H x y v u Q F δ av fp dx dy I rx ry E r1 r2 h => by
  by_cases c : ∃ xs ys, dx = .tup xs ∧ dy = .tup ys
  · obtain ⟨xs, ys, rfl, rfl⟩ := c
    simp only [Rp] at r1 r2
    obtain ⟨a, us, rfl, h1, h2⟩ := r1
    obtain ⟨b, ws, rfl, h3, h4⟩ := r2
    simp only [tAdd] at h
    by_cases c : xs.length + ys.length ≤ 16777216
    · rw [if_pos c] at h
      refine op_catA pins s σ H _ _ v u Q I rx ry ⟨a, b, us, ws, rfl, rfl, sameT E.sub h1, sameT E.sub h3, by rw [h2.length, h4.length, sizeLine_eq]; exact c, fun e => ?_, fun _ e => ?_, fun _ _ => ?_⟩
      · subst e
        have : xs = [] := by have := h2.length; cases xs <;> simp_all
        subst this
        exact okS_here h E (by simp only [Rp]; exact ⟨b, ws, rfl, h3, h4⟩)
      · subst e
        have : ys = [] := by have := h4.length; cases ys <;> simp_all
        subst this
        exact okS_here h E (by simp only [Rp, List.append_nil]; exact ⟨a, us, rfl, h1, h2⟩)
      · have h' : PEx X.K W F H σ av fp Q (up (mTup (xs ++ ys)) δ) := by unfold mTup; rw [if_pos (by simpa using c)]; exact h
        exact (newTup h' E (h2.append h4)).2
    · rw [if_neg c] at h; exact h.elim
  · have : tAdd dx dy = .stk := by cases dx <;> cases dy <;> simp_all
    rw [this] at h; exact h.elim
/-- xs * k -/
@[simp] def lMul : P2
  | .lst xs, .int k => if -9223372036854775808 ≤ k ∧ k < 9223372036854775808 ∧ xs.length * k.toNat ≤ 16777216 then .ok (.lst ((List.replicate k.toNat xs).flatten.map .d)) else .stk
  | _, _ => .stk
theorem RpL.rep {us : List V} {xs : List D} (r : RpL K F us xs) : ∀ n, RpL K F (List.replicate n us).flatten (List.replicate n xs).flatten
  | 0 => RpL.nil
  | n + 1 => by simpa [List.replicate_succ] using r.append (r.rep n)
theorem o_lmul : Op2 X W (binaryOp .Mult) lMul := fun pins s σ H x y v u Q F δ av fp dx dy I rx ry E r1 r2 h => by
  by_cases c : ∃ xs k, dx = .lst xs ∧ dy = .int k
  · obtain ⟨xs, k, rfl, rfl⟩ := c
    simp only [Rp] at r1 r2
    obtain ⟨a, us, rfl, h1, h2⟩ := r1
    subst r2
    simp only [lMul] at h
    by_cases c : -9223372036854775808 ≤ k ∧ k < 9223372036854775808 ∧ xs.length * k.toNat ≤ 16777216
    · rw [if_pos c] at h
      refine op_rep pins s σ H _ _ v u Q I rx ry ⟨a, k, us, rfl, rfl, E.sub _ _ h1, c.1, c.2.1, by rw [h2.length, sizeLine_eq]; exact c.2.2, fun p hp => ?_⟩
      have hlen : ((List.replicate k.toNat xs).flatten).length ≤ 16777216 := by simp; rw [Nat.mul_comm]; exact c.2.2
      have h' : PEx X.K W F H σ av fp Q (up (mLst (List.replicate k.toNat xs).flatten) δ) := by unfold mLst; rw [if_pos hlen]; exact h
      exact (newLst h' E (h2.rep _)).2 p hp
    · rw [if_neg c] at h; exact h.elim
  · have : lMul dx dy = .stk := by cases dx <;> cases dy <;> simp_all
    rw [this] at h; exact h.elim

/-! ### == of data -/
mutual
@[simp] def D.py : D → PyData
  | .non => .none
  | .bl b => .bool b
  | .int i => .int i
  | .str x => .str x
  | .tup xs => .tuple (pyL xs)
  | .lst xs => .list (pyL xs)
  | .rl xs => .list (pyL xs)
  | .ins _ _ _ => .none
  | .err _ _ _ => .none
@[simp] def pyL : List D → List PyData
  | [] => []
  | x :: xs => x.py :: pyL xs
end
mutual
/-- data without instances, of a depth of at most n -/
@[simp] def D.plain : Nat → D → Bool
  | _, .non => true
  | _, .bl _ => true
  | _, .int _ => true
  | _, .str x => PyData.strOk x
  | 0, _ => false
  | n + 1, .tup xs => plainL n xs
  | n + 1, .lst xs => plainL n xs
  | n + 1, .rl xs => plainL n xs
  | _ + 1, .ins _ _ _ => false
  | _ + 1, .err _ _ _ => false
@[simp] def plainL : Nat → List D → Bool
  | _, [] => true
  | n, x :: xs => x.plain n && plainL n xs
end
mutual
theorem D.plain_ok : ∀ (n : Nat) (x : D), x.plain n = true → x.py.canLay0 = true ∧ x.py.depth ≤ n
  | n, .non, _ => by simp [PyData.canLay0, PyData.depth]
  | n, .bl _, _ => by simp [PyData.canLay0, PyData.depth]
  | n, .int _, _ => by simp [PyData.canLay0, PyData.depth]
  | n, .str x, h => by simp only [D.plain] at h; simp [PyData.canLay0, PyData.depth, h]
  | 0, .tup _, h => by simp [D.plain] at h
  | 0, .lst _, h => by simp [D.plain] at h
  | 0, .rl _, h => by simp [D.plain] at h
  | 0, .ins _ _ _, h => by simp [D.plain] at h
  | 0, .err _ _ _, h => by simp [D.plain] at h
  | n + 1, .tup xs, h => by
    simp only [D.plain] at h
    have := plainL_ok n xs h
    simp only [D.py, PyData.canLay0, PyData.depth]
    exact ⟨this.1, by omega⟩
  | n + 1, .lst xs, h => by
    simp only [D.plain] at h
    have := plainL_ok n xs h
    simp only [D.py, PyData.canLay0, PyData.depth]
    exact ⟨this.1, by omega⟩
  | n + 1, .rl xs, h => by
    simp only [D.plain] at h
    have := plainL_ok n xs h
    simp only [D.py, PyData.canLay0, PyData.depth]
    exact ⟨this.1, by omega⟩
  | n + 1, .ins _ _ _, h => by simp [D.plain] at h
  | n + 1, .err _ _ _, h => by simp [D.plain] at h
theorem plainL_ok : ∀ (n : Nat) (xs : List D), plainL n xs = true → PyData.canLayAll0 (pyL xs) = true ∧ PyData.depthAll (pyL xs) ≤ n
  | n, [], _ => by simp [PyData.canLayAll0, PyData.depthAll]
  | n, x :: xs, h => by
    simp only [plainL, Bool.and_eq_true] at h
    have h1 := D.plain_ok n x h.1
    have h2 := plainL_ok n xs h.2
    simp only [pyL, PyData.canLayAll0, PyData.depthAll, h1.1, h2.1, Bool.and_self, true_and]
    omega
end
mutual
theorem D.dp {K : Fg} {F H : Hp} (e : Same F H) : ∀ (n : Nat) (x : D) (v : V), x.plain n = true → Rp K F v x → Dp K H v x.py
  | n, .non, v, _, r => by simp only [Rp] at r; subst r; exact .non
  | n, .bl b, v, _, r => by simp only [Rp] at r; subst r; exact .bl b
  | n, .int i, v, _, r => by simp only [Rp] at r; subst r; exact .int i
  | n, .str x, v, _, r => by simp only [Rp] at r; subst r; exact .str x
  | 0, .tup _, _, h, _ => by simp [D.plain] at h
  | 0, .lst _, _, h, _ => by simp [D.plain] at h
  | 0, .rl _, _, h, _ => by simp [D.plain] at h
  | 0, .ins _ _ _, _, h, _ => by simp [D.plain] at h
  | 0, .err _ _ _, _, h, _ => by simp [D.plain] at h
  | n + 1, .tup xs, v, h, r => by
    simp only [D.plain] at h
    simp only [Rp] at r
    obtain ⟨a, vs, rfl, h1, h2⟩ := r
    exact .tup (sameT e h1) (pyL_dp e n xs vs h h2)
  | n + 1, .lst xs, v, h, r => by
    simp only [D.plain] at h
    simp only [Rp] at r
    obtain ⟨a, vs, rfl, h1, h2⟩ := r
    exact .lst (SqL.of (e _ _ h1)) (pyL_dp e n xs vs h h2)
  | n + 1, .rl xs, v, h, r => by
    simp only [D.plain] at h
    simp only [Rp] at r
    obtain ⟨a, vs, rfl, h1, h2⟩ := r
    exact .lst (e.seq h1) (pyL_dp e n xs vs h h2)
  | n + 1, .ins _ _ _, _, h, _ => by simp [D.plain] at h
  | n + 1, .err _ _ _, _, h, _ => by simp [D.plain] at h
theorem pyL_dp {K : Fg} {F H : Hp} (e : Same F H) : ∀ (n : Nat) (xs : List D) (vs : List V), plainL n xs = true → RpL K F vs xs → DpAll K H vs (pyL xs)
  | n, [], [], _, _ => .nil
  | n, x :: xs, v :: vs, h, r => by
    simp only [plainL, Bool.and_eq_true] at h
    simp only [RpL] at r
    exact .cons (D.dp e n x v h.1 r.1) (pyL_dp e n xs vs h.2 r.2)
  | n, [], _ :: _, _, r => by simp only [RpL] at r
  | n, _ :: _, [], _, r => by simp only [RpL] at r
end
theorem D.shaped {x : D} (h : x.plain 60 = true) : SeqAt.shaped x.py = true := by
  obtain ⟨h1, h2⟩ := D.plain_ok 60 x h
  unfold SeqAt.shaped
  rw [h1, decide_eq_true (by omega)]
  rfl
def dEq : P2 := fun x y => if x.plain 60 = true ∧ y.plain 60 = true then okS (.bl (PyData.eqv x.py y.py)) else .stk
def dNe : P2 := fun x y => if x.plain 60 = true ∧ y.plain 60 = true then okS (.bl (!PyData.eqv x.py y.py)) else .stk
theorem o_deq (hu : X.A.units + 64 < cLine) : Op2 X W (compareOp .Eq) dEq := fun pins s σ H x y v u Q F δ av fp dx dy I rx ry E r1 r2 h => by
  simp only [dEq] at h
  by_cases c : dx.plain 60 = true ∧ dy.plain 60 = true
  · rw [if_pos c] at h
    exact op_eqD hu pins s σ H _ _ v u Q I rx ry ⟨_, _, D.dp E.sub 60 dx x c.1 r1, D.dp E.sub 60 dy y c.2 r2, D.shaped c.1, D.shaped c.2, okS_here h E (by simp only [Rp])⟩
  · rw [if_neg c] at h; exact h.elim
theorem o_dne (hu : X.A.units + 64 < cLine) : Op2 X W (compareOp .NotEq) dNe := fun pins s σ H x y v u Q F δ av fp dx dy I rx ry E r1 r2 h => by
  simp only [dNe] at h
  by_cases c : dx.plain 60 = true ∧ dy.plain 60 = true
  · rw [if_pos c] at h
    exact op_neD hu pins s σ H _ _ v u Q I rx ry ⟨_, _, D.dp E.sub 60 dx x c.1 r1, D.dp E.sub 60 dy y c.2 r2, D.shaped c.1, D.shaped c.2, okS_here h E (by simp only [Rp])⟩
  · rw [if_neg c] at h; exact h.elim
/-- x is None -/
@[simp] def D.isNon : D → Bool
  | .non => true
  | _ => false
theorem isNon_ok {x : D} {v : V} (r : Rp K F v x) : decide (v = .non) = x.isNon := by
  cases x with
  | non => simp only [Rp] at r; subst r; rfl
  | bl b => simp only [Rp] at r; subst r; rfl
  | int i => simp only [Rp] at r; subst r; rfl
  | str x => simp only [Rp] at r; subst r; rfl
  | tup xs => simp only [Rp] at r; obtain ⟨a, vs, rfl, _⟩ := r; rfl
  | lst xs => simp only [Rp] at r; obtain ⟨a, vs, rfl, _⟩ := r; rfl
  | rl xs => simp only [Rp] at r; obtain ⟨a, vs, rfl, _⟩ := r; rfl
  | ins c ns xs => simp only [Rp] at r; obtain ⟨a, dx, vs, rfl, _⟩ := r; rfl
  | err c ns xs => simp only [Rp] at r; obtain ⟨a, dx, vs, rfl, _⟩ := r; rfl
@[simp] def dIs : P2
  | x, .non => okS (.bl x.isNon)
  | _, _ => .stk
@[simp] def dIsn : P2
  | x, .non => okS (.bl (!x.isNon))
  | _, _ => .stk
theorem o_is : Op2 X W (compareOp .Is) dIs := fun pins s σ H x y v u Q F δ av fp dx dy I rx ry E r1 r2 h => by
  cases dy with
  | non =>
    simp only [Rp] at r2
    subst r2
    exact op_isN pins s σ H _ _ v u Q I rx ry ⟨rfl, by rw [isNon_ok r1]; exact okS_here h E (by simp only [Rp])⟩
  | _ => exact h.elim
theorem o_isn : Op2 X W (compareOp .IsNot) dIsn := fun pins s σ H x y v u Q F δ av fp dx dy I rx ry E r1 r2 h => by
  cases dy with
  | non =>
    simp only [Rp] at r2
    subst r2
    exact op_notN pins s σ H _ _ v u Q I rx ry ⟨rfl, by rw [isNon_ok r1]; exact okS_here h E (by simp only [Rp])⟩
  | _ => exact h.elim
end
end Fx
/-! Fx9: built-in functions, methods of texts, places, slices. -/
namespace Fx
open PySem PySem.Spec PyProof.Rows L2
section
variable {X : Cx} {K : Fg} {W : WX} {F H F' H' F1 H1 : Hp} {σ σ' : St} {δ δ' δ1 : En} {av : Nat → V} {fp fp' fp1 : Nat → List Addr}
abbrev PN := List D → RO
def OpN (X : Cx) (W : WX) (g : List Value → Sem Value) (f : PN) : Prop :=
  ∀ (pins : List (Addr × Obj)) (s : Shared) (σ : St) (H : Hp) (xs : List V) (us : List Value) (Q : VK) (F : Hp) (δ : En) (av : Nat → V) (fp : Nat → List Addr) (ds : List D), Inv X pins σ H s → Vals xs us → EOk X.K F H σ δ av fp → RpL X.K F xs ds →
    PEx X.K W F H σ av fp Q (up (f ds) δ) → wpAny (model X.prog X.w) X.A (g us) (EP X pins σ Q) X.xe s
def PN.or (f g : PN) : PN := fun x => match f x with
  | .stk => g x
  | r => r
theorem OpN.or {o : List Value → Sem Value} {f g : PN} (h1 : OpN X W o f) (h2 : OpN X W o g) : OpN X W o (PN.or f g) := fun pins s σ H x v Q F δ av fp dx I rx E r1 h => by
  unfold PN.or at h
  cases e : f dx with
  | stk => simp only [e] at h; exact h2 pins s σ H x v Q F δ av fp dx I rx E r1 h
  | ok a => simp only [e] at h; exact h1 pins s σ H x v Q F δ av fp dx I rx E r1 (by rw [e]; exact h)
  | exc c ns xs b => simp only [e] at h; exact h1 pins s σ H x v Q F δ av fp dx I rx E r1 (by rw [e]; exact h)
theorem OpN.of {fv : Value} {r : List V → Hp → VK → Prop} {f : PN} (hc : CallR X fv r)
    (h : ∀ (σ : St) (H : Hp) (xs : List V) (Q : VK) (F : Hp) (δ : En) (av : Nat → V) (fp : Nat → List Addr) (ds : List D), EOk X.K F H σ δ av fp → RpL X.K F xs ds → PEx X.K W F H σ av fp Q (up (f ds) δ) → r xs H Q) : OpN X W (fun us => call fv us) f :=
  fun pins s σ H xs us Q F δ av fp ds I rx E r1 q => hc pins s σ H xs us Q I rx (h σ H xs Q F δ av fp ds E r1 q)
variable {x : Str} {p pos apos : Pos} {e o : Expr} {es : List Expr} {ca : Ax} {co : Ex} {bid T : String} {f : PN}
theorem e_blt (hc : OpN X W (fun us => call (.builtin bid) us) f) (hg : Gl X x) (hm : X.mg x = none) (hv : bootBuiltins x = some (.builtin bid)) (ha : PA X (e :: es) (wpA X.K W ca)) (hn : x ≠ "__name__" := by decide) (hdb : (x == ("__debug__" : Str)) = false := by decide)
    (he : starEach (e :: es) X.env = (false, eval e X.env) :: starEach es X.env := by rfl) (hpl : (backTo pos (starEach es X.env)).any (·.1) = false := by rfl) : PE X (.Call (.Name x p) (e :: es) [] pos) (wpE X.K W (cA f ca)) := by
  refine ⟨fun pins s σ H Q I ⟨F, δ, av, fp, E, h⟩ => ?_⟩
  refine wpAny_Call_Name_kw (ld_blt I hg hm hv ?_ hn hdb)
  refine PyProof.Rows.callWith_builtin1 (thn (ha.run pos pins s σ H _ I ⟨F, δ, av, fp, E, goA h⟩) fun us s1 ⟨vs, H1, I1, r1, F1, δ1, fp1, xs, E1, r2, m1, q⟩ => ?_) he hpl
  exact hc pins s1 σ H1 vs us Q F1 δ1 av fp1 xs I1 r1 E1 r2 q
theorem e_typ (hc : OpN X W (fun us => call (.type T) us) f) (hg : Gl X x) (hm : X.mg x = none) (hv : bootBuiltins x = some (.type T)) (ha : PA X (e :: es) (wpA X.K W ca)) (hn : x ≠ "__name__" := by decide) (hdb : (x == ("__debug__" : Str)) = false := by decide)
    (he : starEach (e :: es) X.env = (false, eval e X.env) :: starEach es X.env := by rfl) (hpl : (backTo pos (starEach es X.env)).any (·.1) = false := by rfl) : PE X (.Call (.Name x p) (e :: es) [] pos) (wpE X.K W (cA f ca)) := by
  refine ⟨fun pins s σ H Q I ⟨F, δ, av, fp, E, h⟩ => ?_⟩
  refine wpAny_Call_Name_kw (ld_blt I hg hm hv ?_ hn hdb)
  refine PyProof.Rows.callWith_type1 (thn (ha.run pos pins s σ H _ I ⟨F, δ, av, fp, E, goA h⟩) fun us s1 ⟨vs, H1, I1, r1, F1, δ1, fp1, xs, E1, r2, m1, q⟩ => ?_) he hpl
  exact hc pins s1 σ H1 vs us Q F1 δ1 av fp1 xs I1 r1 E1 r2 q
/-- a module's function that a name of the text holds -/
theorem e_imp (hc : OpN X W (fun us => call (.builtin bid) us) f) (hg : Gl X x) (hm : X.mg x = some (.builtin bid)) (ha : PA X (e :: es) (wpA X.K W ca)) (hdb : (x == ("__debug__" : Str)) = false := by decide)
    (he : starEach (e :: es) X.env = (false, eval e X.env) :: starEach es X.env := by rfl) (hpl : (backTo pos (starEach es X.env)).any (·.1) = false := by rfl) : PE X (.Call (.Name x p) (e :: es) [] pos) (wpE X.K W (cA f ca)) := by
  refine ⟨fun pins s σ H Q I ⟨F, δ, av, fp, E, h⟩ => ?_⟩
  refine wpAny_Call_Name_kw (ld_glob I hg hm ?_ hdb)
  refine PyProof.Rows.callWith_builtin1 (thn (ha.run pos pins s σ H _ I ⟨F, δ, av, fp, E, goA h⟩) fun us s1 ⟨vs, H1, I1, r1, F1, δ1, fp1, xs, E1, r2, m1, q⟩ => ?_) he hpl
  exact hc pins s1 σ H1 vs us Q F1 δ1 av fp1 xs I1 r1 E1 r2 q
theorem RpL.one {v : List V} {d : D} (h : RpL K F v [d]) : ∃ x, v = [x] ∧ Rp K F x d := by
  match v, h with
  | [x], h => simp only [RpL] at h; exact ⟨x, rfl, h.1⟩
  | [], h => simp only [RpL] at h
  | _ :: _ :: _, h => simp [RpL] at h
theorem RpL.two {v : List V} {d d2 : D} (h : RpL K F v [d, d2]) : ∃ x y, v = [x, y] ∧ Rp K F x d ∧ Rp K F y d2 := by
  match v, h with
  | [x, y], h => simp only [RpL] at h; exact ⟨x, y, rfl, h.1, h.2.1⟩
  | [], h => simp only [RpL] at h
  | [_], h => simp [RpL] at h
  | _ :: _ :: _ :: _, h => simp [RpL] at h

/-! ### len, abs, int, bool, str -/
@[simp] def bLen : PN
  | [.lst xs] => okS (.int xs.length)
  | [.tup xs] => okS (.int xs.length)
  | [.rl xs] => okS (.int xs.length)
  | [.str x] => if x.length ≤ 16777216 then okS (.int x.length) else .stk
  | _ => .stk
theorem f_len : OpN X W (fun us => call (.builtin "len") us) bLen := OpN.of (call_len_seq.or call_len_str) fun σ H xs Q F δ av fp ds E r h => by
  unfold bLen at h
  split at h
  · obtain ⟨v, ev, rr⟩ := r.one; subst ev; replace r := rr; clear rr
    simp only [Rp] at r
    obtain ⟨a, vs, rfl, h1, h2⟩ := r
    exact .inl ⟨a, vs, rfl, .inl (SqL.of (E.sub _ _ h1)), QE.here h E (by simp only [Rp, h2.length])⟩
  · obtain ⟨v, ev, rr⟩ := r.one; subst ev; replace r := rr; clear rr
    simp only [Rp] at r
    obtain ⟨a, vs, rfl, h1, h2⟩ := r
    exact .inl ⟨a, vs, rfl, .inr (sameT E.sub h1), QE.here h E (by simp only [Rp, h2.length])⟩
  · obtain ⟨v, ev, rr⟩ := r.one; subst ev; replace r := rr; clear rr
    simp only [Rp] at r
    obtain ⟨a, vs, rfl, h1, h2⟩ := r
    exact .inl ⟨a, vs, rfl, .inl (E.sub.seq h1), QE.here h E (by simp only [Rp, h2.length])⟩
  · obtain ⟨v, ev, rr⟩ := r.one; subst ev; replace r := rr; clear rr
    simp only [Rp] at r
    subst r
    split at h
    · exact .inr ⟨_, rfl, by rw [sizeLine_eq]; assumption, QE.here h E (by simp only [Rp])⟩
    · exact h.elim
  · exact h.elim
@[simp] def bAbs : PN
  | [.int i] => okS (.int i.natAbs)
  | _ => .stk
theorem f_abs : OpN X W (fun us => call (.builtin "abs") us) bAbs := OpN.of call_abs fun σ H xs Q F δ av fp ds E r h => by
  unfold bAbs at h
  split at h
  · obtain ⟨v, ev, rr⟩ := r.one; subst ev; replace r := rr; clear rr
    simp only [Rp] at r
    subst r
    refine ⟨_, rfl, QE.here h E ?_⟩
    simp only [Rp]
    split <;> congr 1 <;> omega
  · exact h.elim
@[simp] def bInt : PN
  | [.int i] => okS (.int i)
  | [.bl k] => okS (.int (if k then 1 else 0))
  | [.str x] => (match PySem.intText? x with
    | some n => if x.length ≤ 640 then okS (.int n) else .stk
    | none => .stk)
  | _ => .stk
theorem f_int : OpN X W (fun us => call (.type "int") us) bInt := OpN.of (call_int1.or call_int_str) fun σ H xs Q F δ av fp ds E r h => by
  unfold bInt at h
  split at h
  · obtain ⟨v, ev, rr⟩ := r.one; subst ev; replace r := rr; clear rr
    simp only [Rp] at r
    subst r
    exact .inl (.inl ⟨_, rfl, QE.here h E (by simp only [Rp])⟩)
  · obtain ⟨v, ev, rr⟩ := r.one; subst ev; replace r := rr; clear rr
    simp only [Rp] at r
    subst r
    exact .inl (.inr ⟨_, rfl, QE.here h E (by simp only [Rp])⟩)
  · obtain ⟨v, ev, rr⟩ := r.one; subst ev; replace r := rr; clear rr
    simp only [Rp] at r
    subst r
    split at h
    · split at h
      · exact .inr ⟨_, _, rfl, by assumption, by assumption, QE.here h E (by simp only [Rp])⟩
      · exact h.elim
    · exact h.elim
  · exact h.elim
@[simp] def bBool : PN
  | [.int i] => okS (.bl (i != 0))
  | [.bl k] => okS (.bl k)
  | _ => .stk
theorem f_bool : OpN X W (fun us => call (.type "bool") us) bBool := OpN.of call_bool1 fun σ H xs Q F δ av fp ds E r h => by
  unfold bBool at h
  split at h
  · obtain ⟨v, ev, rr⟩ := r.one; subst ev; replace r := rr; clear rr
    simp only [Rp] at r
    subst r
    exact .inl ⟨_, rfl, QE.here h E (by simp only [Rp])⟩
  · obtain ⟨v, ev, rr⟩ := r.one; subst ev; replace r := rr; clear rr
    simp only [Rp] at r
    subst r
    exact .inr ⟨_, rfl, QE.here h E (by simp only [Rp])⟩
  · exact h.elim
@[irreducible] def strb : Nat := 2 ^ 1920
theorem strb_eq : strb = 2 ^ 1920 := by unfold strb; rfl
@[simp] def bStr : PN
  | [.int i] => if i.natAbs < strb then okS (.str (Str.ofString (toString i))) else .stk
  | [.str x] => okS (.str x)
  | _ => .stk
theorem f_str : OpN X W (fun us => call (.type "str") us) bStr := OpN.of (call_str_int.or SkE.call_str_str) fun σ H xs Q F δ av fp ds E r h => by
  unfold bStr at h
  split at h
  · obtain ⟨v, ev, rr⟩ := r.one; subst ev; replace r := rr; clear rr
    simp only [Rp] at r
    subst r
    split at h
    · rename_i c
      rw [strb_eq] at c
      exact .inl ⟨_, rfl, PySem.Flt.log2_lt_of (by omega) c, QE.here h E (by simp only [Rp])⟩
    · exact h.elim
  · obtain ⟨v, ev, rr⟩ := r.one; subst ev; replace r := rr; clear rr
    simp only [Rp] at r
    subst r
    exact .inr ⟨_, rfl, QE.here h E (by simp only [Rp])⟩
  · exact h.elim

/-! ### of lists -/
@[simp] def intsD : List D → Option (List Int)
  | [] => some []
  | .int i :: r => (intsD r).map (i :: ·)
  | _ :: _ => none
@[simp] def blsD : List D → Option (List Bool)
  | [] => some []
  | .bl i :: r => (blsD r).map (i :: ·)
  | _ :: _ => none
theorem ints_ok : ∀ {xs : List D} {ns : List Int}, intsD xs = some ns → xs = ns.map D.int
  | [], ns, h => by simp at h; subst h; rfl
  | .int i :: r, ns, h => by
    simp only [intsD, Option.map_eq_some_iff] at h
    obtain ⟨a, h1, h2⟩ := h
    subst h2
    rw [ints_ok h1]
    rfl
  | .non :: _, _, h => by simp at h
  | .bl _ :: _, _, h => by simp at h
  | .str _ :: _, _, h => by simp at h
  | .tup _ :: _, _, h => by simp at h
  | .lst _ :: _, _, h => by simp at h
  | .rl _ :: _, _, h => by simp at h
  | .ins _ _ _ :: _, _, h => by simp at h
  | .err _ _ _ :: _, _, h => by simp at h
theorem bls_ok : ∀ {xs : List D} {ns : List Bool}, blsD xs = some ns → xs = ns.map D.bl
  | [], ns, h => by simp at h; subst h; rfl
  | .bl i :: r, ns, h => by
    simp only [blsD, Option.map_eq_some_iff] at h
    obtain ⟨a, h1, h2⟩ := h
    subst h2
    rw [bls_ok h1]
    rfl
  | .non :: _, _, h => by simp at h
  | .int _ :: _, _, h => by simp at h
  | .str _ :: _, _, h => by simp at h
  | .tup _ :: _, _, h => by simp at h
  | .lst _ :: _, _, h => by simp at h
  | .rl _ :: _, _, h => by simp at h
  | .ins _ _ _ :: _, _, h => by simp at h
  | .err _ _ _ :: _, _, h => by simp at h
@[simp] theorem ints_map : ∀ ns : List Int, intsD (ns.map D.int) = some ns
  | [] => rfl
  | n :: ns => by simp [ints_map ns]
@[simp] theorem bls_map : ∀ ns : List Bool, blsD (ns.map D.bl) = some ns
  | [] => rfl
  | n :: ns => by simp [bls_map ns]
theorem rpl_ints : ∀ {ns : List Int} {vs : List V}, RpL K F vs (ns.map D.int) → vs = ns.map V.int
  | [], [], _ => rfl
  | n :: ns, v :: vs, h => by
    simp only [List.map_cons, RpL, Rp] at h
    rw [h.1, rpl_ints h.2]
    rfl
  | [], _ :: _, h => by simp [RpL] at h
  | _ :: _, [], h => by simp [RpL] at h
theorem rpl_bls : ∀ {ns : List Bool} {vs : List V}, RpL K F vs (ns.map D.bl) → vs = ns.map V.bl
  | [], [], _ => rfl
  | n :: ns, v :: vs, h => by
    simp only [List.map_cons, RpL, Rp] at h
    rw [h.1, rpl_bls h.2]
    rfl
  | [], _ :: _, h => by simp [RpL] at h
  | _ :: _, [], h => by simp [RpL] at h
/-- a list's items -/
@[simp] def lOf : D → Option (List D)
  | .lst xs => some xs
  | .rl xs => some xs
  | _ => none
theorem lOf_ok {d : D} {xs : List D} {v : V} (h : lOf d = some xs) (r : Rp K F v d) : ∃ a vs, v = .ref a ∧ SqL K F a vs ∧ RpL K F vs xs := by
  cases d <;> simp only [lOf, Option.some.injEq, reduceCtorEq] at h
  all_goals subst h; simp only [Rp] at r; obtain ⟨a, vs, h1, h2, h3⟩ := r
  · exact ⟨a, vs, h1, SqL.of h2, h3⟩
  · exact ⟨a, vs, h1, h2, h3⟩
@[simp] def bSum : PN
  | [x] => (match (lOf x).bind intsD with
    | some ns => okS (.int ns.sum)
    | none => .stk)
  | _ => .stk
theorem f_sum (hc : X.calm = true) : OpN X W (fun us => call (.builtin "sum") us) bSum := OpN.of (cr_sum hc) fun σ H xs Q F δ av fp ds E r h => by
  unfold bSum at h
  split at h
  · obtain ⟨v, ev, rr⟩ := r.one; subst ev; replace r := rr; clear rr
    split at h
    · rename_i e
      simp only [Option.bind_eq_some_iff] at e
      obtain ⟨ys, e1, e2⟩ := e
      obtain ⟨a, vs, rfl, h1, h2⟩ := lOf_ok e1 r
      rw [ints_ok e2] at h2
      rw [rpl_ints h2] at h1
      exact ⟨a, _, rfl, E.sub.seq h1, QE.here h E (by simp only [Rp])⟩
    · exact h.elim
  · exact h.elim
@[simp] def bAll : PN
  | [x] => (match (lOf x).bind blsD with
    | some ns => okS (.bl (ns.all id))
    | none => .stk)
  | _ => .stk
theorem f_all (hc : X.calm = true) : OpN X W (fun us => call (.builtin "all") us) bAll := OpN.of (cr_all hc) fun σ H xs Q F δ av fp ds E r h => by
  unfold bAll at h
  split at h
  · obtain ⟨v, ev, rr⟩ := r.one; subst ev; replace r := rr; clear rr
    split at h
    · rename_i e
      simp only [Option.bind_eq_some_iff] at e
      obtain ⟨ys, e1, e2⟩ := e
      obtain ⟨a, vs, rfl, h1, h2⟩ := lOf_ok e1 r
      rw [bls_ok e2] at h2
      rw [rpl_bls h2] at h1
      exact ⟨a, _, rfl, E.sub.seq h1, QE.here h E (by simp only [Rp])⟩
    · exact h.elim
  · exact h.elim
@[simp] def bAny : PN
  | [x] => (match (lOf x).bind blsD with
    | some ns => okS (.bl (ns.any id))
    | none => .stk)
  | _ => .stk
theorem f_any (hc : X.calm = true) : OpN X W (fun us => call (.builtin "any") us) bAny := OpN.of (cr_any hc) fun σ H xs Q F δ av fp ds E r h => by
  unfold bAny at h
  split at h
  · obtain ⟨v, ev, rr⟩ := r.one; subst ev; replace r := rr; clear rr
    split at h
    · rename_i e
      simp only [Option.bind_eq_some_iff] at e
      obtain ⟨ys, e1, e2⟩ := e
      obtain ⟨a, vs, rfl, h1, h2⟩ := lOf_ok e1 r
      rw [bls_ok e2] at h2
      rw [rpl_bls h2] at h1
      exact ⟨a, _, rfl, E.sub.seq h1, QE.here h E (by simp only [Rp])⟩
    · exact h.elim
  · exact h.elim
@[simp] def bGcd : PN
  | [.int a, .int b] => okS (.int ((Nat.gcd a.natAbs b.natAbs : Nat) : Int))
  | _ => .stk
theorem f_gcd : OpN X W (fun us => call (.builtin "math.gcd") us) bGcd := OpN.of cr_gcd fun σ H xs Q F δ av fp ds E r h => by
  unfold bGcd at h
  split at h
  · obtain ⟨v, w, rfl, r1, r2⟩ := r.two
    simp only [Rp] at r1 r2
    subst r1 r2
    exact ⟨_, _, rfl, QE.here h E (by simp only [Rp])⟩
  · exact h.elim
@[simp] def bMax2 : PN
  | [.int a, .int b] => okS (.int (max a b))
  | _ => .stk
theorem f_max2 (hc : X.calm = true) : OpN X W (fun us => call (.builtin "max") us) bMax2 := OpN.of (call_max2 hc) fun σ H xs Q F δ av fp ds E r h => by
  unfold bMax2 at h
  split at h
  · obtain ⟨v, w, rfl, r1, r2⟩ := r.two
    simp only [Rp] at r1 r2
    subst r1 r2
    refine ⟨_, _, rfl, QE.here h E ?_⟩
    simp only [Rp]
    congr 1
    split <;> omega
  · exact h.elim
@[simp] def bMin2 : PN
  | [.int a, .int b] => okS (.int (min a b))
  | _ => .stk
theorem f_min2 (hc : X.calm = true) : OpN X W (fun us => call (.builtin "min") us) bMin2 := OpN.of (call_min2 hc) fun σ H xs Q F δ av fp ds E r h => by
  unfold bMin2 at h
  split at h
  · obtain ⟨v, w, rfl, r1, r2⟩ := r.two
    simp only [Rp] at r1 r2
    subst r1 r2
    refine ⟨_, _, rfl, QE.here h E ?_⟩
    simp only [Rp]
    congr 1
    split <;> omega
  · exact h.elim
/-- list(xs), tuple(xs) -/
@[simp] def bList : PN
  | [.lst xs] => mLst xs
  | [.rl xs] => mLst xs
  | [.tup xs] => mLst xs
  | _ => .stk
theorem f_list : OpN X W (fun us => call (.type "list") us) bList := OpN.of call_list_of fun σ H xs Q F δ av fp ds E r h => by
  unfold bList at h
  split at h
  · obtain ⟨v, ev, rr⟩ := r.one; subst ev; replace r := rr; clear rr
    simp only [Rp] at r
    obtain ⟨a, vs, rfl, h1, h2⟩ := r
    exact ⟨a, vs, rfl, .inl (SqL.of (E.sub _ _ h1)), (newLst h E h2).2⟩
  · obtain ⟨v, ev, rr⟩ := r.one; subst ev; replace r := rr; clear rr
    simp only [Rp] at r
    obtain ⟨a, vs, rfl, h1, h2⟩ := r
    exact ⟨a, vs, rfl, .inl (E.sub.seq h1), (newLst h E h2).2⟩
  · obtain ⟨v, ev, rr⟩ := r.one; subst ev; replace r := rr; clear rr
    simp only [Rp] at r
    obtain ⟨a, vs, rfl, h1, h2⟩ := r
    exact ⟨a, vs, rfl, .inr (sameT E.sub h1), (newLst h E h2).2⟩
  · exact h.elim
@[simp] def bTuple : PN
  | [.lst xs] => mTup xs
  | [.rl xs] => mTup xs
  | [.tup xs] => okS (.tup xs)
  | _ => .stk
theorem f_tuple : OpN X W (fun us => call (.type "tuple") us) bTuple := OpN.of call_tuple_of fun σ H xs Q F δ av fp ds E r h => by
  unfold bTuple at h
  split at h
  · obtain ⟨v, ev, rr⟩ := r.one; subst ev; replace r := rr; clear rr
    simp only [Rp] at r
    obtain ⟨a, vs, rfl, h1, h2⟩ := r
    exact ⟨a, vs, rfl, .inl ⟨SqL.of (E.sub _ _ h1), (newTup h E h2).2⟩⟩
  · obtain ⟨v, ev, rr⟩ := r.one; subst ev; replace r := rr; clear rr
    simp only [Rp] at r
    obtain ⟨a, vs, rfl, h1, h2⟩ := r
    exact ⟨a, vs, rfl, .inl ⟨E.sub.seq h1, (newTup h E h2).2⟩⟩
  · obtain ⟨v, ev, rr⟩ := r.one; subst ev; replace r := rr; clear rr
    have r' := r
    simp only [Rp] at r
    obtain ⟨a, vs, rfl, h1, h2⟩ := r
    exact ⟨a, vs, rfl, .inr ⟨sameT E.sub h1, QE.here h E r'⟩⟩
  · exact h.elim
/-- sorted(xs), whole numbers -/
@[simp] def isort (ns : List Int) : List Int := ns.mergeSort (fun a b => decide (a ≤ b))
theorem isort_is {ns ms : List Int} (h : ms.Perm ns) (s : ms.Pairwise (· ≤ ·)) : ms = isort ns := by
  refine List.Perm.eq_of_pairwise (le := (· ≤ ·)) (fun a b _ _ => Int.le_antisymm) s ?_ (h.trans (List.mergeSort_perm ns _).symm)
  have := List.pairwise_mergeSort (le := fun a b : Int => decide (a ≤ b)) (fun a b c h1 h2 => by simp at *; omega) (fun a b => by simp; omega) ns
  exact this.imp fun h => by simpa using h
@[simp] def bSorted : PN
  | [x] => (match (lOf x).bind intsD with
    | some ns => mLst ((isort ns).map D.int)
    | none => .stk)
  | _ => .stk
theorem rpl_map_int : ∀ ns : List Int, RpL K F (ns.map V.int) (ns.map D.int)
  | [] => RpL.nil
  | n :: ns => RpL.cons (by simp only [Rp]) (rpl_map_int ns)
theorem f_sorted : OpN X W (fun us => call (.builtin "sorted") us) bSorted := OpN.of cr_sortedI fun σ H xs Q F δ av fp ds E r h => by
  unfold bSorted at h
  split at h
  · obtain ⟨v, ev, rr⟩ := r.one; subst ev; replace r := rr; clear rr
    split at h
    · rename_i e
      simp only [Option.bind_eq_some_iff] at e
      obtain ⟨ys, e1, e2⟩ := e
      obtain ⟨a, vs, rfl, h1, h2⟩ := lOf_ok e1 r
      rw [ints_ok e2] at h2
      rw [rpl_ints h2] at h1
      refine ⟨a, _, rfl, E.sub.seq h1, fun ns' p hp hs hH => ?_⟩
      rw [isort_is hp hs]
      exact (newLst h E (rpl_map_int _)).2 p hH
    · exact h.elim
  · exact h.elim
end
end Fx
/-! Fx10: methods of texts and lists that are read, places, slices. -/
namespace Fx
open PySem PySem.Spec PyProof.Rows L2
section
variable {X : Cx} {K : Fg} {W : WX} {F H F' H' F1 H1 : Hp} {σ σ' : St} {δ δ' δ1 : En} {av : Nat → V} {fp fp' fp1 : Nat → List Addr}
/-! ### methods of built-in types, nothing changed -/
abbrev PM := D → List D → RO
def OpM (X : Cx) (W : WX) (T id : String) (f : PM) : Prop :=
  ∀ (pins : List (Addr × Obj)) (s : Shared) (σ : St) (H : Hp) (x : V) (xs : List V) (v : Value) (us : List Value) (Q : VK) (F : Hp) (δ : En) (av : Nat → V) (fp : Nat → List Addr) (d : D) (ds : List D), Inv X pins σ H s → RelV x v → Vals xs us → EOk X.K F H σ δ av fp → Rp X.K F x d → RpL X.K F xs ds →
    PEx X.K W F H σ av fp Q (up (f d ds) δ) → wpAny (model X.prog X.w) X.A (call (.builtin id) (v :: us)) (EP X pins σ Q) X.xe s
/-- a text, a list -/
@[simp] def tyD (T : String) : D → Bool
  | .str _ => T == "str"
  | .int _ => T == "int"
  | .lst _ => T == "list"
  | .rl _ => T == "list"
  | _ => false
theorem tyD_ok {T : String} {d : D} {x : V} (h : tyD T d = true) (r : Rp K F x d) (e : Same F H) : tyV K T x H := by
  cases d with
  | str z => simp only [Rp] at r; subst r; simpa [tyD, tyV] using h
  | int z => simp only [Rp] at r; subst r; simpa [tyD, tyV] using h
  | lst z =>
    simp only [Rp] at r
    obtain ⟨a, vs, rfl, h1, h2⟩ := r
    exact .inl ⟨by simpa [tyD] using h, vs, SqL.of (e _ _ h1)⟩
  | rl z =>
    simp only [Rp] at r
    obtain ⟨a, vs, rfl, h1, h2⟩ := r
    exact .inl ⟨by simpa [tyD] using h, vs, e.seq h1⟩
  | _ => simp [tyD] at h
def cBm (T : String) (f : PM) (o : Ex) (a : Ax) : Ex := fun δ => (o δ).bind fun q => if tyD T q.1.fz = true then (a q.2).bind fun p => up (f q.1.fz p.1) p.2 else .stk
variable {e o : Expr} {es : List Expr} {ca : Ax} {co : Ex} {name : Str} {apos cpos : Pos} {T bid : String} {f : PM}
theorem e_bm0 (pa : PlainAttrs T) (slot : PySem.Slot T name bid) (hty : typeOf (.builtin bid) = pure (.type "method_descriptor")) (hm : OpM X W T bid f) (ho : PE X o (wpE X.K W co))
    (hbase : attributeBase o name X.env (eval o X.env) = eval o X.env := by rfl) (hline : (apos.endLine == cpos.line) = true := by rfl) : PE X (.Call (.Attribute o name apos) [] [] cpos) (wpE X.K W (cBm T f co aN)) := by
  refine ⟨fun pins s σ H Q I ⟨F, δ, av, fp, E, h⟩ => ?_⟩
  refine wpAny_Call_method0_late hbase hline (thn (go1 ho I E h) fun v s1 ⟨x, H1, I1, r1, F1, fp1, t, δ1, E1, q1, m1, h1⟩ => ?_)
  dsimp only at h1
  by_cases c : tyD T t.fz = true
  · rw [if_pos c] at h1
    obtain ⟨h3, h4⟩ := tyV_is I1 r1 (tyD_ok c q1 E1.sub)
    exact ⟨T, bid, pa, slot, hty, h3, h4, Calls.callWith_builtin rfl (PySem.evalArgs_none (hm pins s1 σ H1 x [] v [] Q F1 δ1 av fp1 _ [] I1 r1 .nil E1 q1 RpL.nil h1))⟩
  · rw [if_neg c] at h1; exact h1.elim
theorem e_bm (pa : PlainAttrs T) (slot : PySem.Slot T name bid) (hty : typeOf (.builtin bid) = pure (.type "method_descriptor")) (hm : OpM X W T bid f) (ho : PE X o (wpE X.K W co)) (ha : PA X (e :: es) (wpA X.K W ca))
    (hbase : attributeBase o name X.env (eval o X.env) = eval o X.env := by rfl)
    (hfew : ((backTo cpos (starEach (e :: es) X.env)).all (fun x => !x.1) && (backToKw cpos (keywordEach [] X.env)).all (fun x => x.1.isSome)
      && decide ((e :: es).length + ([] : List Keyword).length + (if ([] : List Keyword).isEmpty then 0 else 1) < 30)) = true := by rfl)
    (hline : (apos.endLine == cpos.line) = true := by rfl) (hs : starEach (e :: es) X.env = (false, eval e X.env) :: starEach es X.env := by rfl) (hplain : (backTo cpos (starEach es X.env)).any (·.1) = false := by rfl) :
    PE X (.Call (.Attribute o name apos) (e :: es) [] cpos) (wpE X.K W (cBm T f co ca)) := by
  refine ⟨fun pins s σ H Q I ⟨F, δ, av, fp, E, h⟩ => ?_⟩
  refine wpAny_Call_method_late hbase hfew hline rfl (thn (go1 ho I E h) fun v s1 ⟨x, H1, I1, r1, F1, fp1, t, δ1, E1, q1, m1, h1⟩ => ?_)
  dsimp only at h1
  by_cases c : tyD T t.fz = true
  · rw [if_pos c] at h1
    obtain ⟨h3, h4⟩ := tyV_is I1 r1 (tyD_ok c q1 E1.sub)
    refine ⟨T, bid, pa, slot, hty, h3, h4, ?_⟩
    have hA := ha.run cpos pins s1 σ H1 _ I1 ⟨F1, δ1, av, fp1, E1, goA h1⟩
    rw [hs] at hA ⊢
    refine Calls.callWith_builtin (by show (false || (backTo cpos (starEach es X.env)).any (·.1)) = false; rw [hplain] <;> rfl) (Calls.evalArgs_plain ?_)
    exact thn hA fun us s2 ⟨vs, H2, I2, r2, F2, δ2, fp2, xs, E2, r3, m2, q⟩ => hm pins s2 σ H2 x vs v us Q F2 δ2 av fp2 _ xs I2 r1 r2 E2 (Rp.mono m2.same _ _ q1) r3 q
  · rw [if_neg c] at h1; exact h1.elim
theorem OpM.of {r : V → List V → Hp → VK → Prop} (hm : MtR X bid r)
    (h : ∀ (σ : St) (H : Hp) (x : V) (xs : List V) (Q : VK) (F : Hp) (δ : En) (av : Nat → V) (fp : Nat → List Addr) (d : D) (ds : List D), EOk X.K F H σ δ av fp → Rp X.K F x d → RpL X.K F xs ds → PEx X.K W F H σ av fp Q (up (f d ds) δ) → r x xs H Q) : OpM X W T bid f :=
  fun pins s σ H x xs v us Q F δ av fp d ds I r1 r2 E q1 q2 q => hm pins s σ H x xs v us Q I r1 r2 (h σ H x xs Q F δ av fp d ds E q1 q2 q)
@[simp] def tPart3 : PM
  | .str a, [.str b] => if b.length ≠ 0 ∧ a.length ≤ 16777216 then okS (.tup [.str (Txt.partition a b).1, .str (Txt.partition a b).2.1, .str (Txt.partition a b).2.2]) else .stk
  | _, _ => .stk
theorem m_partition : OpM X W "str" "str.partition" tPart3 := OpM.of mt_partition fun σ H x xs Q F δ av fp d ds E r1 r2 h => by
  unfold tPart3 at h
  split at h
  · obtain ⟨v, rfl, r2'⟩ := r2.one
    simp only [Rp] at r1 r2'
    subst r1 r2'
    split at h
    · rename_i c
      refine ⟨_, _, rfl, rfl, by simpa using c.1, by rw [sizeLine_eq]; exact c.2, ?_⟩
      exact (newTup (by simpa using h) E (RpL.cons (by simp only [Rp]) (RpL.cons (by simp only [Rp]) (RpL.cons (by simp only [Rp]) RpL.nil)))).2
    · exact h.elim
  · exact h.elim
@[simp] def tRpre : PM
  | .str a, [.str b] => if a.length ≤ 16777216 then okS (.str (Txt.removeprefix a b)) else .stk
  | _, _ => .stk
theorem m_removeprefix : OpM X W "str" "str.removeprefix" tRpre := OpM.of mt_removeprefix fun σ H x xs Q F δ av fp d ds E r1 r2 h => by
  unfold tRpre at h
  split at h
  · obtain ⟨v, rfl, r2'⟩ := r2.one
    simp only [Rp] at r1 r2'
    subst r1 r2'
    split at h
    · exact ⟨_, _, rfl, rfl, by rw [sizeLine_eq]; assumption, QE.here h E (by simp only [Rp])⟩
    · exact h.elim
  · exact h.elim

/-! ### places -/
def Ix2 (X : Cx) (W : WX) (f : P2) : Prop :=
  ∀ (value slice : Expr) (pins : List (Addr × Obj)) (s : Shared) (σ : St) (H : Hp) (x y : V) (v u : Value) (Q : VK) (F : Hp) (δ : En) (av : Nat → V) (fp : Nat → List Addr) (dx dy : D), Inv X pins σ H s → RelV x v → RelV y u → EOk X.K F H σ δ av fp → Rp X.K F x dx → Rp X.K F y dy →
    PEx X.K W F H σ av fp Q (up (f dx dy) δ) → subscripted slice false v u = operate [v, u] (getItem v u) → wpAny (model X.prog X.w) X.A (subscriptTail value slice v u) (EP X pins σ Q) X.xe s
theorem e_ix {a b : Expr} {ca cb : Ex} {f : P2} {pos : Pos} (hr : Ix2 X W f) (ha : PE X a (wpE X.K W ca)) (hb : PE X b (wpE X.K W cb)) (hs : PlainIx b) : PE X (.Subscript a b pos) (wpE X.K W (c2 f ca cb)) := by
  refine ⟨fun pins s σ H Q I ⟨F, δ, av, fp, E, h⟩ => ?_⟩
  refine Subscript_ (thn (go1 ha I E h) fun v s1 ⟨x, H1, I1, r1, F1, fp1, t, δ1, E1, q1, m1, h1⟩ => ?_)
  refine thn (go1 hb I1 E1 h1) fun u s2 ⟨y, H2, I2, r2, F2, fp2, t2, δ2, E2, q2, m2, h2⟩ => ?_
  exact hr a b pins s2 σ H2 x y v u Q F2 δ2 av fp2 _ _ I2 r1 r2 E2 (Rp.mono m2.same _ _ q1) q2 h2 (hs _ _)
/-- the items of a list or a tuple -/
@[simp] def seqOf : D → Option (List D)
  | .lst xs => some xs
  | .rl xs => some xs
  | .tup xs => some xs
  | _ => none
theorem seqOf_ok {d : D} {xs : List D} {v : V} (h : seqOf d = some xs) (r : Rp K F v d) : ∃ a vs, v = .ref a ∧ (SqL K F a vs ∨ SqT K F a vs) ∧ RpL K F vs xs := by
  cases d <;> simp only [seqOf, Option.some.injEq, reduceCtorEq] at h
  all_goals subst h; simp only [Rp] at r; obtain ⟨a, vs, h1, h2, h3⟩ := r
  · exact ⟨a, vs, h1, .inr h2, h3⟩
  · exact ⟨a, vs, h1, .inl (SqL.of h2), h3⟩
  · exact ⟨a, vs, h1, .inl h2, h3⟩
@[simp] def mIx : P2 := fun x y => match seqOf x, asI y with
  | some xs, some i => (match atI xs i with
    | some z => okS z
    | none => .stk)
  | none, some i => (match x with
    | .str z => if z.length ≤ 16777216 then (match atI z.cps.toList i with
      | some c => okS (.str ⟨#[c]⟩)
      | none => .stk) else .stk
    | _ => .stk)
  | _, _ => .stk
theorem atI_rpl {xs : List D} {vs : List V} {i : Int} {z : D} (r : RpL K F vs xs) (h : atI xs i = some z) : ∃ v, atI vs i = some v ∧ Rp K F v z := by
  unfold atI at h ⊢
  rw [r.length]
  cases e : ixN xs.length i with
  | none => rw [e] at h; cases h
  | some j =>
    rw [e] at h
    obtain ⟨v, h1, h2⟩ := r.get (show xs[j]? = some z from h)
    exact ⟨v, h1, h2⟩
theorem x_ix : Ix2 X W mIx := fun value slice pins s σ H x y v u Q F δ av fp dx dy I rx ry E r1 r2 h hs => by
  refine ix_seq value slice pins s σ H x y v u Q I rx ry ?_ hs
  unfold mIx at h
  split at h
  · rename_i xs i e1 e2
    rw [asI_ok e2] at r2
    simp only [Rp] at r2
    subst r2
    split at h
    · rename_i z e3
      obtain ⟨a, vs, rfl, h1, h2⟩ := seqOf_ok e1 r1
      obtain ⟨w, h3, h4⟩ := atI_rpl h2 e3
      rcases h1 with h1 | h1
      · exact .inl ⟨a, vs, i, w, rfl, rfl, E.sub.seq h1, h3, QE.here h E h4⟩
      · exact .inr (.inl ⟨a, vs, i, w, rfl, rfl, sameT E.sub h1, h3, QE.here h E h4⟩)
    · exact h.elim
  · rename_i i e1 e2
    rw [asI_ok e2] at r2
    simp only [Rp] at r2
    subst r2
    split at h
    · rename_i z
      simp only [Rp] at r1
      subst r1
      split at h
      · split at h
        · exact .inr (.inr ⟨z, i, _, rfl, rfl, by rw [sizeLine_eq]; assumption, by assumption, QE.here h E (by simp only [Rp])⟩)
        · exact h.elim
      · exact h.elim
    · exact h.elim
  · exact h.elim

/-! ### slices -/
abbrev Px := En → R En (Option Int × En)
def QP (K : Fg) (F H : Hp) (σ : St) (av : Nat → V) (fp : Nat → List Addr) (Q : Option Int → Hp → Prop) : Option Int → En → Prop :=
  fun o δ' => ∀ H' F' fp', EOk K F' H' σ δ' av fp' → Fm F H (Ow fp) F' H' (Ow fp') → Q o H'
def wpP (K : Fg) (W : WX) (c : Px) : TO := fun σ H Q => ∃ F δ av fp, EOk K F H σ δ av fp ∧ Po K W F H σ av fp (QP K F H σ av fp Q) (c δ)
def pNo : Px := fun δ => .ok (none, δ)
def asP : Sl × En → R En (Option Int × En)
  | (.d (.int i), δ) => .ok (some i, δ)
  | _ => .stk
def pSo (c : Ex) : Px := fun δ => (c δ).bind asP
theorem PO.wk {e : Option Expr} {t t' : TO} (h : PO X e t) (i : ∀ σ H Q, t' σ H Q → t σ H Q) : PO X e t' := ⟨fun pins s σ H Q I q => h.run pins s σ H Q I (i σ H Q q)⟩
theorem p_no : PO X none (wpP X.K W pNo) := PO.wk po_none fun σ H Q ⟨F, δ, av, fp, E, h⟩ => h H F fp E (Fm.refl fun _ z => z)
theorem goP {Q : Option Int → Hp → Prop} {r : R En (Sl × En)} (h : Po K W F H σ av fp (QP K F H σ av fp Q) (r.bind asP)) :
    PEx K W F H σ av fp (fun v H1 => ∃ i, v = .int i ∧ Q (some i) H1) r := by
  cases r with
  | ok p =>
    obtain ⟨t, δ'⟩ := p
    cases t with
    | d x =>
      cases x with
      | int b =>
        intro v H1 F1 fp1 f1 E1 a n d m
        simp only [At, Rp] at a
        exact ⟨b, a.2, h H1 F1 fp1 E1 (m.weak fun b hb => .inr hb)⟩
      | _ => exact h.elim
    | _ => exact h.elim
  | exc c ns xs b => exact h
  | stk => exact h
theorem p_so {e : Expr} {c : Ex} (he : PE X e (wpE X.K W c)) : PO X (some e) (wpP X.K W (pSo c)) :=
  PO.wk (po_some he) fun σ H Q ⟨F, δ, av, fp, E, h⟩ => ⟨F, δ, av, fp, E, goP h⟩
def Sl3 (X : Cx) (W : WX) (f : D → Option Int → Option Int → RO) : Prop :=
  ∀ (pins : List (Addr × Obj)) (s : Shared) (σ : St) (H : Hp) (x : V) (v vl vu : Value) (lo hi : Option Int) (sl : Addr) (Q : VK) (F : Hp) (δ : En) (av : Nat → V) (fp : Nat → List Addr) (dx : D), Inv X pins σ H s → RelV x v → s.heap.IsSliceOf sl vl vu .none → IsPart vl lo → IsPart vu hi → EOk X.K F H σ δ av fp → Rp X.K F x dx →
    PEx X.K W F H σ av fp Q (up (f dx lo hi) δ) →
    ∃ T id, typeLookup (.type T) "__getitem__" = pure (some (.builtin id)) ∧ s.TypeIs v T ∧ wpAny (model X.prog X.w) X.A (getItem v (.ref sl)) (EP X pins σ Q) X.xe s
def c3 (f : D → Option Int → Option Int → RO) (a : Ex) (l u : Px) : Ex := fun δ => (a δ).bind fun p => (l p.2).bind fun q => (u q.2).bind fun r => up (f p.1.fz q.1 r.1) r.2
theorem goPb {Q : VK} {r : R En (Option Int × En)} {f : Option Int × En → R En (Sl × En)} (h : PEx K W F H σ av fp Q (r.bind f)) : Po K W F H σ av fp (QP K F H σ av fp fun o H1 => ∃ F1 δ1 fp1, EOk K F1 H1 σ δ1 av fp1 ∧ Fm F H (Ow fp) F1 H1 (Ow fp1) ∧ PEx K W F1 H1 σ av fp1 Q (f (o, δ1))) r :=
  Po.imp (Po.bind h) fun o δ' z H' F' fp' E' m => ⟨F', δ', fp', E', m, PEx.frame z.2 m⟩
theorem e_slice {e : Expr} {lo hi : Option Expr} {ca : Ex} {cl cu : Px} {f : D → Option Int → Option Int → RO} {pos p2 : Pos} (hr : Sl3 X W f) (he : PE X e (wpE X.K W ca)) (hl : PO X lo (wpP X.K W cl)) (hu : PO X hi (wpP X.K W cu)) : PE X (.Subscript e (.Slice lo hi none p2) pos) (wpE X.K W (c3 f ca cl cu)) := by
  refine ⟨fun pins s σ H Q I ⟨F, δ, av, fp, E, h⟩ => ?_⟩
  refine Subscript_ (thn (go1 he I E h) fun v s1 ⟨x, H1, I1, r1, F1, fp1, t, δ1, E1, q1, m1, h1⟩ => ?_)
  refine wpAny_Slice (thn (hl.run pins s1 σ H1 _ I1 ⟨F1, δ1, av, fp1, E1, goPb h1⟩) fun vl s2 ⟨l, H2, I2, pl, F2, δ2, fp2, E2, m2, h2⟩ => thn (hu.run pins s2 σ H2 _ I2 ⟨F2, δ2, av, fp2, E2, goPb h2⟩) fun vu s3 ⟨u, H3, I3, pu, F3, δ3, fp3, E3, m3, h3⟩ => ?_)
  rw [evalPart_none]
  refine wpAny_pure ?_
  have I4 : Inv X pins σ H3 { s3 with heap := s3.heap.push { cls := .type "slice", data := .fields #[vl, vu, .none] } } := I3.kept (t' := s3.toks) fun b ob q => Heap.get?_push_of_some _ q
  obtain ⟨T, id, hT, ht, hg⟩ := hr pins { s3 with heap := s3.heap.push { cls := .type "slice", data := .fields #[vl, vu, .none] } } σ H3 x v vl vu l u s3.heap.objs.size Q F3 δ3 av fp3 _ I4 r1 (Heap.IsSliceOf.new ..) pl pu E3 (Rp.mono (m2.same.trans m3.same) _ _ q1) h3
  show wpAny (model X.prog X.w) X.A (subscriptTail e (.Slice lo hi none p2) v (.ref s3.heap.objs.size)) (EP X pins σ Q) X.xe { s3 with heap := s3.heap.push { cls := .type "slice", data := .fields #[vl, vu, .none] } }
  exact tail_any (ops := [.ref s3.heap.objs.size, v]) ht hT hg (by with_unfolding_all rfl)
def cutD (xs : List D) (lo hi : Option Int) : List D := (xs.drop (HT.sIx xs.length 0 lo)).take (HT.sIx xs.length xs.length hi - HT.sIx xs.length 0 lo)
@[simp] def mSl : D → Option Int → Option Int → RO
  | .lst xs, lo, hi => mLst (cutD xs lo hi)
  | .rl xs, lo, hi => mLst (cutD xs lo hi)
  | .tup xs, lo, hi => mTup (cutD xs lo hi)
  | .str z, lo, hi => if z.length ≤ 16777216 then okS (.str (cutS z lo hi)) else .stk
  | _, _, _ => .stk
theorem cut_rpl {xs : List D} {vs : List V} {lo hi : Option Int} (r : RpL K F vs xs) : RpL K F (cutV vs lo hi) (cutD xs lo hi) := by
  unfold cutV cutD
  rw [r.length]
  exact (r.drop _).take _
theorem x_slice : Sl3 X W mSl := fun pins s σ H x v vl vu lo hi sl Q F δ av fp dx I rx hs pl pu E r1 h => by
  refine ((sl_list.or sl_tupA).or sl_str) pins s σ H x v vl vu lo hi sl Q I rx hs pl pu ?_
  unfold mSl at h
  split at h
  · simp only [Rp] at r1
    obtain ⟨a, vs, rfl, h1, h2⟩ := r1
    exact .inl (.inl ⟨a, vs, rfl, SqL.of (E.sub _ _ h1), (newLst h E (cut_rpl h2)).2⟩)
  · simp only [Rp] at r1
    obtain ⟨a, vs, rfl, h1, h2⟩ := r1
    exact .inl (.inl ⟨a, vs, rfl, E.sub.seq h1, (newLst h E (cut_rpl h2)).2⟩)
  · simp only [Rp] at r1
    obtain ⟨a, vs, rfl, h1, h2⟩ := r1
    refine .inl (.inr ⟨a, vs, rfl, sameT E.sub h1, fun w => ?_, fun _ => (newTup h E (cut_rpl h2)).2⟩)
    have hw : ∀ (xs : List D), vs.length = xs.length → cutD xs lo hi = xs := fun xs e => by
      unfold cutD
      rw [← e, w.1, w.2, List.drop_zero, Nat.sub_zero, e, List.take_length]
    rw [hw _ h2.length] at h
    unfold mTup at h
    split at h
    · exact QE.here h E (by simp only [Rp]; exact ⟨a, vs, rfl, h1, h2⟩)
    · exact h.elim
  · simp only [Rp] at r1
    subst r1
    split at h
    · exact .inr ⟨_, rfl, by rw [sizeLine_eq]; assumption, QE.here h E (by simp only [Rp])⟩
    · exact h.elim
  · exact h.elim
/-! ### one sign in a text -/
@[simp] def sIn : P2
  | .str x, .str z => (match x.cps.toList with
    | [c] => okS (.bl (decide (c ∈ z.cps.toList)))
    | _ => .stk)
  | _, _ => .stk
theorem o_sin : Op2 X W (compareOp .In) sIn := fun pins s σ H x y v u Q F δ av fp dx dy I rx ry E r1 r2 h => by
  unfold sIn at h
  split at h
  · rename_i a z
    simp only [Rp] at r1 r2
    subst r1 r2
    split at h
    · rename_i c e
      have ea : a = ⟨#[c]⟩ := by
        obtain ⟨cps⟩ := a
        have : cps = #[c] := by
          have := congrArg List.toArray e
          simpa using this
        rw [this]
      subst ea
      exact op_in_sign pins s σ H _ _ v u Q I rx ry ⟨c, z, rfl, rfl, QE.here h E (by simp only [Rp])⟩
    · exact h.elim
  · exact h.elim
end
end Fx
/-! Fx11: operators that classes of the text define. -/
namespace Fx
open PySem PySem.Spec PyProof.Rows
section
/-- a built-in number's method declines an instance -/
def Decl (idl : String) : Prop := ∀ (prog : Program) (w : World) (A : Around) (E : Value → Shared → Prop) (s : Shared) (a : Int) (t : Tok) (x C dx : Addr) (Q : Value → Shared → Prop),
  s.heap.get? x = some (PySem.W.instObj C dx) → Q .notImplemented s → wpAny (model prog w) A (call (.builtin idl) [.int a t, .ref x]) Q E s
abbrev MeetsOwn (B : Builtin) : Prop := ∀ (a : Int) (t : Tok) (x C dx : Addr), Meets (B ⟨[.int a t, .ref x], []⟩) (fun _ R s => s.heap.get? x = some (PySem.W.instObj C dx) ∧ R (.ok (.ret Value.notImplemented)) s)
theorem Decl.of {idl : String} {name : Str} {B : Builtin} (slot : PySem.Slot "int" name idl) (entry : entryFor table idl = some B) (args : ∀ a t x, argsOk idl ⟨[.int a t, .ref x], []⟩) (g : MeetsOwn B) : Decl idl :=
  fun prog w A E s a t x C dx Q h q => call_meets slot (typeIs_int s a t) entry (args a t x) (g a t x C dx) ⟨h, q⟩
theorem own_add : MeetsOwn Builtin.«int.__add__» := fun a t x C dx => .of_wp fun prog w A R s h => by obtain ⟨hp, g, d, tk, os⟩ := s; obtain ⟨hl, h⟩ := h; unfold PySem.W.instObj at hl; wp_walk; exact ⟨_, rfl, h⟩
theorem own_sub : MeetsOwn Builtin.«int.__sub__» := fun a t x C dx => .of_wp fun prog w A R s h => by obtain ⟨hp, g, d, tk, os⟩ := s; obtain ⟨hl, h⟩ := h; unfold PySem.W.instObj at hl; wp_walk; exact ⟨_, rfl, h⟩
theorem own_mul : MeetsOwn Builtin.«int.__mul__» := fun a t x C dx => .of_wp fun prog w A R s h => by obtain ⟨hp, g, d, tk, os⟩ := s; obtain ⟨hl, h⟩ := h; unfold PySem.W.instObj at hl; wp_walk; exact ⟨_, rfl, h⟩
theorem own_floordiv : MeetsOwn Builtin.«int.__floordiv__» := fun a t x C dx => .of_wp fun prog w A R s h => by obtain ⟨hp, g, d, tk, os⟩ := s; obtain ⟨hl, h⟩ := h; unfold PySem.W.instObj at hl; wp_walk; exact ⟨_, rfl, h⟩
theorem own_mod : MeetsOwn Builtin.«int.__mod__» := fun a t x C dx => .of_wp fun prog w A R s h => by obtain ⟨hp, g, d, tk, os⟩ := s; obtain ⟨hl, h⟩ := h; unfold PySem.W.instObj at hl; wp_walk; exact ⟨_, rfl, h⟩
theorem own_lt : MeetsOwn Builtin.«int.__lt__» := fun a t x C dx => .of_wp fun prog w A R s h => by obtain ⟨hp, g, d, tk, os⟩ := s; obtain ⟨hl, h⟩ := h; unfold PySem.W.instObj at hl; wp_walk; exact ⟨_, rfl, h⟩
theorem own_le : MeetsOwn Builtin.«int.__le__» := fun a t x C dx => .of_wp fun prog w A R s h => by obtain ⟨hp, g, d, tk, os⟩ := s; obtain ⟨hl, h⟩ := h; unfold PySem.W.instObj at hl; wp_walk; exact ⟨_, rfl, h⟩
theorem own_gt : MeetsOwn Builtin.«int.__gt__» := fun a t x C dx => .of_wp fun prog w A R s h => by obtain ⟨hp, g, d, tk, os⟩ := s; obtain ⟨hl, h⟩ := h; unfold PySem.W.instObj at hl; wp_walk; exact ⟨_, rfl, h⟩
theorem own_ge : MeetsOwn Builtin.«int.__ge__» := fun a t x C dx => .of_wp fun prog w A R s h => by obtain ⟨hp, g, d, tk, os⟩ := s; obtain ⟨hl, h⟩ := h; unfold PySem.W.instObj at hl; wp_walk; exact ⟨_, rfl, h⟩
theorem own_eq : MeetsOwn Builtin.«int.__eq__» := fun a t x C dx => .of_wp fun prog w A R s h => by obtain ⟨hp, g, d, tk, os⟩ := s; obtain ⟨hl, h⟩ := h; unfold PySem.W.instObj at hl; wp_walk; exact ⟨_, rfl, h⟩
theorem own_ne : MeetsOwn Builtin.«int.__ne__» := fun a t x C dx => .of_wp fun prog w A R s h => by obtain ⟨hp, g, d, tk, os⟩ := s; obtain ⟨hl, h⟩ := h; unfold PySem.W.instObj at hl; wp_walk; exact ⟨_, rfl, h⟩
/-- what is asked of int for an operator -/
structure IntOp (op : Operator) : Prop where
  ex : ∃ (idl : String), PySem.Slot "int" (PySem.dunder op.info.2) idl ∧ Decl idl
  l : (fastLookup "int" (PySem.dunder op.info.2)).isSome = true
  r : (fastLookup "int" (dunderR op.info.2)).isSome = true
  fills : fillsNumberSlot (.type "int") op.info.2 = pure true
theorem io_add : IntOp .Add := ⟨⟨"int.__add__", F.slot_int_add, Decl.of F.slot_int_add F.entry_int_add (fun _ _ _ => F.args_int_add_2 _ _) own_add⟩, by decide +kernel, by decide +kernel, F.fills_int_add⟩
theorem io_sub : IntOp .Sub := ⟨⟨"int.__sub__", F.slot_int_sub, Decl.of F.slot_int_sub F.entry_int_sub (fun _ _ _ => F.args_int_sub_2 _ _) own_sub⟩, by decide +kernel, by decide +kernel, F.fills_int_sub⟩
theorem io_mul : IntOp .Mult := ⟨⟨"int.__mul__", F.slot_int_mul, Decl.of F.slot_int_mul F.entry_int_mul (fun _ _ _ => F.args_int_mul_2 _ _) own_mul⟩, by decide +kernel, by decide +kernel, F.fills_int_mul⟩
theorem io_fdv : IntOp .FloorDiv := ⟨⟨"int.__floordiv__", F.slot_int_floordiv, Decl.of F.slot_int_floordiv F.entry_int_floordiv (fun _ _ _ => F.args_int_floordiv_2 _ _) own_floordiv⟩, by decide +kernel, by decide +kernel, F.fills_int_floordiv⟩
theorem io_mod : IntOp .Mod := ⟨⟨"int.__mod__", F.slot_int_mod, Decl.of F.slot_int_mod F.entry_int_mod (fun _ _ _ => F.args_int_mod_2 _ _) own_mod⟩, by decide +kernel, by decide +kernel, F.fills_int_mod⟩
structure IntCmp (op : CmpOp) : Prop where
  ex : ∃ idl : String, PySem.Slot "int" (cmpInfo op).2.1 idl ∧ Decl idl
  is : ∀ a b, compareOp op a b = richCompare op a b
theorem ic_lt : IntCmp .Lt := ⟨⟨"int.__lt__", F.slot_int_lt, Decl.of F.slot_int_lt F.entry_int_lt (fun _ _ _ => F.args_int_lt_2 _ _) own_lt⟩, fun _ _ => rfl⟩
theorem ic_le : IntCmp .LtE := ⟨⟨"int.__le__", F.slot_int_le, Decl.of F.slot_int_le F.entry_int_le (fun _ _ _ => F.args_int_le_2 _ _) own_le⟩, fun _ _ => rfl⟩
theorem ic_gt : IntCmp .Gt := ⟨⟨"int.__gt__", F.slot_int_gt, Decl.of F.slot_int_gt F.entry_int_gt (fun _ _ _ => F.args_int_gt_2 _ _) own_gt⟩, fun _ _ => rfl⟩
theorem ic_ge : IntCmp .GtE := ⟨⟨"int.__ge__", F.slot_int_ge, Decl.of F.slot_int_ge F.entry_int_ge (fun _ _ _ => F.args_int_ge_2 _ _) own_ge⟩, fun _ _ => rfl⟩
theorem ic_eq : IntCmp .Eq := ⟨⟨"int.__eq__", F.slot_int_eq, Decl.of F.slot_int_eq F.entry_int_eq (fun _ _ _ => F.args_int_eq_2 _ _) own_eq⟩, fun _ _ => rfl⟩
theorem ic_ne : IntCmp .NotEq := ⟨⟨"int.__ne__", F.slot_int_ne, Decl.of F.slot_int_ne F.entry_int_ne (fun _ _ _ => F.args_int_ne_2 _ _) own_ne⟩, fun _ _ => rfl⟩
end
section
variable {prog : Program} {w : World} {A : Around} {E : Value → Shared → Prop} {s : Shared} {K : PySem.W.Frag} {x C dx f f0 : Addr} {od : Option Obj}
/-- an int on the left, an instance on the right -/
theorem binop_refl {op : Operator} {a : Int} {t : Tok} {Q : Value → Shared → Prop} (G : IntOp op) (X : K.In s.heap) (I : PySem.W.InstAt s.heap x (PySem.W.instObj C dx) C od) (hc : PySem.W.selfFirst K C = true)
    (hs : PySem.W.findIn K (.ref C) (PySem.dunder op.info.2) = some (some (.ref f0))) (hr : PySem.W.findIn K (.ref C) (dunderR op.info.2) = some (some (.ref f))) (hf : PySem.W.isFn K (.ref f) = true) (hsub : PySem.W.subIn K (.ref C) (.type "int") = some false)
    (h : wpAny (model prog w) A (call (.ref f) [.ref x, .int a t]) (PySem.W.CmpBack Q) E s) : wpAny (model prog w) A (binaryOp op (.int a t) (.ref x)) Q E s := by
  obtain ⟨⟨idl, slot, dec⟩, _, _, fills⟩ := G
  obtain ⟨cd, rest, hcd, hm⟩ := PySem.W.ksp_first hc
  rcases hi : op.info with ⟨sym, nm'⟩
  rw [hi] at hs hr slot fills
  dsimp only at hs hr slot fills
  have one := PySem.W.ksp_try X I hr hf h
  have L3 : PySem.W.Looks (model prog w) s.heap (fillsNumberSlot (.ref C) nm') true := PySem.W.fills_K X hcd hm hs
  have L5 : PySem.W.Looks (model prog w) s.heap (isSubtype (.ref C) (.type "int")) false := PySem.W.looks_subIn X hsub
  simp only [binaryOp, hi]
  refine wpAny_holding (wpAny_bind ?_)
  unfold binaryOp1
  refine wpAny_bind (wpAny_typeOf (typeIs_int s a t) (wpAny_bind (I.type.here (wpAny_bind (wpAny_of_eq fills ?_)))))
  have hne : (Value.type "int" == Value.ref C) = false := rfl
  simp only [hne, Bool.false_eq_true, if_false]
  refine wpAny_bind (L3.here ?_)
  simp only [Bool.and_self, if_true]
  refine wpAny_bind (L5.here ?_)
  have hpy : numberSlotInPython (.type "int") nm' = pure false := rfl
  simp only [Bool.false_eq_true, if_false, pure_bind, Bool.not_false, Bool.and_self, if_true, hpy]
  refine wpAny_bind (wpAny_tryMethod_declines (typeIs_int s a t) slot (dec prog w A E s a t x C dx _ I.at_ ⟨rfl, ?_⟩))
  refine wpAny_bind (wpAny_mono one (fun r s' hr' => ?_) fun _ _ e => e)
  obtain ⟨v, rfl, hq⟩ := hr'
  refine wpAny_bind (wpAny_rule (wpAny_pure ?_))
  exact wpAny_pure hq
theorem cmp_refl {op : CmpOp} {a : Int} {t : Tok} {Q : Value → Shared → Prop} (hu : A.units < cLine) (G : IntCmp op) (X : K.In s.heap) (I : PySem.W.InstAt s.heap x (PySem.W.instObj C dx) C od)
    (hr : PySem.W.findIn K (.ref C) (cmpInfo op).2.2 = some (some (.ref f))) (hf : PySem.W.isFn K (.ref f) = true) (hsub : PySem.W.subIn K (.ref C) (.type "int") = some false)
    (h : wpAny (model prog w) A (call (.ref f) [.ref x, .int a t]) (PySem.W.CmpBack Q) E s) : wpAny (model prog w) A (compareOp op (.int a t) (.ref x)) Q E s := by
  obtain ⟨⟨idl, slot, dec⟩, is⟩ := G
  rw [is]
  have one : wpAny (model prog w) A (tryCompare (.ref x) (cmpInfo op).2.2 (.int a t)) (fun r s' => ∃ v, r = some v ∧ Q v s') E s := by
    unfold tryCompare
    refine wpAny_bind (PySem.W.ifBound_K X I hr hf (wpAny_mono h (fun v s' hv => ?_) fun _ _ e => e))
    cases v <;> first | exact hv.elim | exact wpAny_pure ⟨_, rfl, hv⟩
  have L5 : PySem.W.Looks (model prog w) s.heap (isSubtype (.ref C) (.type "int")) false := PySem.W.looks_subIn X hsub
  unfold richCompare
  simp only [(typeIs_int s a t).oneThing_none]
  refine wpAny_holding (wpAny_bind (wpAny_cRoomFor hu ?_))
  refine wpAny_bind (wpAny_typeOf (typeIs_int s a t) (wpAny_bind (I.type.here ?_)))
  have hne : (Value.type "int" != Value.ref C) = true := rfl
  simp only [hne, if_true]
  refine wpAny_bind (L5.here ?_)
  simp only [Bool.false_eq_true, if_false, Bool.not_false, if_true]
  refine wpAny_bind (m := tryCompare (.int a t) _ (.ref x)) (wpAny_tryCompare_declines (typeIs_int s a t) slot (dec prog w A E s a t x C dx _ I.at_ ⟨rfl, ?_⟩))
  refine wpAny_bind (m := tryCompare (.ref x) _ (.int a t)) (wpAny_mono one (fun r s' z => ?_) fun _ _ e => e)
  obtain ⟨v, rfl, hq⟩ := z
  exact wpAny_pure hq
/-- x != y where the class has __eq__ alone -/
theorem ne_own {b tb : Value} {Q : Value → Shared → Prop} (hu : A.units + 1 < cLine) (X : K.In s.heap) (I : PySem.W.InstAt s.heap x (PySem.W.instObj C dx) C od) (hb : PySem.W.Looks (model prog w) s.heap (typeOf b) tb) (hn : PySem.W.notFirst K C tb = true)
    (hs : PySem.W.findIn K (.ref C) "__ne__" = some (some (.builtin "object.__ne__"))) (hm : PySem.W.mroIn K C (.type "object") = some true)
    (he : PySem.W.findIn K (.ref C) "__eq__" = some (some (.ref f))) (hf : PySem.W.isFn K (.ref f) = true)
    (h : wpAny (model prog w) A.in1 (call (.ref f) [.ref x, b]) (fun v s' => ∃ c, v = .bool c ∧ Q (.bool (!c)) s') E s) : wpAny (model prog w) A (compareOp .NotEq (.ref x) b) Q E s := by
  have entry : ∀ {R : Fin → Shared → Prop}, (∀ c s', Q (.bool (!c)) s' → R (.done (.ret (.bool (!c)))) s') → wpAny (model prog w) A.in1 (Builtin.«object.__ne__» ⟨[.ref x, b], []⟩) R E s := fun {R} hR => by
    unfold Builtin.«object.__ne__»
    refine wpAny_bind (m := slotArgs _ _ _) (wpAny_pure ?_)
    dsimp only
    refine wpAny_bind (wpAny_cRoomFor (show A.in1.units < cLine from hu) ?_)
    refine wpAny_bind (PySem.W.ifBound_K X I he hf (wpAny_mono h (fun v s' hv => ?_) fun _ _ e => e))
    obtain ⟨c, rfl, hq⟩ := hv
    dsimp only
    refine wpAny_bind (wpAny_truthy_bool ?_)
    exact wpAny_pure (hR c s' hq)
  have one : wpAny (model prog w) A (tryCompare (.ref x) "__ne__" b) (fun r s' => ∃ v, r = some v ∧ Q v s') E s := by
    unfold tryCompare
    refine wpAny_bind (m := callSpecialIfBound? _ _ _) ?_
    simp only [callSpecialIfBound?, bindSpecialIfBound?]
    refine wpAny_holding (wpAny_bind (wpAny_bind (wpAny_bind (I.type.here ((PySem.W.looks_findIn X hs).here ?_)))))
    refine wpAny_bind (wpAny_askSetting (wpAny_ite ?_))
    have fin : wpAny (model prog w) A (call (.builtin "object.__ne__") ([.ref x] ++ [b]) >>= fun v => pure (some v)) (fun r s' => wpAny (model prog w) A (match r with | some .notImplemented | none => pure none | some v => pure (some v)) (fun r s' => ∃ v, r = some v ∧ Q v s') E s') E s :=
      wpAny_bind (wpAny_call (codeAny_call_builtin F.cmp_object.ne.plain F.cmpEntry_ne (PySem.W.check_slot F.cmpKind_ne F.cmpSplit_ne (I.type.andThen (PySem.W.looks_mroIn X hm)) (F.cmpArgs_ne _ _) (entry fun c s' hq => wpAny_pure (wpAny_pure ⟨_, rfl, hq⟩)))))
    split
    · exact wpAny_bind (wpAny_of_eq (F.cmp_object.ne.bind _) (wpAny_pure (by exact fin)))
    · exact wpAny_tryCatch (wpAny_bind (wpAny_of_eq (F.cmp_object.ne.bind _) (wpAny_pure (by exact fin))))
  show wpAny (model prog w) A (richCompare .NotEq (.ref x) b) Q E s
  unfold richCompare
  simp only [oneThing_ref]
  refine wpAny_holding (wpAny_bind (wpAny_cRoomFor (Nat.lt_of_succ_lt hu) ?_))
  refine wpAny_bind (I.type.here (wpAny_bind (hb.here ?_)))
  split
  · rename_i q
    have e : PySem.W.subIn K tb (.ref C) = some false := by
      rcases Bool.or_eq_true_iff.mp hn with e | e
      · rw [beq_iff_eq.mp e] at q; simp at q
      · exact beq_iff_eq.mp e
    refine wpAny_bind ((PySem.W.looks_subIn X e).here ?_)
    simp only [Bool.false_eq_true, if_false]
    refine wpAny_bind (m := tryCompare _ _ _) (wpAny_mono one (fun r s' z => ?_) fun _ _ e => e)
    obtain ⟨v, rfl, hq⟩ := z
    exact wpAny_pure hq
  · refine wpAny_bind (wpAny_pure ?_)
    simp only [Bool.false_eq_true, if_false]
    refine wpAny_bind (m := tryCompare _ _ _) (wpAny_mono one (fun r s' z => ?_) fun _ _ e => e)
    obtain ⟨v, rfl, hq⟩ := z
    exact wpAny_pure hq
theorem kind_abs : builtinKind "abs" = none := by decide +kernel
theorem plain_abs : plainId "abs" = true := by decide +kernel
theorem entry_abs : entryFor table "abs" = some Builtin.«abs» := entryFor_of_tree (by kernel_rfl)
theorem args_abs1 (a : Value) : argsOk "abs" ⟨[a], []⟩ := by unfold argsOk; kernel_rfl
/-- abs(x) -/
theorem abs_own {Q : Value → Shared → Prop} (X : K.In s.heap) (I : PySem.W.InstAt s.heap x (PySem.W.instObj C dx) C od) (hs : PySem.W.findIn K (.ref C) "__abs__" = some (some (.ref f))) (hf : PySem.W.isFn K (.ref f) = true)
    (h : wpAny (model prog w) A.in1 (call (.ref f) [.ref x]) Q E s) : wpAny (model prog w) A (call (.builtin "abs") [.ref x]) Q E s := by
  refine Calls.call_function_entry kind_abs plain_abs entry_abs (args_abs1 _) ?_
  unfold Builtin.«abs»
  refine wpAny_bind (m := oneArg "abs" _) (wpAny_pure ?_)
  refine wpAny_bind (m := callSpecial? (.ref x) (Str.ofString "__abs__")) (PySem.W.special_fn X I hs (beq_iff_eq.mp hf) (wpAny_mono h (fun r s' hr => ?_) fun _ _ y => y))
  exact wpAny_pure ⟨_, rfl, hr⟩
theorem truthy_own {M : Model} {Q : Bool → Shared → Prop} (X : K.In s.heap) (I : PySem.W.InstAt s.heap x (PySem.W.instObj C dx) C od) (hs : PySem.W.findIn K (.ref C) "__bool__" = some (some (.ref f))) (hf : PySem.W.isFn K (.ref f) = true)
    (h : wpAny M A (call (.ref f) [.ref x]) (PySem.W.BoolBack Q) E s) : wpAny M A (truthy (.ref x)) Q E s := by
  unfold truthy
  refine wpAny_bind (m := callSpecial? (.ref x) (Str.ofString "__bool__")) (PySem.W.special_fn X I hs (beq_iff_eq.mp hf) (wpAny_mono h (fun r s' hr => ?_) fun _ _ y => y))
  cases r <;> first | exact hr.elim | skip
  exact wpAny_pure hr
end
end Fx
namespace Fx
open PySem PySem.Spec PyProof.Rows PySem.Calls Builtin
section
variable {prog : Program} {w : World} {A : Around} {E : Value → Shared → Prop} {s : Shared} {K : PySem.W.Frag} {x C dx f f0 : Addr} {od : Option Obj}
theorem bool_own {Q : Value → Shared → Prop} (X : K.In s.heap) (I : PySem.W.InstAt s.heap x (PySem.W.instObj C dx) C od) (hs : PySem.W.findIn K (.ref C) "__bool__" = some (some (.ref f))) (hf : PySem.W.isFn K (.ref f) = true)
    (h : wpAny (model prog w) A.in1.in1 (call (.ref f) [.ref x]) (PySem.W.BoolBack fun b s' => Q (.bool b) s') E s) : wpAny (model prog w) A (call (.type "bool") [.ref x]) Q E s := by
  refine callType_codes (T := "bool") (Bi := Builtin.«object.__init__») (Q₁ := fun r s₁ => ∃ b, r = .bool b ∧ Q r s₁) F.called_bool (F.typeCall_bool_1 _) F.entry_object_init ?_ ?_
  · refine codeAny_of_tree ?_
    show wpAny _ A.in1.in1 (do checkBuiltinCall "bool.__new__" ⟨[.type "bool", .ref x], []⟩; again (.builtin "bool.__new__" ⟨[.type "bool", .ref x], []⟩)) _ _ s
    refine wpAny_bind (wpAny_of_eq (F.newCall_bool_1 _) (wpAny_pure ⟨plainId_quiet (by decide +kernel) _, codeAny_builtin F.entry_bool_new ?_⟩))
    rw [Around.under_plainId (by decide +kernel) _]
    unfold Builtin.«bool.__new__»
    have f1 := F.conv_sub_bool
    have tr : wpAny (model prog w) A.in1.in1 (truthy (.ref x)) (fun b s' => Q (.bool b) s') E s := truthy_own X I hs hf h
    repeat (any_goals (first | assumption | (refine wpAny_bind (m := truthy (.ref x)) (wpAny_mono tr (fun b s' hb => ?_) fun _ _ y => y)) | wp_step))
    all_goals first | exact ⟨_, rfl, hb⟩ | exact wpAny_pure ⟨_, rfl, hb⟩ | skip
  · rintro obj s₁ ⟨b, rfl, hq⟩
    exact ⟨rfl, F.args_object_init_2 _ _, object_init_meets F.called_bool.init.lookup F.called_bool.made (by decide) prog w A.in1 _ s₁ ⟨rfl, rfl, hq⟩⟩
end
end Fx
/-! Fx12: own operators as operations on data; isinstance. -/
namespace Fx
open PySem PySem.Spec PyProof.Rows L2
section
variable {X : Cx} {K : Fg} {W : WX} {F H F' H' F1 H1 : Hp} {σ σ' : St} {δ δ' δ1 : En} {av : Nat → V} {fp fp' fp1 : Nat → List Addr} {k : Nat} {m : Fn}
def ofFn (m : Fn) (xs : List D) : RO := match m (xs.map Sl.d) with
  | .ok (r, _) => .ok r
  | .exc c ns xs _ => .exc c ns xs ()
  | .stk => .stk
theorem up_ofFn {xs : List D} : up (ofFn m xs) δ = upF (m (xs.map Sl.d)) δ := by
  unfold ofFn
  cases m (xs.map Sl.d) <;> rfl
theorem run_at {A : Around} {f : Addr} {fd : FuncData} {ps : List Str} {dvs : List V} {ds : List Value} {pins : List (Addr × Obj)} {s : Shared} {Q : VK} {us : List Value} {vs : List V} {xs dfl : List D}
    (Fo : FnOk X.prog X.w X.K X.mg X.base (L2.CX X.prog X.w) k f fd ps (spF X.K m)) (hb : Binds X.K fd ps ds) (hd : Vals dvs ds) (hrd : ∀ F, RpL X.K F dvs dfl) (hr : Room k A) (e0 : Env0 X.prog X.w X.K X.mg X.base A X.stack s H)
    (tk : Takes X W) (I : Inv X pins σ H s) (r : Vals vs us) (E : EOk X.K F H σ δ av fp) (rx : RpL X.K F vs xs) (h : PEx X.K W F H σ av fp Q (up (ofFn m (xs ++ dfl)) δ)) : wpAny (model X.prog X.w) A (call (.ref f) us) (EP X pins σ Q) X.xe s := by
  have sp : spF X.K m (vs ++ dvs) H Q (WE W σ) := call_sp (by rw [← up_ofFn]; exact h) E (rx.append (hrd F))
  have r2 : Vals (vs ++ dvs) (us ++ ds) := r.append hd
  have hl : (us ++ ds).length = ps.length := by rw [← r2.length]; exact Fo.len _ _ _ _ sp
  refine wpAny_call (codeAny_mono (Fo.run A X.stack s H ⟨us, []⟩ (us ++ ds) (vs ++ dvs) Q (WE W σ) hr e0 (hb s us I.kIn hl) r2 sp) fun r s' hq => ?_)
  cases r with
  | error e => exact passAt tk σ pins H s e s' I hq
  | ok fl =>
    cases fl with
    | ret u => exact I.after hq
    | next => exact False.elim hq
    | brk => exact False.elim hq
    | cont => exact False.elim hq
/-- an instance stands there -/
theorem ins_look {c : String} {ns : List String} {xs : List D} {v : V} {u : Value} {pins : List (Addr × Obj)} {s : Shared} (I : Inv X pins σ H s) (rv : RelV v u) (r : Rp X.K F v (.ins c ns xs)) (e : Same F H) :
    ∃ a dx od, v = .ref a ∧ u = .ref a ∧ PySem.W.InstAt s.heap a (PySem.W.instObj (He.ga X.K c) dx) (He.ga X.K c) (some od) := by
  simp only [Rp] at r
  obtain ⟨a, dx, vs, r1, r2, r3, r4, r5⟩ := r
  subst r1
  obtain ⟨mA, O, _⟩ := ins_get I.hok (e _ _ r2)
  obtain ⟨od, J, _⟩ := O.look
  exact ⟨a, dx, od, rfl, rv, J⟩
theorem sub_int {C : Addr} : PySem.W.subIn K (.type "int") (.ref C) = some false := by
  have e : fastBuiltinMro "int" = some [.type "int", .type "object"] := by decide +kernel
  show (fastBuiltinMro "int").map (·.contains (.ref C)) = some false
  rw [e]
  first
    | rfl
    | simp
/-- an operation on the right operands that are let: an int, one of the same class -/
def opB (tb : List (String × Fn)) : P2
  | .ins c ns xs, .int j => (match mOf c tb with
    | some m => ofFn m [.ins c ns xs, .int j]
    | none => .stk)
  | .ins c ns xs, .ins c' ns' ys => if c' = c then (match mOf c tb with
    | some m => ofFn m [.ins c ns xs, .ins c' ns' ys]
    | none => .stk) else .stk
  | _, _ => .stk
def opR (tb : List (String × Fn)) : P2
  | .int i, .ins c ns xs => (match mOf c tb with
    | some m => ofFn m [.ins c ns xs, .int i]
    | none => .stk)
  | _, _ => .stk
def opN (tb : List (String × Fn)) : P2 := fun x y => match opB tb x y with
  | .ok (.d (.bl b)) => okS (.bl (!b))
  | .exc c ns xs _ => .exc c ns xs ()
  | _ => .stk
def opU (tb : List (String × Fn)) : P1
  | .ins c ns xs => (match mOf c tb with
    | some m => ofFn m [.ins c ns xs]
    | none => .stk)
  | _ => .stk
def opU1 (tb : List (String × Fn)) : PN
  | [x] => opU tb x
  | _ => .stk
/-- a class whose operator may stand on either side of an int -/
structure OwnB (K : Fg) (c : String) (op : Operator) : Prop where
  sf : PySem.W.selfFirst K (He.ga K c) = true
  ni : PySem.W.subIn K (.ref (He.ga K c)) (.type "int") = some false
  r : ∃ rc, PySem.W.findIn K (.ref (He.ga K c)) (dunderR op.info.2) = some rc ∧ (rc = none ∨ ∃ g : Addr, rc = some (.ref g))
theorem isSome_ex {α : Type} {o : Option α} (h : o.isSome = true) : ∃ x, o = some x := by
  cases o with
  | none => cases h
  | some x => exact ⟨x, rfl⟩
abbrev MtT (X : Cx) (n : String) (k : Nat) (dfl : List D) (tb : List (String × Fn)) : Prop := ∀ q ∈ tb, MtG X.prog X.w X.K X.mg X.base q.1 n k q.2 dfl
theorem o_bin {op : Operator} {n : String} {tb : List (String × Fn)} (G : IntOp op) (hn : Str.ofString n = PySem.dunder op.info.2) (ht : MtT X n k [] tb) (ho : ∀ q ∈ tb, OwnB X.K q.1 op) (hr : Room k X.A) (tk : Takes X W) : Op2 X W (binaryOp op) (opB tb) := by
  intro pins s σ H x y v u Q F δ av fp dx dy I rx ry E r1 r2 h
  obtain ⟨m0, hF⟩ := I.fr
  unfold opB at h
  split at h
  · rename_i c ns xs j
    cases hm : mOf c tb with
    | none => simp only [hm] at h; exact h.elim
    | some m =>
      simp only [hm] at h
      have hmem := mOf_mem hm
      obtain ⟨a, d2, od, rfl, rfl, J⟩ := ins_look I rx r1 E.sub
      have r2' := r2
      simp only [Rp] at r2
      subst r2
      obtain ⟨t, rfl⟩ := ry
      obtain ⟨f, fd, ps, dvs, ds, Fo, hme, hb, hd, hrd⟩ := (ht _ hmem).ex
      obtain ⟨fo, hfo⟩ := isSome_ex G.l
      obtain ⟨ro, hro⟩ := isSome_ex G.r
      obtain ⟨rc, hrc, hp⟩ := (ho _ hmem).r
      refine PySem.W.ksp_binT (T := "int") (fo := fo) (ro := ro) hF I.ok.mod.kin J (typeIs_int s j t) (ho _ hmem).sf (by rw [← hn]; exact hme.at_) hme.fn hrc hp hfo hro sub_int ?_
      refine wpAny_mono (run_at (us := [.ref a, .int j t]) (vs := [.ref a, .int j]) Fo hb hd hrd hr I.env0 tk I (.cons rfl (.cons ⟨t, rfl⟩ .nil)) E (RpL.cons r1 (RpL.cons r2' RpL.nil)) (by rw [List.append_nil]; exact h)) (fun w s' z => ?_) fun _ _ e => e
      obtain ⟨z', H', I', rz, qz⟩ := z
      exact SlX.cmpback rz ⟨z', H', I', rz, qz⟩
  · rename_i c ns xs c' ns' ys
    by_cases ec : c' = c
    · rw [if_pos ec] at h
      subst ec
      cases hm : mOf c' tb with
      | none => simp only [hm] at h; exact h.elim
      | some m =>
        simp only [hm] at h
        have hmem := mOf_mem hm
        obtain ⟨a, d2, od, rfl, rfl, J⟩ := ins_look I rx r1 E.sub
        obtain ⟨b, d3, od2, rfl, rfl, J2⟩ := ins_look I ry r2 E.sub
        obtain ⟨f, fd, ps, dvs, ds, Fo, hme, hb, hd, hrd⟩ := (ht _ hmem).ex
        refine PySem.W.binop_K hF I.ok.mod.kin J J2.type (ho _ hmem).sf (by rw [← hn]; exact hme.at_) hme.fn ?_
        refine wpAny_mono (run_at (us := [.ref a, .ref b]) (vs := [.ref a, .ref b]) Fo hb hd hrd hr I.env0 tk I (.cons rfl (.cons rfl .nil)) E (RpL.cons r1 (RpL.cons r2 RpL.nil)) (by rw [List.append_nil]; exact h)) (fun w s' z => ?_) fun _ _ e => e
        obtain ⟨z', H', I', rz, qz⟩ := z
        exact SlX.cmpback rz ⟨z', H', I', rz, qz⟩
    · rw [if_neg ec] at h; exact h.elim
  · exact h.elim
theorem o_ref {op : Operator} {n n' : String} {k' : Nat} {tb tb' : List (String × Fn)} (G : IntOp op) (hn : Str.ofString n = dunderR op.info.2) (hn' : Str.ofString n' = PySem.dunder op.info.2) (ht : MtT X n k [] tb) (hs : ∀ q ∈ tb, ∃ f0 : Addr, PySem.W.findIn X.K (.ref (He.ga X.K q.1)) (PySem.dunder op.info.2) = some (some (.ref f0))) (ho : ∀ q ∈ tb, OwnB X.K q.1 op) (hr : Room k X.A) (tk : Takes X W) :
    Op2 X W (binaryOp op) (opR tb) := by
  intro pins s σ H x y v u Q F δ av fp dx dy I rx ry E r1 r2 h
  unfold opR at h
  split at h
  · rename_i i c ns xs
    cases hm : mOf c tb with
    | none => simp only [hm] at h; exact h.elim
    | some m =>
      simp only [hm] at h
      have hmem := mOf_mem hm
      obtain ⟨a, d2, od, rfl, rfl, J⟩ := ins_look I ry r2 E.sub
      have r1' := r1
      simp only [Rp] at r1
      subst r1
      obtain ⟨t, rfl⟩ := rx
      obtain ⟨f, fd, ps, dvs, ds, Fo, hme, hb, hd, hrd⟩ := (ht _ hmem).ex
      obtain ⟨f0, h0⟩ := hs _ hmem
      refine binop_refl G I.kIn J (ho _ hmem).sf h0 (by rw [← hn]; exact hme.at_) hme.fn (ho _ hmem).ni ?_
      refine wpAny_mono (run_at (us := [.ref a, .int i t]) (vs := [.ref a, .int i]) Fo hb hd hrd hr I.env0 tk I (.cons rfl (.cons ⟨t, rfl⟩ .nil)) E (RpL.cons r2 (RpL.cons r1' RpL.nil)) (by rw [List.append_nil]; exact h)) (fun w s' z => ?_) fun _ _ e => e
      obtain ⟨z', H', I', rz, qz⟩ := z
      exact SlX.cmpback rz ⟨z', H', I', rz, qz⟩
  · exact h.elim
theorem o_cmpO {op : CmpOp} {n : String} {tb : List (String × Fn)} (is : ∀ a b, compareOp op a b = richCompare op a b) (hn : Str.ofString n = (cmpInfo op).2.1) (ht : MtT X n k [] tb) (hr : Room k X.A) (tk : Takes X W) : Op2 X W (compareOp op) (opB tb) := by
  intro pins s σ H x y v u Q F δ av fp dx dy I rx ry E r1 r2 h
  obtain ⟨m0, hF⟩ := I.fr
  rw [is]
  unfold opB at h
  split at h
  · rename_i c ns xs j
    cases hm : mOf c tb with
    | none => simp only [hm] at h; exact h.elim
    | some m =>
      simp only [hm] at h
      have hmem := mOf_mem hm
      obtain ⟨a, d2, od, rfl, rfl, J⟩ := ins_look I rx r1 E.sub
      have r2' := r2
      simp only [Rp] at r2
      subst r2
      obtain ⟨t, rfl⟩ := ry
      obtain ⟨f, fd, ps, dvs, ds, Fo, hme, hb, hd, hrd⟩ := (ht _ hmem).ex
      refine PySem.W.cmp_K (op := op) (tb := .type "int") hr.units0 hF I.ok.mod.kin J (PySem.W.Looks.of_pure (typeIs_int s j t)) (by unfold PySem.W.notFirst; rw [sub_int]; simp) (by rw [← hn]; exact hme.at_) hme.fn ?_
      refine wpAny_mono (run_at (us := [.ref a, .int j t]) (vs := [.ref a, .int j]) Fo hb hd hrd hr I.env0 tk I (.cons rfl (.cons ⟨t, rfl⟩ .nil)) E (RpL.cons r1 (RpL.cons r2' RpL.nil)) (by rw [List.append_nil]; exact h)) (fun w s' z => ?_) fun _ _ e => e
      obtain ⟨z', H', I', rz, qz⟩ := z
      exact SlX.cmpback rz ⟨z', H', I', rz, qz⟩
  · rename_i c ns xs c' ns' ys
    by_cases ec : c' = c
    · rw [if_pos ec] at h
      subst ec
      cases hm : mOf c' tb with
      | none => simp only [hm] at h; exact h.elim
      | some m =>
        simp only [hm] at h
        have hmem := mOf_mem hm
        obtain ⟨a, d2, od, rfl, rfl, J⟩ := ins_look I rx r1 E.sub
        obtain ⟨b, d3, od2, rfl, rfl, J2⟩ := ins_look I ry r2 E.sub
        obtain ⟨f, fd, ps, dvs, ds, Fo, hme, hb, hd, hrd⟩ := (ht _ hmem).ex
        refine PySem.W.cmp_K (op := op) (tb := .ref (He.ga X.K c')) hr.units0 hF I.ok.mod.kin J J2.type (by unfold PySem.W.notFirst; simp) (by rw [← hn]; exact hme.at_) hme.fn ?_
        refine wpAny_mono (run_at (us := [.ref a, .ref b]) (vs := [.ref a, .ref b]) Fo hb hd hrd hr I.env0 tk I (.cons rfl (.cons rfl .nil)) E (RpL.cons r1 (RpL.cons r2 RpL.nil)) (by rw [List.append_nil]; exact h)) (fun w s' z => ?_) fun _ _ e => e
        obtain ⟨z', H', I', rz, qz⟩ := z
        exact SlX.cmpback rz ⟨z', H', I', rz, qz⟩
    · rw [if_neg ec] at h; exact h.elim
  · exact h.elim
theorem o_cmpR {op : CmpOp} {n : String} {tb : List (String × Fn)} (G : IntCmp op) (hn : Str.ofString n = (cmpInfo op).2.2) (ht : MtT X n k [] tb) (ni : ∀ q ∈ tb, PySem.W.subIn X.K (.ref (He.ga X.K q.1)) (.type "int") = some false) (hr : Room k X.A) (tk : Takes X W) : Op2 X W (compareOp op) (opR tb) := by
  intro pins s σ H x y v u Q F δ av fp dx dy I rx ry E r1 r2 h
  unfold opR at h
  split at h
  · rename_i i c ns xs
    cases hm : mOf c tb with
    | none => simp only [hm] at h; exact h.elim
    | some m =>
      simp only [hm] at h
      have hmem := mOf_mem hm
      obtain ⟨a, d2, od, rfl, rfl, J⟩ := ins_look I ry r2 E.sub
      have r1' := r1
      simp only [Rp] at r1
      subst r1
      obtain ⟨t, rfl⟩ := rx
      obtain ⟨f, fd, ps, dvs, ds, Fo, hme, hb, hd, hrd⟩ := (ht _ hmem).ex
      refine cmp_refl hr.units0 G I.kIn J (by rw [← hn]; exact hme.at_) hme.fn (ni _ hmem) ?_
      refine wpAny_mono (run_at (us := [.ref a, .int i t]) (vs := [.ref a, .int i]) Fo hb hd hrd hr I.env0 tk I (.cons rfl (.cons ⟨t, rfl⟩ .nil)) E (RpL.cons r2 (RpL.cons r1' RpL.nil)) (by rw [List.append_nil]; exact h)) (fun w s' z => ?_) fun _ _ e => e
      obtain ⟨z', H', I', rz, qz⟩ := z
      exact SlX.cmpback rz ⟨z', H', I', rz, qz⟩
  · exact h.elim
/-- a class with the __ne__ of object -/
structure OwnN (K : Fg) (c : String) : Prop where
  ne : PySem.W.findIn K (.ref (He.ga K c)) "__ne__" = some (some (.builtin "object.__ne__"))
  ob : PySem.W.mroIn K (He.ga K c) (.type "object") = some true
theorem neg_ok {r : RO} {Q : VK} (h : PEx K W F H σ av fp Q (up (match r with
  | .ok (.d (.bl b)) => okS (.bl (!b))
  | .exc c ns xs _ => .exc c ns xs ()
  | _ => .stk) δ)) : PEx K W F H σ av fp (fun v H1 => ∃ b, v = .bl b ∧ Q (.bl (!b)) H1) (up r δ) := by
  match r, h with
  | .ok (.d (.bl b)), h =>
    intro v H' F' fp' f E' a n d m
    simp only [At, Rp] at a
    refine ⟨b, a.2, ?_⟩
    have e := a.1
    subst e
    exact h (.bl (!b)) H' F' fp' [] E' (At.of (by simp only [Rp])) List.nodup_nil (fun a ha => by cases ha) m
  | .exc c ns xs _, h => exact h
  | .stk, h => exact h
  | .ok (.d .non), h => exact h.elim
  | .ok (.d (.int _)), h => exact h.elim
  | .ok (.d (.str _)), h => exact h.elim
  | .ok (.d (.tup _)), h => exact h.elim
  | .ok (.d (.lst _)), h => exact h.elim
  | .ok (.d (.rl _)), h => exact h.elim
  | .ok (.d (.ins _ _ _)), h => exact h.elim
  | .ok (.d (.err _ _ _)), h => exact h.elim
  | .ok (.lst _), h => exact h.elim
  | .ok (.obj _ _ _), h => exact h.elim
theorem o_neO {tb : List (String × Fn)} (ht : MtT X "__eq__" k [] tb) (ho : ∀ q ∈ tb, OwnN X.K q.1) (hr : Room (k + 1) X.A) (tk : Takes X W) : Op2 X W (compareOp .NotEq) (opN tb) := by
  intro pins s σ H x y v u Q F δ av fp dx dy I rx ry E r1 r2 h
  have hu : X.A.units + 1 < cLine := by have := hr.units; omega
  unfold opN at h
  replace h := neg_ok h
  unfold opB at h
  split at h
  · rename_i c ns xs j
    cases hm : mOf c tb with
    | none => simp only [hm] at h; exact h.elim
    | some m =>
      simp only [hm] at h
      have hmem := mOf_mem hm
      obtain ⟨a, d2, od, rfl, rfl, J⟩ := ins_look I rx r1 E.sub
      have r2' := r2
      simp only [Rp] at r2
      subst r2
      obtain ⟨t, rfl⟩ := ry
      obtain ⟨f, fd, ps, dvs, ds, Fo, hme, hb, hd, hrd⟩ := (ht _ hmem).ex
      refine ne_own (tb := .type "int") hu I.kIn J (PySem.W.Looks.of_pure (typeIs_int s j t)) (by unfold PySem.W.notFirst; rw [sub_int]; simp) (ho _ hmem).ne (ho _ hmem).ob hme.at_ hme.fn ?_
      refine wpAny_mono (run_at (us := [.ref a, .int j t]) (vs := [.ref a, .int j]) Fo hb hd hrd hr.in1 I.env0.in1 tk I (.cons rfl (.cons ⟨t, rfl⟩ .nil)) E (RpL.cons r1 (RpL.cons r2' RpL.nil)) (by rw [List.append_nil]; exact h)) (fun w s' z => ?_) fun _ _ e => e
      obtain ⟨z', H', I', rz, b, ez, qz⟩ := z
      subst ez
      exact ⟨b, rz, .bl (!b), H', I', rfl, qz⟩
  · rename_i c ns xs c' ns' ys
    by_cases ec : c' = c
    · rw [if_pos ec] at h
      subst ec
      cases hm : mOf c' tb with
      | none => simp only [hm] at h; exact h.elim
      | some m =>
        simp only [hm] at h
        have hmem := mOf_mem hm
        obtain ⟨a, d2, od, rfl, rfl, J⟩ := ins_look I rx r1 E.sub
        obtain ⟨b, d3, od2, rfl, rfl, J2⟩ := ins_look I ry r2 E.sub
        obtain ⟨f, fd, ps, dvs, ds, Fo, hme, hb, hd, hrd⟩ := (ht _ hmem).ex
        refine ne_own (tb := .ref (He.ga X.K c')) hu I.kIn J J2.type (by unfold PySem.W.notFirst; simp) (ho _ hmem).ne (ho _ hmem).ob hme.at_ hme.fn ?_
        refine wpAny_mono (run_at (us := [.ref a, .ref b]) (vs := [.ref a, .ref b]) Fo hb hd hrd hr.in1 I.env0.in1 tk I (.cons rfl (.cons rfl .nil)) E (RpL.cons r1 (RpL.cons r2 RpL.nil)) (by rw [List.append_nil]; exact h)) (fun w s' z => ?_) fun _ _ e => e
        obtain ⟨z', H', I', rz, b', ez, qz⟩ := z
        subst ez
        exact ⟨b', rz, .bl (!b'), H', I', rfl, qz⟩
    · rw [if_neg ec] at h; exact h.elim
  · exact h.elim
theorem opU_ok {tb : List (String × Fn)} {d : D} {Q : VK} {δ : En} (h : PEx K W F H σ av fp Q (up (opU tb d) δ)) : ∃ c ns xs m, d = .ins c ns xs ∧ (c, m) ∈ tb ∧ PEx K W F H σ av fp Q (up (ofFn m [.ins c ns xs]) δ) := by
  unfold opU at h
  split at h
  · rename_i c ns xs
    cases hm : mOf c tb with
    | none => simp only [hm] at h; exact h.elim
    | some m => simp only [hm] at h; exact ⟨c, ns, xs, m, rfl, mOf_mem hm, h⟩
  · exact h.elim
theorem o_negO {tb : List (String × Fn)} (ht : MtT X "__neg__" k [] tb) (hr : Room k X.A) (tk : Takes X W) : Un1 X W (unaryOp .USub) (opU tb) := by
  intro pins s σ H x v Q F δ av fp dx I rx E r1 h
  obtain ⟨m0, hF⟩ := I.fr
  obtain ⟨c, ns, xs, m, rfl, hmem, h⟩ := opU_ok h
  obtain ⟨a, d2, od, rfl, rfl, J⟩ := ins_look I rx r1 E.sub
  obtain ⟨f, fd, ps, dvs, ds, Fo, hme, hb, hd, hrd⟩ := (ht _ hmem).ex
  refine PySem.W.ksp_neg hF I.ok.mod.kin J hme.at_ hme.fn ?_
  exact run_at (us := [.ref a]) (vs := [.ref a]) Fo hb hd hrd hr I.env0 tk I (.cons rfl .nil) E (RpL.cons r1 RpL.nil) (by rw [List.append_nil]; exact h)
theorem f_absO {tb : List (String × Fn)} (ht : MtT X "__abs__" k [] tb) (hr : Room (k + 1) X.A) (tk : Takes X W) : OpN X W (fun us => call (.builtin "abs") us) (opU1 tb) := by
  intro pins s σ H xs us Q F δ av fp ds I rx E r1 h
  unfold opU1 at h
  split at h
  · obtain ⟨c, ns, ys, m, rfl, hmem, h⟩ := opU_ok h
    obtain ⟨v, rfl, r2⟩ := r1.one
    obtain ⟨u, rfl, ru⟩ := rx.one
    obtain ⟨a, d2, od, rfl, rfl, J⟩ := ins_look I ru r2 E.sub
    obtain ⟨f, fd, ps, dvs, ds, Fo, hme, hb, hd, hrd⟩ := (ht _ hmem).ex
    refine abs_own I.kIn J hme.at_ hme.fn ?_
    exact run_at (us := [.ref a]) (vs := [.ref a]) Fo hb hd hrd hr.in1 I.env0.in1 tk I (.cons rfl .nil) E r1 (by rw [List.append_nil]; exact h)
  · exact h.elim
/-- the answer must be True or False; a text -/
def boR : RO → RO
  | .ok (.d (.bl b)) => okS (.bl b)
  | .exc c ns xs _ => .exc c ns xs ()
  | _ => .stk
def stR : RO → RO
  | .ok (.d (.str b)) => okS (.str b)
  | .exc c ns xs _ => .exc c ns xs ()
  | _ => .stk
theorem boR_ok {r : RO} {Q : VK} (h : PEx K W F H σ av fp Q (up (boR r) δ)) : PEx K W F H σ av fp (fun v H1 => ∃ b, v = .bl b ∧ Q (.bl b) H1) (up r δ) := by
  match r, h with
  | .ok (.d (.bl b)), h =>
    intro v H' F' fp' f E' a n d m
    simp only [At, Rp] at a
    refine ⟨b, a.2, ?_⟩
    have e := a.1
    subst e
    exact h (.bl b) H' F' fp' [] E' (At.of (by simp only [Rp])) List.nodup_nil (fun a ha => by cases ha) m
  | .exc c ns xs _, h => exact h
  | .stk, h => exact h
  | .ok (.d .non), h => exact h.elim
  | .ok (.d (.int _)), h => exact h.elim
  | .ok (.d (.str _)), h => exact h.elim
  | .ok (.d (.tup _)), h => exact h.elim
  | .ok (.d (.lst _)), h => exact h.elim
  | .ok (.d (.rl _)), h => exact h.elim
  | .ok (.d (.ins _ _ _)), h => exact h.elim
  | .ok (.d (.err _ _ _)), h => exact h.elim
  | .ok (.lst _), h => exact h.elim
  | .ok (.obj _ _ _), h => exact h.elim
theorem stR_ok {r : RO} {Q : VK} (h : PEx K W F H σ av fp Q (up (stR r) δ)) : PEx K W F H σ av fp (fun v H1 => ∃ b, v = .str b ∧ Q (.str b) H1) (up r δ) := by
  match r, h with
  | .ok (.d (.str b)), h =>
    intro v H' F' fp' f E' a n d m
    simp only [At, Rp] at a
    refine ⟨b, a.2, ?_⟩
    have e := a.1
    subst e
    exact h (.str b) H' F' fp' [] E' (At.of (by simp only [Rp])) List.nodup_nil (fun a ha => by cases ha) m
  | .exc c ns xs _, h => exact h
  | .stk, h => exact h
  | .ok (.d .non), h => exact h.elim
  | .ok (.d (.int _)), h => exact h.elim
  | .ok (.d (.bl _)), h => exact h.elim
  | .ok (.d (.tup _)), h => exact h.elim
  | .ok (.d (.lst _)), h => exact h.elim
  | .ok (.d (.rl _)), h => exact h.elim
  | .ok (.d (.ins _ _ _)), h => exact h.elim
  | .ok (.d (.err _ _ _)), h => exact h.elim
  | .ok (.lst _), h => exact h.elim
  | .ok (.obj _ _ _), h => exact h.elim
def opBo (tb : List (String × Fn)) : PN
  | [x] => boR (opU tb x)
  | _ => .stk
def opSt (tb : List (String × Fn)) : PN
  | [x] => stR (opU tb x)
  | _ => .stk
theorem f_boolO {tb : List (String × Fn)} (ht : MtT X "__bool__" k [] tb) (hr : Room (k + 2) X.A) (tk : Takes X W) : OpN X W (fun us => call (.type "bool") us) (opBo tb) := by
  intro pins s σ H xs us Q F δ av fp ds I rx E r1 h
  unfold opBo at h
  split at h
  · replace h := boR_ok h
    obtain ⟨c, ns, ys, m, rfl, hmem, h⟩ := opU_ok h
    obtain ⟨v, rfl, r2⟩ := r1.one
    obtain ⟨u, rfl, ru⟩ := rx.one
    obtain ⟨a, d2, od, rfl, rfl, J⟩ := ins_look I ru r2 E.sub
    obtain ⟨f, fd, ps, dvs, ds, Fo, hme, hb, hd, hrd⟩ := (ht _ hmem).ex
    refine bool_own I.kIn J hme.at_ hme.fn ?_
    refine wpAny_mono (run_at (us := [.ref a]) (vs := [.ref a]) Fo hb hd hrd (Room.in1 (Room.in1 hr)) I.env0.in1.in1 tk I (.cons rfl .nil) E r1 (by rw [List.append_nil]; exact h)) (fun w s' z => ?_) fun _ _ e => e
    obtain ⟨z', H', I', rz, b', ez, qz⟩ := z
    subst ez
    cases rz
    exact ⟨.bl b', H', I', rfl, qz⟩
  · exact h.elim
theorem f_strO {tb : List (String × Fn)} (ht : MtT X "__str__" k [] tb) (hr : Room (k + 2) X.A) (tk : Takes X W) : OpN X W (fun us => call (.type "str") us) (opSt tb) := by
  intro pins s σ H xs us Q F δ av fp ds I rx E r1 h
  unfold opSt at h
  split at h
  · replace h := stR_ok h
    obtain ⟨c, ns, ys, m, rfl, hmem, h⟩ := opU_ok h
    obtain ⟨v, rfl, r2⟩ := r1.one
    obtain ⟨u, rfl, ru⟩ := rx.one
    obtain ⟨a, d2, od, rfl, rfl, J⟩ := ins_look I ru r2 E.sub
    obtain ⟨f, fd, ps, dvs, ds, Fo, hme, hb, hd, hrd⟩ := (ht _ hmem).ex
    refine PySem.W.kso_call (Room.units0 (Room.in1 (Room.in1 hr))) I.kIn J hme.at_ hme.fn ?_
    refine wpAny_mono (run_at (us := [.ref a]) (vs := [.ref a]) Fo hb hd hrd (Room.in1 (Room.in1 hr)) I.env0.in1.in1 tk I (.cons rfl .nil) E r1 (by rw [List.append_nil]; exact h)) (fun w s' z => ?_) fun _ _ e => e
    obtain ⟨z', H', I', rz, b', ez, qz⟩ := z
    subst ez
    obtain ⟨t, rfl⟩ := rz
    exact ⟨.str b', H', I', ⟨t, rfl⟩, qz⟩
  · exact h.elim
end
end Fx
/-! Fx13: isinstance, static methods, constants of a class, chains, f-strings. -/
namespace Fx
open PySem PySem.Spec PyProof.Rows L2
inductive Ty where
  | b (n : String) | o (c : String) | x (c : String)
deriving DecidableEq
@[simp] def Ty.val (K : Fg) : Ty → Value
  | .b n => .type n
  | .o c => .ref (He.ga K c)
  | .x c => .ref (He.ga K c)
@[simp] def tyOf : D → Ty
  | .non => .b "NoneType"
  | .bl _ => .b "bool"
  | .int _ => .b "int"
  | .str _ => .b "str"
  | .tup _ => .b "tuple"
  | .lst _ => .b "list"
  | .rl _ => .b "list"
  | .ins c _ _ => .o c
  | .err c _ _ => .x c
/-- what isinstance asks of a class -/
structure IsG (K : Fg) (c : String) : Prop where
  cl : Cls K (He.ga K c)
  ha : PySem.W.findIn K (.ref (He.ga K c)) "__class__" = some (some (.builtin "object.__class__"))
  hn : PySem.W.specialIn K (.builtin "object.__class__") "__get__" = some (some (.builtin "getset_descriptor.__get__"))
  htk : PySem.W.takesIn K (.builtin "object.__class__") = some true
  hm : PySem.W.mroIn K (He.ga K c) (.type "object") = some true
section
variable {X : Cx} {K : Fg} {W : WX} {F H F' H' F1 H1 : Hp} {σ σ' : St} {δ δ' δ1 : En} {av : Nat → V} {fp fp' fp1 : Nat → List Addr} {k : Nat} {m : Fn}
theorem tyx_sqL {a : Addr} {vs : List V} (h : SqL K H a vs) : TyX K H (.ref a) (.type "list") := by
  rcases h with (h | ⟨o, h⟩) | ⟨o, its, n, h1, h2, _⟩
  · exact .base (.lst h)
  · exact .base (.frz h)
  · exact .kList h1 h2
theorem tyx_sqT {a : Addr} {vs : List V} (h : SqT K H a vs) : TyX K H (.ref a) (.type "tuple") := by
  rcases h with (h | ⟨o, h⟩) | ⟨o, its, n, h1, h2, _⟩
  · exact .base (.tup h)
  · exact .fTuple h
  · exact .kTuple h1 h2
/-- what isinstance asks of an error's class -/
abbrev IxG (K : Fg) (c : String) : Prop := ExcC K (He.ga K c)
theorem find_data {C : Addr} {od : Option Obj} {name : Str} {a g : Value} (hc : (PySem.W.clsIn K C).isSome = true) (ha : PySem.W.findIn K (.ref C) name = some (some a)) (hg : PySem.W.specialIn K a "__get__" = some (some g)) (ht : PySem.W.takesIn K a = some true) : PySem.W.findObj K C od name = some (.bind g a) := by
  obtain ⟨cd, hc⟩ := Option.isSome_iff_exists.mp hc
  unfold PySem.W.findObj
  rw [hc, Option.bind_some, ha, Option.bind_some]
  simp [hg, ht]
theorem err_class {prog : Program} {w : World} {A : Around} {E : Value → Shared → Prop} {s : Shared} {x C : Addr} {ox : Obj} {od : Option Obj} {Q : Option Value → Shared → Prop} (G : ExcC K C)
    (X : K.In s.heap) (I : PySem.W.InstAt s.heap x ox C od) (h : Q (some (.ref C)) { s with toks := s.toks + 1 }) : wpAny (model prog w) A (getAttr? (.ref x) "__class__") Q E s := by
  have hf : PySem.W.findObj K C od "__class__" = some (.bind (.builtin "getset_descriptor.__get__") (.builtin "object.__class__")) := find_data (by obtain ⟨cd, hc, _⟩ := PySem.W.any_some G.hd; rw [hc]; rfl) G.ha G.hn G.ht
  obtain ⟨hp, g, d, t, os⟩ := s
  have L0 := I.type (M := model prog w)
  have L1 := PySem.W.looks_findIn (M := model prog w) X G.hg
  have L2 := PySem.W.looks_findIn (M := model prog w) X G.hk
  have L3 := PySem.W.looks_find (M := model prog w) X I hf
  have sub : PySem.W.Looks (model prog w) hp (isInstance (.ref x) (.type "BaseException")) true := L0.andThen (PySem.W.looks_subIn X G.hs)
  have hx0 : (false && onTheHeap (Value.builtin "BaseException.__getattribute__")) = false := rfl
  have hx2 : (Value.builtin "BaseException.__getattribute__" == Value.builtin "object.__getattribute__") = false := by decide +kernel
  have hx1 : (onTheHeap (Value.ref C) && Value.builtin "BaseException.__getattribute__" == Value.builtin "object.__getattribute__") = false := by rw [hx2]; rfl
  unfold getAttr? getAttrBy? getAttrBy
  refine wpAny_bind (wpAny_mkText (wpAny_bind (wpAny_attempt (wpAny_holding (wpAny_bind (L0.at (wpAny_bind (L1.at ?_))))))))
  show wpAny _ _ (if (onTheHeap (Value.ref C) && Value.builtin "BaseException.__getattribute__" == Value.builtin "object.__getattribute__") = true then _ else _) _ _ _
  rw [hx1, if_neg Bool.false_ne_true]
  unfold getAttrByItsOwn hookBefore
  refine wpAny_bind ?_
  rw [if_pos (show onTheHeap (Value.ref C) = true from rfl)]
  refine L2.at ?_
  refine wpAny_bind (wpAny_attempt (wpAny_holding ?_))
  unfold callGetattribute
  rw [hx0, if_neg Bool.false_ne_true]
  unfold boundAndCalled
  rw [PySem.F.excAttr_ValueError.ga.bind (.ref x)]
  refine wpAny_bind (wpAny_pure ?_)
  show wpAny _ _ (call (.builtin "BaseException.__getattribute__") [.ref x, .str "__class__" t]) _ _ _
  refine wpAny_call (codeAny_call_builtin PySem.F.excAttr_ValueError.ga.plain PySem.F.entry_bexc_ga ?_)
  refine @PySem.W.check_slot (model prog w) _ _ ⟨hp, g, d, t + 1, os⟩ "BaseException.__getattribute__" "BaseException" "__getattribute__" (.ref x) [.str "__class__" t] [] _ (by decide +kernel) (by decide +kernel) sub (PySem.F.args_bexc_ga (.ref x) (.str "__class__" t)) ?_
  unfold Builtin.«object.__getattribute__»
  refine wpAny_bind (wpAny_of_eq (a := ((Value.ref x : Value), [Value.str "__class__" t])) (by first | rfl | (simp only [slotArgs]; rfl)) ?_)
  refine wpAny_bind (wpAny_pure (wpAny_bind (L0.at (wpAny_bind (L3.at ?_)))))
  show wpAny _ _ (holding [Value.builtin "object.__class__"] (call (.builtin "getset_descriptor.__get__") [.builtin "object.__class__", .ref x, .ref C]) >>= ret) _ _ _
  refine wpAny_bind (wpAny_holding (wpAny_call (PySem.W.class_get (s := ⟨hp, g, d, t + 1, os⟩) (ox := ox) (od := od) X I G.hm ?_)))
  refine wpAny_pure ?_
  show wpAny _ _ (handedOut (.ref C)) _ _ _
  rw [PySem.W.handedOut_of (v := .ref C) rfl]
  first
    | exact wpAny_pure (wpAny_pure h)
    | exact wpAny_pure h
    | exact wpAny_pure (wpAny_bind (wpAny_pure (wpAny_pure h)))
theorem kitx_err {x C : Addr} (G : ExcC K C) : PySem.W.KitX K (.ref x) (.ref C) (fun h => ∃ ox od, PySem.W.InstAt h x ox C od) where
  ty := fun _ _ _ ⟨_, _, I⟩ => I.type
  it := fun _ _ X _ => by
    obtain ⟨cdD, hcD, _⟩ := PySem.W.any_some G.hd
    unfold PySem.W.clsIn at hcD
    split at hcD
    · rename_i c' d' cd' sl' ho
      intro A' Q' E' s' k q
      unfold isType loadHead
      exact wpAny_bind (wpAny_loadPart (k _ _ (X _ _ ho)) (wpAny_pure q))
    · cases hcD
  ne := fun h tp dd its n sl X htp => by
    obtain ⟨cdD, hcD, _⟩ := PySem.W.any_some G.hd
    refine Bool.eq_false_iff.mpr fun q => ?_
    have e : C = tp := Value.ref.inj (beq_iff_eq.mp q)
    subst e
    unfold PySem.W.clsIn at hcD
    split at hcD
    · rename_i c' d' cd' sl' ho
      have z := (X _ _ ho).symm.trans htp
      cases z
    · cases hcD
  ca := fun X ⟨_, _, I⟩ k => err_class G X I k
/-- the class of a value -/
def TyE (K : Fg) (H : Hp) (v : V) (t : Value) : Prop := TyX K H v t ∨ ∃ a C d, v = .ref a ∧ t = .ref C ∧ H a = some (eob a C d) ∧ (∀ dd, d = some dd → ∃ fs, H dd = some (.xd fs)) ∧ ExcC K C
theorem eob_at {P : Program} {w : World} {h : Heap} {e C : Addr} {d : Option Addr} (hok : HOk P w H h) (he : H e = some (eob e C d)) : ∃ oe : Obj, h.get? e = some oe ∧ Zc (.ref C) d oe ∧ ∃ us, oe.data = .fields us := by
  have x : ObjOk P w H h e (.ext fun h => ∃ oe : Obj, h.get? e = some oe ∧ Zc (.ref C) d oe ∧ ∃ us, oe.data = .fields us) := hok e _ he
  exact x.1
theorem err_inst {P : Program} {w : World} {h : Heap} {e C : Addr} {d : Option Addr} (hok : HOk P w H h) (he : H e = some (eob e C d)) (hd : ∀ dd, d = some dd → ∃ fs, H dd = some (.xd fs)) :
    ∃ ox od, PySem.W.InstAt h e ox C od ∧ ∀ dd fs, d = some dd → H dd = some (.xd fs) → ∃ o mA, od = some o ∧ h.get? dd = some o ∧ h.Ns1 dd mA ∧ ∀ n, RelO (fs.lookup n) (mA n) := by
  obtain ⟨oe, h1, h2, us, h3⟩ := eob_at hok he
  cases d with
  | none => exact ⟨oe, none, ⟨h1, h2.1, by unfold PySem.W.notCls; rw [h3] <;> rfl, by rw [h2.2]; trivial⟩, fun dd fs z => by cases z⟩
  | some dd =>
    obtain ⟨fs, hf⟩ := hd dd rfl
    have hx : ObjOk P w H h dd (.xd fs) := hok dd _ hf
    obtain ⟨mA, hns, hr⟩ := hx
    obtain ⟨od, ho, hl⟩ := lookIn_ns hns
    refine ⟨oe, some od, ⟨h1, h2.1, by unfold PySem.W.notCls; rw [h3] <;> rfl, by rw [h2.2]; exact ho⟩, fun dd' fs' z hf' => ?_⟩
    cases z
    rw [hf] at hf'
    cases hf'
    exact ⟨od, mA, rfl, ho, hns, hr⟩
theorem kit_ofE {X : Cx} {pins : List (Addr × Obj)} {σ : St} {H : Hp} {s : Shared} {x : V} {u t : Value} (I : Inv X pins σ H s) (rx : RelV x u) (ty : TyE X.K H x t) : ∃ P : Heap → Prop, PySem.W.KitX X.K u t P ∧ P s.heap ∧ u ≠ .builtin "__main__.__loader__#opaque" := by
  rcases ty with ty | ⟨a, C, d, rfl, rfl, h1, h2, G⟩
  · exact kit_of I rx ty
  · cases (show u = Value.ref a from rx)
    obtain ⟨ox, od, J, _⟩ := err_inst I.hok h1 h2
    exact ⟨_, kitx_err G, ⟨ox, od, J⟩, fun z => nomatch z⟩
def rIsiE (K : PySem.W.Frag) : List V → Hp → VK → Prop := fun xs H Q => ∃ (x c : V) (t u : Value) (b : Bool), xs = [x, c] ∧ ClsV c u ∧ TyE K H x t ∧ PySem.W.kitOne K t u = some b ∧ Q (.bl b) H
def rIsiTE (K : PySem.W.Frag) : List V → Hp → VK → Prop := fun xs H Q => ∃ (x : V) (tp : Addr) (cs : List V) (t : Value) (us : List Value) (b : Bool), xs = [x, .ref tp] ∧ H tp = some (.tup cs) ∧ Paired ClsV cs us ∧ TyE K H x t ∧ PySem.W.kitAny K t us = some b ∧ Q (.bl b) H
theorem call_isiE {X : Cx} : CallR X (.builtin "isinstance") (rIsiE X.K) := by
  intro pins s σ H xs us Q I r h
  obtain ⟨x, c, t, u, b, rfl, k, ty, e, q⟩ := h
  obtain ⟨u1, u2, rfl, r1, r2⟩ := vals2 r
  have e2 := k.eq r2
  subst e2
  obtain ⟨P, Z, p, hx⟩ := kit_ofE I r1 ty
  exact PySem.W.kia_one Z I.kIn p e hx fun tk => ⟨.bl b, H, I.tok tk, rfl, q⟩
theorem call_isiTE {X : Cx} : CallR X (.builtin "isinstance") (rIsiTE X.K) := by
  intro pins s σ H xs us Q I r h
  obtain ⟨x, tp, cs, t, ws, b, rfl, hT, k, ty, e, q⟩ := h
  obtain ⟨u1, u2, rfl, r1, r2⟩ := vals2 r
  cases (show u2 = Value.ref tp from r2)
  obtain ⟨P, Z, p, hx⟩ := kit_ofE I r1 ty
  obtain ⟨_, its, rv, o, h1, h2, n, h3⟩ := (show ObjOk X.prog X.w H s.heap tp (.tup cs) from I.hok tp _ hT)
  have e3 := ClsV.all k rv
  subst e3
  obtain ⟨oc, od, dt, sl⟩ := o
  simp only at h2 h3
  subst h2 h3
  exact PySem.W.kia_tup Z I.kIn p h1 e hx fun tk => ⟨.bl b, H, I.tok tk, rfl, q⟩
theorem efd_some {F H : Hp} {ns : List String} {vs : List V} {d : Option Addr} (h : EFd F ns vs d) (e : Same F H) : ∀ dd, d = some dd → ∃ fs, H dd = some (.xd fs) := fun dd z => by
  rcases h with ⟨_, h2⟩ | ⟨d', h2, h3⟩
  · rw [h2] at z; cases z
  · rw [h2] at z; cases z
    exact ⟨_, e _ _ h3⟩
theorem tyx_of {d : D} {v : V} (r : Rp K F v d) (e : Same F H) (hi : ∀ c ns xs, d = .ins c ns xs → IsG K c) (hx : ∀ c ns xs, d = .err c ns xs → IxG K c) : TyE K H v ((tyOf d).val K) := by
  cases d with
  | non => simp only [Rp] at r; subst r; exact .inl (.base .non)
  | bl b => simp only [Rp] at r; subst r; exact .inl (.base (.bl b))
  | int i => simp only [Rp] at r; subst r; exact .inl (.base (.int i))
  | str x => simp only [Rp] at r; subst r; exact .inl (.base (.str x))
  | tup xs => simp only [Rp] at r; obtain ⟨a, vs, rfl, h, _⟩ := r; exact .inl (tyx_sqT (sameT e h))
  | lst xs => simp only [Rp] at r; obtain ⟨a, vs, rfl, h, _⟩ := r; exact .inl (tyx_sqL (SqL.of (e _ _ h)))
  | rl xs => simp only [Rp] at r; obtain ⟨a, vs, rfl, h, _⟩ := r; exact .inl (tyx_sqL (e.seq h))
  | ins c ns xs =>
    have G := hi c ns xs rfl
    simp only [Rp] at r
    obtain ⟨a, dx, vs, rfl, h, _⟩ := r
    exact .inl (.base (.ins (e _ _ h) G.cl G.ha G.hn G.htk G.hm))
  | err c ns xs =>
    have G := hx c ns xs rfl
    simp only [Rp] at r
    obtain ⟨a, d, vs, rfl, h, h2, _⟩ := r
    exact .inr ⟨a, _, d, rfl, rfl, e _ _ h, efd_some h2 e, G⟩
@[simp] def isT : List (Ty × Bool) → Ty → Option Bool
  | [], _ => none
  | (t, b) :: r, u => if t = u then some b else isT r u
theorem isT_mem : ∀ {tb : List (Ty × Bool)} {u : Ty} {b : Bool}, isT tb u = some b → (u, b) ∈ tb
  | [], _, _, h => by cases h
  | (t, c) :: r, u, b, h => by
    simp only [isT] at h
    by_cases e : t = u
    · rw [if_pos e] at h
      cases h
      rw [e]
      exact List.mem_cons_self
    · rw [if_neg e] at h
      exact List.mem_cons_of_mem _ (isT_mem h)
@[simp] def mIsi (tb : List (Ty × Bool)) : P1 := fun d => match isT tb (tyOf d) with
  | some b => okS (.bl b)
  | none => .stk
theorem isi_ty {tb : List (Ty × Bool)} {d : D} {v : V} {Q : VK} (h : PEx K W F H σ av fp Q (up (mIsi tb d) δ)) (E : EOk K F H σ δ av fp) (r : Rp K F v d) (hi : ∀ c b, (Ty.o c, b) ∈ tb → IsG K c) (hx : ∀ c b, (Ty.x c, b) ∈ tb → IxG K c) :
    ∃ b, (tyOf d, b) ∈ tb ∧ TyE K H v ((tyOf d).val K) ∧ Q (.bl b) H := by
  unfold mIsi at h
  cases e : isT tb (tyOf d) with
  | none => rw [e] at h; exact h.elim
  | some b =>
    rw [e] at h
    have hm := isT_mem e
    exact ⟨b, hm, tyx_of r E.sub (fun c ns xs q => hi c b (by rw [q] at hm; exact hm)) fun c ns xs q => hx c b (by rw [q] at hm; exact hm), QE.here h E (by simp only [Rp])⟩
variable {e o : Expr} {es : List Expr} {ca : Ax} {ce co cb cc : Ex} {p pos apos ap : Pos} {tb : List (Ty × Bool)}
theorem e_isi {c : Expr} {cv : V} {cu : Value} (he : PE X e (wpE X.K W ce)) (hc : PE X c (tC cv)) (k : ClsV cv cu) (hk : ∀ q ∈ tb, PySem.W.kitOne X.K (q.1.val X.K) cu = some q.2) (hi : ∀ c b, (Ty.o c, b) ∈ tb → IsG X.K c) (hx : ∀ c b, (Ty.x c, b) ∈ tb → IxG X.K c)
    (hg : Gl X "isinstance") (hm : X.mg "isinstance" = none) (hs : starEach [e, c] X.env = (false, eval e X.env) :: starEach [c] X.env := by rfl) (hpl : (backTo pos (starEach [c] X.env)).any (·.1) = false := by rfl) (hs1 : starEach [c] X.env = (false, eval c X.env) :: starEach [] X.env := by rfl) :
    PE X (.Call (.Name "isinstance" p) [e, c] [] pos) (wpE X.K W (c1 (mIsi tb) ce)) := by
  have hA : PA X [e, c] (tCons (wpE X.K W ce) (tCons (tC cv) tNil)) := pa_cons he (pa_cons hc pa_nil hs1) hs
  refine PE.wk (pe_callB call_isiE hg hm rfl hA (by decide) (by decide) hs hpl) fun σ H Q ⟨F, δ, av, fp, E, h⟩ => ?_
  refine ⟨F, δ, av, fp, E, Po.imp (Po.fz (P := fun F1 H1 fp1 s δ1 => PEx X.K W F1 H1 σ av fp1 Q (up (mIsi tb s.fz) δ1)) (Po.imp (Po.bind h) fun s δ' z F1 H1 fp1 m => PEx.frame z.2 m)) fun s δ' z v H1 F1 fp1 f E1 a n d m => ?_⟩
  obtain ⟨F2, fp2, t, δ2, E2, r2, m2, q2⟩ := z v H1 F1 fp1 f E1 a n d m
  obtain ⟨b, hb, ty, q⟩ := isi_ty q2 E2 r2 hi hx
  exact ⟨v, cv, _, cu, b, rfl, k, ty, hk _ hb, q⟩
/-- isinstance(x, (c, c2)) -/
theorem e_isi2 {c c2 : Expr} {cv cv2 : V} {cu cu2 : Value} {i2 : Nat} {p2 : Pos} (he : PE X e (wpE X.K W ce)) (hc : PE X c (tC cv)) (hc2 : PE X c2 (tC cv2)) (k : ClsV cv cu) (k2 : ClsV cv2 cu2) (hk : ∀ q ∈ tb, PySem.W.kitAny X.K (q.1.val X.K) [cu, cu2] = some q.2) (hi : ∀ c b, (Ty.o c, b) ∈ tb → IsG X.K c) (hx : ∀ c b, (Ty.x c, b) ∈ tb → IxG X.K c)
    (hg : Gl X "isinstance") (hm : X.mg "isinstance" = none) (hs : starEach [e, .Tuple [c, c2] i2 p2] X.env = (false, eval e X.env) :: starEach [.Tuple [c, c2] i2 p2] X.env := by rfl) (hpl : (backTo pos (starEach [.Tuple [c, c2] i2 p2] X.env)).any (·.1) = false := by rfl)
    (hs2 : starEach [c, c2] X.env = (false, eval c X.env) :: starEach [c2] X.env := by rfl) (hs3 : starEach [c2] X.env = (false, eval c2 X.env) :: starEach [] X.env := by rfl)
    (hs4 : starEach [.Tuple [c, c2] i2 p2] X.env = (false, eval (.Tuple [c, c2] i2 p2) X.env) :: starEach [] X.env := by rfl) :
    PE X (.Call (.Name "isinstance" p) [e, .Tuple [c, c2] i2 p2] [] pos) (wpE X.K W (c1 (mIsi tb) ce)) := by
  have hT := pe_tup (X := X) (x1 := i2) (pos := p2) (pa_cons hc (pa_cons hc2 pa_nil hs3) hs2)
  have hA := pa_cons he (pa_cons hT pa_nil hs4) hs
  refine PE.wk (pe_callB call_isiTE hg hm rfl hA (by decide) (by decide) hs hpl) fun σ H Q ⟨F, δ, av, fp, E, h⟩ => ?_
  refine ⟨F, δ, av, fp, E, Po.imp (Po.fz (P := fun F1 H1 fp1 s δ1 => PEx X.K W F1 H1 σ av fp1 Q (up (mIsi tb s.fz) δ1)) (Po.imp (Po.bind h) fun s δ' z F1 H1 fp1 m => PEx.frame z.2 m)) fun s δ' z v H1 F1 fp1 f E1 a n d m => ?_⟩
  obtain ⟨F2, fp2, t, δ2, E2, r2, m2, q2⟩ := z v H1 F1 fp1 f E1 a n d m
  refine ⟨by simp [sizeLine_eq], fun tp htp => ?_⟩
  have E3 := E2.newF (o := .tup [cv, cv2]) htp
  have m3 : Fm F2 H1 (Ow fp2) (upd F2 tp (.tup [cv, cv2])) (upd H1 tp (.tup [cv, cv2])) (Ow fp2) := Fm.lay htp (E2.freeF htp)
  obtain ⟨b, hb, ty, q⟩ := isi_ty (PEx.frame q2 m3) E3 (Rp.mono m3.same _ _ r2) hi hx
  exact ⟨v, tp, [cv, cv2], _, [cu, cu2], b, rfl, upd_same, .cons k (.cons k2 .nil), ty, hk _ hb, q⟩

/-! ### C.m(..), m a static method; C.f, a constant -/
structure StG (P : Program) (w : World) (K : Fg) (mg : Str → Option Value) (base : Heap) (c : String) (x : String) (k : Nat) (m : Fn) (dfl : List D) : Prop where
  gl : mg (Str.ofString c) = some (.ref (He.ga K c))
  rd : PySem.W.readsIn K (He.ga K c) (.type "type") = true
  ga : PySem.W.specialIn K (.ref (He.ga K c)) "__getattribute__" = some (some (.builtin "type.__getattribute__"))
  ex : ∃ (pa f : Addr) (rest : List Value) (fd : FuncData) (ps : List Str) (dvs : List V) (ds : List Value), PySem.W.findCls K (.ref (He.ga K c)) (.type "type") (Str.ofString x) = some (.get (.builtin "staticmethod.__get__") (.ref pa) .none (.ref (He.ga K c))) ∧
    PySem.W.recIn K pa "staticmethod" = some (.ref f :: rest) ∧ FnOk P w K mg base (L2.CX P w) k f fd ps (spF K m) ∧ PySem.W.keepIn K (.ref f) = true ∧ Binds K fd ps ds ∧ Vals dvs ds ∧ ∀ F, RpL K F dvs dfl
theorem e_stat {c n : String} {dfl : List D} {pl : Sem Bool} (G : StG X.prog X.w X.K X.mg X.base c n k m dfl) (hr : Room k X.A) (tk : Takes X W) (hg : Gl X (Str.ofString c)) (ha : PA X (e :: es) (wpA X.K W ca)) (hdb : (Str.ofString c == ("__debug__" : Str)) = false := by decide)
    (hst : starEach (e :: es) X.env = (false, eval e X.env) :: starEach es X.env := by rfl) (hpl : (backTo pos (starEach es X.env)).any (·.1) = false := by rfl)
    (ht : eval (.Call (.Attribute (.Name (Str.ofString c) ap) (Str.ofString n) apos) (e :: es) [] pos) X.env = (do
      let ov ← eval (.Name (Str.ofString c) ap) X.env
      standAt apos.atName
      let (f, first) ← holding [ov] (getMethod ov (Str.ofString n) pl)
      callWith pos f first (backTo pos (starEach (e :: es) X.env)) (backToKw pos (keywordEach [] X.env))) := by rfl) :
    PE X (.Call (.Attribute (.Name (Str.ofString c) ap) (Str.ofString n) apos) (e :: es) [] pos) (wpE X.K W (cCall m dfl ca)) := by
  obtain ⟨pa, f, rest, fd, ps, dvs, ds, hfind, hrec, Fo, hkp, hb, hd, hrd⟩ := G.ex
  refine ⟨fun pins s σ H Q I ⟨F, δ, av, fp, E, h⟩ => ?_⟩
  refine PySem.W.methodCall_KW (pl := pl) (ld_glob I hg G.gl ?_ hdb) ht
  refine PySem.W.method_cls I.kIn G.ga (PySem.W.cls_bind I.kIn G.rd hfind (wpAny_call (PySem.W.sm_get (s := { s with toks := s.toks + 1 }) I.kIn hrec (PySem.W.handed_on rfl ?_))))
  have I1 : Inv X pins σ H { s with toks := s.toks + 1 } := I.tok _
  refine PySem.W.callWith_K (first := []) (h₀ := X.base) I.ok.mod.kin hkp (thn (ha.run pos pins _ σ H _ I1 ⟨F, δ, av, fp, E, goA h⟩) fun us s2 ⟨vs, H2, I2, r, F2, δ2, fp2, xs, E2, r2, m2, q2⟩ => ⟨I2.kIn, ?_⟩) hst hpl
  exact run_at Fo hb hd hrd hr I2.env0 tk I2 r E2 r2 (by rw [up_ofFn]; exact q2)
structure CvG (K : Fg) (mg : Str → Option Value) (c : String) (x : String) (d : D) : Prop where
  gl : mg (Str.ofString c) = some (.ref (He.ga K c))
  rd : ClX.CRead K (He.ga K c) (.type "type")
  ex : ∃ (v : V) (u : Value), ClX.CVal K (He.ga K c) (.type "type") (Str.ofString x) v u ∧ ∀ F, Rp K F v d
theorem e_cv {c n : String} {d : D} (G : CvG X.K X.mg c n d) (hg : Gl X (Str.ofString c)) (hdb : (Str.ofString c == ("__debug__" : Str)) = false := by decide)
    (hb : attributeBase (.Name (Str.ofString c) ap) (Str.ofString n) X.env (eval (.Name (Str.ofString c) ap) X.env) = eval (.Name (Str.ofString c) ap) X.env := by rfl) : PE X (.Attribute (.Name (Str.ofString c) ap) (Str.ofString n) pos) (wpE X.K W (cC d)) := by
  obtain ⟨v, u, cvl, rd⟩ := G.ex
  refine ⟨fun pins s σ H Q I ⟨F, δ, av, fp, E, h⟩ => ?_⟩
  refine attr_of hb (ld_glob I hg G.gl ?_ hdb)
  exact ClX.getcval_ok I G.rd cvl fun s' I' => ⟨v, H, I', cvl.rel, QE.here h E (rd F)⟩

/-! ### chains -/
def cCh (f g : P2) (a b c : Ex) : Ex := fun δ => (a δ).bind fun p => (b p.2).bind fun q => match f p.1.fz q.1.fz with
  | .ok (.d (.bl true)) => (c q.2).bind fun r => up (g q.1.fz r.1.fz) r.2
  | .ok (.d (.bl false)) => .ok (.d (.bl false), q.2)
  | .exc c ns xs _ => .exc c ns xs q.2
  | _ => .stk
/-- behind the first comparison -/
theorem ch_ok {r : RO} {Q : VK} {c : Ex} {G : D → RO} (h : PEx K W F H σ av fp Q (match r with
  | .ok (.d (.bl true)) => (c δ).bind fun r => up (G r.1.fz) r.2
  | .ok (.d (.bl false)) => .ok (.d (.bl false), δ)
  | .exc c ns xs _ => .exc c ns xs δ
  | _ => .stk)) : PEx K W F H σ av fp (fun v H1 => ∃ b, v = .bl b ∧ ∃ F1 fp1, EOk K F1 H1 σ δ av fp1 ∧ Fm F H (Ow fp) F1 H1 (Ow fp1) ∧ PEx K W F1 H1 σ av fp1 Q (if b = true then (c δ).bind fun r => up (G r.1.fz) r.2 else .ok (.d (.bl false), δ))) (up r δ) := by
  match r, h with
  | .ok (.d (.bl true)), h =>
    intro v H' F' fp' f E' a n d m
    simp only [At, Rp] at a
    have m' : Fm F H (Ow fp) F' H' (Ow fp') := m.weak fun b hb => .inr hb
    exact ⟨true, a.2, F', fp', E', m', PEx.frame h m'⟩
  | .ok (.d (.bl false)), h =>
    intro v H' F' fp' f E' a n d m
    simp only [At, Rp] at a
    have m' : Fm F H (Ow fp) F' H' (Ow fp') := m.weak fun b hb => .inr hb
    exact ⟨false, a.2, F', fp', E', m', PEx.frame h m'⟩
  | .exc c ns xs _, h => exact h
  | .stk, h => exact h
  | .ok (.d .non), h => exact h.elim
  | .ok (.d (.int _)), h => exact h.elim
  | .ok (.d (.str _)), h => exact h.elim
  | .ok (.d (.tup _)), h => exact h.elim
  | .ok (.d (.lst _)), h => exact h.elim
  | .ok (.d (.rl _)), h => exact h.elim
  | .ok (.d (.ins _ _ _)), h => exact h.elim
  | .ok (.d (.err _ _ _)), h => exact h.elim
  | .ok (.lst _), h => exact h.elim
  | .ok (.obj _ _ _), h => exact h.elim
theorem go_ch {a b c : Expr} {op op' : CmpOp} {f g : P2} {pins : List (Addr × Obj)} {s : Shared} {Q : VK} (ho : Op2 X W (compareOp op) f) (ho' : Op2 X W (compareOp op') g) (ha : PE X a (wpE X.K W ce)) (hb : PE X b (wpE X.K W cb)) (hc : PE X c (wpE X.K W cc))
    (I : Inv X pins σ H s) (E : EOk X.K F H σ δ av fp) (h : PEx X.K W F H σ av fp Q (cCh f g ce cb cc δ)) :
    wpAny (model X.prog X.w) X.A (eval a X.env) (fun v s₁ => wpAny (model X.prog X.w) X.A (eval b X.env) (fun u s₂ => wpAny (model X.prog X.w) X.A (compareOp op v u) (fun d s₃ => ∃ b, d = .bool b ∧
      if b = true then wpAny (model X.prog X.w) X.A (eval c X.env) (fun w' s₄ => wpAny (model X.prog X.w) X.A (compareOp op' u w') (EP X pins σ Q) X.xe s₄) X.xe s₃ else EP X pins σ Q (.bool false) s₃) X.xe s₂) X.xe s₁) X.xe s := by
  refine thn (go1 ha I E h) fun v s1 ⟨x, H1, I1, r1, F1, fp1, t, δ1, E1, q1, m1, h1⟩ => ?_
  refine thn (go1 hb I1 E1 h1) fun u s2 ⟨y, H2, I2, r2, F2, fp2, t2, δ2, E2, q2, m2, h2⟩ => ?_
  have h3 := ch_ok (G := g t2.fz) h2
  refine thn (ho pins s2 σ H2 x y v u _ F2 δ2 av fp2 _ _ I2 r1 r2 E2 (Rp.mono m2.same _ _ q1) q2 h3) fun d s3 ⟨z, H3, I3, r3, b, ez, F3, fp3, E3, m3, q3⟩ => ?_
  subst ez
  refine ⟨b, r3, ?_⟩
  cases b with
  | false => exact ⟨.bl false, H3, I3, rfl, QE.here q3 E3 (by simp only [Rp])⟩
  | true =>
    simp only [if_true] at q3 ⊢
    refine thn (go1 hc I3 E3 q3) fun w' s4 ⟨z', H4, I4, r4, F4, fp4, t4, δ4, E4, q4, m4, h4⟩ => ?_
    exact ho' pins s4 σ H4 y z' u w' Q F4 δ4 av fp4 _ _ I4 r2 r4 E4 (Rp.mono (m3.same.trans m4.same) _ _ q2) q4 h4
theorem e_chain {a b c : Expr} {op op' : CmpOp} {f g : P2} (ho : Op2 X W (compareOp op) f) (ho' : Op2 X W (compareOp op') g) (ha : PE X a (wpE X.K W ce)) (hb : PE X b (wpE X.K W cb)) (hc : PE X c (wpE X.K W cc))
    (hm : lastMarks [op, op'] [b, c] = false := by with_unfolding_all rfl) : PE X (.Compare a [op, op'] [b, c] pos) (wpE X.K W (cCh f g ce cb cc)) := by
  refine ⟨fun pins s σ H Q I ⟨F, δ, av, fp, E, h⟩ => ?_⟩
  refine Compare_chain (thn (go_ch ho ho' ha hb hc I E h) fun v s1 h1 => chain_link (thn h1 fun u s2 h2 => thn h2 fun d s3 ⟨b, ed, h3⟩ => ?_)) hm
  subst ed
  refine wpAny_truthy_bool ?_
  cases b with
  | false => exact ite_ff h3
  | true => exact ite_tt (chain_last h3)
theorem t_chain {a b c : Expr} {op op' : CmpOp} {f g : P2} (ho : Op2 X W (compareOp op) f) (ho' : Op2 X W (compareOp op') g) (ha : PE X a (wpE X.K W ce)) (hb : PE X b (wpE X.K W cb)) (hc : PE X c (wpE X.K W cc))
    (hm : lastMarks [op, op'] [b, c] = false := by with_unfolding_all rfl) : PT X (.Compare a [op, op'] [b, c] pos) (wpT X.K W (cB (cCh f g ce cb cc))) := by
  refine ⟨fun pins s σ H Q I ⟨F, δ, av, fp, E, h⟩ => ?_⟩
  have h' : PEx X.K W F H σ av fp (fun v H1 => ∃ F1 fp1 t δ1, EOk X.K F1 H1 σ δ1 av fp1 ∧ Rp X.K F1 v t.fz ∧ Fm F H (Ow fp) F1 H1 (Ow fp1) ∧ PTx X.K W F1 H1 σ av fp1 Q (bo (t, δ1))) (cCh f g ce cb cc δ) :=
    Po.fz (P := fun F1 H1 fp1 s δ1 => PTx X.K W F1 H1 σ av fp1 Q (bo (s, δ1))) (Po.imp (Po.bind h) fun s δ' z F1 H1 fp1 m => PTx.frame z.2 m)
  refine isTrue_chain (thn (go_ch ho ho' ha hb hc I E h') fun v s1 h1 => test_link (thn h1 fun u s2 h2 => thn h2 fun d s3 ⟨b, ed, h3⟩ => ?_)) hm
  subst ed
  refine wpAny_truthy_bool ?_
  cases b with
  | false =>
    obtain ⟨z, H3, I3, r3, F3, fp3, t, δ3, E3, q3, m3, k3⟩ := h3
    obtain ⟨b, e, q⟩ := bo_ok k3 E3 q3
    subst e
    cases r3
    exact ite_ff ⟨H3, I3, q⟩
  | true =>
    refine ite_tt (test_last (thn h3 fun w' s4 h4 => thn h4 fun d' s5 ⟨z, H3, I3, r3, F3, fp3, t, δ3, E3, q3, m3, k3⟩ => ?_))
    obtain ⟨b, e, q⟩ := bo_ok k3 E3 q3
    subst e
    cases r3
    exact wpAny_truthy_bool ⟨H3, I3, q⟩

/-! ### f'..' of texts and ints -/
@[simp] def mFmt : P1
  | .str x => if x.length ≤ 16777216 then okS (.str x) else .stk
  | .int i => if i.natAbs < strb then okS (.str (Str.ofString (toString i))) else .stk
  | _ => .stk
def jsL : List Ex → Str → Ex
  | [], acc => fun δ => .ok (.d (.str acc), δ)
  | c :: cs, acc => fun δ => (c δ).bind fun p => match p.1.fz with
    | .str x => if acc.length + x.length ≤ 16777216 then jsL cs (acc ++ x) p.2 else .stk
    | _ => .stk
theorem e_fmt (he : PE X e (wpE X.K W ce)) : PE X (.FormattedValue e (-1) none pos) (wpE X.K W (c1 mFmt ce)) := by
  refine PE.wk (pe_fmt he) fun σ H Q ⟨F, δ, av, fp, E, h⟩ => ⟨F, δ, av, fp, E, Po.imp (Po.fz (P := fun F1 H1 fp1 s δ1 => PEx X.K W F1 H1 σ av fp1 Q (up (mFmt s.fz) δ1)) (Po.imp (Po.bind h) fun s δ' z F1 H1 fp1 m => PEx.frame z.2 m)) fun s δ' z v H1 F1 fp1 f E1 a n d m => ?_⟩
  obtain ⟨F2, fp2, t, δ2, E2, r2, m2, q2⟩ := z v H1 F1 fp1 f E1 a n d m
  unfold mFmt at q2
  split at q2
  · rename_i x ex
    rw [ex] at r2
    simp only [Rp] at r2
    split at q2
    · exact .inl ⟨x, r2, by rw [sizeLine_eq]; assumption, QE.here q2 E2 (by simp only [Rp])⟩
    · exact q2.elim
  · rename_i i ex
    rw [ex] at r2
    simp only [Rp] at r2
    split at q2
    · rename_i c
      rw [strb_eq] at c
      exact .inr ⟨i, r2, PySem.Flt.log2_lt_of (by omega) c, QE.here q2 E2 (by simp only [Rp])⟩
    · exact q2.elim
  · exact q2.elim
inductive JL (X : Cx) (W : WX) : List Expr → List Ex → Prop where
  | nil : JL X W [] []
  | cons {e : Expr} {c : Ex} {es : List Expr} {cs : List Ex} (h : PE X e (wpE X.K W c)) (r : JL X W es cs) : JL X W (e :: es) (c :: cs)
theorem JL.pj {es : List Expr} {cs : List Ex} (h : JL X W es cs) : PJ X es (cs.map (wpE X.K W)) := by
  induction h with
  | nil => exact .nil
  | cons h _ ih => exact .cons h ih
theorem js_ok : ∀ (cs : List Ex) (acc : Str) (σ : St) (H : Hp) (Q : VK) (F : Hp) (δ : En) (av : Nat → V) (fp : Nat → List Addr), EOk K F H σ δ av fp → PEx K W F H σ av fp Q (jsL cs acc δ) → tJs (cs.map (wpE K W)) acc σ H fun out H1 => Q (.str out) H1
  | [], acc, σ, H, Q, F, δ, av, fp, E, h => QE.here h E (by simp only [Rp])
  | c :: cs, acc, σ, H, Q, F, δ, av, fp, E, h => by
    simp only [List.map_cons, tJs]
    refine ⟨F, δ, av, fp, E, Po.imp (Po.fz (P := fun F1 H1 fp1 s δ1 => PEx K W F1 H1 σ av fp1 Q (match s.fz with
      | .str x => if acc.length + x.length ≤ 16777216 then jsL cs (acc ++ x) δ1 else .stk
      | _ => .stk)) (Po.imp (Po.bind h) fun s δ' z F1 H1 fp1 m => PEx.frame z.2 m)) fun s δ' z v H1 F1 fp1 f E1 a n d m => ?_⟩
    obtain ⟨F2, fp2, t, δ2, E2, r2, m2, q2⟩ := z v H1 F1 fp1 f E1 a n d m
    split at q2
    · rename_i x ex
      rw [ex] at r2
      simp only [Rp] at r2
      split at q2
      · rename_i hz
        have el : (acc ++ x).length = acc.length + x.length := by
          show (acc.cps ++ x.cps).size = _
          rw [Array.size_append]; rfl
        exact ⟨x, r2, by rw [sizeLine_eq, el]; exact hz, js_ok cs _ σ H1 Q F2 δ2 av fp2 E2 q2⟩
      · exact q2.elim
    · exact q2.elim
theorem e_js {v1 v2 : Expr} {rest : List Expr} {cs : List Ex} (h : JL X W (v1 :: v2 :: rest) cs) : PE X (.JoinedStr (v1 :: v2 :: rest) pos) (wpE X.K W (jsL cs Str.empty)) :=
  PE.wk (pe_joined h.pj) fun σ H Q ⟨F, δ, av, fp, E, h⟩ => js_ok cs _ σ H Q F δ av fp E h
end
end Fx
/-! Fx14: own objects changed: attributes stored, lists appended to and stored into; x op= e. -/
namespace Fx
open PySem PySem.Spec PyProof.Rows L2
section
variable {X : Cx} {K : Fg} {W : WX} {F H F' H' F1 H1 : Hp} {σ σ' : St} {δ δ' δ1 : En} {av : Nat → V} {fp fp' fp1 : Nat → List Addr}
/-! ### attributes stored -/
@[simp] def putN (n : String) : List String → List String
  | [] => [n]
  | m :: ns => if m = n then m :: ns else m :: putN n ns
@[simp] def putV {α : Type} (n : String) (y : α) : List String → List α → List α
  | m :: ns, x :: xs => if m = n then y :: xs else x :: putV n y ns xs
  | _, _ => [y]
theorem putV_length {α : Type} {n : String} {y : α} : ∀ {ns : List String} {xs : List α}, ns.length = xs.length → (putN n ns).length = (putV n y ns xs).length
  | [], [], _ => rfl
  | m :: ns, x :: xs, h => by
    simp only [putN, putV]
    by_cases c : m = n
    · rw [if_pos c, if_pos c]; exact h
    · rw [if_neg c, if_neg c, List.length_cons, List.length_cons, putV_length (by simpa using h)]
  | [], _ :: _, h => by simp at h
  | _ :: _, [], h => by simp at h
theorem putF_zip {n : String} {y : V} : ∀ {ns : List String} {vs : List V}, ns.length = vs.length → putF (Str.ofString n) y ((ns.map Str.ofString).zip vs) = ((putN n ns).map Str.ofString).zip (putV n y ns vs)
  | [], [], _ => rfl
  | m :: ns, x :: xs, h => by
    simp only [putN, putV, List.map_cons, List.zip_cons_cons, putF]
    by_cases c : m = n
    · rw [if_pos (by rw [c]), if_pos c, if_pos c]; rfl
    · rw [if_neg fun z => c (str_inj z), if_neg c, if_neg c, putF_zip (by simpa using h)]; rfl
  | [], _ :: _, h => by simp at h
  | _ :: _, [], h => by simp at h
theorem AtL.put {n : String} {y : Sl} {v : V} {g : List Addr} (h : At K F H v y g) : ∀ {ns : List String} {xs : List Sl} {vs : List V} {f : List Addr}, AtL K F H vs xs f → ns.length = xs.length → (f ++ g).Nodup →
    ∃ f', AtL K F H (putV n v ns vs) (putV n y ns xs) f' ∧ f'.Nodup ∧ ∀ b ∈ f', b ∈ f ∨ b ∈ g
  | [], [], [], f, a, _, nd => by
    simp only [AtL] at a
    subst a
    refine ⟨g, ?_, by simpa using nd, fun b hb => .inr hb⟩
    simp only [putV, AtL]
    exact ⟨g, [], by simp, h, rfl⟩
  | m :: ns, x :: xs, w :: vs, f, a, hl, nd => by
    simp only [AtL] at a
    obtain ⟨f1, f2, e, a1, a2⟩ := a
    subst e
    simp only [putV]
    by_cases c : m = n
    · rw [if_pos c, if_pos c]
      refine ⟨g ++ f2, ?_, ?_, fun b hb => ?_⟩
      · simp only [AtL]; exact ⟨g, f2, rfl, h, a2⟩
      · rw [List.append_assoc] at nd
        exact (List.perm_append_comm.nodup_iff).mp (List.nodup_append.mp nd).2.1
      · rcases List.mem_append.mp hb with hb | hb
        · exact .inr hb
        · exact .inl (List.mem_append_right _ hb)
    · rw [if_neg c, if_neg c]
      rw [List.append_assoc] at nd
      obtain ⟨n1, n2, n3⟩ := List.nodup_append.mp nd
      obtain ⟨f', b1, b2, b3⟩ := AtL.put h a2 (by simpa using hl) n2
      refine ⟨f1 ++ f', ?_, ?_, fun b hb => ?_⟩
      · simp only [AtL]; exact ⟨f1, f', rfl, a1, b1⟩
      · refine List.nodup_append.mpr ⟨n1, b2, fun b hb c' hc e => ?_⟩
        subst e
        exact n3 b hb b (List.mem_append.mpr (b3 b hc)) rfl
      · rcases List.mem_append.mp hb with hb | hb
        · exact .inl (List.mem_append_left _ hb)
        · rcases b3 b hb with z | z
          · exact .inl (List.mem_append_right _ z)
          · exact .inr z
  | [], _ :: _, _, _, _, hl, _ => by simp at hl
  | _ :: _, [], _, _, _, hl, _ => by simp at hl
  | [], [], _ :: _, _, a, _, _ => by simp only [AtL] at a
  | _ :: _, _ :: _, [], _, a, _, _ => by simp only [AtL] at a
theorem Fm.put {a : Addr} {o : HO} {A A' : Addr → Prop} (ha : A a) (h : ∀ b, A' b → A b) : Fm F H A F (upd H a o) A' where
  same := Same.refl F
  keep := fun b _ nb => upd_ne fun z => nb (by rw [z]; exact ha)
  newF := fun b hb => .inl hb
  newA := fun b hb => .inl (h b hb)
  there := fun b hb => by
    by_cases e : b = a
    · rw [e, upd_same]; simp
    · rw [upd_ne e]; exact hb
/-- what a slot owns is stored anew at a -/
theorem EOk.putAt {a : Addr} {o : HO} {i : Nat} {z : Slot} {s s' : Sl} {f' : List Addr} {A : Addr → Prop} (E : EOk K F H σ δ av fp) (hx : δ[i]? = some z) (hs : z.sl = some s) (hv : σ[i]? = some (some (.ref a))) (ha : a ∈ fp i)
    (h : At K F (upd H a o) (.ref a) s' f') (hn : f'.Nodup) (hA : ∀ b ∈ f', A b) (hd : ∀ b ∈ f', ∀ j, j ≠ i → b ∉ fp j) (hO : ∀ b, Ow fp b → A b) :
    EOk K F (upd H a o) σ (δ.set i (z.to s')) av (setN fp i f') ∧ Fm F H A F (upd H a o) (Ow (setN fp i f')) := by
  have na : F a = none := (E.out i a ha).1
  refine ⟨E.turn hx hs hv (fun b u e => ?_) (Same.refl F) (fun j hj b hb => ⟨(E.out j b hb).1, upd_ne fun z => E.dis j i hj b hb (by rw [z]; exact ha)⟩) h hn hd, Fm.put (hO a ⟨i, ha⟩) fun b hb => ?_⟩
  · rw [upd_ne fun z => by rw [z, na] at e; cases e]; exact E.sub b u e
  · rcases ow_set hb with z | z
    · exact hA b z
    · exact hO b z
def stF (n : String) (tb : List String) (i : Nat) (s : Sl) (δ : En) : R En (Fl × En) := match δ[i]? with
  | some y => (match y.sl with
    | some (.obj c ns xs) => if c ∈ tb ∧ ns.length < 1000 then .ok (.nx, δ.set i (y.to (.obj c (putN n ns) (putV n s ns xs)))) else .stk
    | _ => .stk)
  | none => .stk
def sFldS (n : String) (tb : List String) (i : Nat) (c : Ex) : Sx := fun δ => (c δ).bind fun p => stF n tb i p.1 p.2
theorem s_fld {n : String} {tb : List String} {i : Nat} {y : Str} {e : Expr} {c : Ex} {py p' pos : Pos} (hN : X.N[i]? = some y) (hv : Vis X.env.scope y) (ht : ∀ c ∈ tb, FdG X.K c n) (he : PE X e (wpE X.K W c)) (hd1 : (y == ("__debug__" : Str)) = false := by decide) (hd2 : (y == ("__classdict__" : Str)) = false := by decide)
    (hs : swapsWith e (some (.Attribute (.Name y py) (Str.ofString n) p')) pos.line X.env = pure false := by rfl) : PS X (.Assign [.Attribute (.Name y py) (Str.ofString n) p'] e pos) (wpS X.K W (sFldS n tb i c)) := by
  refine PS.wk (ps_fld (pe_var hN hv hd1 hd2) he hs) fun D σ H ⟨F, δ, av, fp, E, h⟩ => ⟨F, δ, av, fp, E, Po.imp (PSx.own h σ) fun s δ' z v H' F' fp' f E' a0 n0 d0 m0 => ?_⟩
  obtain ⟨F1, fp1, t, δ1, g, E1, a1, n1, d1, m1, q⟩ := z v H' F' fp' f E' a0 n0 d0 m0
  simp only [stF] at q
  cases hy : δ1[i]? with
  | none => simp only [hy] at q; exact q.elim
  | some z =>
    simp only [hy] at q
    cases hs : z.sl with
    | none => simp only [hs] at q; exact q.elim
    | some s0 =>
      simp only [hs] at q
      cases s0 with
      | d _ => exact q.elim
      | lst _ => exact q.elim
      | obj c ns xs =>
        dsimp only at q
        by_cases cc : c ∈ tb ∧ ns.length < 1000
        · rw [if_pos cc] at q
          obtain ⟨u, hu, au⟩ := E1.at_ i z _ hy hs
          simp only [At] at au
          obtain ⟨a, dx, vs, f0, rfl, efp, na, ndx, ha, hdx, hl, al⟩ := au
          have hnd := E1.nod i
          rw [efp] at hnd
          have hnd' := List.nodup_cons.mp hnd
          have hnd2 := List.nodup_cons.mp hnd'.2
          have ina : a ∈ fp1 i := by rw [efp]; exact List.mem_cons_self
          have inf : ∀ b ∈ f0, b ∈ fp1 i := fun b hb => by rw [efp]; simp [hb]
          have indx : dx ∈ fp1 i := by rw [efp]; simp
          obtain ⟨f2, b1, b2, b3⟩ := AtL.put (n := n) a1 al hl (List.nodup_append.mpr ⟨hnd2.2, n1, fun b hb c' hc e => by subst e; exact d1 b hc i (inf b hb)⟩)
          have hvl : ns.length = vs.length := hl.trans al.length.symm
          refine ⟨.ref a, hu, a, _, dx, _, rfl, ha, (ht c cc.1).cl, (ht c cc.1).no, ?_, ?_⟩
          · rw [List.length_zip, List.length_map]; omega
          · rw [putF_zip hvl]
            have sub2 : ∀ b ∈ f2, b ∈ f0 ∨ b ∈ g := b3
            have neA : ∀ b ∈ f2, b ≠ a := fun b hb z => by
              subst z
              rcases b3 b hb with z | z
              · exact hnd'.1 (by simp [z])
              · exact d1 b z i ina
            have neD : ∀ b ∈ f2, b ≠ dx := fun b hb z => by
              subst z
              rcases b3 b hb with z | z
              · exact hnd2.1 z
              · exact d1 b z i indx
            have nad : dx ≠ a := fun z => hnd'.1 (by simp [z])
            have P := E1.putAt (o := .ins (He.ga X.K c) dx (((putN n ns).map Str.ofString).zip (putV n v ns vs))) (s' := .obj c (putN n ns) (putV n t ns xs)) (f' := a :: dx :: f2) (A := fun b => b ∈ g ∨ Ow fp1 b) hy hs hu ina ?_ ?_ ?_ ?_ ?_
            · exact PSx.nx q P.1 (m1.trans P.2)
            · simp only [At]
              exact ⟨a, dx, _, f2, rfl, rfl, na, ndx, upd_same, by rw [upd_ne nad]; exact hdx, putV_length hl, AtL.mono (Same.refl _) _ _ _ (fun b hb => (AtL.out _ _ _ b1 b hb).1) (fun b hb => upd_ne (neA b hb)) b1⟩
            · refine List.nodup_cons.mpr ⟨fun z => ?_, List.nodup_cons.mpr ⟨fun z => neD dx z rfl, b2⟩⟩
              rcases List.mem_cons.mp z with z | z
              · exact nad z.symm
              · exact neA a z rfl
            · intro b hb
              rcases List.mem_cons.mp hb with rfl | hb
              · exact .inr ⟨i, ina⟩
              · rcases List.mem_cons.mp hb with rfl | hb
                · exact .inr ⟨i, indx⟩
                · rcases b3 b hb with z | z
                  · exact .inr ⟨i, inf b z⟩
                  · exact .inl z
            · intro b hb j hj hm
              rcases List.mem_cons.mp hb with rfl | hb
              · exact E1.dis j i hj b hm ina
              · rcases List.mem_cons.mp hb with rfl | hb
                · exact E1.dis j i hj b hm indx
                · rcases b3 b hb with z | z
                  · exact E1.dis j i hj b hm (inf b z)
                  · exact d1 b z j hm
            · exact fun b hb => .inr hb
        · rw [if_neg cc] at q; exact q.elim

/-! ### own lists -/
theorem AtL.get {j : Nat} {d : D} : ∀ {xs : List Sl} {vs : List V} {f : List Addr} {j : Nat}, AtL K F H vs xs f → xs[j]? = some (.d d) → ∃ v, vs[j]? = some v ∧ Rp K F v d
  | x :: xs, v :: vs, f, 0, h, e => by
    simp only [AtL] at h
    obtain ⟨f1, f2, _, h1, h2⟩ := h
    simp at e
    subst e
    simp only [At] at h1
    exact ⟨v, by simp, h1.2⟩
  | x :: xs, v :: vs, f, j + 1, h, e => by
    simp only [AtL] at h
    obtain ⟨f1, f2, _, h1, h2⟩ := h
    obtain ⟨u, e1, e2⟩ := AtL.get (j := j) h2 (by simpa using e)
    exact ⟨u, by simpa using e1, e2⟩
  | [], _, _, _, _, e => by simp at e
  | _ :: _, [], _, _, h, _ => by simp only [AtL] at h
theorem AtL.add {us : List V} {ds : List D} (r : RpL K F us ds) : ∀ {xs : List Sl} {vs : List V} {f : List Addr}, AtL K F H vs xs f → AtL K F H (vs ++ us) (xs ++ ds.map Sl.d) f
  | [], [], f, h => by
    simp only [AtL] at h
    subst h
    exact AtL.of r
  | x :: xs, v :: vs, f, h => by
    simp only [AtL] at h
    obtain ⟨f1, f2, e, h1, h2⟩ := h
    simp only [List.cons_append, AtL]
    exact ⟨f1, f2, e, h1, AtL.add r h2⟩
  | [], _ :: _, _, h => by simp only [AtL] at h
  | _ :: _, [], _, h => by simp only [AtL] at h
theorem AtL.setD {v : V} {d : D} (r : Rp K F v d) : ∀ {xs : List Sl} {vs : List V} {f : List Addr} {j : Nat}, AtL K F H vs xs f → f.Nodup → ∃ f', AtL K F H (vs.set j v) (xs.set j (.d d)) f' ∧ f'.Nodup ∧ ∀ b ∈ f', b ∈ f
  | [], [], f, j, h, nd => ⟨f, by simpa using h, nd, fun _ z => z⟩
  | x :: xs, w :: vs, f, 0, h, nd => by
    simp only [AtL] at h
    obtain ⟨f1, f2, e, h1, h2⟩ := h
    subst e
    refine ⟨f2, ?_, (List.nodup_append.mp nd).2.1, fun b hb => List.mem_append_right _ hb⟩
    simp only [List.set_cons_zero, AtL]
    exact ⟨[], f2, rfl, At.of r, h2⟩
  | x :: xs, w :: vs, f, j + 1, h, nd => by
    simp only [AtL] at h
    obtain ⟨f1, f2, e, h1, h2⟩ := h
    subst e
    obtain ⟨n1, n2, n3⟩ := List.nodup_append.mp nd
    obtain ⟨f', a1, a2, a3⟩ := AtL.setD r (j := j) h2 n2
    refine ⟨f1 ++ f', ?_, List.nodup_append.mpr ⟨n1, a2, fun b hb c hc e => n3 b hb c (a3 c hc) e⟩, fun b hb => ?_⟩
    · simp only [List.set_cons_succ, AtL]
      exact ⟨f1, f', rfl, h1, a1⟩
    · rcases List.mem_append.mp hb with z | z
      · exact List.mem_append_left _ z
      · exact List.mem_append_right _ (a3 b z)
  | [], _ :: _, _, _, h, _ => by simp only [AtL] at h
  | _ :: _, [], _, _, h, _ => by simp only [AtL] at h
/-- an own list in a slot, and what it is turned to -/
theorem EOk.lst {i : Nat} {z : Slot} {xs : List Sl} (E : EOk K F H σ δ av fp) (hx : δ[i]? = some z) (hs : z.sl = some (.lst xs)) :
    ∃ a vs f, σ[i]? = some (some (.ref a)) ∧ H a = some (.lst vs) ∧ AtL K F H vs xs f ∧ f.Nodup ∧
      ∀ vs' xs' f', AtL K F H vs' xs' f' → f'.Nodup → (∀ b ∈ f', b ∈ f) → EOk K F (upd H a (.lst vs')) σ (δ.set i (z.to (.lst xs'))) av (setN fp i (a :: f')) ∧ Fm F H (Ow fp) F (upd H a (.lst vs')) (Ow (setN fp i (a :: f'))) := by
  obtain ⟨v, hv, h⟩ := E.at_ i z _ hx hs
  simp only [At] at h
  obtain ⟨a, vs, f, rfl, efp, na, ha, al⟩ := h
  have hnd := E.nod i
  rw [efp] at hnd
  have hnd' := List.nodup_cons.mp hnd
  have ina : a ∈ fp i := by rw [efp]; exact List.mem_cons_self
  refine ⟨a, vs, f, hv, ha, al, hnd'.2, fun vs' xs' f' h' nd' sub => ?_⟩
  have ne : ∀ b ∈ f', b ≠ a := fun b hb z => hnd'.1 (by rw [← z]; exact sub b hb)
  have inb : ∀ b ∈ a :: f', b ∈ fp i := fun b hb => by
    rw [efp]
    rcases List.mem_cons.mp hb with rfl | hb
    · exact List.mem_cons_self
    · exact List.mem_cons_of_mem _ (sub b hb)
  refine E.putAt hx hs hv ina ?_ (List.nodup_cons.mpr ⟨fun z => ne a z rfl, nd'⟩) (fun b hb => ⟨i, inb b hb⟩) (fun b hb j hj hm => E.dis j i hj b hm (inb b hb)) (fun b hb => hb)
  simp only [At]
  exact ⟨a, vs', f', rfl, rfl, na, upd_same, AtL.mono (Same.refl _) _ _ _ (fun b hb => (AtL.out _ _ _ h' b hb).1) (fun b hb => upd_ne (ne b hb)) h'⟩
/-- behind a change of what a slot owns -/
theorem QE.turn {Q : VK} {x : D} {v : V} (h : QE K F H σ av fp Q (.d x) δ') (E : EOk K F' H' σ δ' av fp') (m : Fm F H (Ow fp) F' H' (Ow fp')) (r : Rp K F' v x) : Q v H' := h.fzd E r m
/-- x.append(e), x an own list -/
@[simp] def lsV (i : Nat) (δ : En) : Option (List Sl) := match δ[i]? with
  | some z => (match z.sl with
    | some (.lst xs) => some xs
    | _ => none)
  | none => none
theorem lsV_ok {i : Nat} {xs : List Sl} (h : lsV i δ = some xs) : ∃ z, δ[i]? = some z ∧ z.sl = some (.lst xs) := by
  unfold lsV at h
  split at h
  · rename_i z e
    split at h
    · rename_i ys e2
      cases h
      exact ⟨z, e, e2⟩
    · cases h
  · cases h
@[simp] def toV (i : Nat) (s : Sl) (δ : En) : En := match δ[i]? with
  | some z => δ.set i (z.to s)
  | none => δ
def cApp (i : Nat) (a : Ax) : Ex := fun δ => match lsV i δ with
  | some _ => (a δ).bind fun p => match p.1, lsV i p.2 with
    | [y], some xs => if xs.length < 16777216 then .ok (.d .non, toV i (.lst (xs ++ [.d y])) p.2) else .stk
    | _, _ => .stk
  | none => .stk
theorem e_app {i : Nat} {y : Str} {py apos cpos : Pos} {e : Expr} {ca : Ax} (hN : X.N[i]? = some y) (hv : Vis X.env.scope y) (ha : PA X [e] (wpA X.K W ca)) (hd1 : (y == ("__debug__" : Str)) = false := by decide) (hd2 : (y == ("__classdict__" : Str)) = false := by decide)
    (hbase : attributeBase (Expr.Name y py) "append" X.env (eval (Expr.Name y py) X.env) = eval (Expr.Name y py) X.env := by rfl)
    (hfew : ((backTo cpos (starEach [e] X.env)).all (fun x => !x.1) && (backToKw cpos (keywordEach [] X.env)).all (fun x => x.1.isSome)
      && decide (([e] : List Expr).length + ([] : List Keyword).length + (if ([] : List Keyword).isEmpty then 0 else 1) < 30)) = true := by rfl)
    (hline : (apos.endLine == cpos.line) = true := by rfl) (hs : starEach [e] X.env = (false, eval e X.env) :: starEach [] X.env := by rfl) (hplain : (backTo cpos (starEach [] X.env)).any (·.1) = false := by rfl) :
    PE X (.Call (.Attribute (.Name y py) "append" apos) [e] [] cpos) (wpE X.K W (cApp i ca)) := by
  refine PE.wk (pe_bm (T := "list") (id := "list.append") (by exact F.plainAttrs_list) (by exact F.slot_list_append) (by exact F.type_list_append) mt_append (pe_var hN hv hd1 hd2) ha hbase hfew hline hs hplain) fun σ H Q ⟨F, δ, av, fp, E, h⟩ => ?_
  unfold cApp at h
  cases h0 : lsV i δ with
  | none => rw [h0] at h; exact h.elim
  | some xs0 =>
    rw [h0] at h
    dsimp only at h
    obtain ⟨z0, e1, e2⟩ := lsV_ok h0
    obtain ⟨a, vs, f, hv, hH, _, _, _⟩ := E.lst e1 e2
    refine ⟨_, hv, .inl ⟨rfl, vs, SqL.of hH⟩, F, δ, av, fp, E, Po.imp (goA h) fun ys δ' z us H' F' fp' E' r' mm => ?_⟩
    obtain ⟨F1, δ1, fp1, ys, E1, r1, m1, q⟩ := z us H' F' fp' E' r' mm
    match ys, us, r1, q with
    | [d], [u], r1, q =>
      dsimp only at q
      cases h1 : lsV i δ1 with
      | none => rw [h1] at q; exact q.elim
      | some xs =>
        rw [h1] at q
        dsimp only at q
        obtain ⟨z1, e3, e4⟩ := lsV_ok h1
        obtain ⟨a', vs', f', hv', hH', al', nd', T⟩ := E1.lst e3 e4
        rw [hv] at hv'
        cases hv'
        by_cases c : xs.length < 16777216
        · rw [if_pos c] at q
          simp only [toV, e3] at q
          have P := T (vs' ++ [u]) (xs ++ [d].map Sl.d) f' (AtL.add (ds := [d]) r1 al') nd' (fun _ z => z)
          refine ⟨a, vs', u, rfl, rfl, hH', by rw [al'.length, sizeLine_eq]; exact c, QE.turn q P.1 P.2 (by simp only [Rp])⟩
        · rw [if_neg c] at q; exact q.elim
    | [_], [], r1, _ => simp [RpL] at r1
    | [_], _ :: _ :: _, r1, _ => simp [RpL] at r1
    | [], _, _, q => exact q.elim
    | _ :: _ :: _, _, _, q => exact q.elim
/-- x[i], x what a name holds; own lists are left as they are -/
@[simp] def sIx : Sl → D → Option D
  | .lst xs, .int k => (match atI xs k with
    | some (.d z) => some z
    | _ => none)
  | _, _ => none
def cIxV (i : Nat) (c : Ex) : Ex := fun δ => match lsV i δ with
  | some _ => (c δ).bind fun p => match lsV i p.2 with
    | some xs => (match sIx (.lst xs) p.1.fz with
      | some z => .ok (.d z, p.2)
      | none => .stk)
    | none => .stk
  | none => c2 mIx (cV i) c δ
theorem e_ixV {i : Nat} {y : Str} {py pos : Pos} {b : Expr} {cb : Ex} (hN : X.N[i]? = some y) (hv : Vis X.env.scope y) (hb : PE X b (wpE X.K W cb)) (hs : PlainIx b) (hd1 : (y == ("__debug__" : Str)) = false := by decide) (hd2 : (y == ("__classdict__" : Str)) = false := by decide) :
    PE X (.Subscript (.Name y py) b pos) (wpE X.K W (cIxV i cb)) := by
  refine ⟨fun pins s σ H Q I ⟨F, δ, av, fp, E, h⟩ => ?_⟩
  unfold cIxV at h
  cases h0 : lsV i δ with
  | none =>
    rw [h0] at h
    exact (e_ix (X := X) (W := W) x_ix (e_var hN hv hd1 hd2) hb hs).run pins s σ H Q I ⟨F, δ, av, fp, E, h⟩
  | some xs0 =>
    rw [h0] at h
    dsimp only at h
    obtain ⟨z0, e1, e2⟩ := lsV_ok h0
    obtain ⟨a, vs, f, hva, hH, _, _, _⟩ := E.lst e1 e2
    refine Subscript_ (thn ((pe_var hN hv hd1 hd2).run pins s σ H (fun x H1 => x = .ref a ∧ H1 = H) I ⟨_, hva, rfl, rfl⟩) fun v s1 ⟨x, H1, I1, r1, ex, eH⟩ => ?_)
    subst ex eH
    refine thn (go1 hb I1 E h) fun u s2 ⟨y, H2, I2, r2, F2, fp2, t2, δ2, E2, q2, m2, h2⟩ => ?_
    dsimp only at h2
    cases h1 : lsV i δ2 with
    | none => rw [h1] at h2; exact h2.elim
    | some xs =>
      rw [h1] at h2
      dsimp only at h2
      obtain ⟨z1, e3, e4⟩ := lsV_ok h1
      obtain ⟨a', vs', f', hv', hH', al', nd', T⟩ := E2.lst e3 e4
      rw [hva] at hv'
      cases hv'
      cases h3 : sIx (.lst xs) t2.fz with
      | none => rw [h3] at h2; exact h2.elim
      | some w =>
        rw [h3] at h2
        dsimp only at h2
        unfold sIx at h3
        split at h3
        · rename_i ys k ey ek
          cases ey
          rw [ek] at q2
          simp only [Rp] at q2
          subst q2
          split at h3
          · rename_i w' hw
            cases h3
            unfold atI at hw
            cases hk : ixN xs.length k with
            | none => rw [hk] at hw; cases hw
            | some j =>
              rw [hk] at hw
              obtain ⟨u', hu1, hu2⟩ := AtL.get (j := j) al' hw
              refine ix_seq _ _ pins s2 σ H2 (.ref a) (.int k) v u Q I2 r1 r2 (.inl ⟨a, vs', k, u', rfl, rfl, SqL.of hH', ?_, QE.here h2 E2 hu2⟩) (hs _ _)
              unfold atI
              rw [al'.length, hk]
              exact hu1
          · cases h3
        · cases h3
/-- x[i] = e, x an own list -/
def sSetI (i : Nat) (ci c : Ex) : Sx := fun δ => (c δ).bind fun p => match lsV i p.2 with
  | some _ => (ci p.2).bind fun q => match lsV i q.2, asI q.1.fz with
    | some xs, some k => (match ixN xs.length k with
      | some j => .ok (.nx, toV i (.lst (xs.set j (.d p.1.fz))) q.2)
      | none => .stk)
    | _, _ => .stk
  | none => .stk
theorem s_setI {i : Nat} {y : Str} {py ps pos : Pos} {b e : Expr} {cb ce : Ex} (hN : X.N[i]? = some y) (hv : Vis X.env.scope y) (hb : PE X b (wpE X.K W cb)) (he : PE X e (wpE X.K W ce)) (hd1 : (y == ("__debug__" : Str)) = false := by decide) (hd2 : (y == ("__classdict__" : Str)) = false := by decide)
    (ha : ∀ v, assign (.Subscript (.Name y py) b ps) X.env v = (do
      let ov ← holding [v] (eval (.Name y py) X.env)
      let iv ← holding [v, ov] (eval b X.env)
      standAt ps
      holding [v, ov, iv] (setItem ov iv v)
      release [v, ov, iv] []) := by intro _; rfl)
    (hs : swapsWithSole [.Subscript (.Name y py) b ps] e pos.line X.env = pure false := by rfl) (hw : swappedStores [.Subscript (.Name y py) b ps] e X.env = pure none := by rfl)
    (h1 : (assignEach [.Subscript (.Name y py) b ps] X.env).map (·.2) = [assign (.Subscript (.Name y py) b ps) X.env] := by rfl) :
    PS X (.Assign [.Subscript (.Name y py) b ps] e pos) (wpS X.K W (sSetI i cb ce)) := by
  refine PS.wk (ps_asg he (pg_sub (pe_var hN hv hd1 hd2) hb set_list ha) hs hw h1) fun D σ H ⟨F, δ, av, fp, E, h⟩ => ⟨F, δ, av, fp, E, Po.imp (PSx.fz h σ) fun s δ' z v H' F' fp' f E' a n d m => ?_⟩
  obtain ⟨F1, fp1, t, δ1, E1, r1, m1, q⟩ := z v H' F' fp' f E' a n d m
  dsimp only at q
  cases h0 : lsV i δ1 with
  | none => rw [h0] at q; exact q.elim
  | some xs0 =>
    rw [h0] at q
    dsimp only at q
    obtain ⟨z0, e1, e2⟩ := lsV_ok h0
    obtain ⟨p, vs, f, hvp, hH, _, _, _⟩ := E1.lst e1 e2
    refine ⟨_, hvp, F1, δ1, av, fp1, E1, Po.imp (PSx.fz q σ) fun s2 δ2 z v2 H2 F2 fp2 f2 E2 a2 n2 d2 m2 => ?_⟩
    obtain ⟨F3, fp3, t3, δ3, E3, r3, m3, q3⟩ := z v2 H2 F2 fp2 f2 E2 a2 n2 d2 m2
    dsimp only at q3
    cases h1 : lsV i δ3 with
    | none => rw [h1] at q3; exact q3.elim
    | some xs =>
      cases h2 : asI t3.fz with
      | none => rw [h1, h2] at q3; exact q3.elim
      | some k =>
        rw [h1, h2] at q3
        dsimp only at q3
        rw [asI_ok h2] at r3
        simp only [Rp] at r3
        subst r3
        cases h3 : ixN xs.length k with
        | none => rw [h3] at q3; exact q3.elim
        | some j =>
          rw [h3] at q3
          dsimp only at q3
          obtain ⟨z1, e3, e4⟩ := lsV_ok h1
          obtain ⟨p', vs', f', hv', hH', al', nd', T⟩ := E3.lst e3 e4
          rw [hvp] at hv'
          cases hv'
          obtain ⟨f4, b1, b2, b3⟩ := AtL.setD (j := j) (Rp.mono m3.same _ _ r1) al' nd'
          have P := T _ _ f4 b1 b2 b3
          simp only [toV, e3] at q3
          exact ⟨p, vs', k, j, rfl, rfl, hH', by rw [al'.length]; exact h3, PSx.nx q3 P.1 P.2⟩
/-- len(x), x an own list -/
def cLenV (i : Nat) : Ex := fun δ => match lsV i δ with
  | some xs => .ok (.d (.int xs.length), δ)
  | none => cA bLen (aC (cV i) aN) δ
end
end Fx
/-! Fx15: own operators by whatever way they are asked (a op b, a op= b, **). -/
namespace Fx
open PySem PySem.Spec PyProof.Rows L2
section
variable {prog : Program} {w : World} {A : Around} {E : Value → Shared → Prop} {s : Shared} {K : PySem.W.Frag} {x C dx f f0 : Addr} {od : Option Obj} {nm : String}
abbrev Got (Q : Value → Shared → Prop) : Option Value → Shared → Prop := fun r s' => ∃ v, r = some v ∧ Q v s'
theorem b1_same {b : Value} {Q : Value → Shared → Prop} (X : K.In s.heap) (I : PySem.W.InstAt s.heap x (PySem.W.instObj C dx) C od) (hb : PySem.W.Looks (model prog w) s.heap (typeOf b) (.ref C)) (hc : PySem.W.selfFirst K C = true)
    (hs : PySem.W.findIn K (.ref C) (PySem.dunder nm) = some (some (.ref f))) (hf : PySem.W.isFn K (.ref f) = true)
    (h : wpAny (model prog w) A (call (.ref f) [.ref x, b]) (PySem.W.CmpBack Q) E s) : wpAny (model prog w) A (binaryOp1 nm (.ref x) b) (Got Q) E s := by
  obtain ⟨cd, rest, hcd, hm⟩ := PySem.W.ksp_first hc
  have one := PySem.W.ksp_try X I hs hf h
  unfold binaryOp1
  refine wpAny_bind (I.type.here (wpAny_bind (hb.here (wpAny_bind ((PySem.W.fills_K X hcd hm hs).here ?_)))))
  simp only [beq_self_eq_true, if_true]
  refine wpAny_bind (wpAny_pure ?_)
  simp only [Bool.and_false, Bool.false_eq_true, if_false, Bool.false_and]
  refine wpAny_bind (wpAny_pure ?_)
  simp only [Bool.false_eq_true, if_false]
  refine wpAny_bind (m := tryMethod (.ref x) _ b) (wpAny_mono one (fun r s' z => ?_) fun _ _ e => e)
  obtain ⟨v, rfl, hq⟩ := z
  exact wpAny_pure ⟨v, rfl, hq⟩
theorem b1_num {T : String} {b : Value} {fo ro rc : Option Value} {Q : Value → Shared → Prop} (X : K.In s.heap) (I : PySem.W.InstAt s.heap x (PySem.W.instObj C dx) C od) (hb : typeOf b = pure (.type T)) (hc : PySem.W.selfFirst K C = true)
    (hs : PySem.W.findIn K (.ref C) (PySem.dunder nm) = some (some (.ref f))) (hf : PySem.W.isFn K (.ref f) = true) (hr : PySem.W.findIn K (.ref C) (dunderR nm) = some rc) (hp : rc = none ∨ ∃ g : Addr, rc = some (.ref g))
    (h1 : PySem.W.findIn K (.type T) (PySem.dunder nm) = some fo) (h2 : PySem.W.findIn K (.type T) (dunderR nm) = some ro) (hsub : PySem.W.subIn K (.type T) (.ref C) = some false)
    (h : wpAny (model prog w) A (call (.ref f) [.ref x, b]) (PySem.W.CmpBack Q) E s) : wpAny (model prog w) A (binaryOp1 nm (.ref x) b) (Got Q) E s := by
  obtain ⟨cd, rest, hcd, hm⟩ := PySem.W.ksp_first hc
  have one := PySem.W.ksp_try X I hs hf h
  obtain ⟨hh, g, d, tt, os⟩ := s
  have L1 : PySem.W.Looks (model prog w) hh (typeOf (.ref x)) (.ref C) := I.type
  have L2 : PySem.W.Looks (model prog w) hh (typeOf b) (.type T) := PySem.W.Looks.of_pure hb
  have L3 : PySem.W.Looks (model prog w) hh (fillsNumberSlot (.ref C) nm) true := PySem.W.fills_K X hcd hm hs
  have L4 := PySem.W.ksp_fillsT (M := model prog w) X h1 h2
  have L5 : PySem.W.Looks (model prog w) hh (isSubtype (.type T) (.ref C)) false := PySem.W.looks_subIn X hsub
  have L6 : PySem.W.Looks (model prog w) hh (numberSlotInPython (.ref C) nm) true := PySem.W.ksp_inPy X hs hr hp
  have L7 : PySem.W.Looks (model prog w) hh (numberSlotInPython (.type T) nm) false := PySem.W.Looks.of_pure rfl
  have L8 : PySem.W.Looks (model prog w) hh (typeLookup (.type T) (dunderR nm)) ro := PySem.W.looks_findIn X h2
  generalize ((fo.isSome && !isSeqSlot fo) || (ro.isSome && !isSeqSlot ro)) = right at L4
  have hne : (Value.ref C == Value.type T) = false := Bool.eq_false_iff.mpr fun q => by cases beq_iff_eq.mp q
  unfold binaryOp1
  refine wpAny_bind (L1.at (wpAny_bind (L2.at (wpAny_bind (L3.at ?_)))))
  simp only [hne, Bool.false_eq_true, if_false]
  cases right with
  | false =>
    ksp_lk
    refine wpAny_mono one (fun r s' z => ?_) fun _ _ e => e
    obtain ⟨v, rfl, hq⟩ := z
    ksp_lk
    exact ⟨_, rfl, hq⟩
  | true =>
    ksp_lk
    refine wpAny_mono one (fun r s' z => ?_) fun _ _ e => e
    obtain ⟨v, rfl, hq⟩ := z
    ksp_lk
    exact ⟨_, rfl, hq⟩
/-- what int says to such an operation -/
structure IntNm (nm : String) : Prop where
  l : (fastLookup "int" (PySem.dunder nm)).isSome = true
  r : (fastLookup "int" (dunderR nm)).isSome = true
structure IntDecl (nm : String) : Prop where
  ex : ∃ (idl : String), PySem.Slot "int" (PySem.dunder nm) idl ∧ Decl idl
  fills : fillsNumberSlot (.type "int") nm = pure true
theorem b1_refl {a : Int} {t : Tok} {Q : Value → Shared → Prop} (G : IntDecl nm) (X : K.In s.heap) (I : PySem.W.InstAt s.heap x (PySem.W.instObj C dx) C od) (hc : PySem.W.selfFirst K C = true)
    (hs : PySem.W.findIn K (.ref C) (PySem.dunder nm) = some (some (.ref f0))) (hr : PySem.W.findIn K (.ref C) (dunderR nm) = some (some (.ref f))) (hf : PySem.W.isFn K (.ref f) = true) (hsub : PySem.W.subIn K (.ref C) (.type "int") = some false)
    (h : wpAny (model prog w) A (call (.ref f) [.ref x, .int a t]) (PySem.W.CmpBack Q) E s) : wpAny (model prog w) A (binaryOp1 nm (.int a t) (.ref x)) (Got Q) E s := by
  obtain ⟨⟨idl, slot, dec⟩, fills⟩ := G
  obtain ⟨cd, rest, hcd, hm⟩ := PySem.W.ksp_first hc
  have one := PySem.W.ksp_try X I hr hf h
  have L3 : PySem.W.Looks (model prog w) s.heap (fillsNumberSlot (.ref C) nm) true := PySem.W.fills_K X hcd hm hs
  have L5 : PySem.W.Looks (model prog w) s.heap (isSubtype (.ref C) (.type "int")) false := PySem.W.looks_subIn X hsub
  unfold binaryOp1
  refine wpAny_bind (wpAny_typeOf (typeIs_int s a t) (wpAny_bind (I.type.here (wpAny_bind (wpAny_of_eq fills ?_)))))
  have hne : (Value.type "int" == Value.ref C) = false := rfl
  simp only [hne, Bool.false_eq_true, if_false]
  refine wpAny_bind (L3.here ?_)
  simp only [Bool.and_self, if_true]
  refine wpAny_bind (L5.here ?_)
  have hpy : numberSlotInPython (.type "int") nm = pure false := rfl
  simp only [Bool.false_eq_true, if_false, pure_bind, Bool.not_false, Bool.and_self, if_true, hpy]
  refine wpAny_bind (wpAny_tryMethod_declines (typeIs_int s a t) slot (dec prog w A E s a t x C dx _ I.at_ ⟨rfl, ?_⟩))
  refine wpAny_bind (wpAny_mono one (fun r s' hr' => ?_) fun _ _ e => e)
  obtain ⟨v, rfl, hq⟩ := hr'
  refine wpAny_bind (wpAny_rule (wpAny_pure ?_))
  exact ⟨_, rfl, hq⟩
/-- an operation that asks binaryOp1: of instances of C; of ints -/
def ViaO (nm : String) (g : Value → Value → Sem Value) (K : PySem.W.Frag) (C : Addr) : Prop := ∀ (prog : Program) (w : World) (A : Around) (E : Value → Shared → Prop) (s : Shared) (x dx : Addr) (od : Option Obj) (b : Value) (Q : Value → Shared → Prop),
  K.In s.heap → PySem.W.InstAt s.heap x (PySem.W.instObj C dx) C od → wpAny (model prog w) A (binaryOp1 nm (.ref x) b) (Got Q) E s → wpAny (model prog w) A (g (.ref x) b) Q E s
def ViaI (nm : String) (g : Value → Value → Sem Value) : Prop := ∀ (prog : Program) (w : World) (A : Around) (E : Value → Shared → Prop) (s : Shared) (a : Int) (t : Tok) (b : Value) (Q : Value → Shared → Prop),
  wpAny (model prog w) A (binaryOp1 nm (.int a t) b) (Got Q) E s → wpAny (model prog w) A (g (.int a t) b) Q E s
theorem bin_of1 {op : Operator} {nm : String} (e : op.info.2 = nm) {a b : Value} {Q : Value → Shared → Prop} (h : wpAny (model prog w) A (binaryOp1 nm a b) (Got Q) E s) : wpAny (model prog w) A (binaryOp op a b) Q E s := by
  subst e
  rcases hi : op.info with ⟨sym, nm'⟩
  rw [hi] at h
  simp only [binaryOp, hi]
  refine wpAny_holding (wpAny_bind (wpAny_mono h (fun r s' z => ?_) fun _ _ e => e))
  obtain ⟨v, rfl, hq⟩ := z
  exact wpAny_pure hq
theorem vo_bin {op : Operator} {nm : String} (e : op.info.2 = nm) : ViaO nm (binaryOp op) K C := fun _ _ _ _ _ _ _ _ _ _ _ _ h => bin_of1 e h
theorem vi_bin {op : Operator} {nm : String} (e : op.info.2 = nm) : ViaI nm (binaryOp op) := fun _ _ _ _ _ _ _ _ _ h => bin_of1 e h
theorem inp_of1 {op : Operator} {nm : String} (e : op.info.2 = nm) {a b ta : Value} {Q : Value → Shared → Prop} (ht : PySem.W.Looks (model prog w) s.heap (typeOf a) ta) (hf : PySem.W.Looks (model prog w) s.heap (fillsInplaceSlot ta nm (op == .Add)) false)
    (h : wpAny (model prog w) A (binaryOp1 nm a b) (Got Q) E s) : wpAny (model prog w) A (inplaceOp op a b) Q E s := by
  subst e
  unfold inplaceOp
  refine wpAny_holding (wpAny_bind (ht.here (wpAny_bind (hf.here ?_))))
  simp only [Bool.false_eq_true, if_false]
  refine wpAny_bind (wpAny_mono h (fun r s' z => ?_) fun _ _ e => e)
  obtain ⟨v, rfl, hq⟩ := z
  exact wpAny_pure hq
/-- no own way of op= -/
structure NoInp (K : PySem.W.Frag) (C : Addr) (nm : String) : Prop where
  cls : ∃ cd, PySem.W.clsIn K C = some cd ∧ cd.mro = [.ref C, .type "object"]
  no : PySem.W.findIn K (.ref C) (dunderI nm) = some none
theorem vo_inp {op : Operator} {nm : String} (e : op.info.2 = nm) (no : NoInp K C nm) (ho : PySem.W.findIn K (.type "object") (dunderI nm) = some none) : ViaO nm (inplaceOp op) K C := fun prog w A E s x dx od b Q X I h => by
  refine inp_of1 e I.type ?_ h
  obtain ⟨cd, hcd, hm⟩ := no.cls
  have Lm : PySem.W.Looks (model prog w) s.heap (mroOf (.ref C)) cd.mro := (PySem.W.looks_clsIn X hcd).andThen (f := fun cd => pure cd.mro) .now
  have L1 := PySem.W.looks_findIn (M := model prog w) X no.no
  have L2 := PySem.W.looks_findIn (M := model prog w) X ho
  intro A' Q' E' s' k q
  unfold fillsInplaceSlot
  dsimp only
  refine wpAny_bind ((Lm.keeps k).here ?_)
  rw [hm, List.anyM_cons]
  refine wpAny_bind (wpAny_bind ((L1.keeps k).here (wpAny_pure ?_)))
  simp only [Bool.false_eq_true, if_false]
  rw [List.anyM_cons]
  refine wpAny_bind (wpAny_bind ((L2.keeps k).here (wpAny_pure ?_)))
  simp only [Bool.false_eq_true, if_false, List.anyM_nil]
  exact wpAny_pure q
theorem vi_inp {op : Operator} {nm : String} (e : op.info.2 = nm) (no : typeLookup (.type "int") (dunderI nm) = pure none) : ViaI nm (inplaceOp op) := fun prog w A E s a t b Q h => by
  refine inp_of1 e (PySem.W.Looks.of_pure (typeIs_int s a t)) ?_ h
  refine PySem.W.Looks.of_pure ?_
  unfold fillsInplaceSlot
  dsimp only
  rw [no]
  rfl
end
section
variable {X : Cx} {K : Fg} {W : WX} {F H F' H' F1 H1 : Hp} {σ σ' : St} {δ δ' δ1 : En} {av : Nat → V} {fp fp' fp1 : Nat → List Addr} {k : Nat} {m : Fn}
/-- what is asked of a class whose operator stands on the left of an int or of its own -/
structure OwnL (K : Fg) (c : String) (nm : String) : Prop where
  sf : PySem.W.selfFirst K (He.ga K c) = true
  r : ∃ rc, PySem.W.findIn K (.ref (He.ga K c)) (dunderR nm) = some rc ∧ (rc = none ∨ ∃ g : Addr, rc = some (.ref g))
theorem o_left {g : Value → Value → Sem Value} {nm n : String} {tb : List (String × Fn)} (G : IntNm nm) (hn : Str.ofString n = PySem.dunder nm) (ht : MtT X n k [] tb) (ho : ∀ q ∈ tb, OwnL X.K q.1 nm) (hg : ∀ q ∈ tb, ViaO nm g X.K (He.ga X.K q.1)) (hr : Room k X.A) (tk : Takes X W) : Op2 X W g (opB tb) := by
  intro pins s σ H x y v u Q F δ av fp dx dy I rx ry E r1 r2 h
  unfold opB at h
  split at h
  · rename_i c ns xs j
    cases hm : mOf c tb with
    | none => simp only [hm] at h; exact h.elim
    | some m =>
      simp only [hm] at h
      have hmem := mOf_mem hm
      obtain ⟨a, d2, od, rfl, rfl, J⟩ := ins_look I rx r1 E.sub
      have r2' := r2
      simp only [Rp] at r2
      subst r2
      obtain ⟨t, rfl⟩ := ry
      obtain ⟨f, fd, ps, dvs, ds, Fo, hme, hb, hd, hrd⟩ := (ht _ hmem).ex
      obtain ⟨fo, hfo⟩ := isSome_ex G.l
      obtain ⟨ro, hro⟩ := isSome_ex G.r
      obtain ⟨rc, hrc, hp⟩ := (ho _ hmem).r
      refine hg _ hmem _ _ _ _ _ _ _ _ _ _ I.kIn J (b1_num (T := "int") (fo := fo) (ro := ro) I.kIn J (typeIs_int s j t) (ho _ hmem).sf (by rw [← hn]; exact hme.at_) hme.fn hrc hp hfo hro sub_int ?_)
      refine wpAny_mono (run_at (us := [.ref a, .int j t]) (vs := [.ref a, .int j]) Fo hb hd hrd hr I.env0 tk I (.cons rfl (.cons ⟨t, rfl⟩ .nil)) E (RpL.cons r1 (RpL.cons r2' RpL.nil)) (by rw [List.append_nil]; exact h)) (fun w s' z => ?_) fun _ _ e => e
      obtain ⟨z', H', I', rz, qz⟩ := z
      exact SlX.cmpback rz ⟨z', H', I', rz, qz⟩
  · rename_i c ns xs c' ns' ys
    by_cases ec : c' = c
    · rw [if_pos ec] at h
      subst ec
      cases hm : mOf c' tb with
      | none => simp only [hm] at h; exact h.elim
      | some m =>
        simp only [hm] at h
        have hmem := mOf_mem hm
        obtain ⟨a, d2, od, rfl, rfl, J⟩ := ins_look I rx r1 E.sub
        obtain ⟨b, d3, od2, rfl, rfl, J2⟩ := ins_look I ry r2 E.sub
        obtain ⟨f, fd, ps, dvs, ds, Fo, hme, hb, hd, hrd⟩ := (ht _ hmem).ex
        refine hg _ hmem _ _ _ _ _ _ _ _ _ _ I.kIn J (b1_same I.kIn J J2.type (ho _ hmem).sf (by rw [← hn]; exact hme.at_) hme.fn ?_)
        refine wpAny_mono (run_at (us := [.ref a, .ref b]) (vs := [.ref a, .ref b]) Fo hb hd hrd hr I.env0 tk I (.cons rfl (.cons rfl .nil)) E (RpL.cons r1 (RpL.cons r2 RpL.nil)) (by rw [List.append_nil]; exact h)) (fun w s' z => ?_) fun _ _ e => e
        obtain ⟨z', H', I', rz, qz⟩ := z
        exact SlX.cmpback rz ⟨z', H', I', rz, qz⟩
    · rw [if_neg ec] at h; exact h.elim
  · exact h.elim
/-- .. on the right of an int -/
structure OwnR (K : Fg) (c : String) (nm : String) : Prop where
  sf : PySem.W.selfFirst K (He.ga K c) = true
  ni : PySem.W.subIn K (.ref (He.ga K c)) (.type "int") = some false
  l : ∃ f0 : Addr, PySem.W.findIn K (.ref (He.ga K c)) (PySem.dunder nm) = some (some (.ref f0))
theorem o_right {g : Value → Value → Sem Value} {nm n : String} {tb : List (String × Fn)} (G : IntDecl nm) (hn : Str.ofString n = dunderR nm) (ht : MtT X n k [] tb) (ho : ∀ q ∈ tb, OwnR X.K q.1 nm) (hg : ViaI nm g) (hr : Room k X.A) (tk : Takes X W) : Op2 X W g (opR tb) := by
  intro pins s σ H x y v u Q F δ av fp dx dy I rx ry E r1 r2 h
  unfold opR at h
  split at h
  · rename_i i c ns xs
    cases hm : mOf c tb with
    | none => simp only [hm] at h; exact h.elim
    | some m =>
      simp only [hm] at h
      have hmem := mOf_mem hm
      obtain ⟨a, d2, od, rfl, rfl, J⟩ := ins_look I ry r2 E.sub
      have r1' := r1
      simp only [Rp] at r1
      subst r1
      obtain ⟨t, rfl⟩ := rx
      obtain ⟨f, fd, ps, dvs, ds, Fo, hme, hb, hd, hrd⟩ := (ht _ hmem).ex
      obtain ⟨f0, h0⟩ := (ho _ hmem).l
      refine hg _ _ _ _ _ _ _ _ _ (b1_refl G I.kIn J (ho _ hmem).sf h0 (by rw [← hn]; exact hme.at_) hme.fn (ho _ hmem).ni ?_)
      refine wpAny_mono (run_at (us := [.ref a, .int i t]) (vs := [.ref a, .int i]) Fo hb hd hrd hr I.env0 tk I (.cons rfl (.cons ⟨t, rfl⟩ .nil)) E (RpL.cons r2 (RpL.cons r1' RpL.nil)) (by rw [List.append_nil]; exact h)) (fun w s' z => ?_) fun _ _ e => e
      obtain ⟨z', H', I', rz, qz⟩ := z
      exact SlX.cmpback rz ⟨z', H', I', rz, qz⟩
  · exact h.elim
theorem in_add : IntNm "add" := ⟨by decide +kernel, by decide +kernel⟩
theorem in_sub : IntNm "sub" := ⟨by decide +kernel, by decide +kernel⟩
theorem in_mul : IntNm "mul" := ⟨by decide +kernel, by decide +kernel⟩
theorem in_fdv : IntNm "floordiv" := ⟨by decide +kernel, by decide +kernel⟩
theorem in_mod : IntNm "mod" := ⟨by decide +kernel, by decide +kernel⟩
theorem in_pow : IntNm "pow" := ⟨by decide +kernel, by decide +kernel⟩
theorem id_add : IntDecl "add" := ⟨io_add.ex, io_add.fills⟩
theorem id_sub : IntDecl "sub" := ⟨io_sub.ex, io_sub.fills⟩
theorem id_mul : IntDecl "mul" := ⟨io_mul.ex, io_mul.fills⟩
theorem id_fdv : IntDecl "floordiv" := ⟨io_fdv.ex, io_fdv.fills⟩
theorem id_mod : IntDecl "mod" := ⟨io_mod.ex, io_mod.fills⟩
theorem noi_obj (nm : String) (h : fastLookup "object" (dunderI nm) = some none) : PySem.W.findIn K (.type "object") (dunderI nm) = some none := h
theorem o_jadd : Op2 X W (inplaceOp .Add) iAdd := opInt iop_add (fun i j => .inr ⟨_, rfl, .int (i + j), fun F => by simp only [Rp], fun H Q q => ⟨i, j, rfl, rfl, q⟩⟩) (nn2 fun x y h => by cases x <;> cases y <;> simp_all)
theorem o_jsub : Op2 X W (inplaceOp .Sub) iSub := opInt iop_sub (fun i j => .inr ⟨_, rfl, .int (i - j), fun F => by simp only [Rp], fun H Q q => ⟨i, j, rfl, rfl, q⟩⟩) (nn2 fun x y h => by cases x <;> cases y <;> simp_all)

/-! ### name op= e -/
def sAug (i : Nat) (f : P2) (c : Ex) : Sx := fun δ => (cV i δ).bind fun p => (c p.2).bind fun q => (up (f p.1.fz q.1.fz) q.2).bind fun r => stN i r.1 r.2
theorem s_aug {i : Nat} {x : Str} {e : Expr} {op : Operator} {f : P2} {c : Ex} {pos pos' : Pos} (hN : X.N.Nodup) (hi : X.N[i]? = some x) (hx : Loc X.env.scope x) (ho : Op2 X W (inplaceOp op) f) (he : PE X e (wpE X.K W c)) (hd1 : (x == ("__debug__" : Str)) = false := by decide) (hd2 : (x == ("__classdict__" : Str)) = false := by decide)
    (hf : X.fn x = true ∨ X.env.scope.names.lookup x = some .local := by first | exact .inl rfl | exact .inr rfl | assumption) : PS X (.AugAssign (.Name x pos') op e pos) (wpS X.K W (sAug i f c)) := by
  refine ⟨fun pins s σ H D I ⟨F, δ, av, fp, E, h⟩ => ?_⟩
  simp only [sAug] at h
  -- the name's value, frozen
  unfold cV at h
  cases e0 : δ[i]? with
  | none => simp only [e0] at h; exact h.elim
  | some y =>
    simp only [e0] at h
    cases e1 : y.sl with
    | none => simp only [e1] at h; exact h.elim
    | some sl =>
      simp only [e1, R.bind] at h
      obtain ⟨v, hv, E2, r, m⟩ := E.fzSlot e0 e1
      have h2 := PSx.frame h m
      obtain ⟨mm, hn, hl⟩ := I.loc
      have vis : Vis X.env.scope x := by rcases hx with k | k; exact .inl k; exact .inr (.inl k)
      obtain ⟨u, ru, l⟩ := hl i x v hi hv vis
      refine wpAny_AugAssign_Name ?_
      have go : wpAny (model X.prog X.w) X.A (eval e X.env) (fun w s₂ => wpAny (model X.prog X.w) X.A (inplaceOp op u w) (fun r s₃ => wpAny (model X.prog X.w) X.A (storeName X.env x r) (fun _ => SP X pins D .next) X.xe s₃) X.xe s₂) X.xe s := by
        refine thn (he.run pins s σ H _ I ⟨_, _, av, _, E2, PSx.fz h2 σ⟩) fun w s1 ⟨y1, H1, I1, r1, F1, fp1, t, δ1, E1, q1, m1, h1⟩ => ?_
        have h3 : PEx X.K W F1 H1 σ av fp1 (fun z H2 => D.nx (σ.set i (some z)) H2) (up (f sl.fz t.fz) δ1) := by
          refine Po.imp (PSx.own (f := fun r => stN i r.1 r.2) h1 σ) fun s δ' z v' H' F' fp' f' E' a n d m => ?_
          obtain ⟨F2, fp2, t2, δ2, g, E3, a3, n3, d3, m3, q3⟩ := z v' H' F' fp' f' E' a n d m
          exact stN_ok q3 E3 a3 n3 d3 m3
        refine thn (ho pins s1 σ H1 v y1 u w _ F1 δ1 av fp1 _ _ I1 ru r1 E1 (Rp.mono m1.same _ _ r) q1 h3) fun z s2 ⟨zv, H2, I2, r2, q2⟩ => ?_
        exact store_ok I2 hN hi hx r2 (fun s3 I3 => ⟨_, H2, I3, q2⟩) hf
      rcases l with ⟨hk, hm⟩ | ⟨hk, c, hc, hcell⟩
      · exact wpAny_loadName_local I.ok.kind hk hn hm go
      · rcases hk with hk | hk
        · exact wpAny_loadName_cell I.ok.kind hk hc hcell go
        · rcases hx with k | k
          · have : X.env.scope.names.lookup x = some .free := hk
            rw [k] at this; cases this
          · have : X.env.scope.names.lookup x = some .free := hk
            rw [k] at this; cases this
end
end Fx
/-! Fx16: errors raised, caught, held. -/
namespace Fx
open PySem PySem.Spec PyProof.Rows L2 L2H
section
variable {X : Cx} {K : Fg} {W : WX} {F H F' H' F1 H1 : Hp} {σ σ' : St} {δ δ' δ1 : En} {av : Nat → V} {fp fp' fp1 : Nat → List Addr} {k : Nat} {m : Fn}
/-! ### the error that is held, tracked -/
theorem Inv.hot {pins : List (Addr × Obj)} {s : Shared} (I : Inv X pins σ H s) (a : Addr) : Inv (X.suite a (X.pn ++ pins)) [] σ H s :=
  ⟨I.ok.suite _ _, I.os, I.bare, I.base, I.loc, I.cell, I.free, I.freeC, fun p hp => I.pin p (by rw [List.append_nil] at hp; exact hp), I.hok, I.len⟩
theorem Inv.unhot {pins pn' : List (Addr × Obj)} {s : Shared} {a : Addr} (I : Inv (X.suite a (X.pn ++ pins)) pn' σ H s) (ok : X.Ok) : Inv X pins σ H s :=
  ⟨ok, I.os, I.bare, I.base, I.loc, I.cell, I.free, I.freeC, fun p hp => I.pin p (List.mem_append_left _ hp), I.hok, I.len⟩
theorem Inv.held {pins : List (Addr × Obj)} {s : Shared} {a C : Addr} {d : Option Addr} {oe : Obj} {us : Array Value} (I : Inv X pins σ H s) (na : H a = none) (n0 : X.s_0.heap.get? a = none) (e : s.heap.get? a = some oe) (z : Zc (.ref C) d oe) (hd : oe.data = .fields us)
    (nL : a ≠ X.env.locals) (np : ∀ p ∈ X.pn ++ pins, p.1 ≠ a) : Inv X pins σ (upd H a (eob a C d)) s := by
  have ne : ∀ {b : Addr} {o : HO}, H b = some o → b ≠ a := fun {b o} h q => by rw [q, na] at h; cases h
  have n0' : ∀ {b : Addr} {o : Obj}, X.s_0.heap.get? b = some o → b ≠ a := fun {b o} h q => by rw [q, n0] at h; cases h
  refine ⟨I.ok, I.os, I.bare, ⟨fun b o h => I.base.keep b o h, fun b o h => I.base.slot b o h, fun b o h1 h2 h3 => by rw [upd_ne (n0' h1)]; exact I.base.free b o h1 h2 h3, I.base.there,
    fun b xs h => ?_, fun b o u h => ?_, fun b ps h => ?_⟩, I.loc, I.cell, by rw [upd_ne (Ne.symm nL)]; exact I.free, fun x c h => ?_, fun p hp => ?_, fun b o h => ?_, I.len⟩
  · have := I.base.tups b xs h
    rw [upd_ne (ne this)]; exact this
  · have := I.base.frzs b o u h
    rw [upd_ne (ne this)]; exact this
  · obtain ⟨more, this⟩ := I.base.tbls b ps h
    exact ⟨more, by rw [upd_ne (ne this)]; exact this⟩
  · have hc : c ≠ a := fun q => by
      obtain ⟨v, hv⟩ := I.cell x c h
      subst q
      obtain ⟨o, h1, h2⟩ := (show ∃ o, s.heap.get? c = some o ∧ o.data = .cell v from by
        first
          | exact hv
          | (obtain ⟨o, h1, h2⟩ := hv; exact ⟨o, h1, h2⟩)
          | exact ⟨_, hv, rfl⟩)
      rw [e] at h1
      cases h1
      rw [hd] at h2
      cases h2
    rw [upd_ne hc]; exact I.freeC x c h
  · obtain ⟨h1, h2, h3, h4, h5⟩ := I.pin p hp
    exact ⟨h1, by rw [upd_ne (np p hp)]; exact h2, h3, h4, h5⟩
  · by_cases q : b = a
    · subst q
      rw [upd_same] at h
      cases h
      exact ⟨⟨oe, e, z, us, hd⟩, ⟨_, e⟩, fun h1 h2 ⟨o1, p1, p2⟩ kk => ⟨o1, kk _ p1, p2⟩⟩
    · rw [upd_ne q] at h
      exact (I.hok b o h).stay (fun c w hc y => y) (fun c hc => by rw [upd_ne (ne hc)]; exact hc) (fun c xs hc => by rw [upd_ne (ne hc)]; exact hc)
/-- a slot is wiped -/
theorem EOk.drop {i : Nat} (E : EOk K F H σ δ av fp) : EOk K F H (σ.set i none) (δ.set i .no) av (setN fp i []) where
  sub := E.sub
  len := by rw [List.length_set, List.length_set, E.len]
  at_ := fun j x t h1 h2 => by
    by_cases e : j = i
    · subst e
      have hl : j < δ.length := by
        have := (List.getElem?_eq_some_iff.mp h1).1
        rwa [List.length_set] at this
      rw [List.getElem?_set_self hl] at h1
      cases h1
      cases h2
    · rw [List.getElem?_set_ne (Ne.symm e)] at h1
      obtain ⟨u, h3, h4⟩ := E.at_ j x t h1 h2
      exact ⟨u, by rw [List.getElem?_set_ne (Ne.symm e)]; exact h3, by rw [setN_ne e]; exact h4⟩
  par := fun j t h1 => by
    by_cases e : j = i
    · subst e
      have hl : j < δ.length := by
        have := (List.getElem?_eq_some_iff.mp h1).1
        rwa [List.length_set] at this
      rw [List.getElem?_set_self hl] at h1
      cases h1
    · rw [List.getElem?_set_ne (Ne.symm e)] at h1 ⊢
      exact E.par j t h1
  nod := E.forget.nod
  dis := E.forget.dis
  out := E.forget.out

/-! ### except clauses -/
structure Cl where
  tb : List (String × Bool)
  slot : Option Nat
  body : Sx
@[simp] def bOf (c : String) : List (String × Bool) → Option Bool
  | [] => none
  | (c', b) :: r => if c' = c then some b else bOf c r
theorem bOf_mem {c : String} : ∀ {tb : List (String × Bool)} {b : Bool}, bOf c tb = some b → (c, b) ∈ tb
  | [], _, h => by cases h
  | (c', b') :: r, b, h => by
    simp only [bOf] at h
    by_cases e : c' = c
    · rw [if_pos e] at h
      cases h
      rw [e]
      exact List.mem_cons_self
    · rw [if_neg e] at h
      exact List.mem_cons_of_mem _ (bOf_mem h)
def runC : Option Nat → Sx → D → Sx
  | none, b, _ => fun δ => nox (b δ)
  | some i, b, d => fun δ => if i < δ.length then (nox (b (δ.set i (.loc (.d d))))).bind fun p => .ok (p.1, p.2.set i .no) else .stk
def pickC : List Cl → String → List String → List D → Sx
  | [], c, ns, xs => fun δ => .exc c ns xs δ
  | l :: r, c, ns, xs => fun δ => match bOf c l.tb with
    | some true => runC l.slot l.body (.err c ns xs) δ
    | some false => pickC r c ns xs δ
    | none => .stk
inductive ClOk (X : Cx) : List ExceptHandler → List Cl → Prop where
  | nil : ClOk X [] []
  | named {x n : Str} {c : Value} {i : Nat} {tb : List (String × Bool)} {b₀ : Stmt} {suite : List Stmt} {np pos' : Pos} {cs : Sx} {hds : List ExceptHandler} {l : List Cl} (hc : Names X x c) (hi : X.N[i]? = some n) (hl : X.env.kindOf n = some .local)
      (ht : ∀ q ∈ tb, PySem.W.exmOne X.K (.ref (He.ga X.K q.1)) c = some q.2) (hs : ∀ a pn, PSs (X.suite a pn) (b₀ :: suite) (wpS X.K W0 cs)) (r : ClOk X hds l) : ClOk X (.ExceptHandler (some (.Name x np)) (some n) (b₀ :: suite) pos' :: hds) (⟨tb, some i, cs⟩ :: l)
  | bare {x : Str} {c : Value} {tb : List (String × Bool)} {b₀ : Stmt} {suite : List Stmt} {np pos' : Pos} {cs : Sx} {hds : List ExceptHandler} {l : List Cl} (hc : Names X x c)
      (ht : ∀ q ∈ tb, PySem.W.exmOne X.K (.ref (He.ga X.K q.1)) c = some q.2) (hs : ∀ a pn, PSs (X.suite a pn) (b₀ :: suite) (wpS X.K W0 cs)) (r : ClOk X hds l) : ClOk X (.ExceptHandler (some (.Name x np)) none (b₀ :: suite) pos' :: hds) (⟨tb, none, cs⟩ :: l)
def sTry (b : Sx) (cs : List Cl) : Sx := fun δ => match b δ with
  | .exc c ns xs δ1 => pickC cs c ns xs δ1
  | r => r
/-- what a body's error must meet -/
def wCl (K : Fg) (W : WX) (av : Nat → V) (D : Ends) (cs : List Cl) : WX := fun cls d σ H => ∃ F δ fp c ns xs, EOk K F H σ δ av fp ∧ ExV K F H c ns xs cls d ∧ PSx K W F H av fp D (pickC cs c ns xs δ)
theorem suite_nx {D : Ends} {b : Sx} (h : PSx K W F H av fp D (nox (b δ))) (E : EOk K F H σ δ av fp) : wpS K W0 b D σ H := by
  refine ⟨F, δ, av, fp, E, ?_⟩
  revert h
  generalize b δ = r
  intro h
  match r, h with
  | .ok (.nx, δ'), h => exact h
  | .ok (.bk, δ'), h => exact h
  | .ok (.ct, δ'), h => exact h
  | .ok (.rt s, δ'), h => exact h
  | .exc c ns xs δ', h => exact h.elim
  | .stk, h => exact h.elim
theorem suite_as {D : Ends} {b : Sx} {i : Nat} (h : PSx K W F H av fp D ((nox (b δ)).bind fun p => .ok (p.1, p.2.set i .no))) (E : EOk K F H σ δ av fp) :
    wpS K W0 b { nx := fun σ' H' => D.nx (σ'.set i none) H', rt := D.rt, bk := fun σ' H' => D.bk (σ'.set i none) H', ct := fun σ' H' => D.ct (σ'.set i none) H' } σ H := by
  refine ⟨F, δ, av, fp, E, ?_⟩
  have ow : ∀ {fp' : Nat → List Addr} (b : Addr), Ow (setN fp' i []) b → Ow fp' b := fun {fp'} b hb => (ow_set hb).elim (fun z => by cases z) id
  revert h
  generalize b δ = r
  intro h
  match r, h with
  | .ok (.nx, δ'), h => exact fun σ' H' F' fp' E' m => h _ H' F' _ E'.drop (m.weak ow)
  | .ok (.bk, δ'), h => exact fun σ' H' F' fp' E' m => h _ H' F' _ E'.drop (m.weak ow)
  | .ok (.ct, δ'), h => exact fun σ' H' F' fp' E' m => h _ H' F' _ E'.drop (m.weak ow)
  | .ok (.rt s, δ'), h =>
    intro v σ' H' F' fp' f E' a n d m
    exact h v _ H' F' _ f E'.drop a n (fun b hb j hj => d b hb j (by
      by_cases e : j = i
      · subst e; rw [setN_eq] at hj; cases hj
      · rw [setN_ne e] at hj; exact hj)) (m.weak fun b hb => hb.elim .inl fun z => .inr (ow b z))
  | .exc c ns xs δ', h => exact h.elim
  | .stk, h => exact h.elim
theorem s_try {body : List Stmt} {h₀ : ExceptHandler} {hds : List ExceptHandler} {cs : List Cl} {cb : Sx} {pos : Pos} (hs : X.stack = X.env :: X.outer) (hf : X.env.frame = some X.env.locals) (hN : X.N.Nodup) (tk : Takes X W)
    (hb : ∀ (W : WX) (pn : List (Addr × Obj)) (xe : Value → Shared → Prop), Takes (X.tr pn xe) W → PassesOwn (model X.prog X.w) X.A X.env xe → PSs (X.tr pn xe) body (wpS X.K W cb))
    (hex : X.ex = []) (hh : ClOk X (h₀ :: hds) cs) : PS X (.Try body (h₀ :: hds) [] [] pos) (wpS X.K W (sTry cb cs)) := by
  refine ⟨fun pins s σ H D I ⟨F, δ, av, fp, E, h⟩ => ?_⟩
  have ok := I.ok
  have hfr : X.A.frames = some (X.env :: X.outer) := by rw [ok.frames, hs]
  refine wpAny_Try_except ?_
  have hbody : wpS X.K (wCl X.K W av D cs) cb D σ H := by
    refine ⟨F, δ, av, fp, E, ?_⟩
    simp only [sTry] at h
    revert h
    generalize cb δ = r
    intro h
    match r, h with
    | .ok (.nx, δ'), h => exact h
    | .ok (.bk, δ'), h => exact h
    | .ok (.ct, δ'), h => exact h
    | .ok (.rt s, δ'), h => exact h
    | .exc c ns xs δ', h => exact fun σ' H' F' fp' cls d E' v mm => ⟨F', δ', fp', c, ns, xs, E', v, PSx.frame h mm⟩
    | .stk, h => exact h.elim
  refine wpAny_mono ((hb (wCl X.K W av D cs) (X.pn ++ pins) (fun e s₁ => wpAny (model X.prog X.w) X.A (noteFrame e X.env) (fun _ s₂ => wpAny (model X.prog X.w) X.A (setFlight e none) (fun _ s₃ =>
    wpAny (model X.prog X.w) X.A (handleBy e X.env (h₀ :: hds)) (SP X pins D) X.xe s₃) X.xe s₂) X.xe s₁) (fun u s' xx => ?_) PassesOwn.looking).run [] s σ H D (I.toTry _) hbody) (fun f s1 hsp => ?_) (fun e s1 he => he)
  · obtain ⟨a, B, sI, pins', σ', H', cls, d, rfl, J', nb, up, sky, na, os, ag, w⟩ := xx
    obtain ⟨F1, δ1, fp1, c, ns, xs, E1, ev, q⟩ := w
    have J : Inv X pins σ' H' sI := J'.ofTry ok
    have sky' : Sky B (X.env :: X.outer) a (Zc cls d) X.env.locals s'.heap := by rw [← hs]; exact sky
    show wpAny (model X.prog X.w) X.A (noteFrame (.ref a) X.env) _ _ _
    refine Sky.land Zc.steady hfr hf sky' fun h3 fl3 up3 => ?_
    have J3 : Inv X pins σ' H' { s' with heap := h3 } := J.landed nb fl3.1 (up.trans up3) os ag
    obtain ⟨oe3, vs3, he3, hz3, hd3⟩ := fl3.there
    have notFr : ∀ {h : Heap} {o : Obj} {vs : Array Value}, h.FunFrames B (X.env :: X.outer) → h.get? a = some o → o.data = .fields vs → a ∉ frs (X.env :: X.outer) := fun {h o vs} ff e dd hm => by
      obtain ⟨_, o', e', hnf⟩ := ff.mem hm
      rw [e] at e'; cases e'
      exact hnf _ dd
    have nfr := notFr fl3.2.2.1 he3 hd3
    have nL : a ≠ X.env.locals := fun z => nfr (List.mem_filterMap.mpr ⟨X.env, List.mem_cons_self, by rw [hf, z]⟩)
    have nB : B.get? a = none := fl3.2.1
    have nI : sI.heap.get? a = none := by
      cases e : sI.heap.get? a with
      | none => rfl
      | some o => rw [nb a o e (by rw [hs]; exact nfr)] at nB; cases nB
    have n0 : X.s_0.heap.get? a = none := by
      cases e : X.s_0.heap.get? a with
      | none => rfl
      | some o =>
        obtain ⟨o', e'⟩ := J.base.there a o e (by rw [hex]; simp)
        rw [nI] at e'; cases e'
    have np : ∀ p ∈ X.pn ++ pins, p.1 ≠ a := fun p hp z => by
      have := (J.pin p hp).1
      rw [z, nI] at this; cases this
    have S3 := Inv.hot J3 a
    have go : ∀ {hds' : List ExceptHandler} {l' : List Cl}, ClOk X hds' l' → PSx X.K W F1 H' av fp1 D (pickC l' c ns xs δ1) →
        wpAny (model X.prog X.w) X.A (handleBy (.ref a) X.env hds') (SP X pins D) X.xe { s' with heap := h3 } := by
      intro hds' l' hk
      have LT : PySem.W.Looks (model X.prog X.w) h3 (typeOf (.ref a)) cls := fun A Q E s k q => wpAny_typeOf_ref (k _ _ he3) (by rw [hz3.1]; exact q)
      have test : ∀ {x : Str} {cv : Value} {np : Pos} {Q : Value → Shared → Prop} {E : Value → Shared → Prop}, Names X x cv → Q cv { s' with heap := h3 } → wpAny (model X.prog X.w) (X.A.mark (some (.ref a))) (eval (.Name x np) X.env) Q E { s' with heap := h3 } := fun {x cv np Q E} hc q => by
        obtain ⟨hg, hdbg, hm | ⟨hm, hv, hnn⟩⟩ := hc
        · exact ld_glob (X := X.suite a (X.pn ++ pins)) S3 hg hm q hdbg
        · exact ld_blt (X := X.suite a (X.pn ++ pins)) S3 hg hm hv q hnn hdbg
      -- the state in a suite
      have inn : ∀ {h4 : Heap} {s4 : Shared}, s4.heap = h4 → Inv X pins σ' H' s4 → (∃ oe vs, h4.get? a = some oe ∧ Zc cls d oe ∧ oe.data = .fields vs) →
          ∃ F2 H2, Inv (X.suite a (X.pn ++ pins)) [] σ' H2 s4 ∧ EOk X.K F2 H2 σ' δ1 av fp1 ∧ Fm F1 H' (Ow fp1) F2 H2 (Ow fp1) ∧ Rp X.K F2 (.ref a) (.err c ns xs) := fun {h4 s4} es J4 ⟨oe4, vs4, he4, hz4, hd4⟩ => by
        subst es
        obtain ⟨ecls, us, ef, el, er⟩ := ev
        subst ecls
        have E2 := E1.newF (o := eob a (He.ga X.K c) d) na
        have m2 : Fm F1 H' (Ow fp1) (upd F1 a (eob a (He.ga X.K c) d)) (upd H' a (eob a (He.ga X.K c) d)) (Ow fp1) := Fm.lay na (E1.freeF na)
        refine ⟨_, _, Inv.hot (Inv.held J4 na n0 he4 hz4 hd4 nL np) a, E2, m2, ?_⟩
        simp only [Rp]
        exact ⟨a, d, us, rfl, upd_same, ef.mono m2.same, el, RpL.mono m2.same _ _ er⟩
      induction hk with
      | nil =>
        intro q
        refine wpAny_handleBy_nil ?_
        obtain ⟨k1, k2, k3, oe, vs, T, oT, ts', he, hz, hd, h1, hr⟩ := id fl3
        unfold PySem.passOn
        refine wpAny_bind (wpAny_field he hd h1 ?_)
        rw [if_neg (show ¬ ((Value.ref T == Value.none) = true) from by simp)]
        have fin : wpAny (model X.prog X.w) X.A (setFlight (.ref a) X.env.frame) (fun _ s4 => wpAny (model X.prog X.w) X.A (throw (.ref a) : Sem Flow) (SP X pins D) X.xe s4) X.xe { s' with heap := h3 } := by
          rw [hf]
          refine HandSPX.setFlight_upZ fl3 fun h4 hh4 up4 => wpAny_throw (tk _ _ ?_)
          exact ⟨a, B, sI, pins, σ', H', cls, d, rfl, J, nb, (up.trans up3).trans up4, .inr (.inr (by rw [hs]; exact hh4)), na, os, ag, q σ' H' F1 fp1 cls d E1 ev (Fm.refl fun _ z => z)⟩
        first
          | exact wpAny_bind (wpAny_pure (wpAny_bind fin))
          | exact wpAny_bind fin
      | @named x n cv i tb b₀ suite np' pos' cs2 hds2 l2 hc hi hl ht hsu r ih =>
        intro q
        simp only [pickC] at q
        cases hB : bOf c tb with
        | none => rw [hB] at q; exact q.elim
        | some bb =>
          rw [hB] at q
          have hb1 := ht _ (bOf_mem hB)
          rw [← ev.1] at hb1
          have LM := PySem.W.exm_one (M := model X.prog X.w) (J3.kIn) LT hb1
          refine wpAny_handleBy_cons (codeAny_handlers_test ?_) (by intro q; cases q)
          refine test hc (LM.here ?_)
          cases bb with
          | true =>
            simp only [runC] at q
            by_cases hi2 : i < δ1.length
            · rw [if_pos hi2] at q
              refine codeAny_handlers_suite_as ?_
              refine HandSPX.lands_againZ fl3 fun h4 fl4 up4 => ?_
              have J4 : Inv X pins σ' H' { s' with heap := h4 } := J.landed nb fl4.1 ((up.trans up3).trans up4) os ag
              obtain ⟨F2, H2, S4, E2, m2, r2⟩ := inn rfl J4 (let ⟨oe4, vs4, he4, hz4, hd4⟩ := fl4.there; ⟨oe4, vs4, he4, hz4, hd4⟩)
              refine store_ok (X := X.suite a (X.pn ++ pins)) (v := .ref a) S4 hN hi (.inl hl) rfl (fun s5 S5 => ?_) (.inr hl)
              have E3 := E2.set hi2 (At.of r2) List.nodup_nil (fun a ha => by cases ha)
              have m3 : Fm F1 H' (Ow fp1) F2 H2 (Ow (setN fp1 i [])) := m2.weak fun b hb => (ow_set hb).elim (fun z => by cases z) id
              refine wpAny_mono ((hsu a (X.pn ++ pins)).run [] s5 _ H2 _ S5 (suite_as (PSx.frame q m3) E3)) (fun f s6 hsp => ?_) (fun _ _ z => False.elim z)
              have end_ : ∀ {σ6 : St} {H6 : Hp} {Q : Shared → Prop}, Inv (X.suite a (X.pn ++ pins)) [] σ6 H6 s6 → (∀ s7, Inv X pins (σ6.set i none) H6 s7 → Q s7) →
                  wpAny (model X.prog X.w) X.A (do bindName X.env n .none; unbindBehindTheSuite X.env n pos') (fun _ s7 => Q s7) X.xe s6 := fun {σ6 H6 Q} S6 hq => gone_ok (Inv.unhot S6 ok) hN hi hl hq
              cases f with
              | next =>
                obtain ⟨σ6, H6, S6, q6⟩ := hsp
                exact end_ S6 fun s7 J7 => ⟨_, _, J7, q6⟩
              | brk =>
                obtain ⟨σ6, H6, S6, q6⟩ := hsp
                exact end_ S6 fun s7 J7 => ⟨_, _, J7, q6⟩
              | cont =>
                obtain ⟨σ6, H6, S6, q6⟩ := hsp
                exact end_ S6 fun s7 J7 => ⟨_, _, J7, q6⟩
              | ret u =>
                obtain ⟨v6, σ6, H6, S6, r6, q6⟩ := hsp
                exact end_ S6 fun s7 J7 => ⟨_, _, _, J7, r6, q6⟩
            · rw [if_neg hi2] at q; exact q.elim
          | false =>
            show wpAny _ X.A (handleBy (.ref a) X.env hds2) _ _ _
            exact ih q
      | @bare x cv tb b₀ suite np' pos' cs2 hds2 l2 hc ht hsu r ih =>
        intro q
        simp only [pickC] at q
        cases hB : bOf c tb with
        | none => rw [hB] at q; exact q.elim
        | some bb =>
          rw [hB] at q
          have hb1 := ht _ (bOf_mem hB)
          rw [← ev.1] at hb1
          have LM := PySem.W.exm_one (M := model X.prog X.w) (J3.kIn) LT hb1
          refine wpAny_handleBy_cons (codeAny_handlers_test ?_) (by intro q; cases q)
          refine test hc (LM.here ?_)
          cases bb with
          | true =>
            simp only [runC] at q
            refine codeAny_handlers_suite ?_
            refine HandSPX.lands_againZ fl3 fun h4 fl4 up4 => ?_
            have J4 : Inv X pins σ' H' { s' with heap := h4 } := J.landed nb fl4.1 ((up.trans up3).trans up4) os ag
            obtain ⟨F2, H2, S4, E2, m2, r2⟩ := inn rfl J4 (let ⟨oe4, vs4, he4, hz4, hd4⟩ := fl4.there; ⟨oe4, vs4, he4, hz4, hd4⟩)
            refine wpAny_mono ((hsu a (X.pn ++ pins)).run [] _ _ H2 _ S4 (suite_nx (PSx.frame q m2) E2)) (fun f s6 hsp => ?_) (fun _ _ z => False.elim z)
            cases f with
            | next =>
              obtain ⟨σ6, H6, S6, q6⟩ := hsp
              exact ⟨_, _, Inv.unhot S6 ok, q6⟩
            | brk =>
              obtain ⟨σ6, H6, S6, q6⟩ := hsp
              exact ⟨_, _, Inv.unhot S6 ok, q6⟩
            | cont =>
              obtain ⟨σ6, H6, S6, q6⟩ := hsp
              exact ⟨_, _, Inv.unhot S6 ok, q6⟩
            | ret u =>
              obtain ⟨v6, σ6, H6, S6, r6, q6⟩ := hsp
              exact ⟨_, _, _, Inv.unhot S6 ok, r6, q6⟩
          | false =>
            show wpAny _ X.A (handleBy (.ref a) X.env hds2) _ _ _
            exact ih q
    exact go hh q
  · cases f with
    | next =>
      obtain ⟨σ', H', J', q⟩ := hsp
      exact wpAny_execs_nil ⟨σ', H', J'.ofTry ok, q⟩
    | brk =>
      obtain ⟨σ', H', J', q⟩ := hsp
      exact ⟨σ', H', J'.ofTry ok, q⟩
    | cont =>
      obtain ⟨σ', H', J', q⟩ := hsp
      exact ⟨σ', H', J'.ofTry ok, q⟩
    | ret u =>
      obtain ⟨v, σ', H', J', r, q⟩ := hsp
      exact ⟨v, σ', H', J'.ofTry ok, r, q⟩

/-! ### raise -/
def sRaise (c : String) (ns : List String) (a : Ax) : Sx := fun δ => (a δ).bind fun p => if ns.length = p.1.length then .exc c ns p.1.reverse p.2 else .stk
abbrev veMro : List Value := [.type "ValueError", .type "Exception", .type "BaseException", .type "object"]
/-- an error's class, without own __init__ -/
structure ExG (K : Fg) (mg : Str → Option Value) (c : String) : Prop where
  gl : mg (Str.ofString c) = some (.ref (He.ga K c))
  ex : PySem.W.excIn K (He.ga K c) veMro "ValueError.__new__" = true
  kp : PySem.W.keepIn K (.ref (He.ga K c)) = true
  sb : PySem.W.subIn K (.ref (He.ga K c)) (.type "BaseException") = some true
  ty : PySem.W.typeIn K (.ref (He.ga K c)) = some (.type "type")
theorem s_raise0 {c : String} {p pos pos' : Pos} (G : ExG X.K X.mg c) (hc : X.calm = true) (tk : Takes X W) (hg : Gl X (Str.ofString c)) (hdb : (Str.ofString c == ("__debug__" : Str)) = false := by decide) :
    PS X (.Raise (some (.Call (.Name (Str.ofString c) p) [] [] pos)) none pos') (wpS X.K W (sRaise c [] aN)) := by
  have mk : PMk X (.Call (.Name (Str.ofString c) p) [] [] pos) (fun _ H Q => Q (.ref (He.ga X.K c)) none H) := by
    intro pins s σ H Q I h
    refine wpAny_Call_Name_kw (ld_glob I hg G.gl ?_ hdb)
    refine PySem.W.callWith_K0 I.kIn G.kp ?_
    show wpAny _ _ (call (.ref (He.ga X.K c)) []) _ _ _
    obtain ⟨bm, N, nm, qn, bs, hdct, sn, sub, ab, col, dd, k0, k1, k2, k3, k5, mN, hC, hN, hni, T⟩ := exc_obj I.kIn G.ex
    exact wpAny_call_exc_subT F.excBase_ValueError T hC hN hni (fun h' e hm => mk_of I hm (raises_own G.sb G.ty) h (I.hok.gone hm.new)) (Nat.zero_le _)
  refine PS.wk (ps_raise hc tk mk) fun D σ H ⟨F, δ, av, fp, E, h⟩ => ?_
  exact h σ H F fp _ none E ⟨rfl, [], .inl ⟨rfl, rfl⟩, rfl, RpL.nil⟩ (Fm.refl fun _ z => z)
/-- what an own __init__ does: each argument into its field -/
def spX (K : Fg) (C : Addr) (names : List String) : Sp := fun vs H Q E => ∃ a ws, vs = .ref a :: ws ∧ ws.length = names.length ∧ H a = some (exo a C none) ∧
  ∀ d H2, H d = none → d ≠ a → H2 a = some (exo a C (some d)) → H2 d = some (exd d ((names.map Str.ofString).zip ws).reverse) → (∀ b, b ≠ a → b ≠ d → H2 b = H b) → Q .non H2
structure ExI (P : Program) (w : World) (K : Fg) (mg : Str → Option Value) (base : Heap) (c : String) (k : Nat) (ns : List String) : Prop where
  gl : mg (Str.ofString c) = some (.ref (He.ga K c))
  ox : OexC K (He.ga K c)
  le : ns.length ≤ 900 ∧ ns ≠ []
  ex : ∃ (fI : Addr) (fd : FuncData) (ps : List Str), PySem.W.findIn K (.ref (He.ga K c)) "__init__" = some (some (.ref fI)) ∧ PySem.W.typeIn K (.ref fI) = some (.type "function") ∧ FnOk P w K mg base (L2.CX P w) k fI fd ps (spX K (He.ga K c) ns) ∧ Binds K fd ps []
theorem RpL.reverse {F : Hp} : ∀ {xs : List D} {vs : List V}, RpL K F vs xs → RpL K F vs.reverse xs.reverse
  | [], [], h => h
  | x :: xs, v :: vs, h => by
    simp only [RpL] at h
    rw [List.reverse_cons, List.reverse_cons]
    exact (RpL.reverse h.2).append (RpL.cons h.1 RpL.nil)
  | [], _ :: _, h => by simp only [RpL] at h
  | _ :: _, [], h => by simp only [RpL] at h
theorem zip_rev {α β : Type} : ∀ {xs : List α} {ys : List β}, xs.length = ys.length → (xs.zip ys).reverse = xs.reverse.zip ys.reverse
  | [], [], _ => rfl
  | x :: xs, y :: ys, h => by
    have h' : xs.length = ys.length := by simpa using h
    rw [List.zip_cons_cons, List.reverse_cons, List.reverse_cons, List.reverse_cons, zip_rev h', List.zip_append (by simpa using h')]
    rfl
  | [], _ :: _, h => by simp at h
  | _ :: _, [], h => by simp at h
theorem s_raise {c : String} {ns : List String} {e : Expr} {es : List Expr} {ca : Ax} {p pos pos' : Pos} (G : ExI X.prog X.w X.K X.mg X.base c k ns) (hc : X.calm = true) (hr : Room (k + 1) X.A) (tk : Takes X W) (hpx : Passes (L2.CX X.prog X.w) X (fun _ _ _ => False)) (hg : Gl X (Str.ofString c)) (ha : PA X (e :: es) (wpA X.K W ca))
    (hdb : (Str.ofString c == ("__debug__" : Str)) = false := by decide) (he : starEach (e :: es) X.env = (false, eval e X.env) :: starEach es X.env := by rfl) (hpl : (backTo pos (starEach es X.env)).any (·.1) = false := by rfl) :
    PS X (.Raise (some (.Call (.Name (Str.ofString c) p) (e :: es) [] pos)) none pos') (wpS X.K W (sRaise c ns.reverse ca)) := by
  obtain ⟨fI, fd, ps, h1, h2, h3, h4⟩ := G.ex
  refine PS.wk (ps_raise hc tk (pmk_oex (ds := []) (dvs := []) G.ox h1 h2 h3 hr h4 .nil hpx hg G.gl ha hdb he hpl)) fun D σ H ⟨F, δ, av, fp, E, h⟩ => ⟨F, δ, av, fp, E, Po.imp (PSx.bind h σ) fun xs δ' z vs H' F' fp' E' r' mm => ?_⟩
  have q := PSx.frame z.2 mm
  dsimp only at q
  by_cases cl : ns.reverse.length = xs.length
  · rw [if_pos cl] at q
    have hl : vs.length = ns.length := by rw [r'.length, ← cl, List.length_reverse]
    refine ⟨by have := G.le.1; omega, fun a ha => ⟨a, vs, by rw [List.append_nil], hl, upd_same, fun d H2 hd ne e1 e2 e3 => ?_⟩⟩
    have hd' : H' d = none := by rw [upd_ne ne] at hd; exact hd
    refine ⟨rfl, d, _, e1, e2, hd', ?_⟩
    have eH : upd (del H2 a) d (.xd ((ns.map Str.ofString).zip vs).reverse) = upd H' d (.xd ((ns.map Str.ofString).zip vs).reverse) := by
      funext b
      by_cases hb : b = d
      · rw [hb, upd_same, upd_same]
      · rw [upd_ne hb, upd_ne hb]
        by_cases hb2 : b = a
        · rw [hb2, del_same, ha]
        · rw [del_ne hb2, e3 b hb2 hb, upd_ne hb2]
    rw [eH]
    have m2 : Fm F' H' (Ow fp') (upd F' d (.xd ((ns.map Str.ofString).zip vs).reverse)) (upd H' d (.xd ((ns.map Str.ofString).zip vs).reverse)) (Ow fp') := Fm.lay hd' (E'.freeF hd')
    refine q σ _ _ fp' _ (some d) (E'.newF hd') ⟨rfl, vs.reverse, .inr ⟨d, rfl, ?_⟩, by rw [List.length_reverse, List.length_reverse, ← cl, List.length_reverse], (RpL.mono m2.same _ _ r').reverse⟩ m2
    rw [upd_same, zip_rev (by rw [List.length_map, hl]), List.map_reverse]
  · rw [if_neg cl] at q; exact q.elim
end
end Fx
/-! Fx17: defs called where an error is held; its fields; the __init__ of errors. -/
namespace Fx
open PySem PySem.Spec PyProof.Rows L2 L2H
/-- a def that may be called where an error is held -/
structure FnC (P : Program) (w : World) (K : Fg) (mg : Str → Option Value) (base : Heap) (k : Nat) (f : Addr) (fd : FuncData) (ps : List Str) (sp : Sp) : Prop where
  len : ∀ vs H Q E, sp vs H Q E → vs.length = ps.length
  run : ∀ (A : Around) (outer : List PySem.Env) (s : Shared) (H : Hp) (args : Args) (us : List Value) (vs : List V) (Q : VK) (E : XK), RoomH k A → Env0 P w K mg base A outer s H → BindsTo s fd args (ps.zip us) → Vals vs us → sp vs H Q E →
    codeAny (model P w) A (.call (.ref f) args) (CR (L2.CX P w) outer P w H s Q E) s
theorem FnC.ok {P : Program} {w : World} {K : Fg} {mg : Str → Option Value} {base : Heap} {k : Nat} {f : Addr} {fd : FuncData} {ps : List Str} {sp : Sp} (F : FnC P w K mg base k f fd ps sp) : FnOk P w K mg base (L2.CX P w) k f fd ps sp :=
  ⟨F.len, fun A outer s H args us vs Q E hr => F.run A outer s H args us vs Q E (roomH_of hr)⟩
/-- the context of its body -/
abbrev cxC (P : Program) (w : World) (K : Fg) (mg : Str → Option Value) (base : Heap) (N : List Str) (qual : Str) (scope : Scope) (f : Addr) (cd : Value) (A : Around) (outer : List PySem.Env) (s : Shared) (H : Hp) (E : XK) : Cx :=
  { cxOf (L2.CX P w) P w K mg base N qual scope f cd A outer s H E with calm := false }
theorem inv_startC {P : Program} {w : World} {K : Fg} {mg : Str → Option Value} {base : Heap} {N ps : List Str} {qual : Str} {scope : Scope} {f : Addr} {cd : Value} {A : Around} {outer : List PySem.Env} {s s1 : Shared} {H : Hp} {E : XK} {us : List Value} {vs : List V}
    (S : FnScope N ps scope) (e0 : Env0 P w K mg base A outer s H) (hl : vs.length = ps.length) (r : Vals vs us)
    (x : InCallC s s.heap.objs.size (bindL (envOfC qual scope s.heap.objs.size f cd).kindOf (ps.zip us) fun _ => none) (cellsFrom (s.heap.objs.size + 1) scope.names []) (bindC (envOfC qual scope s.heap.objs.size f cd).kindOf (ps.zip us) fun _ => none) s1) :
    Inv (cxC P w K mg base N qual scope f cd A outer s H E) [] (L2.start N vs) H s1 := by
  have hpl : ps.length ≤ N.length := by have := congrArg List.length S.pre; rw [List.length_take] at this; omega
  obtain ⟨h1, tk, rfl, hk⟩ := x.done
  have noA : ∀ b : Addr, b ∉ (cxC P w K mg base N qual scope f cd A outer s H E).ex := fun b z => absurd (show b ∈ ([] : List Addr) from z) (by simp)
  refine ⟨⟨e0.mod, S.kind, rfl, rfl, Nat.le_refl _, fun y z c h1 h2 => ?_, fun y hy => ?_, fun y c _ h => ?_, (fun z => Bool.noConfusion (show false = true from z)), Around.frames_deeper e0.frames, .inr ⟨rfl, rfl⟩, fun b z => absurd z (noA b), e0.bs, e0.bsz, fun b _ _ => noA b, fun b z => absurd z (noA b), e0.funs, e0.frf⟩,
    rfl, e0.bare, Un.kept hk, ⟨_, x.toInCall.ns, fun i y v h1 h2 h3 => ?_⟩, fun y c h => ⟨_, x.cell y c h⟩, e0.hok.fresh (Nat.le_refl _), fun y c h => ?_, fun p hp => absurd (show p ∈ ([] : List (Addr × Obj)) from hp) (by simp), e0.hok.kept hk, ?_⟩
  · exact name_of_addr x.apart (PySem.mem_of_lookup h1) (PySem.mem_of_lookup h2)
  · have hy : scope.names.lookup y = some .cell ∨ scope.names.lookup y = some .free := hy
    rcases hy with hy | hy
    · exact cell_has hy
    · exact absurd rfl (S.nofree _ (PySem.mem_of_lookup hy))
  · exact Nat.le_of_lt (x.above y c (PySem.mem_of_lookup h))
  · have hi : i < vs.length := by
      unfold L2.start at h2
      by_cases hi : i < vs.length
      · exact hi
      · rw [List.getElem?_append_right (by simpa using hi)] at h2
        rw [List.getElem?_replicate] at h2
        split at h2 <;> cases h2
    have ha : vs[i]? = some v := by
      unfold L2.start at h2
      rw [List.getElem?_append_left (by simpa using hi), List.getElem?_map] at h2
      cases e : vs[i]? with
      | none => rw [e] at h2; cases h2
      | some a => rw [e] at h2; cases h2; rfl
    obtain ⟨u, hu, rv⟩ := r.get ha
    have hp : ps[i]? = some y := by
      rw [← S.pre, List.getElem?_take_of_lt (by omega)]; exact h1
    have ndP : ps.Nodup := by rw [← S.pre]; exact S.nd.sublist (List.take_sublist _ _)
    refine ⟨u, rv, ?_⟩
    rcases S.par y (List.mem_of_getElem? hp) with k | k
    · exact .inl ⟨k, bindL_get ndP hp hu k⟩
    · obtain ⟨c, e⟩ := cell_has (n := s.heap.objs.size + 1) k
      refine .inr ⟨.inl k, c, e, ?_⟩
      have q := x.cell y c e
      rw [bindC_get ndP hp hu (by show scope.names.lookup y ≠ _; rw [k]; decide)] at q
      exact q
  · exact e0.hok.fresh (Nat.le_of_lt (x.above y c (PySem.mem_of_lookup h)))
  · unfold L2.start
    show _ = N.length
    rw [List.length_append, List.length_map, List.length_replicate]
    omega
theorem fn_okC {P : Program} {w : World} {K : Fg} {mg : Str → Option Value} {base : Heap} {x qual : Str} {params : Arguments} {dvs : List V} {kws : List (Str × V)} {f : Addr} {fd : FuncData} {N ps : List Str} {k : Nat} {st : List Stmt} {scope : Scope} {body : Sx}
    (G : FunD K x qual params st scope dvs kws f fd) (S : FnScope N ps scope)
    (hbody : ∀ (cdv : Value) (A : Around) (outer : List PySem.Env) (s : Shared) (H : Hp) (E : XK), RoomH k (A.deeper (envOfC qual scope s.heap.objs.size f cdv)) →
      PSs (cxC P w K mg base N qual scope f cdv A outer s H E) st (wpS K (fun cls d _ H => E cls d H) body)) :
    FnC P w K mg base (k + 1) f fd ps (spF K (mkFn ps.length N.length body)) := by
  obtain ⟨oc, od, dV, kV, doc, pm, an, cdv, ct, osl, rfl, lk, hcd, _, _⟩ := G.ex
  refine ⟨spF_len, fun A outer s H args us vs Q E hr e0 hb r hsp => ?_⟩
  have hl := spF_len _ _ _ _ hsp
  have KX : K.In s.heap := e0.mod.kin.keeps fun b o e => (e0.bs b o e).1
  have lim : s.heap.NoLimit := e0.mod.nolimit.keeps fun b o e => (e0.bs b o e).1
  have hkind : ∀ y ∈ ps.zip us, scope.names.lookup y.1 = some .local ∨ (scope.names.lookup y.1 = some .cell ∧ ((cellsFrom (s.heap.objs.size + 1) scope.names []).lookup y.1).isSome = true) := fun ⟨n, v⟩ hy => by
    rcases S.par n (List.of_mem_zip hy).1 with q | q
    · exact .inl q
    · exact .inr ⟨q, PySem.W.cellsFrom_some _ _ _ (.inl q)⟩
  refine codeAny_call_function hr.depth (KX _ _ lk) rfl S.co S.gen rfl (PySem.W.codeRec_of KX hcd) (hb _ _ _ _ ?_)
  refine wpAny_newFunctionEnv_cells S.kind hkind fun env he s1 x => ?_
  subst he
  refine ⟨lim.keeps x.toInCall.keep, codeAny_func ?_⟩
  have I : Inv (cxC P w K mg base N qual scope f cdv A outer s H E) [] (L2.start N vs) H s1 := inv_startC S e0 hl r x
  refine wpAny_mono ((hbody cdv A outer s H E (hr.deeper _)).run [] s1 (L2.start N vs) H _ I (fn_enter hsp)) (fun fl s' hs => ?_) fun e s' hs => hs
  have fin : ∀ {σ' : St} {H' : Hp} {v : V} {u : Value}, Inv (cxC P w K mg base N qual scope f cdv A outer s H E) [] σ' H' s' → RelV v u → Q v H' → CE outer P w H s Q u s' :=
    fun {σ' H' v u} J rv q => ⟨v, H', J.os, J.bare, J.base, J.hok, rv, q⟩
  cases fl with
  | ret u =>
    obtain ⟨v, σ', H', J, rv, q⟩ := hs
    exact fin J rv q
  | next =>
    obtain ⟨σ', H', J, q⟩ := hs
    exact fin (v := V.non) (u := Value.none) J rfl q
  | brk =>
    obtain ⟨_, _, _, q⟩ := hs
    exact False.elim q
  | cont =>
    obtain ⟨_, _, _, q⟩ := hs
    exact False.elim q
structure FnGC (P : Program) (w : World) (K : Fg) (mg : Str → Option Value) (base : Heap) (x : Str) (k : Nat) (m : Fn) (dfl : List D) : Prop where
  ex : ∃ (f : Addr) (fd : FuncData) (ps : List Str) (dvs : List V) (ds : List Value), FnC P w K mg base k f fd ps (spF K m) ∧ mg x = some (.ref f) ∧ PySem.W.keepIn K (.ref f) = true ∧ Binds K fd ps ds ∧ Vals dvs ds ∧ ∀ F, RpL K F dvs dfl
theorem FnGC.ok {P : Program} {w : World} {K : Fg} {mg : Str → Option Value} {base : Heap} {x : Str} {k : Nat} {m : Fn} {dfl : List D} (G : FnGC P w K mg base x k m dfl) : FnG P w K mg base x k m dfl := by
  obtain ⟨f, fd, ps, dvs, ds, h, r⟩ := G.ex
  exact ⟨⟨f, fd, ps, dvs, ds, h.ok, r⟩⟩
section
variable {X : Cx} {K : Fg} {W : WX} {F H F' H' F1 H1 : Hp} {σ σ' : St} {δ δ' δ1 : En} {av : Nat → V} {fp fp' fp1 : Nat → List Addr} {k : Nat} {m : Fn} {dfl : List D} {x : Str} {p pos apos : Pos} {e o : Expr} {es : List Expr} {ca : Ax} {ce co : Ex}
theorem e_callC (G : FnGC X.prog X.w X.K X.mg X.base x k m dfl) (hr : RoomH k X.A) (tk : Takes X W) (hg : Gl X x)
    (ha : PA X (e :: es) (wpA X.K W ca)) (hdb : (x == ("__debug__" : Str)) = false := by decide) (he : starEach (e :: es) X.env = (false, eval e X.env) :: starEach es X.env := by rfl) (hpl : (backTo pos (starEach es X.env)).any (·.1) = false := by rfl) :
    PE X (.Call (.Name x p) (e :: es) [] pos) (wpE X.K W (cCall m dfl ca)) := by
  obtain ⟨f, fd, ps, dvs, ds, Fo, hm, hk, hb, hd, hrd⟩ := G.ex
  refine ⟨fun pins s σ H Q I ⟨F, δ, av, fp, E, h⟩ => ?_⟩
  refine wpAny_Call_Name_kw (ld_glob I hg hm ?_ hdb)
  refine PySem.W.callWith_K (h₀ := X.base) I.ok.mod.kin hk (thn (ha.run pos pins s σ H _ I ⟨F, δ, av, fp, E, goA h⟩) fun us s1 ⟨vs, H1, I1, r, F1, δ1, fp1, xs, E1, r1, m1, q⟩ => ⟨I1.kIn, ?_⟩) he hpl
  have sp : spF X.K m (vs ++ dvs) H1 Q (WE W σ) := call_sp q E1 (r1.append (hrd F1))
  have r2 : Vals (vs ++ dvs) (us ++ ds) := r.append hd
  have hl : (us ++ ds).length = ps.length := by rw [← r2.length]; exact Fo.len _ _ _ _ sp
  refine wpAny_call (codeAny_mono (Fo.run X.A X.stack s1 H1 ⟨us, []⟩ (us ++ ds) (vs ++ dvs) Q (WE W σ) hr I1.env0 (hb s1 us I1.kIn hl) r2 sp) fun r s' hq => ?_)
  cases r with
  | error e => exact passAt tk σ pins H1 s1 e s' I1 hq
  | ok fl =>
    cases fl with
    | ret u => exact I1.after hq
    | next => exact False.elim hq
    | brk => exact False.elim hq
    | cont => exact False.elim hq
/-- the field of an error -/
@[simp] def mXf (n : String) (tb : List String) : P1
  | .err c ns xs => if c ∈ tb then (match fieldAt n ns xs with
    | some y => okS y
    | none => .stk) else .stk
  | _ => .stk
structure XfG (K : Fg) (c : String) (n : String) : Prop where
  x : XfC K (He.ga K c)
  no : PySem.W.findIn K (.ref (He.ga K c)) (Str.ofString n) = some none
theorem e_xf {n : String} {tb : List String} (ht : ∀ c ∈ tb, XfG X.K c n) (he : PE X e (wpE X.K W ce)) (hb : attributeBase e (Str.ofString n) X.env (eval e X.env) = eval e X.env := by rfl) : PE X (.Attribute e (Str.ofString n) pos) (wpE X.K W (c1 (mXf n tb) ce)) := by
  refine ⟨fun pins s σ H Q I ⟨F, δ, av, fp, E, h⟩ => ?_⟩
  refine attr_of hb (thn (go1 he I E h) fun u s1 ⟨x, H1, I1, rx, F1, fp1, t, δ1, E1, q1, m1, h1⟩ => ?_)
  unfold mXf at h1
  split at h1
  · rename_i c ns xs et
    rw [et] at q1
    split at h1
    · rename_i hc
      split at h1
      · rename_i y ey
        have T := ht c hc
        simp only [Rp] at q1
        obtain ⟨a, d, vs, rfl, h2, h3, h4, h5⟩ := q1
        obtain rfl : u = Value.ref a := rx
        rcases h3 with ⟨z, _⟩ | ⟨dd, rfl, h3⟩
        · subst z; simp at ey
        obtain ⟨v, hl, hv⟩ := lookup_field h5 ey
        obtain ⟨oe, g1, g2, us, g3⟩ := eob_at I1.hok (E1.sub _ _ h2)
        have hx : ObjOk X.prog X.w H1 s1.heap dd (.xd ((ns.map Str.ofString).zip vs)) := I1.hok dd _ (E1.sub _ _ h3)
        obtain ⟨mA, hns, hr⟩ := hx
        obtain ⟨od, ho, hlk⟩ := lookIn_ns hns
        obtain ⟨u', hu, ru⟩ := RelO.some_of (v := v) (o := mA (Str.ofString n)) (by rw [← hl]; exact hr _)
        have J : PySem.W.InstAt s1.heap a oe (He.ga X.K c) (some od) := ⟨g1, g2.1, by unfold PySem.W.notCls; rw [g3] <;> rfl, by rw [g2.2]; exact ho⟩
        exact HandSPX.exc_get I1.kIn J T.x.ga T.x.gg T.x.exC (PySem.W.findObj_own T.x.hdC T.no rfl (by rw [hlk, hu])) (handed_of ru) ⟨v, H1, I1.tok _, ru, QE.here h1 E1 hv⟩
      · exact h1.elim
    · exact h1.elim
  · exact h1.elim
theorem passF : Passes (L2.CX X.prog X.w) X (fun _ _ _ => False) := fun _ _ _ _ _ _ _ ⟨_, _, _, _, _, _, _, _, _, _, _, _, z⟩ => z.elim
theorem takes0 {a : Addr} {pn : List (Addr × Obj)} : Takes (X.suite a pn) W0 := takes_none5
theorem roomS {a : Addr} {pn : List (Addr × Obj)} (h : Room k X.A) : RoomH k (X.suite a pn).A := ⟨h.dp, h.un⟩
end
section
variable {P : Program} {w : World} {K : Fg} {mg : Str → Option Value} {base : Heap} {x qual : Str} {params : Arguments} {f : Addr} {fd : FuncData} {N ps : List Str} {k : Nat} {st : List Stmt} {scope : Scope} {C : Addr}
/-- def __init__(self, x): self.f = x -/
theorem xi1 {n1 : String} (G : FunD K x qual params st scope [] [] f fd) (S : FnScope N ps scope) (hp : ps.length = 2) (T : OexC K C) (h1 : PySem.W.findIn K (.ref C) (Str.ofString n1) = some none)
    (hb : ∀ (cdv : Value) (A : Around) (outer : List PySem.Env) (s : Shared) (H : Hp) (E : XK), Room k (A.deeper (envOfC qual scope s.heap.objs.size f cdv)) →
      PSs (cxOf (L2.CX P w) P w K mg base N qual scope f cdv A outer s H E) st (tOst K (Str.ofString n1) (tVar 0) (tVar 1))) : FnOk P w K mg base (L2.CX P w) (k + 1) f fd ps (spX K C [n1]) := by
  refine G.ok S (fun vs H Q E ⟨a, ws, e, l, _⟩ => by rw [e, hp]; simp [l]) (fun cdv A outer s H vs Q E hr hsp => ⟨_, hb cdv A outer s H E hr, ?_⟩)
  obtain ⟨a, ws, rfl, hl, ea, q⟩ := hsp
  match ws, hl with
  | [y], _ =>
    refine ⟨y, by simp [L2.start], .ref a, by simp [L2.start], a, C, rfl, T, h1, .inl ⟨ea, fun dx hd ne => q dx _ hd ne upd_same ?_ fun b hb hb2 => ?_⟩⟩
    · rw [upd_ne ne, upd_same]; rfl
    · rw [upd_ne hb, upd_ne hb2]
theorem xi2 {n1 n2 : String} (G : FunD K x qual params st scope [] [] f fd) (S : FnScope N ps scope) (hp : ps.length = 3) (T : OexC K C) (h1 : PySem.W.findIn K (.ref C) (Str.ofString n1) = some none) (h2 : PySem.W.findIn K (.ref C) (Str.ofString n2) = some none)
    (hb : ∀ (cdv : Value) (A : Around) (outer : List PySem.Env) (s : Shared) (H : Hp) (E : XK), Room k (A.deeper (envOfC qual scope s.heap.objs.size f cdv)) →
      PSs (cxOf (L2.CX P w) P w K mg base N qual scope f cdv A outer s H E) st (fun D σ H => tOst K (Str.ofString n1) (tVar 0) (tVar 1) { D with nx := fun σ H => tOst K (Str.ofString n2) (tVar 0) (tVar 2) D σ H } σ H)) : FnOk P w K mg base (L2.CX P w) (k + 1) f fd ps (spX K C [n1, n2]) := by
  refine G.ok S (fun vs H Q E ⟨a, ws, e, l, _⟩ => by rw [e, hp]; simp [l]) (fun cdv A outer s H vs Q E hr hsp => ⟨_, hb cdv A outer s H E hr, ?_⟩)
  obtain ⟨a, ws, rfl, hl, ea, q⟩ := hsp
  match ws, hl with
  | [y, y2], _ =>
    refine ⟨y, by simp [L2.start], .ref a, by simp [L2.start], a, C, rfl, T, h1, .inl ⟨ea, fun dx hd ne => ?_⟩⟩
    refine ⟨y2, by simp [L2.start], .ref a, by simp [L2.start], a, C, rfl, T, h2, .inr ⟨dx, _, upd_same, by rw [upd_ne ne, upd_same], by simp, ?_⟩⟩
    refine q dx _ hd ne (by rw [upd_ne (Ne.symm ne), upd_same]) (by rw [upd_same]; rfl) fun b hb hb2 => ?_
    rw [upd_ne hb2, upd_ne hb, upd_ne hb2]
end
end Fx
/-! Fx18: an int != an instance; a text times an int. -/
namespace Fx
open PySem PySem.Spec PyProof.Rows L2
section
variable {prog : Program} {w : World} {A : Around} {E : Value → Shared → Prop} {s : Shared} {K : PySem.W.Frag} {x C dx f f0 : Addr} {od : Option Obj}
theorem try_ne {b : Value} {Q : Value → Shared → Prop} (hu : A.units + 1 < cLine) (X : K.In s.heap) (I : PySem.W.InstAt s.heap x (PySem.W.instObj C dx) C od)
    (hs : PySem.W.findIn K (.ref C) "__ne__" = some (some (.builtin "object.__ne__"))) (hm : PySem.W.mroIn K C (.type "object") = some true)
    (he : PySem.W.findIn K (.ref C) "__eq__" = some (some (.ref f))) (hf : PySem.W.isFn K (.ref f) = true)
    (h : wpAny (model prog w) A.in1 (call (.ref f) [.ref x, b]) (fun v s' => ∃ c, v = .bool c ∧ Q (.bool (!c)) s') E s) : wpAny (model prog w) A (tryCompare (.ref x) "__ne__" b) (Got Q) E s := by
  have entry : ∀ {R : Fin → Shared → Prop}, (∀ c s', Q (.bool (!c)) s' → R (.done (.ret (.bool (!c)))) s') → wpAny (model prog w) A.in1 (Builtin.«object.__ne__» ⟨[.ref x, b], []⟩) R E s := fun {R} hR => by
    unfold Builtin.«object.__ne__»
    refine wpAny_bind (m := slotArgs _ _ _) (wpAny_pure ?_)
    dsimp only
    refine wpAny_bind (wpAny_cRoomFor (show A.in1.units < cLine from hu) ?_)
    refine wpAny_bind (PySem.W.ifBound_K X I he hf (wpAny_mono h (fun v s' hv => ?_) fun _ _ e => e))
    obtain ⟨c, rfl, hq⟩ := hv
    dsimp only
    refine wpAny_bind (wpAny_truthy_bool ?_)
    exact wpAny_pure (hR c s' hq)
  unfold tryCompare
  refine wpAny_bind (m := callSpecialIfBound? _ _ _) ?_
  simp only [callSpecialIfBound?, bindSpecialIfBound?]
  refine wpAny_holding (wpAny_bind (wpAny_bind (wpAny_bind (I.type.here ((PySem.W.looks_findIn X hs).here ?_)))))
  refine wpAny_bind (wpAny_askSetting (wpAny_ite ?_))
  have fin : wpAny (model prog w) A (call (.builtin "object.__ne__") ([.ref x] ++ [b]) >>= fun v => pure (some v)) (fun r s' => wpAny (model prog w) A (match r with | some .notImplemented | none => pure none | some v => pure (some v)) (Got Q) E s') E s :=
    wpAny_bind (wpAny_call (codeAny_call_builtin F.cmp_object.ne.plain F.cmpEntry_ne (PySem.W.check_slot F.cmpKind_ne F.cmpSplit_ne (I.type.andThen (PySem.W.looks_mroIn X hm)) (F.cmpArgs_ne _ _) (entry fun c s' hq => wpAny_pure (wpAny_pure ⟨_, rfl, hq⟩)))))
  split
  · exact wpAny_bind (wpAny_of_eq (F.cmp_object.ne.bind _) (wpAny_pure (by exact fin)))
  · exact wpAny_tryCatch (wpAny_bind (wpAny_of_eq (F.cmp_object.ne.bind _) (wpAny_pure (by exact fin))))
theorem ne_refl {a : Int} {t : Tok} {Q : Value → Shared → Prop} (hu : A.units + 1 < cLine) (X : K.In s.heap) (I : PySem.W.InstAt s.heap x (PySem.W.instObj C dx) C od)
    (hs : PySem.W.findIn K (.ref C) "__ne__" = some (some (.builtin "object.__ne__"))) (hm : PySem.W.mroIn K C (.type "object") = some true)
    (he : PySem.W.findIn K (.ref C) "__eq__" = some (some (.ref f))) (hf : PySem.W.isFn K (.ref f) = true) (hsub : PySem.W.subIn K (.ref C) (.type "int") = some false)
    (h : wpAny (model prog w) A.in1 (call (.ref f) [.ref x, .int a t]) (fun v s' => ∃ c, v = .bool c ∧ Q (.bool (!c)) s') E s) : wpAny (model prog w) A (compareOp .NotEq (.int a t) (.ref x)) Q E s := by
  obtain ⟨⟨idl, slot, dec⟩, is⟩ := ic_ne
  rw [is]
  have one := try_ne (b := .int a t) hu X I hs hm he hf h
  have L5 : PySem.W.Looks (model prog w) s.heap (isSubtype (.ref C) (.type "int")) false := PySem.W.looks_subIn X hsub
  unfold richCompare
  simp only [(typeIs_int s a t).oneThing_none]
  refine wpAny_holding (wpAny_bind (wpAny_cRoomFor (Nat.lt_of_succ_lt hu) ?_))
  refine wpAny_bind (wpAny_typeOf (typeIs_int s a t) (wpAny_bind (I.type.here ?_)))
  have hne : (Value.type "int" != Value.ref C) = true := rfl
  simp only [hne, if_true]
  refine wpAny_bind (L5.here ?_)
  simp only [Bool.false_eq_true, if_false, Bool.not_false, if_true]
  refine wpAny_bind (m := tryCompare (.int a t) _ (.ref x)) (wpAny_tryCompare_declines (typeIs_int s a t) slot (dec prog w A E s a t x C dx _ I.at_ ⟨rfl, ?_⟩))
  refine wpAny_bind (m := tryCompare (.ref x) _ (.int a t)) (wpAny_mono one (fun r s' z => ?_) fun _ _ e => e)
  obtain ⟨v, rfl, hq⟩ := z
  exact wpAny_pure hq
end
section
variable {X : Cx} {K : Fg} {W : WX} {F H F' H' F1 H1 : Hp} {σ σ' : St} {δ δ' δ1 : En} {av : Nat → V} {fp fp' fp1 : Nat → List Addr} {k : Nat} {m : Fn}
def opNR (tb : List (String × Fn)) : P2 := fun x y => match opR tb x y with
  | .ok (.d (.bl b)) => okS (.bl (!b))
  | .exc c ns xs _ => .exc c ns xs ()
  | _ => .stk
theorem o_neR {tb : List (String × Fn)} (ht : MtT X "__eq__" k [] tb) (ho : ∀ q ∈ tb, OwnN X.K q.1) (ni : ∀ q ∈ tb, PySem.W.subIn X.K (.ref (He.ga X.K q.1)) (.type "int") = some false) (hr : Room (k + 1) X.A) (tk : Takes X W) : Op2 X W (compareOp .NotEq) (opNR tb) := by
  intro pins s σ H x y v u Q F δ av fp dx dy I rx ry E r1 r2 h
  have hu : X.A.units + 1 < cLine := by have := hr.units; omega
  unfold opNR at h
  replace h := neg_ok h
  unfold opR at h
  split at h
  · rename_i i c ns xs
    cases hm : mOf c tb with
    | none => simp only [hm] at h; exact h.elim
    | some m =>
      simp only [hm] at h
      have hmem := mOf_mem hm
      obtain ⟨a, d2, od, rfl, rfl, J⟩ := ins_look I ry r2 E.sub
      have r1' := r1
      simp only [Rp] at r1
      subst r1
      obtain ⟨t, rfl⟩ := rx
      obtain ⟨f, fd, ps, dvs, ds, Fo, hme, hb, hd, hrd⟩ := (ht _ hmem).ex
      refine ne_refl hu I.kIn J (ho _ hmem).ne (ho _ hmem).ob hme.at_ hme.fn (ni _ hmem) ?_
      refine wpAny_mono (run_at (us := [.ref a, .int i t]) (vs := [.ref a, .int i]) Fo hb hd hrd hr.in1 I.env0.in1 tk I (.cons rfl (.cons ⟨t, rfl⟩ .nil)) E (RpL.cons r2 (RpL.cons r1' RpL.nil)) (by rw [List.append_nil]; exact h)) (fun w s' z => ?_) fun _ _ e => e
      obtain ⟨z', H', I', rz, b, ez, qz⟩ := z
      subst ez
      exact ⟨b, rz, .bl (!b), H', I', rfl, qz⟩
  · exact h.elim
/-- a text times an int -/
def repS (x : Str) (n : Nat) : Str := ⟨(List.replicate n x.cps).foldl (· ++ ·) #[]⟩
theorem foldl_nil : ∀ n : Nat, (List.replicate n (#[] : Array Nat)).foldl (· ++ ·) #[] = #[]
  | 0 => rfl
  | n + 1 => by rw [List.replicate_succ, List.foldl_cons]; simpa using foldl_nil n
theorem foldl_size (x : Array Nat) : ∀ (n : Nat) (acc : Array Nat), ((List.replicate n x).foldl (· ++ ·) acc).size = acc.size + n * x.size
  | 0, acc => by simp
  | n + 1, acc => by
    rw [List.replicate_succ, List.foldl_cons, foldl_size x n, Array.size_append, Nat.add_mul]
    omega
@[simp] def sMul : P2
  | .str x, .int k => if x.length * k.toNat ≤ 16777216 ∧ -4611686018427387904 ≤ k ∧ k < 4611686018427387904 then okS (.str (repS x k.toNat)) else .stk
  | _, _ => .stk
theorem o_smul : Op2 X W (binaryOp .Mult) sMul := fun pins s σ H x y v u Q F δ av fp dx dy I rx ry E r1 r2 h => by
  by_cases c : ∃ x k, dx = .str x ∧ dy = .int k
  · obtain ⟨z, n, rfl, rfl⟩ := c
    simp only [Rp] at r1 r2
    subst r1 r2
    simp only [sMul] at h
    by_cases c : z.length * n.toNat ≤ 16777216 ∧ -4611686018427387904 ≤ n ∧ n < 4611686018427387904
    · rw [if_pos c] at h
      obtain ⟨t, rfl⟩ := rx
      obtain ⟨t', rfl⟩ := ry
      have hq := okS_here h E (show Rp X.K F (.str (repS z n.toNat)) (.str (repS z n.toNat)) by simp only [Rp])
      have big : ¬ n < 1 → ¬ ((z.length : Int) > (2 ^ 63 - 1) / n) := fun h1 => by
        have h2 : (0 : Int) < n := by omega
        have h3 : ((z.length : Int)) * n ≤ 16777216 := by
          have : (n.toNat : Int) = n := Int.toNat_of_nonneg (by omega)
          rw [← this, ← Int.natCast_mul]
          exact Int.ofNat_le.mpr c.1
        have : (z.length : Int) ≤ (2 ^ 63 - 1) / n := (Int.le_ediv_iff_mul_le h2).mpr (by omega)
        omega
      have tl : Builtin.Str.tooLong (z.length * n.toNat) = false := by
        unfold Builtin.Str.tooLong
        exact decide_eq_false (by rw [sizeLine_eq]; omega)
      refine PySem.P.mul_str (by rw [decide_eq_false (by omega), decide_eq_false (by omega)]; rfl) (fun h1 _ => big h1) (fun _ _ => tl) ?_
      by_cases h1 : n < 1
      · rw [if_pos h1]
        have e : n.toNat = 0 := by omega
        rw [e] at hq
        exact ⟨(by rw [sizeLine_eq]; exact Nat.zero_le _), ⟨.str Str.empty, H, I.tok _, ⟨_, rfl⟩, hq⟩⟩
      · rw [if_neg h1]
        by_cases h2 : (n == 1 || z.length == 0) = true
        · rw [if_pos h2]
          have e : repS z n.toNat = z := by
            rcases Bool.or_eq_true_iff.mp h2 with q | q
            · have e1 : n.toNat = 1 := by have := beq_iff_eq.mp q; omega
              rw [e1]
              show (⟨#[] ++ z.cps⟩ : Str) = z
              rw [Array.empty_append]
            · have e1 : z.cps = #[] := Array.eq_empty_of_size_eq_zero (beq_iff_eq.mp q)
              unfold repS
              rw [e1, foldl_nil, ← e1]
          rw [e] at hq
          exact ⟨.str z, H, I, ⟨_, rfl⟩, hq⟩
        · rw [if_neg h2]
          refine ⟨?_, ⟨.str _, H, I.tok _, ⟨_, rfl⟩, hq⟩⟩
          rw [sizeLine_eq]
          show (List.foldl (· ++ ·) #[] (List.replicate n.toNat z.cps)).size ≤ 16777216
          rw [foldl_size, Nat.mul_comm]
          have := c.1
          show 0 + z.length * n.toNat ≤ 16777216
          omega
    · rw [if_neg c] at h; exact h.elim
  · have : sMul dx dy = .stk := by cases dx <;> cases dy <;> simp_all
    rw [this] at h; exact h.elim
end
end Fx
/-! Fx19: the head: what stands in the written part, by names. -/
namespace Fx
open PySem PySem.Spec PyProof.Rows L2
abbrev Fc := Fg → Bool
structure Df where
  adr : Fg → Addr
  name : Str
  qual : Str
  params : Arguments
  body : List Stmt
  scope : Scope
  dfl : List He.Dv := []
  kwd : List (Str × He.Dv) := []
def fnX (K : Fg) (a : Addr) : He.FnW := match K.lookup a with
  | some ⟨_, _, .func fd, _⟩ => some (fd.name, fd.qualname, fd.params, fd.body, fd.scope, fd.globals, fd.closure, fd.builtins)
  | _ => none
def Df.val (d : Df) : He.FnW := some (d.name, d.qual, d.params, .stmts d.body, d.scope, mainGlobals, [], builtinsNs)
def Df.dvs (K : Fg) (d : Df) : List V := d.dfl.map (He.Dv.v K)
def Df.kws (K : Fg) (d : Df) : List (Str × V) := d.kwd.map fun q => (q.1, q.2.v K)
def Df.ok (K : Fg) (d : Df) : Bool := PySem.W.keepIn K (.ref (d.adr K)) && (match K.lookup (d.adr K) with
  | some ⟨_, _, .func fd, _⟩ => PySem.W.codeIn K fd.code d.qual && (He.dflB K fd.defaults (d.dvs K) && He.kwdB K fd.kwdefaults (d.kws K))
  | _ => false)
theorem Df.funD {K : Fg} {d : Df} (e : fnX K (d.adr K) = d.val) (c : d.ok K = true) : ∃ fd, FunD K d.name d.qual d.params d.body d.scope (d.dvs K) (d.kws K) (d.adr K) fd := by
  obtain ⟨kp, c2⟩ := He.ba c
  unfold fnX at e
  cases q : K.lookup (d.adr K) with
  | none =>
    rw [q] at c2
    cases c2
  | some o =>
    obtain ⟨oc, od, dt, osl⟩ := o
    rw [q] at c2 e
    cases dt with
    | func fd =>
      obtain ⟨n1, n2, n3, n4, n5, n6, n7, n8, n9, n10, n11, n12, n13, n14, n15⟩ := fd
      have e2 : (some (n1, n2, n3, n4, n5, n6, n7, n15) : He.FnW) = some (d.name, d.qual, d.params, .stmts d.body, d.scope, mainGlobals, [], builtinsNs) := e
      simp only [Option.some.injEq, Prod.mk.injEq] at e2
      obtain ⟨h1, h2, h3, h4, h5, h6, h7, h8⟩ := e2
      subst h1 h2 h3 h4 h5 h6 h7 h8
      have c3 : (PySem.W.codeIn K n13 d.qual && (He.dflB K n8 (d.dvs K) && He.kwdB K n9 (d.kws K))) = true := c2
      obtain ⟨k1, k2⟩ := He.ba c3
      obtain ⟨k3, k4⟩ := He.ba k2
      exact ⟨_, ⟨oc, od, n8, n9, n10, n11, n12, n13, n14, osl, rfl, q, k1, He.dflB_ok k3, He.kwdB_ok k4⟩, kp⟩
    | _ => cases c2
def asX (g : Addr → Option Obj) : Nat → List Addr
  | 0 => [mainGlobals, cStatics]
  | n + 1 => He.growD g (asX g n)
def obsX (fs : List Fc) (fn : List Df) (K : Fg) : He.AlD := ((fs.all fun f => f K) && fn.all fun d => d.ok K, fn.map fun d => fnX K (d.adr K))
def valX (fn : List Df) : He.AlD := (true, fn.map Df.val)
def SaysX (fs : List Fc) (fn : List Df) (K : Fg) : Prop := obsX fs fn K = valX fn
def obsXG (n : Nat) (fs : List Fc) (fn : List Df) (g : Addr → Option Obj) : He.AlD := obsX fs fn (He.frG g (asX g n))
def hookX (n : Nat) (fs : List Fc) (fn : List Df) : PySem.W.Hook where
  α := He.AlD
  obs := fun s => obsXG n fs fn s.heap.get?
  val := fun _ => valX fn
  says := fun _ h => ∃ K : Fg, K.In h ∧ SaysX fs fn K
  of := fun _ _ e => ⟨_, He.frG_in, e⟩
  keeps := fun _ _ _ ⟨K, hK, c⟩ k => ⟨K, PySem.W.Frag.In.keeps hK k, c⟩
theorem obsXG_eq {n : Nat} {fs : List Fc} {fn : List Df} {g : Addr → Option Obj} {s : Shared} (h : ∀ a, g a = s.heap.get? a) : obsXG n fs fn g = (hookX n fs fn).obs s := by
  have e : g = s.heap.get? := funext h
  rw [e] <;> rfl
theorem SaysX.fact {fs : List Fc} {fn : List Df} {K : Fg} (c : SaysX fs fn K) (i : Nat) {f : Fc} (h : fs[i]? = some f := by rfl) : f K = true := by
  have c1 := (He.ba (show ((fs.all fun f => f K) && fn.all fun d => d.ok K) = true from congrArg (fun z : He.AlD => z.1) c)).1
  exact List.all_eq_true.mp c1 f (List.mem_of_getElem? h)
theorem SaysX.def_ {fs : List Fc} {fn : List Df} {K : Fg} (c : SaysX fs fn K) (i : Nat) {d : Df} (h : fn[i]? = some d := by rfl) : ∃ fd, FunD K d.name d.qual d.params d.body d.scope (d.dvs K) (d.kws K) (d.adr K) fd := by
  have c2 := (He.ba (show ((fs.all fun f => f K) && fn.all fun d => d.ok K) = true from congrArg (fun z : He.AlD => z.1) c)).2
  have e : fn.map (fun d => fnX K (d.adr K)) = fn.map Df.val := congrArg (fun z : He.AlD => z.2) c
  have e2 : (fn.map fun d => fnX K (d.adr K))[i]? = (fn.map Df.val)[i]? := by rw [e]
  rw [List.getElem?_map, List.getElem?_map, h] at e2
  exact Df.funD (Option.some.inj e2) (List.all_eq_true.mp c2 d (List.mem_of_getElem? h))

/-! ### addresses -/
def adM (c m : String) (K : Fg) : Addr := He.ma K (He.ga K c) m
/-- the record of a static method; its function -/
def adP (c m : String) (K : Fg) : Addr := match PySem.W.findIn K (.ref (He.ga K c)) m with
  | some (some (.ref p)) => p
  | _ => 0
def adS (c m : String) (K : Fg) : Addr := match PySem.W.recIn K (adP c m K) "staticmethod" with
  | some (.ref f :: _) => f
  | _ => 0

/-! ### facts -/
section
variable {K : Fg} {c c' n m nm : String}
def bGlo (x : String) : Fc := fun K => (He.Fa.glo x).ok K
def bFree (x : String) : Fc := fun K => (He.Fa.free x).ok K
def bStrG (x z : String) : Fc := fun K => (He.Fa.str x z).ok K
def bBlt (x id : String) : Fc := fun K => He.eqO (PySem.W.nsIn K mainGlobals x) (some (some (.builtin id)))
theorem bBlt_ok {h : Heap} {mg : Str → Option Value} (X : K.In h) (G : h.Ns mainGlobals mg) {x id : String} (e : bBlt x id K = true) : mg x = some (.builtin id) := PySem.W.mg_of X G (He.eqO_ok e)
def bCls (c : String) : Fc := fun K => (He.Fa.cls c).ok K
def bNoat (c n : String) : Fc := fun K => (He.Fa.noat c n).ok K
theorem fdG_ok (h1 : bCls c K = true) (h2 : bNoat c n K = true) : FdG K c n := ⟨He.cls_ok h1, He.noat_ok h2⟩
def bMeth (c m : String) : Fc := fun K => (He.Fa.meth c m).ok K
def bMkr (c : String) : Fc := fun K => (He.Fa.mkr c).ok K
def rOk : Option (Option Value) → Bool
  | some none => true
  | some (some (.ref _)) => true
  | _ => false
def rSo : Option (Option Value) → Bool
  | some (some (.ref _)) => true
  | _ => false
theorem rOk_ok {o : Option (Option Value)} (h : rOk o = true) : ∃ rc, o = some rc ∧ (rc = none ∨ ∃ g : Addr, rc = some (.ref g)) := by
  unfold rOk at h
  split at h
  · exact ⟨none, rfl, .inl rfl⟩
  · exact ⟨_, rfl, .inr ⟨_, rfl⟩⟩
  · cases h
theorem rSo_ok {o : Option (Option Value)} (h : rSo o = true) : ∃ g : Addr, o = some (some (.ref g)) := by
  unfold rSo at h
  split at h
  · exact ⟨_, rfl⟩
  · cases h
def bOwnL (c nm : String) : Fc := fun K => PySem.W.selfFirst K (He.ga K c) && rOk (PySem.W.findIn K (.ref (He.ga K c)) (dunderR nm))
theorem ownL_ok (h : bOwnL c nm K = true) : OwnL K c nm := ⟨(He.ba h).1, rOk_ok (He.ba h).2⟩
def bNi (c : String) : Fc := fun K => decide (PySem.W.subIn K (.ref (He.ga K c)) (.type "int") = some false)
theorem ni_ok (h : bNi c K = true) : PySem.W.subIn K (.ref (He.ga K c)) (.type "int") = some false := of_decide_eq_true h
def bOwnR (c nm : String) : Fc := fun K => PySem.W.selfFirst K (He.ga K c) && rSo (PySem.W.findIn K (.ref (He.ga K c)) (PySem.dunder nm))
theorem ownR_ok (h : bOwnR c nm K = true) (h2 : bNi c K = true) : OwnR K c nm := ⟨(He.ba h).1, ni_ok h2, rSo_ok (He.ba h).2⟩
def bOwnN (c : String) : Fc := fun K => He.eqO (PySem.W.findIn K (.ref (He.ga K c)) "__ne__") (some (some (.builtin "object.__ne__"))) && decide (PySem.W.mroIn K (He.ga K c) (.type "object") = some true)
theorem ownN_ok (h : bOwnN c K = true) : OwnN K c := ⟨He.eqO_ok (He.ba h).1, of_decide_eq_true (He.ba h).2⟩
def bNoInp (c nm : String) : Fc := fun K => (match PySem.W.clsIn K (He.ga K c) with
  | some cd => decide (cd.mro = [.ref (He.ga K c), .type "object"])
  | none => false) && He.eqO (PySem.W.findIn K (.ref (He.ga K c)) (dunderI nm)) (some none)
theorem noInp_ok (h : bNoInp c nm K = true) : NoInp K (He.ga K c) nm := by
  obtain ⟨h1, h2⟩ := He.ba h
  refine ⟨?_, He.eqO_ok h2⟩
  cases e : PySem.W.clsIn K (He.ga K c) with
  | none => rw [e] at h1; cases h1
  | some cd => rw [e] at h1; exact ⟨cd, rfl, of_decide_eq_true h1⟩
def bIsG (c : String) : Fc := fun K => He.eqO (PySem.W.findIn K (.ref (He.ga K c)) "__class__") (some (some (.builtin "object.__class__"))) && (decide (PySem.W.specialIn K (.builtin "object.__class__") "__get__" = some (some (.builtin "getset_descriptor.__get__"))) &&
  (decide (PySem.W.takesIn K (.builtin "object.__class__") = some true) && decide (PySem.W.mroIn K (He.ga K c) (.type "object") = some true)))
theorem isG_ok (h1 : bCls c K = true) (h : bIsG c K = true) : IsG K c := by
  obtain ⟨a, h⟩ := He.ba h
  obtain ⟨b, h⟩ := He.ba h
  obtain ⟨d, e⟩ := He.ba h
  exact ⟨He.cls_ok h1, He.eqO_ok a, of_decide_eq_true b, of_decide_eq_true d, of_decide_eq_true e⟩
def bExG (c : String) : Fc := fun K => (He.Fa.exc c).ok K
theorem exG_ok {h : Heap} {mg : Str → Option Value} (X : K.In h) (G : h.Ns mainGlobals mg) (h1 : bGlo c K = true) (h2 : bExG c K = true) : ExG K mg c := by
  obtain ⟨a, b, d, e⟩ := He.exc_ok h2
  exact ⟨He.glo_ok X G h1, a, b, d, e⟩
def oexB (K : Fg) (C : Addr) : Bool := match K.lookup C with
  | some ⟨.type "type", _, .cls cd, sl⟩ => (match cd.mro, sl.toList with
    | .ref C' :: bm, [_, _, _, _, some (.builtin n), _] => C' == C && (n == "ValueError.__new__" && (!cd.hasDel && (cd.hasDict && PySem.HandSPX.refsVE bm)))
    | _, _ => false)
  | _ => false
def bOex (c : String) : Fc := fun K => oexB K (He.ga K c) && (He.eqO (PySem.W.findIn K (.ref (He.ga K c)) "__setattr__") (some (some (.builtin "object.__setattr__"))) && (decide (PySem.W.subIn K (.ref (He.ga K c)) (.type "BaseException") = some true) &&
  (decide (PySem.W.typeIn K (.ref (He.ga K c)) = some (.type "type")) && PySem.W.keepIn K (.ref (He.ga K c)))))
theorem oex_ok (h : bOex c K = true) : OexC K (He.ga K c) := by
  obtain ⟨q, h⟩ := He.ba h
  obtain ⟨b, h⟩ := He.ba h
  obtain ⟨d, h⟩ := He.ba h
  obtain ⟨e, f⟩ := He.ba h
  refine ⟨?_, He.eqO_ok b, of_decide_eq_true d, of_decide_eq_true e, f⟩
  unfold oexB at q
  split at q
  · rename_i dd cd sl ho
    split at q
    · rename_i C' bm k0 k1 k2 k3 n k5 hm hs
      simp only [Bool.and_eq_true, beq_iff_eq, Bool.not_eq_true'] at q
      obtain ⟨rfl, rfl, hdel, hdct, ht⟩ := q
      obtain ⟨nm, bs, mro, ns, qn, hd, sn, sub, ab, col, del⟩ := cd
      dsimp only at hm hdel hdct
      subst hm hdel hdct
      have hsl : sl = #[k0, k1, k2, k3, some (.builtin "ValueError.__new__"), k5] := by
        obtain ⟨l⟩ := sl
        simp only at hs
        rw [hs]
      subst hsl
      exact ⟨nm, qn, ns, bs, bm, sn, sub, ab, col, dd, k0, k1, k2, k3, k5, ho, ht⟩
    · cases q
  · cases q
/-- its own __init__ -/
def bXin (c : String) : Fc := fun K => He.eqO (PySem.W.findIn K (.ref (He.ga K c)) "__init__") (some (some (.ref (adM c "__init__" K)))) && decide (PySem.W.typeIn K (.ref (adM c "__init__" K)) = some (.type "function"))
theorem xin_ok (h : bXin c K = true) : PySem.W.findIn K (.ref (He.ga K c)) "__init__" = some (some (.ref (adM c "__init__" K))) ∧ PySem.W.typeIn K (.ref (adM c "__init__" K)) = some (.type "function") := ⟨He.eqO_ok (He.ba h).1, of_decide_eq_true (He.ba h).2⟩
def bIx (c : String) : Fc := fun K => He.eqO (PySem.W.findIn K (.ref (He.ga K c)) "__getattribute__") (some (some (.builtin "BaseException.__getattribute__"))) && (He.eqO (PySem.W.findIn K (.ref (He.ga K c)) "__getattr__") (some none) &&
  (decide (PySem.W.subIn K (.ref (He.ga K c)) (.type "BaseException") = some true) && (PySem.W.hasDictIn K (He.ga K c) && (He.eqO (PySem.W.findIn K (.ref (He.ga K c)) "__class__") (some (some (.builtin "object.__class__"))) &&
  (decide (PySem.W.specialIn K (.builtin "object.__class__") "__get__" = some (some (.builtin "getset_descriptor.__get__"))) && (decide (PySem.W.takesIn K (.builtin "object.__class__") = some true) && decide (PySem.W.mroIn K (He.ga K c) (.type "object") = some true)))))))
theorem ix_ok (h : bIx c K = true) : IxG K c := by
  obtain ⟨h1, h⟩ := He.ba h
  obtain ⟨h2, h⟩ := He.ba h
  obtain ⟨h3, h⟩ := He.ba h
  obtain ⟨h4, h⟩ := He.ba h
  obtain ⟨h5, h⟩ := He.ba h
  obtain ⟨h6, h⟩ := He.ba h
  obtain ⟨h7, h8⟩ := He.ba h
  exact ⟨He.eqO_ok h1, He.eqO_ok h2, of_decide_eq_true h3, h4, He.eqO_ok h5, of_decide_eq_true h6, of_decide_eq_true h7, of_decide_eq_true h8⟩
theorem xf_ok (h : bIx c K = true) (h2 : bNoat c n K = true) : XfG K c n := by
  have G := ix_ok h
  exact ⟨⟨G.hg, G.hk, G.hs, G.hd⟩, He.eqO_ok h2⟩
/-- tables of isinstance, of except clauses -/
def bKit (ts : List (Ty × Bool)) (cu : Fg → Value) : Fc := fun K => ts.all fun q => decide (PySem.W.kitOne K (q.1.val K) (cu K) = some q.2)
theorem kit_ok {ts : List (Ty × Bool)} {cu : Fg → Value} (h : bKit ts cu K = true) : ∀ q ∈ ts, PySem.W.kitOne K (q.1.val K) (cu K) = some q.2 := fun q hq => of_decide_eq_true (List.all_eq_true.mp h q hq)
def bKita (ts : List (Ty × Bool)) (cu : Fg → List Value) : Fc := fun K => ts.all fun q => decide (PySem.W.kitAny K (q.1.val K) (cu K) = some q.2)
theorem kita_ok {ts : List (Ty × Bool)} {cu : Fg → List Value} (h : bKita ts cu K = true) : ∀ q ∈ ts, PySem.W.kitAny K (q.1.val K) (cu K) = some q.2 := fun q hq => of_decide_eq_true (List.all_eq_true.mp h q hq)
def bExm (ts : List (String × Bool)) (cu : Fg → Value) : Fc := fun K => ts.all fun q => decide (PySem.W.exmOne K (.ref (He.ga K q.1)) (cu K) = some q.2)
theorem exm_ok {ts : List (String × Bool)} {cu : Fg → Value} (h : bExm ts cu K = true) : ∀ q ∈ ts, PySem.W.exmOne K (.ref (He.ga K q.1)) (cu K) = some q.2 := fun q hq => of_decide_eq_true (List.all_eq_true.mp h q hq)
/-- what is read off a class -/
def bRead (c : String) : Fc := fun K => PySem.W.readsIn K (He.ga K c) (.type "type") && decide (PySem.W.specialIn K (.ref (He.ga K c)) "__getattribute__" = some (some (.builtin "type.__getattribute__")))
def isGet (p C : Addr) : Option PySem.W.CFound → Bool
  | some (.get (.builtin g) (.ref a) .none (.ref b)) => g == "staticmethod.__get__" && (a == p && b == C)
  | _ => false
theorem isGet_ok {p C : Addr} {o : Option PySem.W.CFound} (h : isGet p C o = true) : o = some (.get (.builtin "staticmethod.__get__") (.ref p) .none (.ref C)) := by
  unfold isGet at h
  split at h
  · simp only [Bool.and_eq_true, beq_iff_eq] at h
    obtain ⟨rfl, rfl, rfl⟩ := h
    rfl
  · cases h
def bStat (c m : String) : Fc := fun K => isGet (adP c m K) (He.ga K c) (PySem.W.findCls K (.ref (He.ga K c)) (.type "type") m) && (match PySem.W.recIn K (adP c m K) "staticmethod" with
  | some (.ref f :: _) => f == adS c m K
  | _ => false)
theorem stat_ok (h : bStat c m K = true) : PySem.W.findCls K (.ref (He.ga K c)) (.type "type") m = some (.get (.builtin "staticmethod.__get__") (.ref (adP c m K)) .none (.ref (He.ga K c))) ∧ ∃ rest, PySem.W.recIn K (adP c m K) "staticmethod" = some (.ref (adS c m K) :: rest) := by
  obtain ⟨h1, h2⟩ := He.ba h
  refine ⟨isGet_ok h1, ?_⟩
  split at h2
  · rename_i f r e
    rw [e, beq_iff_eq.mp h2]
    exact ⟨_, rfl⟩
  · cases h2
def isIntV (i : Int) : Option PySem.W.CFound → Bool
  | some (.val (.int j _)) => decide (j = i)
  | _ => false
theorem isIntV_ok {i : Int} {o : Option PySem.W.CFound} (h : isIntV i o = true) : ∃ t, o = some (.val (.int i t)) := by
  unfold isIntV at h
  split at h
  · rw [of_decide_eq_true h]; exact ⟨_, rfl⟩
  · cases h
def bCvI (c n : String) (i : Int) : Fc := fun K => isIntV i (PySem.W.findCls K (.ref (He.ga K c)) (.type "type") n)
theorem cvI_ok {h : Heap} {mg : Str → Option Value} {i : Int} (X : K.In h) (G : h.Ns mainGlobals mg) (h1 : bGlo c K = true) (h2 : bRead c K = true) (h3 : bCvI c n i K = true) : CvG K mg c n (.int i) := by
  obtain ⟨t, e⟩ := isIntV_ok h3
  exact ⟨He.glo_ok X G h1, ⟨(He.ba h2).1, of_decide_eq_true (He.ba h2).2⟩, .int i, .int i t, ⟨e, ⟨t, rfl⟩⟩, fun F => by simp only [Rp]⟩
end
end Fx
/-! Fx20: words for printed proofs. -/
namespace Fx
open PySem PySem.Spec PyProof.Rows L2 L2H
/-- the written part over a base -/
structure Sy (fs : List Fc) (fn : List Df) (K : Fg) (mg : Str → Option Value) (base : Heap) : Prop where
  ki : K.In base
  ns : base.Ns mainGlobals mg
  c : SaysX fs fn K
section
variable {P : Program} {w : World} {K : Fg} {mg : Str → Option Value} {base : Heap} {N ps : List Str} {qual : Str} {scope : Scope} {f : Addr} {cd : Value} {A : Around} {outer : List PySem.Env} {s : Shared} {H : Hp} {E : XK}
theorem tk_cx : Takes (cxOf (L2.CX P w) P w K mg base N qual scope f cd A outer s H E) (fun cls d _ H' => E cls d H') := takes_of rfl rfl rfl rfl
theorem tk_cc : Takes (cxC P w K mg base N qual scope f cd A outer s H E) (fun cls d _ H' => E cls d H') := takes_of rfl rfl rfl rfl
theorem po_cx : PassesOwn (model P w) (cxOf (L2.CX P w) P w K mg base N qual scope f cd A outer s H E).A (cxOf (L2.CX P w) P w K mg base N qual scope f cd A outer s H E).env (cxOf (L2.CX P w) P w K mg base N qual scope f cd A outer s H E).xe := passes_of (X := cxOf (L2.CX P w) P w K mg base N qual scope f cd A outer s H E) rfl
end
theorem tk0 {X : Cx} : Takes X W0 := takes_none5
theorem u64 {A : Around} {k : Nat} (h : Room k A) : A.units + 64 < cLine := by have := h.un; omega
theorem u64h {A : Around} {k : Nat} (h : RoomH k A) : A.units + 64 < cLine := by have := h.un; omega
theorem MtG.up {P : Program} {w : World} {K : Fg} {mg : Str → Option Value} {base : Heap} {c x : String} {j k : Nat} {m : Fn} {dfl : List D} (G : MtG P w K mg base c x j m dfl) (h : j ≤ k) : MtG P w K mg base c x k m dfl := by
  obtain ⟨f, fd, ps, dvs, ds, a, r⟩ := G.ex
  exact ⟨G.cl, ⟨f, fd, ps, dvs, ds, a.mono h, r⟩⟩
theorem rp0 {K : Fg} : ∀ F, RpL K F ([] : List V) [] := fun _ => RpL.nil
theorem rp1i {K : Fg} {i : Int} : ∀ F, RpL K F [V.int i] [D.int i] := fun _ => RpL.cons (by simp only [Rp]) RpL.nil
theorem rp2i {K : Fg} {i j : Int} : ∀ F, RpL K F [V.int i, V.int j] [D.int i, D.int j] := fun _ => RpL.cons (by simp only [Rp]) (RpL.cons (by simp only [Rp]) RpL.nil)
/-- what a table of isinstance leans on -/
theorem hi_of {K : Fg} {tb : List (Ty × Bool)} (cs : List String) (h : ∀ c ∈ cs, IsG K c) (e : (tb.all fun q => match q.1 with
  | .o c => cs.contains c
  | _ => true) = true := by rfl) : ∀ c b, (Ty.o c, b) ∈ tb → IsG K c := fun c b hb => h c (by have := List.all_eq_true.mp e _ hb; simpa using this)
theorem hx_of {K : Fg} {tb : List (Ty × Bool)} (cs : List String) (h : ∀ c ∈ cs, IxG K c) (e : (tb.all fun q => match q.1 with
  | .x c => cs.contains c
  | _ => true) = true := by rfl) : ∀ c b, (Ty.x c, b) ∈ tb → IxG K c := fun c b hb => h c (by have := List.all_eq_true.mp e _ hb; simpa using this)
theorem all1 {α : Type} {p : α → Prop} {a : α} (h : p a) : ∀ q ∈ [a], p q := fun q hq => by rw [List.mem_singleton] at hq; rw [hq]; exact h
theorem allN {α : Type} {p : α → Prop} : ∀ q ∈ ([] : List α), p q := fun q hq => by cases hq
theorem allC {α : Type} {p : α → Prop} {a : α} {l : List α} (h : p a) (t : ∀ q ∈ l, p q) : ∀ q ∈ a :: l, p q := fun q hq => by
  rcases List.mem_cons.mp hq with e | e
  · rw [e]; exact h
  · exact t q e
section
variable {X : Cx} {W : WX}
def mAdd : P2 := P2.or iAdd (P2.or sAdd (P2.or lAdd tAdd))
theorem o_madd : Op2 X W (binaryOp .Add) mAdd := Op2.or o_iadd (Op2.or o_sadd (Op2.or o_ladd o_tadd))
def mMul : P2 := P2.or iMul (P2.or sMul lMul)
theorem o_mmul : Op2 X W (binaryOp .Mult) mMul := Op2.or o_imul (Op2.or o_smul o_lmul)
theorem e_lenV {i : Nat} {y : Str} {py p pos : Pos} (hg : Gl X "len") (hm : X.mg "len" = none) (hN : X.N[i]? = some y) (hv : Vis X.env.scope y) (hd1 : (y == ("__debug__" : Str)) = false := by decide) (hd2 : (y == ("__classdict__" : Str)) = false := by decide)
    (he : starEach [Expr.Name y py] X.env = (false, eval (Expr.Name y py) X.env) :: starEach [] X.env := by rfl) (hpl : (backTo pos (starEach [] X.env)).any (·.1) = false := by rfl) : PE X (.Call (.Name "len" p) [.Name y py] [] pos) (wpE X.K W (cLenV i)) := by
  refine ⟨fun pins s σ H Q I ⟨F, δ, av, fp, E, h⟩ => ?_⟩
  unfold cLenV at h
  cases h0 : lsV i δ with
  | none =>
    rw [h0] at h
    exact (e_blt (X := X) (W := W) f_len hg hm PyProof.Rows.Boot.«len» (a_cons (e_var hN hv hd1 hd2) a_nil he) (by decide) (by decide) he hpl).run pins s σ H Q I ⟨F, δ, av, fp, E, h⟩
  | some xs =>
    rw [h0] at h
    dsimp only at h
    obtain ⟨z0, e1, e2⟩ := lsV_ok h0
    obtain ⟨a, vs, f, hva, hH, al, _, _⟩ := E.lst e1 e2
    exact (pe_callB call_len_seq hg hm PyProof.Rows.Boot.«len» (pa_cons (pe_var hN hv hd1 hd2) pa_nil he) (by decide) (by decide) he hpl).run pins s σ H Q I ⟨_, hva, a, vs, rfl, .inl (SqL.of hH), QE.here h E (by simp only [Rp, al.length])⟩
end
end Fx
/-! Fx21: a text walked, sign by sign. -/
namespace Fx
open PySem PySem.Spec PyProof.Rows L2
section
variable {X : Cx} {K : Fg} {W : WX} {F H : Hp}
/-- the signs of a text -/
def sgs (x : Str) : List D := x.cps.toList.map fun c => D.str ⟨#[c]⟩
theorem walks_str {x : Str} : Walks K (Its x) F (sgs x) := fun G H e1 e2 => by
  refine ⟨fun i hi => ?_, by show x.cps.size ≤ (sgs x).length; simp [sgs]⟩
  have hi' : i < x.cps.size := by simpa [sgs] using hi
  refine ⟨hi', fun v H' ⟨eH, c, hc, hv⟩ => ?_⟩
  subst eH hv
  refine ⟨G, .str ⟨#[c]⟩, ?_, e2, by simp only [Rp], fun A => Fm.refl fun _ z => z⟩
  unfold sgs
  rw [List.getElem?_map]
  simp [hc]
def mItS : Sl × En → R En (List D × En)
  | (s, δ) => match s.fz with
    | .str x => .ok (sgs x, δ)
    | _ => .stk
def iTxt (c : Ex) : Ax := fun δ => (c δ).bind mItS
theorem i_txt {tg e : Expr} {c : Ex} (he : PE X e (wpE X.K W c)) : PI X tg e (wpI X.K W (iTxt c)) :=
  PI.wk (pi_str he) fun σ H R ⟨F, δ, av, fp, E, h⟩ => ⟨F, δ, av, fp, E, Po.imp (goI h) fun s δ' z v H' F' fp' f E' a n d m => by
    obtain ⟨F1, fp1, t, δ1, E1, r1, m1, q⟩ := z v H' F' fp' f E' a n d m
    simp only [mItS] at q
    revert r1 q
    generalize t.fz = y
    intro r1 q
    cases y with
    | str x =>
      simp only [Rp] at r1
      exact ⟨x, r1, q _ _ F1 fp1 E1 (Fm.refl fun _ z => z) walks_str⟩
    | _ => exact q.elim⟩
end
end Fx
/-! Fx22: mirrors evaluated, from the outside. -/
namespace Fx
open PySem PySem.Spec PyProof.Rows L2
section
variable {β α γ : Type} {a b c : Ex} {t u : Tx} {x y : Ax} {p q : Sx} {δ : En} {s : Sl} {i j : Nat}
@[simp] theorem fz_d (d : D) : (Sl.d d).fz = d := (rfl)
@[simp] theorem fz_l (xs : List Sl) : (Sl.lst xs).fz = .lst (fzL xs) := (rfl)
@[simp] theorem fz_o (c : String) (ns : List String) (xs : List Sl) : (Sl.obj c ns xs).fz = .ins c ns (fzL xs) := (rfl)
@[simp] theorem fzL_n : fzL [] = [] := (rfl)
@[simp] theorem fzL_c (x : Sl) (xs : List Sl) : fzL (x :: xs) = x.fz :: fzL xs := (rfl)
@[simp] theorem bind_ok (v : α) (f : α → R β γ) : (R.ok v : R β α).bind f = f v := (rfl)
@[simp] theorem bind_exc (c : String) (ns : List String) (xs : List D) (z : β) (f : α → R β γ) : (R.exc c ns xs z : R β α).bind f = .exc c ns xs z := (rfl)
@[simp] theorem bind_stk (f : α → R β γ) : (R.stk : R β α).bind f = .stk := (rfl)
/-- what comes behind, by name: nothing below is looked at before its turn -/
def k1 (f : P1) : Sl × En → R En (Sl × En) := fun p => up (f p.1.fz) p.2
def k2 (f : P2) (b : Ex) : Sl × En → R En (Sl × En) := fun p => (b p.2).bind fun q => up (f p.1.fz q.1.fz) q.2
def k2' (f : P2) (d : D) : Sl × En → R En (Sl × En) := fun q => up (f d q.1.fz) q.2
@[simp] theorem c1_ap (f : P1) : c1 f a δ = (a δ).bind (k1 f) := (rfl)
/-- up, folded -/
def upR (r : RO) (δ : En) : R En (Sl × En) := up r δ
@[simp] theorem upR_ok : upR (.ok s) δ = .ok (s, δ) := (rfl)
@[simp] theorem upR_exc (c : String) (ns : List String) (xs : List D) : upR (.exc c ns xs ()) δ = .exc c ns xs δ := (rfl)
@[simp] theorem upR_stk : upR .stk δ = .stk := (rfl)
@[simp low] theorem k1_ap (f : P1) : k1 f (s, δ) = upR (f s.fz) δ := (rfl)
@[simp high] theorem k1_d (f : P1) (d : D) : k1 f (.d d, δ) = upR (f d) δ := (rfl)
@[simp] theorem c2_ap (f : P2) : c2 f a b δ = (a δ).bind (k2 f b) := (rfl)
@[simp] theorem k2_ap (f : P2) : k2 f b (s, δ) = (b δ).bind (k2' f s.fz) := (rfl)
@[simp low] theorem k2'_ap (f : P2) (d : D) : k2' f d (s, δ) = upR (f d s.fz) δ := (rfl)
@[simp high] theorem k2'_d (f : P2) (d e : D) : k2' f d (.d e, δ) = upR (f d e) δ := (rfl)
@[simp] theorem cC_ap (d : D) : cC d δ = .ok (.d d, δ) := (rfl)
def vK (s : Option Slot) (i : Nat) (δ : En) : R En (Sl × En) := match s with
  | some x => (match x.sl with
    | some s => .ok (.d s.fz, δ.set i (x.to (.d s.fz)))
    | none => .stk)
  | none => .stk
@[simp] theorem cV_ap : cV i δ = vK δ[i]? i δ := (rfl)
@[simp] theorem vK_l : vK (some (.loc s)) i δ = .ok (.d s.fz, δ.set i (.loc (.d s.fz))) := (rfl)
@[simp] theorem vK_p : vK (some (.par s)) i δ = .ok (.d s.fz, δ.set i (.par (.d s.fz))) := (rfl)
@[simp] theorem cB_ap : cB a δ = (a δ).bind bo := (rfl)
@[simp] theorem bo_ap (k : Bool) : bo (.d (.bl k), δ) = .ok (k, δ) := (rfl)
def kNo : Bool × En → R En (Bool × En) := fun p => .ok (!p.1, p.2)
@[simp] theorem tNo_ap : tNo t δ = (t δ).bind kNo := (rfl)
@[simp] theorem kNo_ap (k : Bool) : kNo (k, δ) = .ok (!k, δ) := (rfl)
def kAn (b : Tx) : Bool × En → R En (Bool × En) := fun p => if p.1 = true then b p.2 else .ok (false, p.2)
@[simp] theorem tAn_ap : tAn t u δ = (t δ).bind (kAn u) := (rfl)
@[simp] theorem kAn_t : kAn u (true, δ) = u δ := (rfl)
@[simp] theorem kAn_f : kAn u (false, δ) = .ok (false, δ) := (rfl)
def kOr (b : Tx) : Bool × En → R En (Bool × En) := fun p => if p.1 = true then .ok (true, p.2) else b p.2
@[simp] theorem tOr_ap : tOr' t u δ = (t δ).bind (kOr u) := (rfl)
@[simp] theorem kOr_t : kOr u (true, δ) = .ok (true, δ) := (rfl)
@[simp] theorem kOr_f : kOr u (false, δ) = u δ := (rfl)
def kcNo : Bool × En → R En (Sl × En) := fun p => .ok (.d (.bl (!p.1)), p.2)
@[simp] theorem cNo_ap : cNo a δ = (cB a δ).bind kcNo := (rfl)
@[simp] theorem kcNo_ap (k : Bool) : kcNo (k, δ) = .ok (.d (.bl (!k)), δ) := (rfl)
def kcAn (b : Ex) : Bool × En → R En (Sl × En) := fun p => if p.1 = true then b p.2 else .ok (.d (.bl false), p.2)
@[simp] theorem cAn_ap : cAn a b δ = (cB a δ).bind (kcAn b) := (rfl)
@[simp] theorem kcAn_t : kcAn b (true, δ) = b δ := (rfl)
@[simp] theorem kcAn_f : kcAn b (false, δ) = .ok (.d (.bl false), δ) := (rfl)
def kcOr (b : Ex) : Bool × En → R En (Sl × En) := fun p => if p.1 = true then .ok (.d (.bl true), p.2) else b p.2
@[simp] theorem cOr_ap : cOr a b δ = (cB a δ).bind (kcOr b) := (rfl)
@[simp] theorem kcOr_t : kcOr b (true, δ) = .ok (.d (.bl true), δ) := (rfl)
@[simp] theorem kcOr_f : kcOr b (false, δ) = b δ := (rfl)
def kIf {α : Type} (a b : En → R En (α × En)) : Bool × En → R En (α × En) := fun p => if p.1 = true then a p.2 else b p.2
@[simp] theorem cIf_ap : cIf t a b δ = (t δ).bind (kIf a b) := (rfl)
@[simp] theorem sIf_ap : sIf t p q δ = (t δ).bind (kIf p q) := (rfl)
@[simp] theorem kIf_t {α : Type} (a b : En → R En (α × En)) : kIf a b (true, δ) = a δ := (rfl)
@[simp] theorem kIf_f {α : Type} (a b : En → R En (α × En)) : kIf a b (false, δ) = b δ := (rfl)
theorem kIf_b {α : Type} (a b : En → R En (α × En)) (k : Bool) : kIf a b (k, δ) = if k = true then a δ else b δ := (rfl)
@[simp] theorem aN_ap : aN δ = .ok ([], δ) := (rfl)
def kaC (b : Ax) : Sl × En → R En (List D × En) := fun p => (b p.2).bind fun q => .ok (p.1.fz :: q.1, q.2)
def kaC' (d : D) : List D × En → R En (List D × En) := fun q => .ok (d :: q.1, q.2)
@[simp] theorem aC_ap : aC a x δ = (a δ).bind (kaC x) := (rfl)
@[simp] theorem kaC_ap : kaC x (s, δ) = (x δ).bind (kaC' s.fz) := (rfl)
@[simp] theorem kaC'_ap (d : D) (l : List D) : kaC' d (l, δ) = .ok (d :: l, δ) := (rfl)
def kcA (f : List D → RO) : List D × En → R En (Sl × En) := fun p => up (f p.1) p.2
@[simp] theorem cA_ap (f : List D → RO) : cA f x δ = (x δ).bind (kcA f) := (rfl)
@[simp] theorem kcA_ap (f : List D → RO) (l : List D) : kcA f (l, δ) = upR (f l) δ := (rfl)
def kcl (m : Fn) (dfl : List D) : List D × En → R En (Sl × En) := fun p => upF (m ((p.1 ++ dfl).map Sl.d)) p.2
@[simp] theorem cCall_ap (m : Fn) (dfl : List D) : cCall m dfl x δ = (x δ).bind (kcl m dfl) := (rfl)
@[simp] theorem kcl_ap (m : Fn) (dfl l : List D) : kcl m dfl (l, δ) = upF (m ((l ++ dfl).map Sl.d)) δ := (rfl)
@[simp] theorem upF_ok (r : Sl) (ss : List Sl) : upF (.ok (r, ss)) δ = .ok (r, δ) := (rfl)
@[simp] theorem upF_exc (c : String) (ns : List String) (xs : List D) (ss : List Sl) : upF (.exc c ns xs ss) δ = .exc c ns xs δ := (rfl)
def kmk (c : String) (m : Fn) (dfl : List D) : List D × En → R En (Sl × En) := fun p => upM (m (Sl.obj c [] [] :: (p.1 ++ dfl).map Sl.d)) p.2
@[simp] theorem cMake_ap (c : String) (m : Fn) (dfl : List D) : cMake c m dfl x δ = (x δ).bind (kmk c m dfl) := (rfl)
@[simp] theorem kmk_ap (c : String) (m : Fn) (dfl l : List D) : kmk c m dfl (l, δ) = upM (m (Sl.obj c [] [] :: (l ++ dfl).map Sl.d)) δ := (rfl)
@[simp] theorem upM_ok (s : Sl) (ss : List Sl) : upM (.ok (.d .non, s :: ss)) δ = .ok (s, δ) := (rfl)
@[simp] theorem upM_exc (c : String) (ns : List String) (xs : List D) (ss : List Sl) : upM (.exc c ns xs ss) δ = .exc c ns xs δ := (rfl)
def kmt (n : String) (tb : List (String × Fn)) (dfl : List D) (a : Ax) : Sl × En → R En (Sl × En) := fun q => match rcv n tb q.1 with
  | some m => (a q.2).bind fun p => upF (m ((q.1.fz :: (p.1 ++ dfl)).map Sl.d)) p.2
  | none => .stk
def kmt' (m : Fn) (d : D) (dfl : List D) : List D × En → R En (Sl × En) := fun p => upF (m ((d :: (p.1 ++ dfl)).map Sl.d)) p.2
@[simp] theorem cMeth_ap (n : String) (tb : List (String × Fn)) (dfl : List D) : cMeth n tb dfl a x δ = (a δ).bind (kmt n tb dfl x) := (rfl)
theorem kmt_ap {n : String} {tb : List (String × Fn)} {dfl : List D} {m : Fn} (h : rcv n tb s = some m) : kmt n tb dfl x (s, δ) = (x δ).bind (kmt' m s.fz dfl) := by
  unfold kmt
  dsimp only
  rw [h]
  rfl
@[simp] theorem kmt'_ap (m : Fn) (d : D) (dfl l : List D) : kmt' m d dfl (l, δ) = upF (m ((d :: (l ++ dfl)).map Sl.d)) δ := (rfl)
def kO (m : Fn) (dfl : List D) (i : Nat) : List D × En → R En (Sl × En) := goO m dfl i
def oK (z : Option Slot) (m : Fn) (dfl : List D) (i : Nat) (x : Ax) (δ : En) : R En (Sl × En) := match z with
  | some y => (match y.sl with
    | some _ => (x δ).bind (kO m dfl i)
    | none => .stk)
  | none => .stk
@[simp] theorem cCallO_ap (m : Fn) (dfl : List D) : cCallO m dfl i x δ = oK δ[i]? m dfl i x δ := (rfl)
@[simp] theorem oK_l (m : Fn) (dfl : List D) : oK (some (.loc s)) m dfl i x δ = (x δ).bind (kO m dfl i) := (rfl)
@[simp] theorem oK_p (m : Fn) (dfl : List D) : oK (some (.par s)) m dfl i x δ = (x δ).bind (kO m dfl i) := (rfl)
def oK' (z : Option Slot) (m : Fn) (dfl : List D) (i : Nat) (l : List D) (δ : En) : R En (Sl × En) := match z with
  | some y => (match y.sl with
    | some s => upO (m (s :: (l ++ dfl).map Sl.d)) i y δ
    | none => .stk)
  | none => .stk
@[simp] theorem kO_ap (m : Fn) (dfl l : List D) : kO m dfl i (l, δ) = oK' δ[i]? m dfl i l δ := (rfl)
@[simp] theorem oK'_l (m : Fn) (dfl l : List D) : oK' (some (.loc s)) m dfl i l δ = upO (m (s :: (l ++ dfl).map Sl.d)) i (.loc s) δ := (rfl)
@[simp] theorem oK'_p (m : Fn) (dfl l : List D) : oK' (some (.par s)) m dfl i l δ = upO (m (s :: (l ++ dfl).map Sl.d)) i (.par s) δ := (rfl)
@[simp] theorem upO_ok (r s : Sl) (ss : List Sl) (y : Slot) : upO (.ok (r, s :: ss)) i y δ = .ok (r, δ.set i (y.to s)) := (rfl)
@[simp] theorem upO_exc (c : String) (ns : List String) (xs : List D) (s : Sl) (ss : List Sl) (y : Slot) : upO (.exc c ns xs (s :: ss)) i y δ = .exc c ns xs (δ.set i (y.to s)) := (rfl)
def fK (n : String) (tb : List String) (z : Option Slot) (δ : En) : R En (Sl × En) := match z with
  | some y => (match y.sl with
    | some s => (match sFld n tb s with
      | some z => .ok (.d z, δ)
      | none => .stk)
    | none => .stk)
  | none => .stk
def fK' (d : Option D) (δ : En) : R En (Sl × En) := match d with
  | some z => .ok (.d z, δ)
  | none => .stk
@[simp] theorem cFldV_ap (n : String) (tb : List String) : cFldV n tb i δ = fK n tb δ[i]? δ := (rfl)
@[simp] theorem fK_l (n : String) (tb : List String) : fK n tb (some (.loc s)) δ = fK' (sFld n tb s) δ := (rfl)
@[simp] theorem fK_p (n : String) (tb : List String) : fK n tb (some (.par s)) δ = fK' (sFld n tb s) δ := (rfl)
@[simp] theorem fK'_ap (d : D) : fK' (some d) δ = .ok (.d d, δ) := (rfl)
@[simp] theorem seqk_nx : seqk q (.nx, δ) = q δ := (rfl)
@[simp] theorem seqk_rt : seqk q (.rt s, δ) = .ok (.rt s, δ) := (rfl)
@[simp] theorem seqk_bk : seqk q (.bk, δ) = .ok (.bk, δ) := (rfl)
@[simp] theorem seqk_ct : seqk q (.ct, δ) = .ok (.ct, δ) := (rfl)
@[simp] theorem sSeq_ap : sSeq p q δ = (p δ).bind (seqk q) := (rfl)
@[simp] theorem sNx_ap : sNx δ = .ok (.nx, δ) := (rfl)
@[simp] theorem sBk_ap : sBk δ = .ok (.bk, δ) := (rfl)
@[simp] theorem sCt_ap : sCt δ = .ok (.ct, δ) := (rfl)
@[simp] theorem sStk_ap : sStk δ = .stk := (rfl)
def kEx : Sl × En → R En (Fl × En) := fun p => .ok (.nx, p.2)
@[simp] theorem sEx_ap : sEx a δ = (a δ).bind kEx := (rfl)
@[simp] theorem kEx_ap : kEx (s, δ) = .ok (.nx, δ) := (rfl)
def kRt : Sl × En → R En (Fl × En) := fun p => .ok (.rt p.1, p.2)
@[simp] theorem sRt_ap : sRt a δ = (a δ).bind kRt := (rfl)
@[simp] theorem kRt_ap : kRt (s, δ) = .ok (.rt s, δ) := (rfl)
@[simp] theorem sRtN_ap : sRtN δ = .ok (.rt (.d .non), δ) := (rfl)
def rK (z : Option Slot) (i : Nat) (δ : En) : R En (Fl × En) := match z with
  | some (.loc s) => .ok (.rt s, δ.set i .no)
  | some (.par (.d x)) => .ok (.rt (.d x), δ)
  | _ => .stk
@[simp] theorem sRtV_ap : sRtV i δ = rK δ[i]? i δ := (rfl)
@[simp] theorem rK_l : rK (some (.loc s)) i δ = .ok (.rt s, δ.set i .no) := (rfl)
@[simp] theorem rK_p (d : D) : rK (some (.par (.d d))) i δ = .ok (.rt (.d d), δ) := (rfl)
def kSet (i : Nat) : Sl × En → R En (Fl × En) := fun p => stN i p.1 p.2
@[simp] theorem sSet_ap : sSet i a δ = (a δ).bind (kSet i) := (rfl)
@[simp] theorem kSet_ap : kSet i (s, δ) = if i < δ.length then .ok (.nx, δ.set i (.loc s)) else .stk := (rfl)
@[simp] theorem gN_ap (d : D) : gN i d δ = if i < δ.length then .ok (.nx, δ.set i (.loc (.d d))) else .stk := (rfl)
@[simp] theorem gNil_ap : gNil [] δ = .ok (.nx, δ) := (rfl)
@[simp] theorem gCons_ap (g : Gx) (gs : Gxs) (d : D) (l : List D) : gCons g gs (d :: l) δ = (g d δ).bind (seqk (gs l)) := (rfl)
@[simp] theorem gTup_ap (n : Nat) (gs : Gxs) (l : List D) : gTup n gs (.tup l) δ = if l.length = n then gs l δ else .stk := (rfl)
def kAsg (g : Gx) : Sl × En → R En (Fl × En) := fun p => g p.1.fz p.2
@[simp] theorem sAsg_ap (g : Gx) : sAsg g a δ = (a δ).bind (kAsg g) := (rfl)
@[simp] theorem kAsg_ap (g : Gx) : kAsg g (s, δ) = g s.fz δ := (rfl)
@[simp] theorem whk_nx : whk p (.nx, δ) = p δ := (rfl)
@[simp] theorem whk_ct : whk p (.ct, δ) = p δ := (rfl)
@[simp] theorem whk_bk : whk p (.bk, δ) = .ok (.nx, δ) := (rfl)
@[simp] theorem whk_rt : whk p (.rt s, δ) = .ok (.rt s, δ) := (rfl)
def kFor (g : Gx) (b : Sx) : List D × En → R En (Fl × En) := fun p => forL g b p.1 p.2
@[simp] theorem sFor_ap (g : Gx) : sFor g p x δ = (x δ).bind (kFor g p) := (rfl)
@[simp] theorem kFor_ap (g : Gx) (l : List D) : kFor g p (l, δ) = forL g p l δ := (rfl)
@[simp] theorem forL_nil (g : Gx) : forL g p [] δ = .ok (.nx, δ) := (rfl)
def kfT (g : Gx) (b : Sx) (l : List D) : Sx := fun δ1 => (b δ1).bind (whk (forL g b l))
theorem forL_cons (g : Gx) (d : D) (l : List D) : forL g p (d :: l) δ = (g d δ).bind (seqk (kfT g p l)) := (rfl)
@[simp] theorem kfT_ap (g : Gx) (l : List D) : kfT g p l δ = (p δ).bind (whk (forL g p l)) := (rfl)
@[simp] theorem iSeq_ap : iSeq a δ = (a δ).bind mIt := (rfl)
theorem mIt_ap : mIt (s, δ) = match s.fz with
    | .lst xs => .ok (xs, δ)
    | .tup xs => .ok (xs, δ)
    | .rl xs => .ok (xs, δ)
    | _ => .stk := (rfl)
@[simp] theorem mIt_l (l : List D) : mIt (.d (.lst l), δ) = .ok (l, δ) := (rfl)
@[simp] theorem mIt_o (l : List Sl) : mIt (.lst l, δ) = .ok (fzL l, δ) := (rfl)
@[simp] theorem mIt_t (l : List D) : mIt (.d (.tup l), δ) = .ok (l, δ) := (rfl)
@[simp] theorem mIt_r (l : List D) : mIt (.d (.rl l), δ) = .ok (l, δ) := (rfl)
@[simp] theorem iRng_ap : iRng x δ = (x δ).bind mRng := (rfl)
@[simp] theorem iRng2_ap : iRng2 x δ = (x δ).bind mRng2 := (rfl)
@[simp] theorem mRng_ap (n : Int) : mRng ([.int n], δ) = if -4611686018427387904 ≤ n ∧ n < 4611686018427387904 then .ok (rng 0 n.toNat, δ) else .stk := (rfl)
@[simp] theorem mRng2_ap (m n : Int) : mRng2 ([.int m, .int n], δ) = if -4611686018427387904 ≤ m ∧ m < 4611686018427387904 ∧ -4611686018427387904 ≤ n ∧ n < 4611686018427387904 then .ok (rng m (n - m).toNat, δ) else .stk := (rfl)
@[simp] theorem nox_ok (v : α) : nox (R.ok v : R En α) = .ok v := (rfl)
def kLc (vs : List Nat) (g : Gx) (t : Tx) (e : Ex) : List D × En → R En (Sl × En) := fun p => (nox (lcL vs g t e p.1 [] (wipeN vs p.2))).bind fun q => .ok (.lst (q.1.map .d), wipeN vs q.2)
def kLc' (vs : List Nat) : List D × En → R En (Sl × En) := fun q => .ok (.lst (q.1.map .d), wipeN vs q.2)
@[simp] theorem cLc_ap (vs : List Nat) (g : Gx) : cLc vs g t a x δ = (x δ).bind (kLc vs g t a) := (rfl)
@[simp] theorem kLc_ap (vs : List Nat) (g : Gx) (l : List D) : kLc vs g t a (l, δ) = (nox (lcL vs g t a l [] (wipeN vs δ))).bind (kLc' vs) := (rfl)
@[simp] theorem kLc'_ap (vs : List Nat) (l : List D) : kLc' vs (l, δ) = .ok (.lst (l.map .d), wipeN vs δ) := (rfl)
@[simp] theorem tYs_ap : tYs δ = .ok (true, δ) := (rfl)
def kBm (T : String) (f : PM) (a : Ax) : Sl × En → R En (Sl × En) := fun q => if tyD T q.1.fz = true then (a q.2).bind fun p => up (f q.1.fz p.1) p.2 else .stk
def kBm' (f : PM) (d : D) : List D × En → R En (Sl × En) := fun p => up (f d p.1) p.2
@[simp] theorem cBm_ap (T : String) (f : PM) : cBm T f a x δ = (a δ).bind (kBm T f x) := (rfl)
@[simp] theorem kBm_ap (T : String) (f : PM) : kBm T f x (s, δ) = if tyD T s.fz = true then (x δ).bind (kBm' f s.fz) else .stk := (rfl)
@[simp] theorem kBm'_ap (f : PM) (d : D) (l : List D) : kBm' f d (l, δ) = upR (f d l) δ := (rfl)
@[simp] theorem pNo_ap : pNo δ = .ok (none, δ) := (rfl)
@[simp] theorem pSo_ap : pSo a δ = (a δ).bind asP := (rfl)
@[simp] theorem asP_ap (n : Int) : asP (.d (.int n), δ) = .ok (some n, δ) := (rfl)
def k3 (f : D → Option Int → Option Int → RO) (l u : Px) : Sl × En → R En (Sl × En) := fun p => (l p.2).bind fun q => (u q.2).bind fun r => up (f p.1.fz q.1 r.1) r.2
def k3' (f : D → Option Int → Option Int → RO) (d : D) (u : Px) : Option Int × En → R En (Sl × En) := fun q => (u q.2).bind fun r => up (f d q.1 r.1) r.2
def k3'' (f : D → Option Int → Option Int → RO) (d : D) (o : Option Int) : Option Int × En → R En (Sl × En) := fun r => up (f d o r.1) r.2
@[simp] theorem c3_ap (f : D → Option Int → Option Int → RO) (l u : Px) : c3 f a l u δ = (a δ).bind (k3 f l u) := (rfl)
@[simp] theorem k3_ap (f : D → Option Int → Option Int → RO) (l u : Px) : k3 f l u (s, δ) = (l δ).bind (k3' f s.fz u) := (rfl)
@[simp] theorem k3'_ap (f : D → Option Int → Option Int → RO) (d : D) (u : Px) (o : Option Int) : k3' f d u (o, δ) = (u δ).bind (k3'' f d o) := (rfl)
@[simp] theorem k3''_ap (f : D → Option Int → Option Int → RO) (d : D) (o o' : Option Int) : k3'' f d o (o', δ) = upR (f d o o') δ := (rfl)
def kCh (f g : P2) (b c : Ex) : Sl × En → R En (Sl × En) := fun p => (b p.2).bind fun q => match f p.1.fz q.1.fz with
  | .ok (.d (.bl true)) => (c q.2).bind fun r => up (g q.1.fz r.1.fz) r.2
  | .ok (.d (.bl false)) => .ok (.d (.bl false), q.2)
  | .exc c ns xs _ => .exc c ns xs q.2
  | _ => .stk
def kCh2 (g : P2) (e : D) (c : Ex) (δ : En) : RO → R En (Sl × En)
  | .ok (.d (.bl true)) => (c δ).bind fun r => up (g e r.1.fz) r.2
  | .ok (.d (.bl false)) => .ok (.d (.bl false), δ)
  | .exc c ns xs _ => .exc c ns xs δ
  | _ => .stk
def kCh1 (f g : P2) (d : D) (c : Ex) : Sl × En → R En (Sl × En) := fun q => kCh2 g q.1.fz c q.2 (f d q.1.fz)
@[simp] theorem cCh_ap (f g : P2) : cCh f g a b c δ = (a δ).bind (kCh f g b c) := (rfl)
@[simp] theorem kCh_ap (f g : P2) : kCh f g b c (s, δ) = (b δ).bind (kCh1 f g s.fz c) := (rfl)
@[simp] theorem kCh1_ap (f g : P2) (d : D) : kCh1 f g d c (s, δ) = kCh2 g s.fz c δ (f d s.fz) := (rfl)
@[simp] theorem kCh2_t (g : P2) (e : D) : kCh2 g e c δ (.ok (.d (.bl true))) = (c δ).bind (k2' g e) := (rfl)
@[simp] theorem kCh2_f (g : P2) (e : D) : kCh2 g e c δ (.ok (.d (.bl false))) = .ok (.d (.bl false), δ) := (rfl)
theorem kCh2_b (g : P2) (e : D) (k : Bool) : kCh2 g e c δ (.ok (.d (.bl k))) = if k = true then (c δ).bind (k2' g e) else .ok (.d (.bl false), δ) := by cases k <;> exact (rfl)
def kFl (n : String) (tb : List String) (i : Nat) : Sl × En → R En (Fl × En) := fun p => stF n tb i p.1 p.2
@[simp] theorem sFldS_ap (n : String) (tb : List String) : sFldS n tb i a δ = (a δ).bind (kFl n tb i) := (rfl)
def stK (n : String) (tb : List String) (i : Nat) (s : Sl) (z : Option Slot) (δ : En) : R En (Fl × En) := match z with
  | some y => (match y.sl with
    | some (.obj c ns xs) => if c ∈ tb ∧ ns.length < 1000 then .ok (.nx, δ.set i (y.to (.obj c (putN n ns) (putV n s ns xs)))) else .stk
    | _ => .stk)
  | none => .stk
@[simp] theorem kFl_ap (n : String) (tb : List String) : kFl n tb i (s, δ) = stK n tb i s δ[i]? δ := (rfl)
@[simp] theorem stK_l (n : String) (tb : List String) (c : String) (ns : List String) (xs : List Sl) : stK n tb i s (some (.loc (.obj c ns xs))) δ = if c ∈ tb ∧ ns.length < 1000 then .ok (.nx, δ.set i (.loc (.obj c (putN n ns) (putV n s ns xs)))) else .stk := (rfl)
@[simp] theorem stK_p (n : String) (tb : List String) (c : String) (ns : List String) (xs : List Sl) : stK n tb i s (some (.par (.obj c ns xs))) δ = if c ∈ tb ∧ ns.length < 1000 then .ok (.nx, δ.set i (.par (.obj c (putN n ns) (putV n s ns xs)))) else .stk := (rfl)
def kRa (c : String) (ns : List String) : List D × En → R En (Fl × En) := fun p => if ns.length = p.1.length then .exc c ns p.1.reverse p.2 else .stk
@[simp] theorem sRaise_ap (c : String) (ns : List String) : sRaise c ns x δ = (x δ).bind (kRa c ns) := (rfl)
@[simp] theorem kRa_ap (c : String) (ns : List String) (l : List D) : kRa c ns (l, δ) = if ns.length = l.length then .exc c ns l.reverse δ else .stk := (rfl)
def tK (cs : List Cl) : R En (Fl × En) → R En (Fl × En)
  | .exc c ns xs δ1 => pickC cs c ns xs δ1
  | r => r
@[simp] theorem sTry_ap (cs : List Cl) : sTry p cs δ = tK cs (p δ) := (rfl)
@[simp] theorem tK_exc (cs : List Cl) (c : String) (ns : List String) (xs : List D) : tK cs (.exc c ns xs δ) = pickC cs c ns xs δ := (rfl)
@[simp] theorem tK_ok (cs : List Cl) (z : Fl × En) : tK cs (.ok z) = .ok z := (rfl)
def pK (l : Cl) (r : List Cl) (c : String) (ns : List String) (xs : List D) (δ : En) : Option Bool → R En (Fl × En)
  | some true => runC l.slot l.body (.err c ns xs) δ
  | some false => pickC r c ns xs δ
  | none => .stk
@[simp] theorem pickC_nil (c : String) (ns : List String) (xs : List D) : pickC [] c ns xs δ = .exc c ns xs δ := (rfl)
@[simp] theorem pickC_cons (l : Cl) (r : List Cl) (c : String) (ns : List String) (xs : List D) : pickC (l :: r) c ns xs δ = pK l r c ns xs δ (bOf c l.tb) := (rfl)
@[simp] theorem pK_t (l : Cl) (r : List Cl) (c : String) (ns : List String) (xs : List D) : pK l r c ns xs δ (some true) = runC l.slot l.body (.err c ns xs) δ := (rfl)
@[simp] theorem pK_f (l : Cl) (r : List Cl) (c : String) (ns : List String) (xs : List D) : pK l r c ns xs δ (some false) = pickC r c ns xs δ := (rfl)
def kRu (i : Nat) : Fl × En → R En (Fl × En) := fun p => .ok (p.1, p.2.set i .no)
@[simp] theorem runC_n (d : D) : runC none p d δ = nox (p δ) := (rfl)
@[simp] theorem runC_s (d : D) : runC (some i) p d δ = if i < δ.length then (nox (p (δ.set i (.loc (.d d))))).bind (kRu i) else .stk := (rfl)
@[simp] theorem kRu_ap (f : Fl) : kRu i (f, δ) = .ok (f, δ.set i .no) := (rfl)
def kJs (cs : List Ex) (acc : Str) : Sl × En → R En (Sl × En) := fun p => match p.1.fz with
    | .str x => if acc.length + x.length ≤ 16777216 then jsL cs (acc ++ x) p.2 else .stk
    | _ => .stk
@[simp] theorem jsL_nil (acc : Str) : jsL [] acc δ = .ok (.d (.str acc), δ) := (rfl)
@[simp] theorem jsL_cons (cs : List Ex) (acc : Str) : jsL (a :: cs) acc δ = (a δ).bind (kJs cs acc) := (rfl)
@[simp] theorem kJs_ap (cs : List Ex) (acc z : Str) : kJs cs acc (.d (.str z), δ) = if acc.length + z.length ≤ 16777216 then jsL cs (acc ++ z) δ else .stk := (rfl)
def apK (z : Option (List Sl)) (i : Nat) (x : Ax) (δ : En) : R En (Sl × En) := match z with
  | some _ => (x δ).bind fun p => match p.1, lsV i p.2 with
    | [y], some xs => if xs.length < 16777216 then .ok (.d .non, toV i (.lst (xs ++ [.d y])) p.2) else .stk
    | _, _ => .stk
  | none => .stk
def apL (i : Nat) : List D × En → R En (Sl × En) := fun p => match p.1, lsV i p.2 with
    | [y], some xs => if xs.length < 16777216 then .ok (.d .non, toV i (.lst (xs ++ [.d y])) p.2) else .stk
    | _, _ => .stk
def apM (z : Option (List Sl)) (i : Nat) (d : D) (δ : En) : R En (Sl × En) := match z with
  | some xs => if xs.length < 16777216 then .ok (.d .non, toV i (.lst (xs ++ [.d d])) δ) else .stk
  | none => .stk
@[simp] theorem cApp_ap : cApp i x δ = apK (lsV i δ) i x δ := (rfl)
@[simp] theorem apK_ap (l : List Sl) : apK (some l) i x δ = (x δ).bind (apL i) := (rfl)
@[simp] theorem apL_ap (d : D) : apL i ([d], δ) = apM (lsV i δ) i d δ := by unfold apL apM; dsimp only; cases lsV i δ <;> exact (rfl)
@[simp] theorem apM_ap (l : List Sl) (d : D) : apM (some l) i d δ = if l.length < 16777216 then .ok (.d .non, toV i (.lst (l ++ [.d d])) δ) else .stk := (rfl)
def ixK (z : Option (List Sl)) (i : Nat) (b : Ex) (δ : En) : R En (Sl × En) := match z with
  | some _ => (b δ).bind fun p => match lsV i p.2 with
    | some xs => (match sIx (.lst xs) p.1.fz with
      | some z => .ok (.d z, p.2)
      | none => .stk)
    | none => .stk
  | none => c2 mIx (cV i) b δ
def ixL (i : Nat) : Sl × En → R En (Sl × En) := fun p => match lsV i p.2 with
    | some xs => (match sIx (.lst xs) p.1.fz with
      | some z => .ok (.d z, p.2)
      | none => .stk)
    | none => .stk
def ixM (z : Option (List Sl)) (d : D) (δ : En) : R En (Sl × En) := match z with
  | some xs => fK' (sIx (.lst xs) d) δ
  | none => .stk
@[simp] theorem cIxV_ap : cIxV i b δ = ixK (lsV i δ) i b δ := (rfl)
@[simp] theorem ixK_s (l : List Sl) : ixK (some l) i b δ = (b δ).bind (ixL i) := (rfl)
@[simp] theorem ixK_n : ixK none i b δ = c2 mIx (cV i) b δ := (rfl)
@[simp] theorem ixL_ap : ixL i (s, δ) = ixM (lsV i δ) s.fz δ := (rfl)
@[simp] theorem ixM_ap (l : List Sl) (d : D) : ixM (some l) d δ = fK' (sIx (.lst l) d) δ := (rfl)
def siK (i : Nat) (b : Ex) : Sl × En → R En (Fl × En) := fun p => match lsV i p.2 with
  | some _ => (b p.2).bind fun q => match lsV i q.2, asI q.1.fz with
    | some xs, some k => (match ixN xs.length k with
      | some j => .ok (.nx, toV i (.lst (xs.set j (.d p.1.fz))) q.2)
      | none => .stk)
    | _, _ => .stk
  | none => .stk
def siL (z : Option (List Sl)) (i : Nat) (b : Ex) (d : D) (δ : En) : R En (Fl × En) := match z with
  | some _ => (b δ).bind fun q => match lsV i q.2, asI q.1.fz with
    | some xs, some k => (match ixN xs.length k with
      | some j => .ok (.nx, toV i (.lst (xs.set j (.d d))) q.2)
      | none => .stk)
    | _, _ => .stk
  | none => .stk
def siM (i : Nat) (d : D) : Sl × En → R En (Fl × En) := fun q => match lsV i q.2, asI q.1.fz with
    | some xs, some k => (match ixN xs.length k with
      | some j => .ok (.nx, toV i (.lst (xs.set j (.d d))) q.2)
      | none => .stk)
    | _, _ => .stk
def siN (z : Option (List Sl)) (i : Nat) (d : D) (k : Int) (δ : En) : R En (Fl × En) := match z with
  | some xs => (match ixN xs.length k with
      | some j => .ok (.nx, toV i (.lst (xs.set j (.d d))) δ)
      | none => .stk)
  | none => .stk
@[simp] theorem sSetI_ap : sSetI i b a δ = (a δ).bind (siK i b) := (rfl)
@[simp] theorem siK_ap : siK i b (s, δ) = siL (lsV i δ) i b s.fz δ := (rfl)
@[simp] theorem siL_ap (l : List Sl) (d : D) : siL (some l) i b d δ = (b δ).bind (siM i d) := (rfl)
@[simp] theorem siM_ap (d : D) (k : Int) : siM i d (.d (.int k), δ) = siN (lsV i δ) i d k δ := by
  unfold siM siN
  dsimp only [Sl.fz, asI]
  cases lsV i δ <;> exact (rfl)
@[simp] theorem siN_ap (l : List Sl) (d : D) (k : Int) : siN (some l) i d k δ = match ixN l.length k with
      | some j => .ok (.nx, toV i (.lst (l.set j (.d d))) δ)
      | none => .stk := (rfl)
def lnK (z : Option (List Sl)) (i : Nat) (δ : En) : R En (Sl × En) := match z with
  | some xs => .ok (.d (.int xs.length), δ)
  | none => cA bLen (aC (cV i) aN) δ
@[simp] theorem cLenV_ap : cLenV i δ = lnK (lsV i δ) i δ := (rfl)
@[simp] theorem lnK_s (l : List Sl) : lnK (some l) i δ = .ok (.d (.int l.length), δ) := (rfl)
@[simp] theorem lnK_n : lnK none i δ = cA bLen (aC (cV i) aN) δ := (rfl)
def auK (i : Nat) (f : P2) (b : Ex) : Sl × En → R En (Fl × En) := fun p => (b p.2).bind fun q => (up (f p.1.fz q.1.fz) q.2).bind fun r => stN i r.1 r.2
def auL (i : Nat) (f : P2) (d : D) : Sl × En → R En (Fl × En) := fun q => (up (f d q.1.fz) q.2).bind (kSet i)
@[simp] theorem sAug_ap (f : P2) : sAug i f a δ = (cV i δ).bind (auK i f a) := (rfl)
@[simp] theorem auK_ap (f : P2) : auK i f a (s, δ) = (a δ).bind (auL i f s.fz) := (rfl)
@[simp high] theorem auL_d (f : P2) (d e : D) : auL i f d (.d e, δ) = (upR (f d e) δ).bind (kSet i) := (rfl)
@[simp low] theorem auL_ap (f : P2) (d : D) : auL i f d (s, δ) = (upR (f d s.fz) δ).bind (kSet i) := (rfl)
@[simp] theorem iTxt_ap : iTxt a δ = (a δ).bind mItS := (rfl)
@[simp] theorem mItS_ap (z : Str) : mItS (.d (.str z), δ) = .ok (sgs z, δ) := (rfl)
theorem mkFn_ap (np n : Nat) (ss : List Sl) (h : ss.length = np) : mkFn np n p ss = endS ss (p (ss.map Slot.par ++ List.replicate (n - np) Slot.no)) := if_pos h
@[simp] theorem endS_nx (ss : List Sl) : endS ss (.ok (.nx, δ)) = finS ss (.d .non) δ := (rfl)
@[simp] theorem endS_rt (ss : List Sl) : endS ss (.ok (.rt s, δ)) = finS ss s δ := (rfl)
def fiS (r : Sl) : Option (List Sl) → R (List Sl) (Sl × List Sl)
  | some ss => .ok (r, ss)
  | none => .stk
def fiX (c : String) (ns : List String) (xs : List D) : Option (List Sl) → R (List Sl) (Sl × List Sl)
  | some ss => .exc c ns xs ss
  | none => .stk
@[simp] theorem finS_ap (ss : List Sl) (r : Sl) : finS ss r δ = fiS r (backS ss δ) := by cases h : backS ss δ <;> simp only [finS, fiS, h]
@[simp] theorem endS_exc (ss : List Sl) (c : String) (ns : List String) (xs : List D) : endS ss (.exc c ns xs δ) = fiX c ns xs (backS ss δ) := by cases h : backS ss δ <;> simp only [endS, fiX, h]
@[simp] theorem fiS_ap (r : Sl) (l : List Sl) : fiS r (some l) = .ok (r, l) := (rfl)
@[simp] theorem fiX_ap (c : String) (ns : List String) (xs : List D) (l : List Sl) : fiX c ns xs (some l) = .exc c ns xs l := (rfl)
/-! ### ops -/
@[simp] theorem dEq_int (i j : Int) : dEq (.int i) (.int j) = okS (.bl (decide (i = j))) := by
  unfold dEq
  simp only [D.plain, D.py, and_self, if_true]
  rfl
@[simp] theorem dNe_int (i j : Int) : dNe (.int i) (.int j) = okS (.bl (!decide (i = j))) := by
  unfold dNe
  simp only [D.plain, D.py, and_self, if_true]
  rfl
theorem dEq_of {d e : D} (h : d.plain 60 = true) (h' : e.plain 60 = true) : dEq d e = okS (.bl (PyData.eqv d.py e.py)) := if_pos ⟨h, h'⟩
theorem dNe_of {d e : D} (h : d.plain 60 = true) (h' : e.plain 60 = true) : dNe d e = okS (.bl (!PyData.eqv d.py e.py)) := if_pos ⟨h, h'⟩
@[simp] theorem p2or_ok (f g : P2) (d e : D) (r : Sl) (h : f d e = .ok r) : P2.or f g d e = .ok r := by unfold P2.or; rw [h]
@[simp] theorem p2or_stk (f g : P2) (d e : D) (h : f d e = .stk) : P2.or f g d e = g d e := by unfold P2.or; rw [h]
@[simp] theorem mAdd_int (i j : Int) : mAdd (.int i) (.int j) = okS (.int (i + j)) := (rfl)
@[simp] theorem mMul_int (i j : Int) (h : okMul i j) : mMul (.int i) (.int j) = okS (.int (i * j)) := by
  unfold mMul P2.or
  simp only [iMul, if_pos h]
  rfl
end
end Fx
namespace Fx
open PySem PySem.Spec PyProof.Rows L2 L2H
/-! ### the text's defs -/
def top (i : Nat) : Stmt := PySem.Challenge.pw_rodwebs_k01_fractions.main.body.getD i (.Pass ⟨0, 0, 0, 0⟩)
def clsBody : Stmt → List Stmt
  | .ClassDef _ _ _ b _ _ _ _ _ _ _ => b
  | _ => []
def mth (i j : Nat) : Stmt := (clsBody (top i)).getD j (.Pass ⟨0, 0, 0, 0⟩)
abbrev st_law : Stmt := top 36
def df_law : Df := ⟨fun K => He.ga K "law", "law", "law", defArgs st_law, defBody st_law, defScope st_law, [], []⟩
theorem sc_law : FnScope (["_law_script", "_law_pool_here", "_law_case", "_law_a", "_law_b", "_law_c", "_law_d", "_law_n", "_law_s", "_law_p", "_law_q", "_law_x", "_law_y", "_law_few", "_law_mode", "_law_place"] : List Str) (["_law_script"] : List Str) (defScope st_law) := ⟨rfl, rfl, rfl, by decide +kernel, rfl, by decide +kernel, by decide +kernel⟩
abbrev st__law_is : Stmt := top 23
def df__law_is : Df := ⟨fun K => He.ga K "_law_is", "_law_is", "_law_is", defArgs st__law_is, defBody st__law_is, defScope st__law_is, [], []⟩
theorem sc__law_is : FnScope (["_law_x", "_law_due"] : List Str) (["_law_x", "_law_due"] : List Str) (defScope st__law_is) := ⟨rfl, rfl, rfl, by decide +kernel, rfl, by decide +kernel, by decide +kernel⟩
abbrev st__law_int : Stmt := top 22
def df__law_int : Df := ⟨fun K => He.ga K "_law_int", "_law_int", "_law_int", defArgs st__law_int, defBody st__law_int, defScope st__law_int, [], []⟩
theorem sc__law_int : FnScope (["_law_x"] : List Str) (["_law_x"] : List Str) (defScope st__law_int) := ⟨rfl, rfl, rfl, by decide +kernel, rfl, by decide +kernel, by decide +kernel⟩
abbrev st_Frac___eq__ : Stmt := mth 9 19
def df_Frac___eq__ : Df := ⟨adM "Frac" "__eq__", "__eq__", "Frac.__eq__", defArgs st_Frac___eq__, defBody st_Frac___eq__, defScope st_Frac___eq__, [], []⟩
theorem sc_Frac___eq__ : FnScope (["self", "other"] : List Str) (["self", "other"] : List Str) (defScope st_Frac___eq__) := ⟨rfl, rfl, rfl, by decide +kernel, rfl, by decide +kernel, by decide +kernel⟩
abbrev st__law_texts : Stmt := top 35
def df__law_texts : Df := ⟨fun K => He.ga K "_law_texts", "_law_texts", "_law_texts", defArgs st__law_texts, defBody st__law_texts, defScope st__law_texts, [], []⟩
theorem sc__law_texts : FnScope (["_law_x", "_law_p", "_law_mode", "_law_place", "_law_text", "_law_got", "_law_nines", "_law_most", "_law_good", "_law_bad", "_law_a", "_law_b"] : List Str) (["_law_x", "_law_p", "_law_mode", "_law_place"] : List Str) (defScope st__law_texts) := ⟨rfl, rfl, rfl, by decide +kernel, rfl, by decide +kernel, by decide +kernel⟩
abbrev st__law_told : Stmt := top 30
def df__law_told : Df := ⟨fun K => He.ga K "_law_told", "_law_told", "_law_told", defArgs st__law_told, defBody st__law_told, defScope st__law_told, [], []⟩
theorem sc__law_told : FnScope (["_law_what", "_law_one", "_law_two", "_law_got", "_law_e"] : List Str) (["_law_what", "_law_one", "_law_two"] : List Str) (defScope st__law_told) := ⟨rfl, rfl, rfl, by decide +kernel, rfl, by decide +kernel, by decide +kernel⟩
abbrev st_Frac___str__ : Stmt := mth 9 24
def df_Frac___str__ : Df := ⟨adM "Frac" "__str__", "__str__", "Frac.__str__", defArgs st_Frac___str__, defBody st_Frac___str__, defScope st_Frac___str__, [], []⟩
theorem sc_Frac___str__ : FnScope (["self"] : List Str) (["self"] : List Str) (defScope st_Frac___str__) := ⟨rfl, rfl, rfl, by decide +kernel, rfl, by decide +kernel, by decide +kernel⟩
abbrev st_Frac___init__ : Stmt := mth 9 1
def df_Frac___init__ : Df := ⟨adM "Frac" "__init__", "__init__", "Frac.__init__", defArgs st_Frac___init__, defBody st_Frac___init__, defScope st_Frac___init__, [.int 0, .int 1], []⟩
theorem sc_Frac___init__ : FnScope (["self", "num", "den", "shared"] : List Str) (["self", "num", "den"] : List Str) (defScope st_Frac___init__) := ⟨rfl, rfl, rfl, by decide +kernel, rfl, by decide +kernel, by decide +kernel⟩
abbrev st_Frac___floordiv__ : Stmt := mth 9 11
def df_Frac___floordiv__ : Df := ⟨adM "Frac" "__floordiv__", "__floordiv__", "Frac.__floordiv__", defArgs st_Frac___floordiv__, defBody st_Frac___floordiv__, defScope st_Frac___floordiv__, [], []⟩
theorem sc_Frac___floordiv__ : FnScope (["self", "other"] : List Str) (["self", "other"] : List Str) (defScope st_Frac___floordiv__) := ⟨rfl, rfl, rfl, by decide +kernel, rfl, by decide +kernel, by decide +kernel⟩
abbrev st__floored : Stmt := top 11
def df__floored : Df := ⟨fun K => He.ga K "_floored", "_floored", "_floored", defArgs st__floored, defBody st__floored, defScope st__floored, [], []⟩
theorem sc__floored : FnScope (["num", "den"] : List Str) (["num", "den"] : List Str) (defScope st__floored) := ⟨rfl, rfl, rfl, by decide +kernel, rfl, by decide +kernel, by decide +kernel⟩
abbrev st_Frac___rfloordiv__ : Stmt := mth 9 12
def df_Frac___rfloordiv__ : Df := ⟨adM "Frac" "__rfloordiv__", "__rfloordiv__", "Frac.__rfloordiv__", defArgs st_Frac___rfloordiv__, defBody st_Frac___rfloordiv__, defScope st_Frac___rfloordiv__, [], []⟩
theorem sc_Frac___rfloordiv__ : FnScope (["self", "other"] : List Str) (["self", "other"] : List Str) (defScope st_Frac___rfloordiv__) := ⟨rfl, rfl, rfl, by decide +kernel, rfl, by decide +kernel, by decide +kernel⟩
abbrev st_Frac___mod__ : Stmt := mth 9 13
def df_Frac___mod__ : Df := ⟨adM "Frac" "__mod__", "__mod__", "Frac.__mod__", defArgs st_Frac___mod__, defBody st_Frac___mod__, defScope st_Frac___mod__, [], []⟩
theorem sc_Frac___mod__ : FnScope (["self", "other"] : List Str) (["self", "other"] : List Str) (defScope st_Frac___mod__) := ⟨rfl, rfl, rfl, by decide +kernel, rfl, by decide +kernel, by decide +kernel⟩
abbrev st_Frac___sub__ : Stmt := mth 9 7
def df_Frac___sub__ : Df := ⟨adM "Frac" "__sub__", "__sub__", "Frac.__sub__", defArgs st_Frac___sub__, defBody st_Frac___sub__, defScope st_Frac___sub__, [], []⟩
theorem sc_Frac___sub__ : FnScope (["self", "other"] : List Str) (["self", "other"] : List Str) (defScope st_Frac___sub__) := ⟨rfl, rfl, rfl, by decide +kernel, rfl, by decide +kernel, by decide +kernel⟩
abbrev st_Frac___rsub__ : Stmt := mth 9 8
def df_Frac___rsub__ : Df := ⟨adM "Frac" "__rsub__", "__rsub__", "Frac.__rsub__", defArgs st_Frac___rsub__, defBody st_Frac___rsub__, defScope st_Frac___rsub__, [], []⟩
theorem sc_Frac___rsub__ : FnScope (["self", "other"] : List Str) (["self", "other"] : List Str) (defScope st_Frac___rsub__) := ⟨rfl, rfl, rfl, by decide +kernel, rfl, by decide +kernel, by decide +kernel⟩
abbrev st_Frac___mul__ : Stmt := mth 9 9
def df_Frac___mul__ : Df := ⟨adM "Frac" "__mul__", "__mul__", "Frac.__mul__", defArgs st_Frac___mul__, defBody st_Frac___mul__, defScope st_Frac___mul__, [], []⟩
theorem sc_Frac___mul__ : FnScope (["self", "other"] : List Str) (["self", "other"] : List Str) (defScope st_Frac___mul__) := ⟨rfl, rfl, rfl, by decide +kernel, rfl, by decide +kernel, by decide +kernel⟩
abbrev st_Frac___rmul__ : Stmt := mth 9 10
def df_Frac___rmul__ : Df := ⟨adM "Frac" "__rmul__", "__rmul__", "Frac.__rmul__", defArgs st_Frac___rmul__, defBody st_Frac___rmul__, defScope st_Frac___rmul__, [], []⟩
theorem sc_Frac___rmul__ : FnScope (["self", "other"] : List Str) (["self", "other"] : List Str) (defScope st_Frac___rmul__) := ⟨rfl, rfl, rfl, by decide +kernel, rfl, by decide +kernel, by decide +kernel⟩
abbrev st_Frac___rmod__ : Stmt := mth 9 14
def df_Frac___rmod__ : Df := ⟨adM "Frac" "__rmod__", "__rmod__", "Frac.__rmod__", defArgs st_Frac___rmod__, defBody st_Frac___rmod__, defScope st_Frac___rmod__, [], []⟩
theorem sc_Frac___rmod__ : FnScope (["self", "other"] : List Str) (["self", "other"] : List Str) (defScope st_Frac___rmod__) := ⟨rfl, rfl, rfl, by decide +kernel, rfl, by decide +kernel, by decide +kernel⟩
abbrev st_Frac_over : Stmt := mth 9 4
def df_Frac_over : Df := ⟨adM "Frac" "over", "over", "Frac.over", defArgs st_Frac_over, defBody st_Frac_over, defScope st_Frac_over, [], []⟩
theorem sc_Frac_over : FnScope (["self", "other", "divisor"] : List Str) (["self", "other"] : List Str) (defScope st_Frac_over) := ⟨rfl, rfl, rfl, by decide +kernel, rfl, by decide +kernel, by decide +kernel⟩
abbrev st_frac_of : Stmt := top 12
def df_frac_of : Df := ⟨fun K => He.ga K "frac_of", "frac_of", "frac_of", defArgs st_frac_of, defBody st_frac_of, defScope st_frac_of, [], []⟩
theorem sc_frac_of : FnScope (["value"] : List Str) (["value"] : List Str) (defScope st_frac_of) := ⟨rfl, rfl, rfl, by decide +kernel, rfl, by decide +kernel, by decide +kernel⟩
abbrev st_Frac_read : Stmt := mth 9 2
def df_Frac_read : Df := ⟨adS "Frac" "read", "read", "Frac.read", defArgs st_Frac_read, defBody st_Frac_read, defScope st_Frac_read, [], []⟩
theorem sc_Frac_read : FnScope (["text", "top", "slash", "bottom", "den", "found"] : List Str) (["text"] : List Str) (defScope st_Frac_read) := ⟨rfl, rfl, rfl, by decide +kernel, rfl, by decide +kernel, by decide +kernel⟩
abbrev st_BadText___init__ : Stmt := mth 4 0
def df_BadText___init__ : Df := ⟨adM "BadText" "__init__", "__init__", "BadText.__init__", defArgs st_BadText___init__, defBody st_BadText___init__, defScope st_BadText___init__, [], []⟩
theorem sc_BadText___init__ : FnScope (["self", "text"] : List Str) (["self", "text"] : List Str) (defScope st_BadText___init__) := ⟨rfl, rfl, rfl, by decide +kernel, rfl, by decide +kernel, by decide +kernel⟩
abbrev st__has_digits : Stmt := top 10
def df__has_digits : Df := ⟨fun K => He.ga K "_has_digits", "_has_digits", "_has_digits", defArgs st__has_digits, defBody st__has_digits, defScope st__has_digits, [], []⟩
theorem sc__has_digits : FnScope (["text", "sign"] : List Str) (["text"] : List Str) (defScope st__has_digits) := ⟨rfl, rfl, rfl, by decide +kernel, rfl, by decide +kernel, by decide +kernel⟩
abbrev st__law_sort : Stmt := top 29
def df__law_sort : Df := ⟨fun K => He.ga K "_law_sort", "_law_sort", "_law_sort", defArgs st__law_sort, defBody st__law_sort, defScope st__law_sort, [], []⟩
theorem sc__law_sort : FnScope (["_law_e"] : List Str) (["_law_e"] : List Str) (defScope st__law_sort) := ⟨rfl, rfl, rfl, by decide +kernel, rfl, by decide +kernel, by decide +kernel⟩
abbrev st_Frac___add__ : Stmt := mth 9 5
def df_Frac___add__ : Df := ⟨adM "Frac" "__add__", "__add__", "Frac.__add__", defArgs st_Frac___add__, defBody st_Frac___add__, defScope st_Frac___add__, [], []⟩
theorem sc_Frac___add__ : FnScope (["self", "other"] : List Str) (["self", "other"] : List Str) (defScope st_Frac___add__) := ⟨rfl, rfl, rfl, by decide +kernel, rfl, by decide +kernel, by decide +kernel⟩
abbrev st_Frac___radd__ : Stmt := mth 9 6
def df_Frac___radd__ : Df := ⟨adM "Frac" "__radd__", "__radd__", "Frac.__radd__", defArgs st_Frac___radd__, defBody st_Frac___radd__, defScope st_Frac___radd__, [], []⟩
theorem sc_Frac___radd__ : FnScope (["self", "other"] : List Str) (["self", "other"] : List Str) (defScope st_Frac___radd__) := ⟨rfl, rfl, rfl, by decide +kernel, rfl, by decide +kernel, by decide +kernel⟩
abbrev st__law_spoilt : Stmt := top 34
def df__law_spoilt : Df := ⟨fun K => He.ga K "_law_spoilt", "_law_spoilt", "_law_spoilt", defArgs st__law_spoilt, defBody st__law_spoilt, defScope st__law_spoilt, [], []⟩
theorem sc__law_spoilt : FnScope (["_law_p", "_law_mode", "_law_place", "_law_text", "_law_top_here"] : List Str) (["_law_p", "_law_mode", "_law_place"] : List Str) (defScope st__law_spoilt) := ⟨rfl, rfl, rfl, by decide +kernel, rfl, by decide +kernel, by decide +kernel⟩
abbrev st__law_put : Stmt := top 33
def df__law_put : Df := ⟨fun K => He.ga K "_law_put", "_law_put", "_law_put", defArgs st__law_put, defBody st__law_put, defScope st__law_put, [], []⟩
theorem sc__law_put : FnScope (["_law_text", "_law_place", "_law_sign"] : List Str) (["_law_text", "_law_place", "_law_sign"] : List Str) (defScope st__law_put) := ⟨rfl, rfl, rfl, by decide +kernel, rfl, by decide +kernel, by decide +kernel⟩
abbrev st__law_written : Stmt := top 32
def df__law_written : Df := ⟨fun K => He.ga K "_law_written", "_law_written", "_law_written", defArgs st__law_written, defBody st__law_written, defScope st__law_written, [], []⟩
theorem sc__law_written : FnScope (["_law_p"] : List Str) (["_law_p"] : List Str) (defScope st__law_written) := ⟨rfl, rfl, rfl, by decide +kernel, rfl, by decide +kernel, by decide +kernel⟩
abbrev st_Frac___pow__ : Stmt := mth 9 15
def df_Frac___pow__ : Df := ⟨adM "Frac" "__pow__", "__pow__", "Frac.__pow__", defArgs st_Frac___pow__, defBody st_Frac___pow__, defScope st_Frac___pow__, [], []⟩
theorem sc_Frac___pow__ : FnScope (["self", "other", "num", "den", "_"] : List Str) (["self", "other"] : List Str) (defScope st_Frac___pow__) := ⟨rfl, rfl, rfl, by decide +kernel, rfl, by decide +kernel, by decide +kernel⟩
abbrev st_BadCount___init__ : Stmt := mth 5 0
def df_BadCount___init__ : Df := ⟨adM "BadCount" "__init__", "__init__", "BadCount.__init__", defArgs st_BadCount___init__, defBody st_BadCount___init__, defScope st_BadCount___init__, [], []⟩
theorem sc_BadCount___init__ : FnScope (["self", "count"] : List Str) (["self", "count"] : List Str) (defScope st_BadCount___init__) := ⟨rfl, rfl, rfl, by decide +kernel, rfl, by decide +kernel, by decide +kernel⟩
abbrev st_Frac___neg__ : Stmt := mth 9 16
def df_Frac___neg__ : Df := ⟨adM "Frac" "__neg__", "__neg__", "Frac.__neg__", defArgs st_Frac___neg__, defBody st_Frac___neg__, defScope st_Frac___neg__, [], []⟩
theorem sc_Frac___neg__ : FnScope (["self"] : List Str) (["self"] : List Str) (defScope st_Frac___neg__) := ⟨rfl, rfl, rfl, by decide +kernel, rfl, by decide +kernel, by decide +kernel⟩
abbrev st__law_pick : Stmt := top 15
def df__law_pick : Df := ⟨fun K => He.ga K "_law_pick", "_law_pick", "_law_pick", defArgs st__law_pick, defBody st__law_pick, defScope st__law_pick, [], []⟩
theorem sc__law_pick : FnScope (["_law_pool_here", "_law_many", "_law_digit"] : List Str) (["_law_pool_here", "_law_many"] : List Str) (defScope st__law_pick) := ⟨rfl, rfl, rfl, by decide +kernel, rfl, by decide +kernel, by decide +kernel⟩
abbrev st__law_zeros : Stmt := top 31
def df__law_zeros : Df := ⟨fun K => He.ga K "_law_zeros", "_law_zeros", "_law_zeros", defArgs st__law_zeros, defBody st__law_zeros, defScope st__law_zeros, [], []⟩
theorem sc__law_zeros : FnScope (["_law_x", "_law_n", "_law_none", "_law_rows", "_law_due", "_law_what", "_law_one", "_law_two"] : List Str) (["_law_x", "_law_n"] : List Str) (defScope st__law_zeros) := ⟨rfl, rfl, rfl, by decide +kernel, rfl, by decide +kernel, by decide +kernel⟩
abbrev st_Frac___bool__ : Stmt := mth 9 18
def df_Frac___bool__ : Df := ⟨adM "Frac" "__bool__", "__bool__", "Frac.__bool__", defArgs st_Frac___bool__, defBody st_Frac___bool__, defScope st_Frac___bool__, [], []⟩
theorem sc_Frac___bool__ : FnScope (["self"] : List Str) (["self"] : List Str) (defScope st_Frac___bool__) := ⟨rfl, rfl, rfl, by decide +kernel, rfl, by decide +kernel, by decide +kernel⟩
abbrev st__law_order : Stmt := top 28
def df__law_order : Df := ⟨fun K => He.ga K "_law_order", "_law_order", "_law_order", defArgs st__law_order, defBody st__law_order, defScope st__law_order, [], []⟩
theorem sc__law_order : FnScope (["_law_one", "_law_two", "_law_p", "_law_q", "_law_c", "_law_got", "_law_same"] : List Str) (["_law_one", "_law_two", "_law_p", "_law_q"] : List Str) (defScope st__law_order) := ⟨rfl, rfl, rfl, by decide +kernel, rfl, by decide +kernel, by decide +kernel⟩
abbrev st_Frac___ge__ : Stmt := mth 9 23
def df_Frac___ge__ : Df := ⟨adM "Frac" "__ge__", "__ge__", "Frac.__ge__", defArgs st_Frac___ge__, defBody st_Frac___ge__, defScope st_Frac___ge__, [], []⟩
theorem sc_Frac___ge__ : FnScope (["self", "other"] : List Str) (["self", "other"] : List Str) (defScope st_Frac___ge__) := ⟨rfl, rfl, rfl, by decide +kernel, rfl, by decide +kernel, by decide +kernel⟩
abbrev st_Frac___le__ : Stmt := mth 9 21
def df_Frac___le__ : Df := ⟨adM "Frac" "__le__", "__le__", "Frac.__le__", defArgs st_Frac___le__, defBody st_Frac___le__, defScope st_Frac___le__, [], []⟩
theorem sc_Frac___le__ : FnScope (["self", "other"] : List Str) (["self", "other"] : List Str) (defScope st_Frac___le__) := ⟨rfl, rfl, rfl, by decide +kernel, rfl, by decide +kernel, by decide +kernel⟩
abbrev st_Frac___gt__ : Stmt := mth 9 22
def df_Frac___gt__ : Df := ⟨adM "Frac" "__gt__", "__gt__", "Frac.__gt__", defArgs st_Frac___gt__, defBody st_Frac___gt__, defScope st_Frac___gt__, [], []⟩
theorem sc_Frac___gt__ : FnScope (["self", "other"] : List Str) (["self", "other"] : List Str) (defScope st_Frac___gt__) := ⟨rfl, rfl, rfl, by decide +kernel, rfl, by decide +kernel, by decide +kernel⟩
abbrev st_Frac___lt__ : Stmt := mth 9 20
def df_Frac___lt__ : Df := ⟨adM "Frac" "__lt__", "__lt__", "Frac.__lt__", defArgs st_Frac___lt__, defBody st_Frac___lt__, defScope st_Frac___lt__, [], []⟩
theorem sc_Frac___lt__ : FnScope (["self", "other"] : List Str) (["self", "other"] : List Str) (defScope st_Frac___lt__) := ⟨rfl, rfl, rfl, by decide +kernel, rfl, by decide +kernel, by decide +kernel⟩
abbrev st__law_power : Stmt := top 21
def df__law_power : Df := ⟨fun K => He.ga K "_law_power", "_law_power", "_law_power", defArgs st__law_power, defBody st__law_power, defScope st__law_power, [], []⟩
theorem sc__law_power : FnScope (["_law_p", "_law_k", "_law_top_here", "_law_bottom", "_law_j"] : List Str) (["_law_p", "_law_k"] : List Str) (defScope st__law_power) := ⟨rfl, rfl, rfl, by decide +kernel, rfl, by decide +kernel, by decide +kernel⟩
abbrev st__law_divided : Stmt := top 27
def df__law_divided : Df := ⟨fun K => He.ga K "_law_divided", "_law_divided", "_law_divided", defArgs st__law_divided, defBody st__law_divided, defScope st__law_divided, [], []⟩
theorem sc__law_divided : FnScope (["_law_x", "_law_y", "_law_n", "_law_p", "_law_q", "_law_m"] : List Str) (["_law_x", "_law_y", "_law_n", "_law_p", "_law_q"] : List Str) (defScope st__law_divided) := ⟨rfl, rfl, rfl, by decide +kernel, rfl, by decide +kernel, by decide +kernel⟩
abbrev st__law_floors : Stmt := top 26
def df__law_floors : Df := ⟨fun K => He.ga K "_law_floors", "_law_floors", "_law_floors", defArgs st__law_floors, defBody st__law_floors, defScope st__law_floors, [], []⟩
theorem sc__law_floors : FnScope (["_law_one", "_law_two", "_law_p", "_law_q", "_law_exact", "_law_floor", "_law_rest", "_law_got"] : List Str) (["_law_one", "_law_two", "_law_p", "_law_q"] : List Str) (defScope st__law_floors) := ⟨rfl, rfl, rfl, by decide +kernel, rfl, by decide +kernel, by decide +kernel⟩
abbrev st__law_sum : Stmt := top 19
def df__law_sum : Df := ⟨fun K => He.ga K "_law_sum", "_law_sum", "_law_sum", defArgs st__law_sum, defBody st__law_sum, defScope st__law_sum, [], []⟩
theorem sc__law_sum : FnScope (["_law_p", "_law_q", "_law_sign"] : List Str) (["_law_p", "_law_q", "_law_sign"] : List Str) (defScope st__law_sum) := ⟨rfl, rfl, rfl, by decide +kernel, rfl, by decide +kernel, by decide +kernel⟩
abbrev st__law_low : Stmt := top 18
def df__law_low : Df := ⟨fun K => He.ga K "_law_low", "_law_low", "_law_low", defArgs st__law_low, defBody st__law_low, defScope st__law_low, [], []⟩
theorem sc__law_low : FnScope (["_law_top_here", "_law_bottom", "_law_a", "_law_b", "_law_c"] : List Str) (["_law_top_here", "_law_bottom"] : List Str) (defScope st__law_low) := ⟨rfl, rfl, rfl, by decide +kernel, rfl, by decide +kernel, by decide +kernel⟩
abbrev st__law_powers : Stmt := top 25
def df__law_powers : Df := ⟨fun K => He.ga K "_law_powers", "_law_powers", "_law_powers", defArgs st__law_powers, defBody st__law_powers, defScope st__law_powers, [], []⟩
theorem sc__law_powers : FnScope (["_law_x", "_law_p", "_law_rows", "_law_a", "_law_k"] : List Str) (["_law_x", "_law_p"] : List Str) (defScope st__law_powers) := ⟨rfl, rfl, rfl, by decide +kernel, rfl, by decide +kernel, by decide +kernel⟩
abbrev st__law_sums : Stmt := top 24
def df__law_sums : Df := ⟨fun K => He.ga K "_law_sums", "_law_sums", "_law_sums", defArgs st__law_sums, defBody st__law_sums, defScope st__law_sums, [], []⟩
theorem sc__law_sums : FnScope (["_law_x", "_law_y", "_law_n", "_law_p", "_law_q", "_law_m", "_law_z", "_law_w", "_law_rows", "_law_a", "_law_b"] : List Str) (["_law_x", "_law_y", "_law_n", "_law_p", "_law_q"] : List Str) (defScope st__law_sums) := ⟨rfl, rfl, rfl, by decide +kernel, rfl, by decide +kernel, by decide +kernel⟩
abbrev st_Frac___abs__ : Stmt := mth 9 17
def df_Frac___abs__ : Df := ⟨adM "Frac" "__abs__", "__abs__", "Frac.__abs__", defArgs st_Frac___abs__, defBody st_Frac___abs__, defScope st_Frac___abs__, [], []⟩
theorem sc_Frac___abs__ : FnScope (["self"] : List Str) (["self"] : List Str) (defScope st_Frac___abs__) := ⟨rfl, rfl, rfl, by decide +kernel, rfl, by decide +kernel, by decide +kernel⟩
abbrev st__law_times : Stmt := top 20
def df__law_times : Df := ⟨fun K => He.ga K "_law_times", "_law_times", "_law_times", defArgs st__law_times, defBody st__law_times, defScope st__law_times, [], []⟩
theorem sc__law_times : FnScope (["_law_p", "_law_q"] : List Str) (["_law_p", "_law_q"] : List Str) (defScope st__law_times) := ⟨rfl, rfl, rfl, by decide +kernel, rfl, by decide +kernel, by decide +kernel⟩
abbrev st_Frac_of : Stmt := mth 9 3
def df_Frac_of : Df := ⟨adS "Frac" "of", "of", "Frac.of", defArgs st_Frac_of, defBody st_Frac_of, defScope st_Frac_of, [], []⟩
theorem sc_Frac_of : FnScope (["value"] : List Str) (["value"] : List Str) (defScope st_Frac_of) := ⟨rfl, rfl, rfl, by decide +kernel, rfl, by decide +kernel, by decide +kernel⟩
abbrev st__law_top : Stmt := top 17
def df__law_top : Df := ⟨fun K => He.ga K "_law_top", "_law_top", "_law_top", defArgs st__law_top, defBody st__law_top, defScope st__law_top, [], []⟩
theorem sc__law_top : FnScope (["_law_pool_here"] : List Str) (["_law_pool_here"] : List Str) (defScope st__law_top) := ⟨rfl, rfl, rfl, by decide +kernel, rfl, by decide +kernel, by decide +kernel⟩
abbrev st__law_size : Stmt := top 16
def df__law_size : Df := ⟨fun K => He.ga K "_law_size", "_law_size", "_law_size", defArgs st__law_size, defBody st__law_size, defScope st__law_size, [], []⟩
theorem sc__law_size : FnScope (["_law_pool_here", "_law_mode"] : List Str) (["_law_pool_here"] : List Str) (defScope st__law_size) := ⟨rfl, rfl, rfl, by decide +kernel, rfl, by decide +kernel, by decide +kernel⟩
abbrev st__law_pool : Stmt := top 14
def df__law_pool : Df := ⟨fun K => He.ga K "_law_pool", "_law_pool", "_law_pool", defArgs st__law_pool, defBody st__law_pool, defScope st__law_pool, [], []⟩
theorem sc__law_pool : FnScope (["_law_script", "_law_cells", "_law_x"] : List Str) (["_law_script"] : List Str) (defScope st__law_pool) := ⟨rfl, rfl, rfl, by decide +kernel, rfl, by decide +kernel, by decide +kernel⟩
def ti_bool : List (Ty × Bool) := [(.b "bool", true), (.b "int", false), (.b "str", false), (.o "Frac", false)]
def ti_int : List (Ty × Bool) := [(.b "bool", true), (.b "int", true), (.b "str", false), (.o "Frac", false)]
def ti_Frac : List (Ty × Bool) := [(.b "bool", false), (.b "int", false), (.b "str", false), (.o "Frac", true)]
def ti_Frac_int : List (Ty × Bool) := [(.b "bool", true), (.b "int", true), (.b "str", false), (.o "Frac", true)]
def tx_BadText : List (String × Bool) := [("DivisionByZero", false), ("BadText", true), ("BadCount", false)]
def ti_Mismatch : List (Ty × Bool) := [(.x "DivisionByZero", false), (.x "BadText", false), (.x "BadCount", false)]
def ti_BadCount : List (Ty × Bool) := [(.x "DivisionByZero", false), (.x "BadText", false), (.x "BadCount", true)]
def ti_BadText : List (Ty × Bool) := [(.x "DivisionByZero", false), (.x "BadText", true), (.x "BadCount", false)]
def ti_DivisionByZero : List (Ty × Bool) := [(.x "DivisionByZero", true), (.x "BadText", false), (.x "BadCount", false)]
def ti_ValueError : List (Ty × Bool) := [(.x "DivisionByZero", true), (.x "BadText", true), (.x "BadCount", true)]
def ti_WebError : List (Ty × Bool) := [(.x "DivisionByZero", true), (.x "BadText", true), (.x "BadCount", true)]
def tx_DivisionByZero : List (String × Bool) := [("DivisionByZero", true), ("BadText", false), ("BadCount", false)]
def ti_str : List (Ty × Bool) := [(.b "bool", false), (.b "int", false), (.b "str", true), (.o "Frac", false)]
def fn : List Df := [df_law, df__law_is, df__law_int, df_Frac___eq__, df__law_texts, df__law_told, df_Frac___str__, df_Frac___init__, df_Frac___floordiv__, df__floored, df_Frac___rfloordiv__, df_Frac___mod__, df_Frac___sub__, df_Frac___rsub__, df_Frac___mul__, df_Frac___rmul__, df_Frac___rmod__, df_Frac_over, df_frac_of, df_Frac_read, df_BadText___init__, df__has_digits, df__law_sort, df_Frac___add__, df_Frac___radd__, df__law_spoilt, df__law_put, df__law_written, df_Frac___pow__, df_BadCount___init__, df_Frac___neg__, df__law_pick, df__law_zeros, df_Frac___bool__, df__law_order, df_Frac___ge__, df_Frac___le__, df_Frac___gt__, df_Frac___lt__, df__law_power, df__law_divided, df__law_floors, df__law_sum, df__law_low, df__law_powers, df__law_sums, df_Frac___abs__, df__law_times, df_Frac_of, df__law_top, df__law_size, df__law_pool]
def fs : List Fc := [bCls "Frac",
  bNoat "Frac" "den",
  bNoat "Frac" "num",
  bIsG "Frac",
  bFree "bool",
  bKit ti_bool (fun K => .type "bool"),
  bFree "isinstance",
  bFree "int",
  bKit ti_int (fun K => .type "int"),
  bGlo "_law_int",
  bGlo "Frac",
  bKit ti_Frac (fun K => .ref (He.ga K "Frac")),
  bGlo "_law_is",
  bRead "Frac",
  bCvI "Frac" "MOST_DIGITS" 60,
  bMeth "Frac" "__eq__",
  bNi "Frac",
  bOwnN "Frac",
  bFree "str",
  bMeth "Frac" "__str__",
  bBlt "gcd" "math.gcd",
  bGlo "DivisionByZero",
  bExG "DivisionByZero",
  bMkr "Frac",
  bGlo "_floored",
  bMeth "Frac" "__floordiv__",
  bMeth "Frac" "__rfloordiv__",
  bOwnL "Frac" "floordiv",
  bOwnR "Frac" "floordiv",
  bKita ti_Frac_int (fun K => [.ref (He.ga K "Frac"), .type "int"]),
  bMeth "Frac" "__sub__",
  bMeth "Frac" "__rsub__",
  bOwnL "Frac" "sub",
  bOwnR "Frac" "sub",
  bMeth "Frac" "__mul__",
  bMeth "Frac" "__rmul__",
  bOwnL "Frac" "mul",
  bOwnR "Frac" "mul",
  bMeth "Frac" "__mod__",
  bMeth "Frac" "__rmod__",
  bOwnL "Frac" "mod",
  bOwnR "Frac" "mod",
  bGlo "frac_of",
  bMeth "Frac" "over",
  bNoat "BadText" "text",
  bOex "BadText",
  bGlo "BadText",
  bXin "BadText",
  bStrG "DIGITS" "0123456789",
  bFree "all",
  bFree "len",
  bGlo "_has_digits",
  bStat "Frac" "read",
  bExm tx_BadText (fun K => .ref (He.ga K "BadText")),
  bIx "BadText",
  bIx "BadCount",
  bIx "DivisionByZero",
  bGlo "Mismatch",
  bKit ti_Mismatch (fun K => .ref (He.ga K "Mismatch")),
  bGlo "BadCount",
  bKit ti_BadCount (fun K => .ref (He.ga K "BadCount")),
  bKit ti_BadText (fun K => .ref (He.ga K "BadText")),
  bKit ti_DivisionByZero (fun K => .ref (He.ga K "DivisionByZero")),
  bFree "ValueError",
  bKit ti_ValueError (fun K => .type "ValueError"),
  bGlo "WebError",
  bKit ti_WebError (fun K => .ref (He.ga K "WebError")),
  bGlo "_law_sort",
  bExm tx_DivisionByZero (fun K => .ref (He.ga K "DivisionByZero")),
  bGlo "_law_told",
  bMeth "Frac" "__add__",
  bMeth "Frac" "__radd__",
  bOwnL "Frac" "add",
  bOwnR "Frac" "add",
  bGlo "_law_put",
  bGlo "_law_written",
  bGlo "_law_spoilt",
  bFree "range",
  bNoat "BadCount" "count",
  bOex "BadCount",
  bXin "BadCount",
  bMeth "Frac" "__pow__",
  bOwnL "Frac" "pow",
  bMeth "Frac" "__neg__",
  bKit ti_str (fun K => .type "str"),
  bGlo "_law_texts",
  bGlo "_law_pick",
  bGlo "_law_zeros",
  bMeth "Frac" "__bool__",
  bMeth "Frac" "__ge__",
  bMeth "Frac" "__le__",
  bMeth "Frac" "__gt__",
  bMeth "Frac" "__lt__",
  bGlo "_law_order",
  bGlo "_law_power",
  bFree "abs",
  bGlo "_law_low",
  bGlo "_law_sum",
  bGlo "_law_floors",
  bGlo "_law_divided",
  bGlo "_law_powers",
  bMeth "Frac" "__abs__",
  bGlo "_law_times",
  bStat "Frac" "of",
  bNoInp "Frac" "add",
  bGlo "_law_sums",
  bGlo "_law_size",
  bGlo "_law_top",
  bGlo "_law_pool",
  bGlo "law"]
section
variable {P : Program} {w : World} {K : Fg} {mg : Str → Option Value} {base : Heap}
theorem fc_0 (S : Sy fs fn K mg base) : (bCls "Frac") K = true := S.c.fact 0 (f := bCls "Frac") rfl
theorem fc_1 (S : Sy fs fn K mg base) : (bNoat "Frac" "den") K = true := S.c.fact 1 (f := bNoat "Frac" "den") rfl
theorem fc_2 (S : Sy fs fn K mg base) : (bNoat "Frac" "num") K = true := S.c.fact 2 (f := bNoat "Frac" "num") rfl
theorem fc_3 (S : Sy fs fn K mg base) : (bIsG "Frac") K = true := S.c.fact 3 (f := bIsG "Frac") rfl
theorem fc_4 (S : Sy fs fn K mg base) : (bFree "bool") K = true := S.c.fact 4 (f := bFree "bool") rfl
theorem fc_5 (S : Sy fs fn K mg base) : (bKit ti_bool (fun K => .type "bool")) K = true := S.c.fact 5 (f := bKit ti_bool (fun K => .type "bool")) rfl
theorem fc_6 (S : Sy fs fn K mg base) : (bFree "isinstance") K = true := S.c.fact 6 (f := bFree "isinstance") rfl
theorem fc_7 (S : Sy fs fn K mg base) : (bFree "int") K = true := S.c.fact 7 (f := bFree "int") rfl
theorem fc_8 (S : Sy fs fn K mg base) : (bKit ti_int (fun K => .type "int")) K = true := S.c.fact 8 (f := bKit ti_int (fun K => .type "int")) rfl
theorem fc_9 (S : Sy fs fn K mg base) : (bGlo "_law_int") K = true := S.c.fact 9 (f := bGlo "_law_int") rfl
theorem fc_10 (S : Sy fs fn K mg base) : (bGlo "Frac") K = true := S.c.fact 10 (f := bGlo "Frac") rfl
theorem fc_11 (S : Sy fs fn K mg base) : (bKit ti_Frac (fun K => .ref (He.ga K "Frac"))) K = true := S.c.fact 11 (f := bKit ti_Frac (fun K => .ref (He.ga K "Frac"))) rfl
theorem fc_12 (S : Sy fs fn K mg base) : (bGlo "_law_is") K = true := S.c.fact 12 (f := bGlo "_law_is") rfl
theorem fc_13 (S : Sy fs fn K mg base) : (bRead "Frac") K = true := S.c.fact 13 (f := bRead "Frac") rfl
theorem fc_14 (S : Sy fs fn K mg base) : (bCvI "Frac" "MOST_DIGITS" 60) K = true := S.c.fact 14 (f := bCvI "Frac" "MOST_DIGITS" 60) rfl
theorem fc_15 (S : Sy fs fn K mg base) : (bMeth "Frac" "__eq__") K = true := S.c.fact 15 (f := bMeth "Frac" "__eq__") rfl
theorem fc_16 (S : Sy fs fn K mg base) : (bNi "Frac") K = true := S.c.fact 16 (f := bNi "Frac") rfl
theorem fc_17 (S : Sy fs fn K mg base) : (bOwnN "Frac") K = true := S.c.fact 17 (f := bOwnN "Frac") rfl
theorem fc_18 (S : Sy fs fn K mg base) : (bFree "str") K = true := S.c.fact 18 (f := bFree "str") rfl
theorem fc_19 (S : Sy fs fn K mg base) : (bMeth "Frac" "__str__") K = true := S.c.fact 19 (f := bMeth "Frac" "__str__") rfl
theorem fc_20 (S : Sy fs fn K mg base) : (bBlt "gcd" "math.gcd") K = true := S.c.fact 20 (f := bBlt "gcd" "math.gcd") rfl
theorem fc_21 (S : Sy fs fn K mg base) : (bGlo "DivisionByZero") K = true := S.c.fact 21 (f := bGlo "DivisionByZero") rfl
theorem fc_22 (S : Sy fs fn K mg base) : (bExG "DivisionByZero") K = true := S.c.fact 22 (f := bExG "DivisionByZero") rfl
theorem fc_23 (S : Sy fs fn K mg base) : (bMkr "Frac") K = true := S.c.fact 23 (f := bMkr "Frac") rfl
theorem fc_24 (S : Sy fs fn K mg base) : (bGlo "_floored") K = true := S.c.fact 24 (f := bGlo "_floored") rfl
theorem fc_25 (S : Sy fs fn K mg base) : (bMeth "Frac" "__floordiv__") K = true := S.c.fact 25 (f := bMeth "Frac" "__floordiv__") rfl
theorem fc_26 (S : Sy fs fn K mg base) : (bMeth "Frac" "__rfloordiv__") K = true := S.c.fact 26 (f := bMeth "Frac" "__rfloordiv__") rfl
theorem fc_27 (S : Sy fs fn K mg base) : (bOwnL "Frac" "floordiv") K = true := S.c.fact 27 (f := bOwnL "Frac" "floordiv") rfl
theorem fc_28 (S : Sy fs fn K mg base) : (bOwnR "Frac" "floordiv") K = true := S.c.fact 28 (f := bOwnR "Frac" "floordiv") rfl
theorem fc_29 (S : Sy fs fn K mg base) : (bKita ti_Frac_int (fun K => [.ref (He.ga K "Frac"), .type "int"])) K = true := S.c.fact 29 (f := bKita ti_Frac_int (fun K => [.ref (He.ga K "Frac"), .type "int"])) rfl
theorem fc_30 (S : Sy fs fn K mg base) : (bMeth "Frac" "__sub__") K = true := S.c.fact 30 (f := bMeth "Frac" "__sub__") rfl
theorem fc_31 (S : Sy fs fn K mg base) : (bMeth "Frac" "__rsub__") K = true := S.c.fact 31 (f := bMeth "Frac" "__rsub__") rfl
theorem fc_32 (S : Sy fs fn K mg base) : (bOwnL "Frac" "sub") K = true := S.c.fact 32 (f := bOwnL "Frac" "sub") rfl
theorem fc_33 (S : Sy fs fn K mg base) : (bOwnR "Frac" "sub") K = true := S.c.fact 33 (f := bOwnR "Frac" "sub") rfl
theorem fc_34 (S : Sy fs fn K mg base) : (bMeth "Frac" "__mul__") K = true := S.c.fact 34 (f := bMeth "Frac" "__mul__") rfl
theorem fc_35 (S : Sy fs fn K mg base) : (bMeth "Frac" "__rmul__") K = true := S.c.fact 35 (f := bMeth "Frac" "__rmul__") rfl
theorem fc_36 (S : Sy fs fn K mg base) : (bOwnL "Frac" "mul") K = true := S.c.fact 36 (f := bOwnL "Frac" "mul") rfl
theorem fc_37 (S : Sy fs fn K mg base) : (bOwnR "Frac" "mul") K = true := S.c.fact 37 (f := bOwnR "Frac" "mul") rfl
theorem fc_38 (S : Sy fs fn K mg base) : (bMeth "Frac" "__mod__") K = true := S.c.fact 38 (f := bMeth "Frac" "__mod__") rfl
theorem fc_39 (S : Sy fs fn K mg base) : (bMeth "Frac" "__rmod__") K = true := S.c.fact 39 (f := bMeth "Frac" "__rmod__") rfl
theorem fc_40 (S : Sy fs fn K mg base) : (bOwnL "Frac" "mod") K = true := S.c.fact 40 (f := bOwnL "Frac" "mod") rfl
theorem fc_41 (S : Sy fs fn K mg base) : (bOwnR "Frac" "mod") K = true := S.c.fact 41 (f := bOwnR "Frac" "mod") rfl
theorem fc_42 (S : Sy fs fn K mg base) : (bGlo "frac_of") K = true := S.c.fact 42 (f := bGlo "frac_of") rfl
theorem fc_43 (S : Sy fs fn K mg base) : (bMeth "Frac" "over") K = true := S.c.fact 43 (f := bMeth "Frac" "over") rfl
theorem fc_44 (S : Sy fs fn K mg base) : (bNoat "BadText" "text") K = true := S.c.fact 44 (f := bNoat "BadText" "text") rfl
theorem fc_45 (S : Sy fs fn K mg base) : (bOex "BadText") K = true := S.c.fact 45 (f := bOex "BadText") rfl
theorem fc_46 (S : Sy fs fn K mg base) : (bGlo "BadText") K = true := S.c.fact 46 (f := bGlo "BadText") rfl
theorem fc_47 (S : Sy fs fn K mg base) : (bXin "BadText") K = true := S.c.fact 47 (f := bXin "BadText") rfl
theorem fc_48 (S : Sy fs fn K mg base) : (bStrG "DIGITS" "0123456789") K = true := S.c.fact 48 (f := bStrG "DIGITS" "0123456789") rfl
theorem fc_49 (S : Sy fs fn K mg base) : (bFree "all") K = true := S.c.fact 49 (f := bFree "all") rfl
theorem fc_50 (S : Sy fs fn K mg base) : (bFree "len") K = true := S.c.fact 50 (f := bFree "len") rfl
theorem fc_51 (S : Sy fs fn K mg base) : (bGlo "_has_digits") K = true := S.c.fact 51 (f := bGlo "_has_digits") rfl
theorem fc_52 (S : Sy fs fn K mg base) : (bStat "Frac" "read") K = true := S.c.fact 52 (f := bStat "Frac" "read") rfl
theorem fc_53 (S : Sy fs fn K mg base) : (bExm tx_BadText (fun K => .ref (He.ga K "BadText"))) K = true := S.c.fact 53 (f := bExm tx_BadText (fun K => .ref (He.ga K "BadText"))) rfl
theorem fc_54 (S : Sy fs fn K mg base) : (bIx "BadText") K = true := S.c.fact 54 (f := bIx "BadText") rfl
theorem fc_55 (S : Sy fs fn K mg base) : (bIx "BadCount") K = true := S.c.fact 55 (f := bIx "BadCount") rfl
theorem fc_56 (S : Sy fs fn K mg base) : (bIx "DivisionByZero") K = true := S.c.fact 56 (f := bIx "DivisionByZero") rfl
theorem fc_57 (S : Sy fs fn K mg base) : (bGlo "Mismatch") K = true := S.c.fact 57 (f := bGlo "Mismatch") rfl
theorem fc_58 (S : Sy fs fn K mg base) : (bKit ti_Mismatch (fun K => .ref (He.ga K "Mismatch"))) K = true := S.c.fact 58 (f := bKit ti_Mismatch (fun K => .ref (He.ga K "Mismatch"))) rfl
theorem fc_59 (S : Sy fs fn K mg base) : (bGlo "BadCount") K = true := S.c.fact 59 (f := bGlo "BadCount") rfl
theorem fc_60 (S : Sy fs fn K mg base) : (bKit ti_BadCount (fun K => .ref (He.ga K "BadCount"))) K = true := S.c.fact 60 (f := bKit ti_BadCount (fun K => .ref (He.ga K "BadCount"))) rfl
theorem fc_61 (S : Sy fs fn K mg base) : (bKit ti_BadText (fun K => .ref (He.ga K "BadText"))) K = true := S.c.fact 61 (f := bKit ti_BadText (fun K => .ref (He.ga K "BadText"))) rfl
theorem fc_62 (S : Sy fs fn K mg base) : (bKit ti_DivisionByZero (fun K => .ref (He.ga K "DivisionByZero"))) K = true := S.c.fact 62 (f := bKit ti_DivisionByZero (fun K => .ref (He.ga K "DivisionByZero"))) rfl
theorem fc_63 (S : Sy fs fn K mg base) : (bFree "ValueError") K = true := S.c.fact 63 (f := bFree "ValueError") rfl
theorem fc_64 (S : Sy fs fn K mg base) : (bKit ti_ValueError (fun K => .type "ValueError")) K = true := S.c.fact 64 (f := bKit ti_ValueError (fun K => .type "ValueError")) rfl
theorem fc_65 (S : Sy fs fn K mg base) : (bGlo "WebError") K = true := S.c.fact 65 (f := bGlo "WebError") rfl
theorem fc_66 (S : Sy fs fn K mg base) : (bKit ti_WebError (fun K => .ref (He.ga K "WebError"))) K = true := S.c.fact 66 (f := bKit ti_WebError (fun K => .ref (He.ga K "WebError"))) rfl
theorem fc_67 (S : Sy fs fn K mg base) : (bGlo "_law_sort") K = true := S.c.fact 67 (f := bGlo "_law_sort") rfl
theorem fc_68 (S : Sy fs fn K mg base) : (bExm tx_DivisionByZero (fun K => .ref (He.ga K "DivisionByZero"))) K = true := S.c.fact 68 (f := bExm tx_DivisionByZero (fun K => .ref (He.ga K "DivisionByZero"))) rfl
theorem fc_69 (S : Sy fs fn K mg base) : (bGlo "_law_told") K = true := S.c.fact 69 (f := bGlo "_law_told") rfl
theorem fc_70 (S : Sy fs fn K mg base) : (bMeth "Frac" "__add__") K = true := S.c.fact 70 (f := bMeth "Frac" "__add__") rfl
theorem fc_71 (S : Sy fs fn K mg base) : (bMeth "Frac" "__radd__") K = true := S.c.fact 71 (f := bMeth "Frac" "__radd__") rfl
theorem fc_72 (S : Sy fs fn K mg base) : (bOwnL "Frac" "add") K = true := S.c.fact 72 (f := bOwnL "Frac" "add") rfl
theorem fc_73 (S : Sy fs fn K mg base) : (bOwnR "Frac" "add") K = true := S.c.fact 73 (f := bOwnR "Frac" "add") rfl
theorem fc_74 (S : Sy fs fn K mg base) : (bGlo "_law_put") K = true := S.c.fact 74 (f := bGlo "_law_put") rfl
theorem fc_75 (S : Sy fs fn K mg base) : (bGlo "_law_written") K = true := S.c.fact 75 (f := bGlo "_law_written") rfl
theorem fc_76 (S : Sy fs fn K mg base) : (bGlo "_law_spoilt") K = true := S.c.fact 76 (f := bGlo "_law_spoilt") rfl
theorem fc_77 (S : Sy fs fn K mg base) : (bFree "range") K = true := S.c.fact 77 (f := bFree "range") rfl
theorem fc_78 (S : Sy fs fn K mg base) : (bNoat "BadCount" "count") K = true := S.c.fact 78 (f := bNoat "BadCount" "count") rfl
theorem fc_79 (S : Sy fs fn K mg base) : (bOex "BadCount") K = true := S.c.fact 79 (f := bOex "BadCount") rfl
theorem fc_80 (S : Sy fs fn K mg base) : (bXin "BadCount") K = true := S.c.fact 80 (f := bXin "BadCount") rfl
theorem fc_81 (S : Sy fs fn K mg base) : (bMeth "Frac" "__pow__") K = true := S.c.fact 81 (f := bMeth "Frac" "__pow__") rfl
theorem fc_82 (S : Sy fs fn K mg base) : (bOwnL "Frac" "pow") K = true := S.c.fact 82 (f := bOwnL "Frac" "pow") rfl
theorem fc_83 (S : Sy fs fn K mg base) : (bMeth "Frac" "__neg__") K = true := S.c.fact 83 (f := bMeth "Frac" "__neg__") rfl
theorem fc_84 (S : Sy fs fn K mg base) : (bKit ti_str (fun K => .type "str")) K = true := S.c.fact 84 (f := bKit ti_str (fun K => .type "str")) rfl
theorem fc_85 (S : Sy fs fn K mg base) : (bGlo "_law_texts") K = true := S.c.fact 85 (f := bGlo "_law_texts") rfl
theorem fc_86 (S : Sy fs fn K mg base) : (bGlo "_law_pick") K = true := S.c.fact 86 (f := bGlo "_law_pick") rfl
theorem fc_87 (S : Sy fs fn K mg base) : (bGlo "_law_zeros") K = true := S.c.fact 87 (f := bGlo "_law_zeros") rfl
theorem fc_88 (S : Sy fs fn K mg base) : (bMeth "Frac" "__bool__") K = true := S.c.fact 88 (f := bMeth "Frac" "__bool__") rfl
theorem fc_89 (S : Sy fs fn K mg base) : (bMeth "Frac" "__ge__") K = true := S.c.fact 89 (f := bMeth "Frac" "__ge__") rfl
theorem fc_90 (S : Sy fs fn K mg base) : (bMeth "Frac" "__le__") K = true := S.c.fact 90 (f := bMeth "Frac" "__le__") rfl
theorem fc_91 (S : Sy fs fn K mg base) : (bMeth "Frac" "__gt__") K = true := S.c.fact 91 (f := bMeth "Frac" "__gt__") rfl
theorem fc_92 (S : Sy fs fn K mg base) : (bMeth "Frac" "__lt__") K = true := S.c.fact 92 (f := bMeth "Frac" "__lt__") rfl
theorem fc_93 (S : Sy fs fn K mg base) : (bGlo "_law_order") K = true := S.c.fact 93 (f := bGlo "_law_order") rfl
theorem fc_94 (S : Sy fs fn K mg base) : (bGlo "_law_power") K = true := S.c.fact 94 (f := bGlo "_law_power") rfl
theorem fc_95 (S : Sy fs fn K mg base) : (bFree "abs") K = true := S.c.fact 95 (f := bFree "abs") rfl
theorem fc_96 (S : Sy fs fn K mg base) : (bGlo "_law_low") K = true := S.c.fact 96 (f := bGlo "_law_low") rfl
theorem fc_97 (S : Sy fs fn K mg base) : (bGlo "_law_sum") K = true := S.c.fact 97 (f := bGlo "_law_sum") rfl
theorem fc_98 (S : Sy fs fn K mg base) : (bGlo "_law_floors") K = true := S.c.fact 98 (f := bGlo "_law_floors") rfl
theorem fc_99 (S : Sy fs fn K mg base) : (bGlo "_law_divided") K = true := S.c.fact 99 (f := bGlo "_law_divided") rfl
theorem fc_100 (S : Sy fs fn K mg base) : (bGlo "_law_powers") K = true := S.c.fact 100 (f := bGlo "_law_powers") rfl
theorem fc_101 (S : Sy fs fn K mg base) : (bMeth "Frac" "__abs__") K = true := S.c.fact 101 (f := bMeth "Frac" "__abs__") rfl
theorem fc_102 (S : Sy fs fn K mg base) : (bGlo "_law_times") K = true := S.c.fact 102 (f := bGlo "_law_times") rfl
theorem fc_103 (S : Sy fs fn K mg base) : (bStat "Frac" "of") K = true := S.c.fact 103 (f := bStat "Frac" "of") rfl
theorem fc_104 (S : Sy fs fn K mg base) : (bNoInp "Frac" "add") K = true := S.c.fact 104 (f := bNoInp "Frac" "add") rfl
theorem fc_105 (S : Sy fs fn K mg base) : (bGlo "_law_sums") K = true := S.c.fact 105 (f := bGlo "_law_sums") rfl
theorem fc_106 (S : Sy fs fn K mg base) : (bGlo "_law_size") K = true := S.c.fact 106 (f := bGlo "_law_size") rfl
theorem fc_107 (S : Sy fs fn K mg base) : (bGlo "_law_top") K = true := S.c.fact 107 (f := bGlo "_law_top") rfl
theorem fc_108 (S : Sy fs fn K mg base) : (bGlo "_law_pool") K = true := S.c.fact 108 (f := bGlo "_law_pool") rfl
theorem fc_109 (S : Sy fs fn K mg base) : (bGlo "law") K = true := S.c.fact 109 (f := bGlo "law") rfl
end
end Fx
set_option maxHeartbeats 400000
set_option profiler true
set_option profiler.threshold 1500
namespace Fx
open PySem PySem.Spec PyProof.Rows L2 L2H
section
variable {P : Program} {w : World} {K : Fg} {mg : Str → Option Value} {base : Heap}
theorem hi_ti_bool (S : Sy fs fn K mg base) : ∀ c b, (Ty.o c, b) ∈ ti_bool → IsG K c := hi_of ["Frac"] (allC (isG_ok (fc_0 S) (fc_3 S)) allN)
theorem hx_ti_bool (S : Sy fs fn K mg base) : ∀ c b, (Ty.x c, b) ∈ ti_bool → IxG K c := hx_of [] allN
theorem hk_ti_bool (S : Sy fs fn K mg base) : ∀ q ∈ ti_bool, PySem.W.kitOne K (q.1.val K) (.type "bool") = some q.2 := kit_ok (cu := fun K => .type "bool") (fc_5 S)
theorem hi_ti_int (S : Sy fs fn K mg base) : ∀ c b, (Ty.o c, b) ∈ ti_int → IsG K c := hi_of ["Frac"] (allC (isG_ok (fc_0 S) (fc_3 S)) allN)
theorem hx_ti_int (S : Sy fs fn K mg base) : ∀ c b, (Ty.x c, b) ∈ ti_int → IxG K c := hx_of [] allN
theorem hk_ti_int (S : Sy fs fn K mg base) : ∀ q ∈ ti_int, PySem.W.kitOne K (q.1.val K) (.type "int") = some q.2 := kit_ok (cu := fun K => .type "int") (fc_8 S)
noncomputable def b__law_int : Sx := (sRt (cAn (c1 (mIsi ti_int) (cV 0)) (cNo (c1 (mIsi ti_bool) (cV 0)))))
noncomputable def m__law_int : Fn := mkFn 1 1 b__law_int
end
end Fx
namespace Fx
open PySem PySem.Spec PyProof.Rows L2 L2H
section
variable {P : Program} {w : World} {K : Fg} {mg : Str → Option Value} {base : Heap}
theorem ok__law_int (S : Sy fs fn K mg base) {f : Addr} {fd : FuncData} {dvs : List V} {kws : List (Str × V)} (G : FunD K "_law_int" "_law_int" (defArgs st__law_int) (defBody st__law_int) (defScope st__law_int) dvs kws f fd) : FnOk P w K mg base (L2.CX P w) 1 f fd (["_law_x"] : List Str) (spF K m__law_int) := by
  have h := fn_ok (P := P) (w := w) (mg := mg) (base := base) (body := b__law_int) G sc__law_int (k := 0) (fun cdv A outer s H E hr => by
    have tk := tk_cx (P := P) (w := w) (K := K) (mg := mg) (base := base) (N := (["_law_x"] : List Str)) (qual := "_law_int") (scope := defScope st__law_int) (f := f) (cd := cdv) (A := A) (outer := outer) (s := s) (H := H) (E := E)
    have hp := po_cx (P := P) (w := w) (K := K) (mg := mg) (base := base) (N := (["_law_x"] : List Str)) (qual := "_law_int") (scope := defScope st__law_int) (f := f) (cd := cdv) (A := A) (outer := outer) (s := s) (H := H) (E := E)
    exact (by exact ss_one (by exact s_ret (by exact e_and (by exact e_isi (by exact e_var rfl (Or.inl rfl)) (pe_bltn rfl (He.free_ok S.ki S.ns (fc_7 S)) PyProof.Rows.Boot.«int» (show RelV (.ty "int") (.type "int") from rfl)) (.ty "int") (hk_ti_int S) (hi_ti_int S) (hx_ti_int S) rfl (He.free_ok S.ki S.ns (fc_6 S))) (by exact e_one (by exact e_not (by exact e_isi (by exact e_var rfl (Or.inl rfl)) (pe_bltn rfl (He.free_ok S.ki S.ns (fc_4 S)) PyProof.Rows.Boot.«bool» (show RelV (.ty "bool") (.type "bool") from rfl)) (.ty "bool") (hk_ti_bool S) (hi_ti_bool S) (hx_ti_bool S) rfl (He.free_ok S.ki S.ns (fc_6 S)))))))))
  exact h
theorem g__law_int (S : Sy fs fn K mg base) : FnG P w K mg base "_law_int" 1 m__law_int [] := by
  obtain ⟨fd, G⟩ := S.c.def_ 2 (d := df__law_int) rfl
  exact ⟨⟨_, fd, _, [], [], ok__law_int S G, (He.glo_ok S.ki S.ns (fc_9 S)), G.kp, (FunD.bindsN (ps := (["_law_x"] : List Str)) G fun _ _ _ _ _ _ us hl => match us, hl with | [_], _ => rfl), .nil, rp0⟩⟩
theorem hi_ti_Frac (S : Sy fs fn K mg base) : ∀ c b, (Ty.o c, b) ∈ ti_Frac → IsG K c := hi_of ["Frac"] (allC (isG_ok (fc_0 S) (fc_3 S)) allN)
theorem hx_ti_Frac (S : Sy fs fn K mg base) : ∀ c b, (Ty.x c, b) ∈ ti_Frac → IxG K c := hx_of [] allN
theorem hk_ti_Frac (S : Sy fs fn K mg base) : ∀ q ∈ ti_Frac, PySem.W.kitOne K (q.1.val K) (.ref (He.ga K "Frac")) = some q.2 := kit_ok (cu := fun K => .ref (He.ga K "Frac")) (fc_11 S)
noncomputable def b__law_is : Sx := (sSeq (sIf (tOr' (tNo (cB (c1 (mIsi ti_Frac) (cV 0)))) (tOr' (tNo (cB (cCall m__law_int [] (aC (cFldV "num" ["Frac"] 0) aN)))) (tNo (cB (cCall m__law_int [] (aC (cFldV "den" ["Frac"] 0) aN)))))) (sRt (cC (.bl false))) sNx) (sRt (c2 dEq (cA mTup (aC (cFldV "num" ["Frac"] 0) (aC (cFldV "den" ["Frac"] 0) aN))) (cV 1))))
noncomputable def m__law_is : Fn := mkFn 2 2 b__law_is
theorem ok__law_is (S : Sy fs fn K mg base) {f : Addr} {fd : FuncData} {dvs : List V} {kws : List (Str × V)} (G : FunD K "_law_is" "_law_is" (defArgs st__law_is) (defBody st__law_is) (defScope st__law_is) dvs kws f fd) : FnOk P w K mg base (L2.CX P w) 2 f fd (["_law_x", "_law_due"] : List Str) (spF K m__law_is) := by
  have h := fn_ok (P := P) (w := w) (mg := mg) (base := base) (body := b__law_is) G sc__law_is (k := 1) (fun cdv A outer s H E hr => by
    have tk := tk_cx (P := P) (w := w) (K := K) (mg := mg) (base := base) (N := (["_law_x", "_law_due"] : List Str)) (qual := "_law_is") (scope := defScope st__law_is) (f := f) (cd := cdv) (A := A) (outer := outer) (s := s) (H := H) (E := E)
    have hp := po_cx (P := P) (w := w) (K := K) (mg := mg) (base := base) (N := (["_law_x", "_law_due"] : List Str)) (qual := "_law_is") (scope := defScope st__law_is) (f := f) (cd := cdv) (A := A) (outer := outer) (s := s) (H := H) (E := E)
    exact (by exact ss_cons (by exact s_if (by exact PW.pt (by exact t_or (by exact t_not (by exact t_val (by exact e_isi (by exact e_var rfl (Or.inl rfl)) (pe_glob (v := .ref (He.ga K "Frac")) rfl (He.glo_ok S.ki S.ns (fc_10 S)) rfl) (.own _) (hk_ti_Frac S) (hi_ti_Frac S) (hx_ti_Frac S) rfl (He.free_ok S.ki S.ns (fc_6 S))))) (by exact t_or (by exact t_not (by exact t_val (by exact e_call (g__law_int S) (hr.mono (by decide)) tk rfl (by exact a_cons (by exact e_fldV rfl (Or.inl rfl) (allC (fdG_ok (fc_0 S) (fc_2 S)) allN)) a_nil)))) (by exact t_or1 (by exact t_not (by exact t_val (by exact e_call (g__law_int S) (hr.mono (by decide)) tk rfl (by exact a_cons (by exact e_fldV rfl (Or.inl rfl) (allC (fdG_ok (fc_0 S) (fc_1 S)) allN)) a_nil)))))))) (by exact ss_one (by exact s_ret (by exact e_bl))) (by exact ss_nil)) (by exact ss_one (by exact s_ret (by exact e_cmp (o_deq (u64 hr)) (by exact e_tup (by exact a_cons (by exact e_fldV rfl (Or.inl rfl) (allC (fdG_ok (fc_0 S) (fc_2 S)) allN)) (by exact a_cons (by exact e_fldV rfl (Or.inl rfl) (allC (fdG_ok (fc_0 S) (fc_1 S)) allN)) a_nil))) (by exact e_var rfl (Or.inl rfl)))))))
  exact h
end
end Fx
namespace Fx
open PySem PySem.Spec PyProof.Rows L2 L2H
section
variable {P : Program} {w : World} {K : Fg} {mg : Str → Option Value} {base : Heap}
theorem g__law_is (S : Sy fs fn K mg base) : FnG P w K mg base "_law_is" 2 m__law_is [] := by
  obtain ⟨fd, G⟩ := S.c.def_ 1 (d := df__law_is) rfl
  exact ⟨⟨_, fd, _, [], [], ok__law_is S G, (He.glo_ok S.ki S.ns (fc_12 S)), G.kp, (FunD.bindsN (ps := (["_law_x", "_law_due"] : List Str)) G fun _ _ _ _ _ _ us hl => match us, hl with | [_, _], _ => rfl), .nil, rp0⟩⟩
noncomputable def b_Frac___eq__ : Sx := (sSeq (sIf (cB (c1 (mIsi ti_Frac) (cV 1))) (sRt (cAn (c2 dEq (cFldV "num" ["Frac"] 0) (cFldV "num" ["Frac"] 1)) (c2 dEq (cFldV "den" ["Frac"] 0) (cFldV "den" ["Frac"] 1)))) sNx) (sSeq (sIf (tAn (cB (c1 (mIsi ti_int) (cV 1))) (tNo (cB (c1 (mIsi ti_bool) (cV 1))))) (sRt (cAn (c2 dEq (cFldV "den" ["Frac"] 0) (cC (.int 1))) (c2 dEq (cFldV "num" ["Frac"] 0) (cV 1)))) sNx) (sRt (cC (.bl false)))))
noncomputable def m_Frac___eq__ : Fn := mkFn 2 2 b_Frac___eq__
theorem ok_Frac___eq__ (S : Sy fs fn K mg base) {f : Addr} {fd : FuncData} {dvs : List V} {kws : List (Str × V)} (G : FunD K "__eq__" "Frac.__eq__" (defArgs st_Frac___eq__) (defBody st_Frac___eq__) (defScope st_Frac___eq__) dvs kws f fd) : FnOk P w K mg base (L2.CX P w) 1 f fd (["self", "other"] : List Str) (spF K m_Frac___eq__) := by
  have h := fn_ok (P := P) (w := w) (mg := mg) (base := base) (body := b_Frac___eq__) G sc_Frac___eq__ (k := 0) (fun cdv A outer s H E hr => by
    have tk := tk_cx (P := P) (w := w) (K := K) (mg := mg) (base := base) (N := (["self", "other"] : List Str)) (qual := "Frac.__eq__") (scope := defScope st_Frac___eq__) (f := f) (cd := cdv) (A := A) (outer := outer) (s := s) (H := H) (E := E)
    have hp := po_cx (P := P) (w := w) (K := K) (mg := mg) (base := base) (N := (["self", "other"] : List Str)) (qual := "Frac.__eq__") (scope := defScope st_Frac___eq__) (f := f) (cd := cdv) (A := A) (outer := outer) (s := s) (H := H) (E := E)
    exact (by exact ss_cons (by exact s_if (by exact t_val (by exact e_isi (by exact e_var rfl (Or.inl rfl)) (pe_glob (v := .ref (He.ga K "Frac")) rfl (He.glo_ok S.ki S.ns (fc_10 S)) rfl) (.own _) (hk_ti_Frac S) (hi_ti_Frac S) (hx_ti_Frac S) rfl (He.free_ok S.ki S.ns (fc_6 S)))) (by exact ss_one (by exact s_ret (by exact e_and (by exact e_cmp (o_deq (u64 hr)) (by exact e_fldV rfl (Or.inl rfl) (allC (fdG_ok (fc_0 S) (fc_2 S)) allN)) (by exact e_fldV rfl (Or.inl rfl) (allC (fdG_ok (fc_0 S) (fc_2 S)) allN))) (by exact e_one (by exact e_cmp (o_deq (u64 hr)) (by exact e_fldV rfl (Or.inl rfl) (allC (fdG_ok (fc_0 S) (fc_1 S)) allN)) (by exact e_fldV rfl (Or.inl rfl) (allC (fdG_ok (fc_0 S) (fc_1 S)) allN))))))) (by exact ss_nil)) (by exact ss_cons (by exact s_if (by exact PW.pt (by exact t_and (by exact t_val (by exact e_isi (by exact e_var rfl (Or.inl rfl)) (pe_bltn rfl (He.free_ok S.ki S.ns (fc_7 S)) PyProof.Rows.Boot.«int» (show RelV (.ty "int") (.type "int") from rfl)) (.ty "int") (hk_ti_int S) (hi_ti_int S) (hx_ti_int S) rfl (He.free_ok S.ki S.ns (fc_6 S)))) (by exact t_and1 (by exact t_not (by exact t_val (by exact e_isi (by exact e_var rfl (Or.inl rfl)) (pe_bltn rfl (He.free_ok S.ki S.ns (fc_4 S)) PyProof.Rows.Boot.«bool» (show RelV (.ty "bool") (.type "bool") from rfl)) (.ty "bool") (hk_ti_bool S) (hi_ti_bool S) (hx_ti_bool S) rfl (He.free_ok S.ki S.ns (fc_6 S)))))))) (by exact ss_one (by exact s_ret (by exact e_and (by exact e_cmp (o_deq (u64 hr)) (by exact e_fldV rfl (Or.inl rfl) (allC (fdG_ok (fc_0 S) (fc_1 S)) allN)) (by exact e_int)) (by exact e_one (by exact e_cmp (o_deq (u64 hr)) (by exact e_fldV rfl (Or.inl rfl) (allC (fdG_ok (fc_0 S) (fc_2 S)) allN)) (by exact e_var rfl (Or.inl rfl))))))) (by exact ss_nil)) (by exact ss_one (by exact s_ret (by exact e_bl))))))
  exact h
theorem g_Frac___eq__ (S : Sy fs fn K mg base) : MtG P w K mg base "Frac" "__eq__" 1 m_Frac___eq__ [] := by
  obtain ⟨fd, G⟩ := S.c.def_ 3 (d := df_Frac___eq__) rfl
  exact ⟨He.cls_ok (fc_0 S), ⟨_, fd, _, [], [], ok_Frac___eq__ S G, He.meth_ok (fc_15 S), (FunD.bindsN (ps := (["self", "other"] : List Str)) G fun _ _ _ _ _ _ us hl => match us, hl with | [_, _], _ => rfl), .nil, rp0⟩⟩
noncomputable def tb___eq__ : List (String × Fn) := [("Frac", m_Frac___eq__)]
theorem mt___eq__ (S : Sy fs fn K mg base) : ∀ q ∈ tb___eq__, MtG P w K mg base q.1 "__eq__" 1 q.2 [] := by unfold tb___eq__; exact (allC (p := fun q : String × Fn => MtG P w K mg base q.1 "__eq__" 1 q.2 []) ((g_Frac___eq__ S).up (by decide)) allN)
theorem ni___eq__ (S : Sy fs fn K mg base) : ∀ q ∈ tb___eq__, PySem.W.subIn K (.ref (He.ga K q.1)) (.type "int") = some false := by unfold tb___eq__; exact (allC (ni_ok (fc_16 S)) allN)
end
end Fx
namespace Fx
open PySem PySem.Spec PyProof.Rows L2 L2H
section
variable {P : Program} {w : World} {K : Fg} {mg : Str → Option Value} {base : Heap}
theorem on___eq__ (S : Sy fs fn K mg base) : ∀ q ∈ tb___eq__, OwnN K q.1 := by unfold tb___eq__; exact (allC (ownN_ok (fc_17 S)) allN)
noncomputable def b_Frac___str__ : Sx := (sSeq (sIf (cB (c2 dEq (cFldV "den" ["Frac"] 0) (cC (.int 1)))) (sRt (cA bStr (aC (cFldV "num" ["Frac"] 0) aN))) sNx) (sRt (jsL [(c1 mFmt (cFldV "num" ["Frac"] 0)), (cC (.str "/")), (c1 mFmt (cFldV "den" ["Frac"] 0))] Str.empty)))
noncomputable def m_Frac___str__ : Fn := mkFn 1 1 b_Frac___str__
theorem ok_Frac___str__ (S : Sy fs fn K mg base) {f : Addr} {fd : FuncData} {dvs : List V} {kws : List (Str × V)} (G : FunD K "__str__" "Frac.__str__" (defArgs st_Frac___str__) (defBody st_Frac___str__) (defScope st_Frac___str__) dvs kws f fd) : FnOk P w K mg base (L2.CX P w) 1 f fd (["self"] : List Str) (spF K m_Frac___str__) := by
  have h := fn_ok (P := P) (w := w) (mg := mg) (base := base) (body := b_Frac___str__) G sc_Frac___str__ (k := 0) (fun cdv A outer s H E hr => by
    have tk := tk_cx (P := P) (w := w) (K := K) (mg := mg) (base := base) (N := (["self"] : List Str)) (qual := "Frac.__str__") (scope := defScope st_Frac___str__) (f := f) (cd := cdv) (A := A) (outer := outer) (s := s) (H := H) (E := E)
    have hp := po_cx (P := P) (w := w) (K := K) (mg := mg) (base := base) (N := (["self"] : List Str)) (qual := "Frac.__str__") (scope := defScope st_Frac___str__) (f := f) (cd := cdv) (A := A) (outer := outer) (s := s) (H := H) (E := E)
    exact (by exact ss_cons (by exact s_if (by exact t_cmp (o_deq (u64 hr)) (by exact e_fldV rfl (Or.inl rfl) (allC (fdG_ok (fc_0 S) (fc_1 S)) allN)) (by exact e_int)) (by exact ss_one (by exact s_ret (by exact e_typ (f_str) rfl (He.free_ok S.ki S.ns (fc_18 S)) PyProof.Rows.Boot.«str» (by exact a_cons (by exact e_fldV rfl (Or.inl rfl) (allC (fdG_ok (fc_0 S) (fc_2 S)) allN)) a_nil)))) (by exact ss_nil)) (by exact ss_one (by exact s_ret (by exact e_js (JL.cons (e_fmt (by exact e_fldV rfl (Or.inl rfl) (allC (fdG_ok (fc_0 S) (fc_2 S)) allN))) (JL.cons (by exact e_str) (JL.cons (e_fmt (by exact e_fldV rfl (Or.inl rfl) (allC (fdG_ok (fc_0 S) (fc_1 S)) allN))) JL.nil))))))))
  exact h
theorem g_Frac___str__ (S : Sy fs fn K mg base) : MtG P w K mg base "Frac" "__str__" 1 m_Frac___str__ [] := by
  obtain ⟨fd, G⟩ := S.c.def_ 6 (d := df_Frac___str__) rfl
  exact ⟨He.cls_ok (fc_0 S), ⟨_, fd, _, [], [], ok_Frac___str__ S G, He.meth_ok (fc_19 S), (FunD.bindsN (ps := (["self"] : List Str)) G fun _ _ _ _ _ _ us hl => match us, hl with | [_], _ => rfl), .nil, rp0⟩⟩
noncomputable def tb___str__ : List (String × Fn) := [("Frac", m_Frac___str__)]
theorem mt___str__ (S : Sy fs fn K mg base) : ∀ q ∈ tb___str__, MtG P w K mg base q.1 "__str__" 1 q.2 [] := by unfold tb___str__; exact (allC (p := fun q : String × Fn => MtG P w K mg base q.1 "__str__" 1 q.2 []) ((g_Frac___str__ S).up (by decide)) allN)
noncomputable def b_Frac___init__ : Sx := (sSeq (sIf (cB (c2 dEq (cV 2) (cC (.int 0)))) (sRaise "DivisionByZero" [] aN) sNx) (sSeq (sIf (cB (c2 (iCmp fun i j => decide (i < j)) (cV 2) (cC (.int 0)))) (sSeq (sSet 1 (c1 iNeg (cV 1))) (sSet 2 (c1 iNeg (cV 2)))) sNx) (sSeq (sIf (cB (c2 (iCmp fun i j => decide (j < i)) (cV 2) (cC (.int 1)))) (sSeq (sSet 3 (cA bGcd (aC (cV 1) (aC (cV 2) aN)))) (sSeq (sSet 1 (c2 iFdv (cV 1) (cV 3))) (sSet 2 (c2 iFdv (cV 2) (cV 3))))) sNx) (sSeq (sFldS "num" ["Frac"] 0 (cV 1)) (sFldS "den" ["Frac"] 0 (cV 2))))))
end
end Fx
namespace Fx
open PySem PySem.Spec PyProof.Rows L2 L2H
section
variable {P : Program} {w : World} {K : Fg} {mg : Str → Option Value} {base : Heap}
noncomputable def m_Frac___init__ : Fn := mkFn 3 4 b_Frac___init__
theorem ok_Frac___init__ (S : Sy fs fn K mg base) {f : Addr} {fd : FuncData} {dvs : List V} {kws : List (Str × V)} (G : FunD K "__init__" "Frac.__init__" (defArgs st_Frac___init__) (defBody st_Frac___init__) (defScope st_Frac___init__) dvs kws f fd) : FnOk P w K mg base (L2.CX P w) 1 f fd (["self", "num", "den"] : List Str) (spF K m_Frac___init__) := by
  have h := fn_ok (P := P) (w := w) (mg := mg) (base := base) (body := b_Frac___init__) G sc_Frac___init__ (k := 0) (fun cdv A outer s H E hr => by
    have tk := tk_cx (P := P) (w := w) (K := K) (mg := mg) (base := base) (N := (["self", "num", "den", "shared"] : List Str)) (qual := "Frac.__init__") (scope := defScope st_Frac___init__) (f := f) (cd := cdv) (A := A) (outer := outer) (s := s) (H := H) (E := E)
    have hp := po_cx (P := P) (w := w) (K := K) (mg := mg) (base := base) (N := (["self", "num", "den", "shared"] : List Str)) (qual := "Frac.__init__") (scope := defScope st_Frac___init__) (f := f) (cd := cdv) (A := A) (outer := outer) (s := s) (H := H) (E := E)
    exact (by exact ss_cons (by exact s_if (by exact t_cmp (o_deq (u64 hr)) (by exact e_var rfl (Or.inl rfl)) (by exact e_int)) (by exact ss_one (by exact s_raise0 (exG_ok S.ki S.ns (fc_21 S) (fc_22 S)) rfl tk rfl)) (by exact ss_nil)) (by exact ss_cons (by exact s_if (by exact t_cmp o_ilt (by exact e_var rfl (Or.inl rfl)) (by exact e_int)) (by exact ss_cons (by exact s_set sc_Frac___init__.nd (i := 1) rfl (Or.inl rfl) (by exact e_un o_ineg (by exact e_var rfl (Or.inl rfl)))) (by exact ss_one (by exact s_set sc_Frac___init__.nd (i := 2) rfl (Or.inl rfl) (by exact e_un o_ineg (by exact e_var rfl (Or.inl rfl)))))) (by exact ss_nil)) (by exact ss_cons (by exact s_if (by exact t_cmp o_igt (by exact e_var rfl (Or.inl rfl)) (by exact e_int)) (by exact ss_cons (by exact s_set sc_Frac___init__.nd (i := 3) rfl (Or.inl rfl) (by exact e_imp f_gcd rfl (bBlt_ok S.ki S.ns (fc_20 S)) (by exact a_cons (by exact e_var rfl (Or.inl rfl)) (by exact a_cons (by exact e_var rfl (Or.inl rfl)) a_nil)))) (by exact ss_cons (by exact s_set sc_Frac___init__.nd (i := 1) rfl (Or.inl rfl) (by exact e_bin o_ifdv (by exact e_var rfl (Or.inl rfl)) (by exact e_var rfl (Or.inl rfl)))) (by exact ss_one (by exact s_set sc_Frac___init__.nd (i := 2) rfl (Or.inl rfl) (by exact e_bin o_ifdv (by exact e_var rfl (Or.inl rfl)) (by exact e_var rfl (Or.inl rfl))))))) (by exact ss_nil)) (by exact ss_cons (by exact s_fld rfl (Or.inl rfl) (allC (fdG_ok (fc_0 S) (fc_2 S)) allN) (by exact e_var rfl (Or.inl rfl))) (by exact ss_one (by exact s_fld rfl (Or.inl rfl) (allC (fdG_ok (fc_0 S) (fc_1 S)) allN) (by exact e_var rfl (Or.inl rfl)))))))))
  exact h
theorem gm_Frac_2 (S : Sy fs fn K mg base) : MkG P w K mg base "Frac" 1 m_Frac___init__ [] := by
  obtain ⟨fd, G⟩ := S.c.def_ 7 (d := df_Frac___init__) rfl
  obtain ⟨ds, hv, hb⟩ := G.binds1 3 2 (ps := (["self", "num", "den"] : List Str)) (by simp [Df.dvs, df_Frac___init__]) rfl (fun _ _ _ _ _ _ _ us its hu hi => match us, its, hu, hi with | [_, _, _], [_, _], _, _ => ⟨_, rfl, rfl⟩)
  exact ⟨(He.glo_ok S.ki S.ns (fc_10 S)), ⟨_, fd, _, _, ds, ok_Frac___init__ S G, He.mkr_ok (fc_23 S), hb, hv, rp0⟩⟩
noncomputable def b__floored : Sx := (sSeq (sIf (cB (c2 dEq (cV 1) (cC (.int 0)))) (sRaise "DivisionByZero" [] aN) sNx) (sRt (c2 iFdv (cV 0) (cV 1))))
noncomputable def m__floored : Fn := mkFn 2 2 b__floored
theorem ok__floored (S : Sy fs fn K mg base) {f : Addr} {fd : FuncData} {dvs : List V} {kws : List (Str × V)} (G : FunD K "_floored" "_floored" (defArgs st__floored) (defBody st__floored) (defScope st__floored) dvs kws f fd) : FnOk P w K mg base (L2.CX P w) 1 f fd (["num", "den"] : List Str) (spF K m__floored) := by
  have h := fn_ok (P := P) (w := w) (mg := mg) (base := base) (body := b__floored) G sc__floored (k := 0) (fun cdv A outer s H E hr => by
    have tk := tk_cx (P := P) (w := w) (K := K) (mg := mg) (base := base) (N := (["num", "den"] : List Str)) (qual := "_floored") (scope := defScope st__floored) (f := f) (cd := cdv) (A := A) (outer := outer) (s := s) (H := H) (E := E)
    have hp := po_cx (P := P) (w := w) (K := K) (mg := mg) (base := base) (N := (["num", "den"] : List Str)) (qual := "_floored") (scope := defScope st__floored) (f := f) (cd := cdv) (A := A) (outer := outer) (s := s) (H := H) (E := E)
    exact (by exact ss_cons (by exact s_if (by exact t_cmp (o_deq (u64 hr)) (by exact e_var rfl (Or.inl rfl)) (by exact e_int)) (by exact ss_one (by exact s_raise0 (exG_ok S.ki S.ns (fc_21 S) (fc_22 S)) rfl tk rfl)) (by exact ss_nil)) (by exact ss_one (by exact s_ret (by exact e_bin o_ifdv (by exact e_var rfl (Or.inl rfl)) (by exact e_var rfl (Or.inl rfl)))))))
  exact h
theorem g__floored (S : Sy fs fn K mg base) : FnG P w K mg base "_floored" 1 m__floored [] := by
  obtain ⟨fd, G⟩ := S.c.def_ 9 (d := df__floored) rfl
  exact ⟨⟨_, fd, _, [], [], ok__floored S G, (He.glo_ok S.ki S.ns (fc_24 S)), G.kp, (FunD.bindsN (ps := (["num", "den"] : List Str)) G fun _ _ _ _ _ _ us hl => match us, hl with | [_, _], _ => rfl), .nil, rp0⟩⟩
noncomputable def b_Frac___floordiv__ : Sx := (sSeq (sIf (cB (c1 (mIsi ti_Frac) (cV 1))) (sRt (cCall m__floored [] (aC (c2 mMul (cFldV "num" ["Frac"] 0) (cFldV "den" ["Frac"] 1)) (aC (c2 mMul (cFldV "den" ["Frac"] 0) (cFldV "num" ["Frac"] 1)) aN)))) sNx) (sSeq (sIf (cB (c1 (mIsi ti_int) (cV 1))) (sRt (cCall m__floored [] (aC (cFldV "num" ["Frac"] 0) (aC (c2 mMul (cFldV "den" ["Frac"] 0) (cV 1)) aN)))) sNx) sStk))
end
end Fx
namespace Fx
open PySem PySem.Spec PyProof.Rows L2 L2H
section
variable {P : Program} {w : World} {K : Fg} {mg : Str → Option Value} {base : Heap}
noncomputable def m_Frac___floordiv__ : Fn := mkFn 2 2 b_Frac___floordiv__
theorem ok_Frac___floordiv__ (S : Sy fs fn K mg base) {f : Addr} {fd : FuncData} {dvs : List V} {kws : List (Str × V)} (G : FunD K "__floordiv__" "Frac.__floordiv__" (defArgs st_Frac___floordiv__) (defBody st_Frac___floordiv__) (defScope st_Frac___floordiv__) dvs kws f fd) : FnOk P w K mg base (L2.CX P w) 2 f fd (["self", "other"] : List Str) (spF K m_Frac___floordiv__) := by
  have h := fn_ok (P := P) (w := w) (mg := mg) (base := base) (body := b_Frac___floordiv__) G sc_Frac___floordiv__ (k := 1) (fun cdv A outer s H E hr => by
    have tk := tk_cx (P := P) (w := w) (K := K) (mg := mg) (base := base) (N := (["self", "other"] : List Str)) (qual := "Frac.__floordiv__") (scope := defScope st_Frac___floordiv__) (f := f) (cd := cdv) (A := A) (outer := outer) (s := s) (H := H) (E := E)
    have hp := po_cx (P := P) (w := w) (K := K) (mg := mg) (base := base) (N := (["self", "other"] : List Str)) (qual := "Frac.__floordiv__") (scope := defScope st_Frac___floordiv__) (f := f) (cd := cdv) (A := A) (outer := outer) (s := s) (H := H) (E := E)
    exact (by exact ss_cons (by exact s_if (by exact t_val (by exact e_isi (by exact e_var rfl (Or.inl rfl)) (pe_glob (v := .ref (He.ga K "Frac")) rfl (He.glo_ok S.ki S.ns (fc_10 S)) rfl) (.own _) (hk_ti_Frac S) (hi_ti_Frac S) (hx_ti_Frac S) rfl (He.free_ok S.ki S.ns (fc_6 S)))) (by exact ss_one (by exact s_ret (by exact e_call (g__floored S) (hr.mono (by decide)) tk rfl (by exact a_cons (by exact e_bin o_mmul (by exact e_fldV rfl (Or.inl rfl) (allC (fdG_ok (fc_0 S) (fc_2 S)) allN)) (by exact e_fldV rfl (Or.inl rfl) (allC (fdG_ok (fc_0 S) (fc_1 S)) allN))) (by exact a_cons (by exact e_bin o_mmul (by exact e_fldV rfl (Or.inl rfl) (allC (fdG_ok (fc_0 S) (fc_1 S)) allN)) (by exact e_fldV rfl (Or.inl rfl) (allC (fdG_ok (fc_0 S) (fc_2 S)) allN))) a_nil))))) (by exact ss_nil)) (by exact ss_cons (by exact s_if (by exact t_val (by exact e_isi (by exact e_var rfl (Or.inl rfl)) (pe_bltn rfl (He.free_ok S.ki S.ns (fc_7 S)) PyProof.Rows.Boot.«int» (show RelV (.ty "int") (.type "int") from rfl)) (.ty "int") (hk_ti_int S) (hi_ti_int S) (hx_ti_int S) rfl (He.free_ok S.ki S.ns (fc_6 S)))) (by exact ss_one (by exact s_ret (by exact e_call (g__floored S) (hr.mono (by decide)) tk rfl (by exact a_cons (by exact e_fldV rfl (Or.inl rfl) (allC (fdG_ok (fc_0 S) (fc_2 S)) allN)) (by exact a_cons (by exact e_bin o_mmul (by exact e_fldV rfl (Or.inl rfl) (allC (fdG_ok (fc_0 S) (fc_1 S)) allN)) (by exact e_var rfl (Or.inl rfl))) a_nil))))) (by exact ss_nil)) (by exact ss_one (by exact s_stk)))))
  exact h
theorem g_Frac___floordiv__ (S : Sy fs fn K mg base) : MtG P w K mg base "Frac" "__floordiv__" 2 m_Frac___floordiv__ [] := by
  obtain ⟨fd, G⟩ := S.c.def_ 8 (d := df_Frac___floordiv__) rfl
  exact ⟨He.cls_ok (fc_0 S), ⟨_, fd, _, [], [], ok_Frac___floordiv__ S G, He.meth_ok (fc_25 S), (FunD.bindsN (ps := (["self", "other"] : List Str)) G fun _ _ _ _ _ _ us hl => match us, hl with | [_, _], _ => rfl), .nil, rp0⟩⟩
noncomputable def tb___floordiv__ : List (String × Fn) := [("Frac", m_Frac___floordiv__)]
theorem mt___floordiv__ (S : Sy fs fn K mg base) : ∀ q ∈ tb___floordiv__, MtG P w K mg base q.1 "__floordiv__" 2 q.2 [] := by unfold tb___floordiv__; exact (allC (p := fun q : String × Fn => MtG P w K mg base q.1 "__floordiv__" 2 q.2 []) ((g_Frac___floordiv__ S).up (by decide)) allN)
noncomputable def b_Frac___rfloordiv__ : Sx := (sSeq (sIf (cB (c1 (mIsi ti_int) (cV 1))) (sRt (cCall m__floored [] (aC (c2 mMul (cV 1) (cFldV "den" ["Frac"] 0)) (aC (cFldV "num" ["Frac"] 0) aN)))) sNx) sStk)
noncomputable def m_Frac___rfloordiv__ : Fn := mkFn 2 2 b_Frac___rfloordiv__
theorem ok_Frac___rfloordiv__ (S : Sy fs fn K mg base) {f : Addr} {fd : FuncData} {dvs : List V} {kws : List (Str × V)} (G : FunD K "__rfloordiv__" "Frac.__rfloordiv__" (defArgs st_Frac___rfloordiv__) (defBody st_Frac___rfloordiv__) (defScope st_Frac___rfloordiv__) dvs kws f fd) : FnOk P w K mg base (L2.CX P w) 2 f fd (["self", "other"] : List Str) (spF K m_Frac___rfloordiv__) := by
  have h := fn_ok (P := P) (w := w) (mg := mg) (base := base) (body := b_Frac___rfloordiv__) G sc_Frac___rfloordiv__ (k := 1) (fun cdv A outer s H E hr => by
    have tk := tk_cx (P := P) (w := w) (K := K) (mg := mg) (base := base) (N := (["self", "other"] : List Str)) (qual := "Frac.__rfloordiv__") (scope := defScope st_Frac___rfloordiv__) (f := f) (cd := cdv) (A := A) (outer := outer) (s := s) (H := H) (E := E)
    have hp := po_cx (P := P) (w := w) (K := K) (mg := mg) (base := base) (N := (["self", "other"] : List Str)) (qual := "Frac.__rfloordiv__") (scope := defScope st_Frac___rfloordiv__) (f := f) (cd := cdv) (A := A) (outer := outer) (s := s) (H := H) (E := E)
    exact (by exact ss_cons (by exact s_if (by exact t_val (by exact e_isi (by exact e_var rfl (Or.inl rfl)) (pe_bltn rfl (He.free_ok S.ki S.ns (fc_7 S)) PyProof.Rows.Boot.«int» (show RelV (.ty "int") (.type "int") from rfl)) (.ty "int") (hk_ti_int S) (hi_ti_int S) (hx_ti_int S) rfl (He.free_ok S.ki S.ns (fc_6 S)))) (by exact ss_one (by exact s_ret (by exact e_call (g__floored S) (hr.mono (by decide)) tk rfl (by exact a_cons (by exact e_bin o_mmul (by exact e_var rfl (Or.inl rfl)) (by exact e_fldV rfl (Or.inl rfl) (allC (fdG_ok (fc_0 S) (fc_1 S)) allN))) (by exact a_cons (by exact e_fldV rfl (Or.inl rfl) (allC (fdG_ok (fc_0 S) (fc_2 S)) allN)) a_nil))))) (by exact ss_nil)) (by exact ss_one (by exact s_stk))))
  exact h
end
end Fx
namespace Fx
open PySem PySem.Spec PyProof.Rows L2 L2H
section
variable {P : Program} {w : World} {K : Fg} {mg : Str → Option Value} {base : Heap}
theorem g_Frac___rfloordiv__ (S : Sy fs fn K mg base) : MtG P w K mg base "Frac" "__rfloordiv__" 2 m_Frac___rfloordiv__ [] := by
  obtain ⟨fd, G⟩ := S.c.def_ 10 (d := df_Frac___rfloordiv__) rfl
  exact ⟨He.cls_ok (fc_0 S), ⟨_, fd, _, [], [], ok_Frac___rfloordiv__ S G, He.meth_ok (fc_26 S), (FunD.bindsN (ps := (["self", "other"] : List Str)) G fun _ _ _ _ _ _ us hl => match us, hl with | [_, _], _ => rfl), .nil, rp0⟩⟩
noncomputable def tb___rfloordiv__ : List (String × Fn) := [("Frac", m_Frac___rfloordiv__)]
theorem mt___rfloordiv__ (S : Sy fs fn K mg base) : ∀ q ∈ tb___rfloordiv__, MtG P w K mg base q.1 "__rfloordiv__" 2 q.2 [] := by unfold tb___rfloordiv__; exact (allC (p := fun q : String × Fn => MtG P w K mg base q.1 "__rfloordiv__" 2 q.2 []) ((g_Frac___rfloordiv__ S).up (by decide)) allN)
theorem ol_floordiv (S : Sy fs fn K mg base) : ∀ q ∈ tb___floordiv__, OwnL K q.1 "floordiv" := by unfold tb___floordiv__; exact (allC (ownL_ok (fc_27 S)) allN)
theorem or_floordiv (S : Sy fs fn K mg base) : ∀ q ∈ tb___rfloordiv__, OwnR K q.1 "floordiv" := by unfold tb___rfloordiv__; exact (allC (ownR_ok (fc_28 S) (fc_16 S)) allN)
theorem hi_ti_Frac_int (S : Sy fs fn K mg base) : ∀ c b, (Ty.o c, b) ∈ ti_Frac_int → IsG K c := hi_of ["Frac"] (allC (isG_ok (fc_0 S) (fc_3 S)) allN)
theorem hx_ti_Frac_int (S : Sy fs fn K mg base) : ∀ c b, (Ty.x c, b) ∈ ti_Frac_int → IxG K c := hx_of [] allN
theorem hk_ti_Frac_int (S : Sy fs fn K mg base) : ∀ q ∈ ti_Frac_int, PySem.W.kitAny K (q.1.val K) [.ref (He.ga K "Frac"), .type "int"] = some q.2 := kita_ok (cu := fun K => [.ref (He.ga K "Frac"), .type "int"]) (fc_29 S)
end
end Fx
namespace Fx
open PySem PySem.Spec PyProof.Rows L2 L2H
section
variable {P : Program} {w : World} {K : Fg} {mg : Str → Option Value} {base : Heap}
noncomputable def b_Frac___sub__ : Sx := (sSeq (sIf (cB (c1 (mIsi ti_Frac) (cV 1))) (sRt (cMake "Frac" m_Frac___init__ [] (aC (c2 iSub (c2 mMul (cFldV "num" ["Frac"] 0) (cFldV "den" ["Frac"] 1)) (c2 mMul (cFldV "num" ["Frac"] 1) (cFldV "den" ["Frac"] 0))) (aC (c2 mMul (cFldV "den" ["Frac"] 0) (cFldV "den" ["Frac"] 1)) aN)))) sNx) (sSeq (sIf (cB (c1 (mIsi ti_int) (cV 1))) (sRt (cMake "Frac" m_Frac___init__ [] (aC (c2 iSub (cFldV "num" ["Frac"] 0) (c2 mMul (cV 1) (cFldV "den" ["Frac"] 0))) (aC (cFldV "den" ["Frac"] 0) aN)))) sNx) sStk))
noncomputable def m_Frac___sub__ : Fn := mkFn 2 2 b_Frac___sub__
theorem ok_Frac___sub__ (S : Sy fs fn K mg base) {f : Addr} {fd : FuncData} {dvs : List V} {kws : List (Str × V)} (G : FunD K "__sub__" "Frac.__sub__" (defArgs st_Frac___sub__) (defBody st_Frac___sub__) (defScope st_Frac___sub__) dvs kws f fd) : FnOk P w K mg base (L2.CX P w) 3 f fd (["self", "other"] : List Str) (spF K m_Frac___sub__) := by
  have h := fn_ok (P := P) (w := w) (mg := mg) (base := base) (body := b_Frac___sub__) G sc_Frac___sub__ (k := 2) (fun cdv A outer s H E hr => by
    have tk := tk_cx (P := P) (w := w) (K := K) (mg := mg) (base := base) (N := (["self", "other"] : List Str)) (qual := "Frac.__sub__") (scope := defScope st_Frac___sub__) (f := f) (cd := cdv) (A := A) (outer := outer) (s := s) (H := H) (E := E)
    have hp := po_cx (P := P) (w := w) (K := K) (mg := mg) (base := base) (N := (["self", "other"] : List Str)) (qual := "Frac.__sub__") (scope := defScope st_Frac___sub__) (f := f) (cd := cdv) (A := A) (outer := outer) (s := s) (H := H) (E := E)
    exact (by exact ss_cons (by exact s_if (by exact t_val (by exact e_isi (by exact e_var rfl (Or.inl rfl)) (pe_glob (v := .ref (He.ga K "Frac")) rfl (He.glo_ok S.ki S.ns (fc_10 S)) rfl) (.own _) (hk_ti_Frac S) (hi_ti_Frac S) (hx_ti_Frac S) rfl (He.free_ok S.ki S.ns (fc_6 S)))) (by exact ss_one (by exact s_ret (by exact e_make (gm_Frac_2 S) (hr.mono (by decide)) tk rfl (by exact a_cons (by exact e_bin o_isub (by exact e_bin o_mmul (by exact e_fldV rfl (Or.inl rfl) (allC (fdG_ok (fc_0 S) (fc_2 S)) allN)) (by exact e_fldV rfl (Or.inl rfl) (allC (fdG_ok (fc_0 S) (fc_1 S)) allN))) (by exact e_bin o_mmul (by exact e_fldV rfl (Or.inl rfl) (allC (fdG_ok (fc_0 S) (fc_2 S)) allN)) (by exact e_fldV rfl (Or.inl rfl) (allC (fdG_ok (fc_0 S) (fc_1 S)) allN)))) (by exact a_cons (by exact e_bin o_mmul (by exact e_fldV rfl (Or.inl rfl) (allC (fdG_ok (fc_0 S) (fc_1 S)) allN)) (by exact e_fldV rfl (Or.inl rfl) (allC (fdG_ok (fc_0 S) (fc_1 S)) allN))) a_nil))))) (by exact ss_nil)) (by exact ss_cons (by exact s_if (by exact t_val (by exact e_isi (by exact e_var rfl (Or.inl rfl)) (pe_bltn rfl (He.free_ok S.ki S.ns (fc_7 S)) PyProof.Rows.Boot.«int» (show RelV (.ty "int") (.type "int") from rfl)) (.ty "int") (hk_ti_int S) (hi_ti_int S) (hx_ti_int S) rfl (He.free_ok S.ki S.ns (fc_6 S)))) (by exact ss_one (by exact s_ret (by exact e_make (gm_Frac_2 S) (hr.mono (by decide)) tk rfl (by exact a_cons (by exact e_bin o_isub (by exact e_fldV rfl (Or.inl rfl) (allC (fdG_ok (fc_0 S) (fc_2 S)) allN)) (by exact e_bin o_mmul (by exact e_var rfl (Or.inl rfl)) (by exact e_fldV rfl (Or.inl rfl) (allC (fdG_ok (fc_0 S) (fc_1 S)) allN)))) (by exact a_cons (by exact e_fldV rfl (Or.inl rfl) (allC (fdG_ok (fc_0 S) (fc_1 S)) allN)) a_nil))))) (by exact ss_nil)) (by exact ss_one (by exact s_stk)))))
  exact h
theorem g_Frac___sub__ (S : Sy fs fn K mg base) : MtG P w K mg base "Frac" "__sub__" 3 m_Frac___sub__ [] := by
  obtain ⟨fd, G⟩ := S.c.def_ 12 (d := df_Frac___sub__) rfl
  exact ⟨He.cls_ok (fc_0 S), ⟨_, fd, _, [], [], ok_Frac___sub__ S G, He.meth_ok (fc_30 S), (FunD.bindsN (ps := (["self", "other"] : List Str)) G fun _ _ _ _ _ _ us hl => match us, hl with | [_, _], _ => rfl), .nil, rp0⟩⟩
noncomputable def tb___sub__ : List (String × Fn) := [("Frac", m_Frac___sub__)]
theorem mt___sub__ (S : Sy fs fn K mg base) : ∀ q ∈ tb___sub__, MtG P w K mg base q.1 "__sub__" 3 q.2 [] := by unfold tb___sub__; exact (allC (p := fun q : String × Fn => MtG P w K mg base q.1 "__sub__" 3 q.2 []) ((g_Frac___sub__ S).up (by decide)) allN)
noncomputable def b_Frac___rsub__ : Sx := (sSeq (sIf (cB (c1 (mIsi ti_int) (cV 1))) (sRt (cMake "Frac" m_Frac___init__ [] (aC (c2 iSub (c2 mMul (cV 1) (cFldV "den" ["Frac"] 0)) (cFldV "num" ["Frac"] 0)) (aC (cFldV "den" ["Frac"] 0) aN)))) sNx) sStk)
noncomputable def m_Frac___rsub__ : Fn := mkFn 2 2 b_Frac___rsub__
end
end Fx
namespace Fx
open PySem PySem.Spec PyProof.Rows L2 L2H
section
variable {P : Program} {w : World} {K : Fg} {mg : Str → Option Value} {base : Heap}
theorem ok_Frac___rsub__ (S : Sy fs fn K mg base) {f : Addr} {fd : FuncData} {dvs : List V} {kws : List (Str × V)} (G : FunD K "__rsub__" "Frac.__rsub__" (defArgs st_Frac___rsub__) (defBody st_Frac___rsub__) (defScope st_Frac___rsub__) dvs kws f fd) : FnOk P w K mg base (L2.CX P w) 3 f fd (["self", "other"] : List Str) (spF K m_Frac___rsub__) := by
  have h := fn_ok (P := P) (w := w) (mg := mg) (base := base) (body := b_Frac___rsub__) G sc_Frac___rsub__ (k := 2) (fun cdv A outer s H E hr => by
    have tk := tk_cx (P := P) (w := w) (K := K) (mg := mg) (base := base) (N := (["self", "other"] : List Str)) (qual := "Frac.__rsub__") (scope := defScope st_Frac___rsub__) (f := f) (cd := cdv) (A := A) (outer := outer) (s := s) (H := H) (E := E)
    have hp := po_cx (P := P) (w := w) (K := K) (mg := mg) (base := base) (N := (["self", "other"] : List Str)) (qual := "Frac.__rsub__") (scope := defScope st_Frac___rsub__) (f := f) (cd := cdv) (A := A) (outer := outer) (s := s) (H := H) (E := E)
    exact (by exact ss_cons (by exact s_if (by exact t_val (by exact e_isi (by exact e_var rfl (Or.inl rfl)) (pe_bltn rfl (He.free_ok S.ki S.ns (fc_7 S)) PyProof.Rows.Boot.«int» (show RelV (.ty "int") (.type "int") from rfl)) (.ty "int") (hk_ti_int S) (hi_ti_int S) (hx_ti_int S) rfl (He.free_ok S.ki S.ns (fc_6 S)))) (by exact ss_one (by exact s_ret (by exact e_make (gm_Frac_2 S) (hr.mono (by decide)) tk rfl (by exact a_cons (by exact e_bin o_isub (by exact e_bin o_mmul (by exact e_var rfl (Or.inl rfl)) (by exact e_fldV rfl (Or.inl rfl) (allC (fdG_ok (fc_0 S) (fc_1 S)) allN))) (by exact e_fldV rfl (Or.inl rfl) (allC (fdG_ok (fc_0 S) (fc_2 S)) allN))) (by exact a_cons (by exact e_fldV rfl (Or.inl rfl) (allC (fdG_ok (fc_0 S) (fc_1 S)) allN)) a_nil))))) (by exact ss_nil)) (by exact ss_one (by exact s_stk))))
  exact h
theorem g_Frac___rsub__ (S : Sy fs fn K mg base) : MtG P w K mg base "Frac" "__rsub__" 3 m_Frac___rsub__ [] := by
  obtain ⟨fd, G⟩ := S.c.def_ 13 (d := df_Frac___rsub__) rfl
  exact ⟨He.cls_ok (fc_0 S), ⟨_, fd, _, [], [], ok_Frac___rsub__ S G, He.meth_ok (fc_31 S), (FunD.bindsN (ps := (["self", "other"] : List Str)) G fun _ _ _ _ _ _ us hl => match us, hl with | [_, _], _ => rfl), .nil, rp0⟩⟩
noncomputable def tb___rsub__ : List (String × Fn) := [("Frac", m_Frac___rsub__)]
theorem mt___rsub__ (S : Sy fs fn K mg base) : ∀ q ∈ tb___rsub__, MtG P w K mg base q.1 "__rsub__" 3 q.2 [] := by unfold tb___rsub__; exact (allC (p := fun q : String × Fn => MtG P w K mg base q.1 "__rsub__" 3 q.2 []) ((g_Frac___rsub__ S).up (by decide)) allN)
theorem ol_sub (S : Sy fs fn K mg base) : ∀ q ∈ tb___sub__, OwnL K q.1 "sub" := by unfold tb___sub__; exact (allC (ownL_ok (fc_32 S)) allN)
theorem or_sub (S : Sy fs fn K mg base) : ∀ q ∈ tb___rsub__, OwnR K q.1 "sub" := by unfold tb___rsub__; exact (allC (ownR_ok (fc_33 S) (fc_16 S)) allN)
noncomputable def b_Frac___mul__ : Sx := (sSeq (sIf (cB (c1 (mIsi ti_Frac) (cV 1))) (sRt (cMake "Frac" m_Frac___init__ [] (aC (c2 mMul (cFldV "num" ["Frac"] 0) (cFldV "num" ["Frac"] 1)) (aC (c2 mMul (cFldV "den" ["Frac"] 0) (cFldV "den" ["Frac"] 1)) aN)))) sNx) (sSeq (sIf (cB (c1 (mIsi ti_int) (cV 1))) (sRt (cMake "Frac" m_Frac___init__ [] (aC (c2 mMul (cFldV "num" ["Frac"] 0) (cV 1)) (aC (cFldV "den" ["Frac"] 0) aN)))) sNx) sStk))
noncomputable def m_Frac___mul__ : Fn := mkFn 2 2 b_Frac___mul__
end
end Fx
namespace Fx
open PySem PySem.Spec PyProof.Rows L2 L2H
section
variable {P : Program} {w : World} {K : Fg} {mg : Str → Option Value} {base : Heap}
theorem ok_Frac___mul__ (S : Sy fs fn K mg base) {f : Addr} {fd : FuncData} {dvs : List V} {kws : List (Str × V)} (G : FunD K "__mul__" "Frac.__mul__" (defArgs st_Frac___mul__) (defBody st_Frac___mul__) (defScope st_Frac___mul__) dvs kws f fd) : FnOk P w K mg base (L2.CX P w) 3 f fd (["self", "other"] : List Str) (spF K m_Frac___mul__) := by
  have h := fn_ok (P := P) (w := w) (mg := mg) (base := base) (body := b_Frac___mul__) G sc_Frac___mul__ (k := 2) (fun cdv A outer s H E hr => by
    have tk := tk_cx (P := P) (w := w) (K := K) (mg := mg) (base := base) (N := (["self", "other"] : List Str)) (qual := "Frac.__mul__") (scope := defScope st_Frac___mul__) (f := f) (cd := cdv) (A := A) (outer := outer) (s := s) (H := H) (E := E)
    have hp := po_cx (P := P) (w := w) (K := K) (mg := mg) (base := base) (N := (["self", "other"] : List Str)) (qual := "Frac.__mul__") (scope := defScope st_Frac___mul__) (f := f) (cd := cdv) (A := A) (outer := outer) (s := s) (H := H) (E := E)
    exact (by exact ss_cons (by exact s_if (by exact t_val (by exact e_isi (by exact e_var rfl (Or.inl rfl)) (pe_glob (v := .ref (He.ga K "Frac")) rfl (He.glo_ok S.ki S.ns (fc_10 S)) rfl) (.own _) (hk_ti_Frac S) (hi_ti_Frac S) (hx_ti_Frac S) rfl (He.free_ok S.ki S.ns (fc_6 S)))) (by exact ss_one (by exact s_ret (by exact e_make (gm_Frac_2 S) (hr.mono (by decide)) tk rfl (by exact a_cons (by exact e_bin o_mmul (by exact e_fldV rfl (Or.inl rfl) (allC (fdG_ok (fc_0 S) (fc_2 S)) allN)) (by exact e_fldV rfl (Or.inl rfl) (allC (fdG_ok (fc_0 S) (fc_2 S)) allN))) (by exact a_cons (by exact e_bin o_mmul (by exact e_fldV rfl (Or.inl rfl) (allC (fdG_ok (fc_0 S) (fc_1 S)) allN)) (by exact e_fldV rfl (Or.inl rfl) (allC (fdG_ok (fc_0 S) (fc_1 S)) allN))) a_nil))))) (by exact ss_nil)) (by exact ss_cons (by exact s_if (by exact t_val (by exact e_isi (by exact e_var rfl (Or.inl rfl)) (pe_bltn rfl (He.free_ok S.ki S.ns (fc_7 S)) PyProof.Rows.Boot.«int» (show RelV (.ty "int") (.type "int") from rfl)) (.ty "int") (hk_ti_int S) (hi_ti_int S) (hx_ti_int S) rfl (He.free_ok S.ki S.ns (fc_6 S)))) (by exact ss_one (by exact s_ret (by exact e_make (gm_Frac_2 S) (hr.mono (by decide)) tk rfl (by exact a_cons (by exact e_bin o_mmul (by exact e_fldV rfl (Or.inl rfl) (allC (fdG_ok (fc_0 S) (fc_2 S)) allN)) (by exact e_var rfl (Or.inl rfl))) (by exact a_cons (by exact e_fldV rfl (Or.inl rfl) (allC (fdG_ok (fc_0 S) (fc_1 S)) allN)) a_nil))))) (by exact ss_nil)) (by exact ss_one (by exact s_stk)))))
  exact h
theorem g_Frac___mul__ (S : Sy fs fn K mg base) : MtG P w K mg base "Frac" "__mul__" 3 m_Frac___mul__ [] := by
  obtain ⟨fd, G⟩ := S.c.def_ 14 (d := df_Frac___mul__) rfl
  exact ⟨He.cls_ok (fc_0 S), ⟨_, fd, _, [], [], ok_Frac___mul__ S G, He.meth_ok (fc_34 S), (FunD.bindsN (ps := (["self", "other"] : List Str)) G fun _ _ _ _ _ _ us hl => match us, hl with | [_, _], _ => rfl), .nil, rp0⟩⟩
noncomputable def tb___mul__ : List (String × Fn) := [("Frac", m_Frac___mul__)]
theorem mt___mul__ (S : Sy fs fn K mg base) : ∀ q ∈ tb___mul__, MtG P w K mg base q.1 "__mul__" 3 q.2 [] := by unfold tb___mul__; exact (allC (p := fun q : String × Fn => MtG P w K mg base q.1 "__mul__" 3 q.2 []) ((g_Frac___mul__ S).up (by decide)) allN)
noncomputable def b_Frac___rmul__ : Sx := (sSeq (sIf (cB (c1 (mIsi ti_int) (cV 1))) (sRt (cMake "Frac" m_Frac___init__ [] (aC (c2 mMul (cV 1) (cFldV "num" ["Frac"] 0)) (aC (cFldV "den" ["Frac"] 0) aN)))) sNx) sStk)
noncomputable def m_Frac___rmul__ : Fn := mkFn 2 2 b_Frac___rmul__
theorem ok_Frac___rmul__ (S : Sy fs fn K mg base) {f : Addr} {fd : FuncData} {dvs : List V} {kws : List (Str × V)} (G : FunD K "__rmul__" "Frac.__rmul__" (defArgs st_Frac___rmul__) (defBody st_Frac___rmul__) (defScope st_Frac___rmul__) dvs kws f fd) : FnOk P w K mg base (L2.CX P w) 3 f fd (["self", "other"] : List Str) (spF K m_Frac___rmul__) := by
  have h := fn_ok (P := P) (w := w) (mg := mg) (base := base) (body := b_Frac___rmul__) G sc_Frac___rmul__ (k := 2) (fun cdv A outer s H E hr => by
    have tk := tk_cx (P := P) (w := w) (K := K) (mg := mg) (base := base) (N := (["self", "other"] : List Str)) (qual := "Frac.__rmul__") (scope := defScope st_Frac___rmul__) (f := f) (cd := cdv) (A := A) (outer := outer) (s := s) (H := H) (E := E)
    have hp := po_cx (P := P) (w := w) (K := K) (mg := mg) (base := base) (N := (["self", "other"] : List Str)) (qual := "Frac.__rmul__") (scope := defScope st_Frac___rmul__) (f := f) (cd := cdv) (A := A) (outer := outer) (s := s) (H := H) (E := E)
    exact (by exact ss_cons (by exact s_if (by exact t_val (by exact e_isi (by exact e_var rfl (Or.inl rfl)) (pe_bltn rfl (He.free_ok S.ki S.ns (fc_7 S)) PyProof.Rows.Boot.«int» (show RelV (.ty "int") (.type "int") from rfl)) (.ty "int") (hk_ti_int S) (hi_ti_int S) (hx_ti_int S) rfl (He.free_ok S.ki S.ns (fc_6 S)))) (by exact ss_one (by exact s_ret (by exact e_make (gm_Frac_2 S) (hr.mono (by decide)) tk rfl (by exact a_cons (by exact e_bin o_mmul (by exact e_var rfl (Or.inl rfl)) (by exact e_fldV rfl (Or.inl rfl) (allC (fdG_ok (fc_0 S) (fc_2 S)) allN))) (by exact a_cons (by exact e_fldV rfl (Or.inl rfl) (allC (fdG_ok (fc_0 S) (fc_1 S)) allN)) a_nil))))) (by exact ss_nil)) (by exact ss_one (by exact s_stk))))
  exact h
theorem g_Frac___rmul__ (S : Sy fs fn K mg base) : MtG P w K mg base "Frac" "__rmul__" 3 m_Frac___rmul__ [] := by
  obtain ⟨fd, G⟩ := S.c.def_ 15 (d := df_Frac___rmul__) rfl
  exact ⟨He.cls_ok (fc_0 S), ⟨_, fd, _, [], [], ok_Frac___rmul__ S G, He.meth_ok (fc_35 S), (FunD.bindsN (ps := (["self", "other"] : List Str)) G fun _ _ _ _ _ _ us hl => match us, hl with | [_, _], _ => rfl), .nil, rp0⟩⟩
end
end Fx
namespace Fx
open PySem PySem.Spec PyProof.Rows L2 L2H
section
variable {P : Program} {w : World} {K : Fg} {mg : Str → Option Value} {base : Heap}
noncomputable def tb___rmul__ : List (String × Fn) := [("Frac", m_Frac___rmul__)]
theorem mt___rmul__ (S : Sy fs fn K mg base) : ∀ q ∈ tb___rmul__, MtG P w K mg base q.1 "__rmul__" 3 q.2 [] := by unfold tb___rmul__; exact (allC (p := fun q : String × Fn => MtG P w K mg base q.1 "__rmul__" 3 q.2 []) ((g_Frac___rmul__ S).up (by decide)) allN)
theorem ol_mul (S : Sy fs fn K mg base) : ∀ q ∈ tb___mul__, OwnL K q.1 "mul" := by unfold tb___mul__; exact (allC (ownL_ok (fc_36 S)) allN)
theorem or_mul (S : Sy fs fn K mg base) : ∀ q ∈ tb___rmul__, OwnR K q.1 "mul" := by unfold tb___rmul__; exact (allC (ownR_ok (fc_37 S) (fc_16 S)) allN)
noncomputable def b_Frac___mod__ : Sx := (sSeq (sIf (cB (c1 (mIsi ti_Frac_int) (cV 1))) (sRt (c2 (P2.or iSub (P2.or (opB tb___sub__) (opR tb___rsub__))) (cV 0) (c2 (P2.or mMul (P2.or (opB tb___mul__) (opR tb___rmul__))) (cV 1) (c2 (P2.or iFdv (P2.or (opB tb___floordiv__) (opR tb___rfloordiv__))) (cV 0) (cV 1))))) sNx) sStk)
noncomputable def m_Frac___mod__ : Fn := mkFn 2 2 b_Frac___mod__
theorem ok_Frac___mod__ (S : Sy fs fn K mg base) {f : Addr} {fd : FuncData} {dvs : List V} {kws : List (Str × V)} (G : FunD K "__mod__" "Frac.__mod__" (defArgs st_Frac___mod__) (defBody st_Frac___mod__) (defScope st_Frac___mod__) dvs kws f fd) : FnOk P w K mg base (L2.CX P w) 4 f fd (["self", "other"] : List Str) (spF K m_Frac___mod__) := by
  have h := fn_ok (P := P) (w := w) (mg := mg) (base := base) (body := b_Frac___mod__) G sc_Frac___mod__ (k := 3) (fun cdv A outer s H E hr => by
    have tk := tk_cx (P := P) (w := w) (K := K) (mg := mg) (base := base) (N := (["self", "other"] : List Str)) (qual := "Frac.__mod__") (scope := defScope st_Frac___mod__) (f := f) (cd := cdv) (A := A) (outer := outer) (s := s) (H := H) (E := E)
    have hp := po_cx (P := P) (w := w) (K := K) (mg := mg) (base := base) (N := (["self", "other"] : List Str)) (qual := "Frac.__mod__") (scope := defScope st_Frac___mod__) (f := f) (cd := cdv) (A := A) (outer := outer) (s := s) (H := H) (E := E)
    exact (by exact ss_cons (by exact s_if (by exact t_val (by exact e_isi2 (by exact e_var rfl (Or.inl rfl)) (pe_glob (v := .ref (He.ga K "Frac")) rfl (He.glo_ok S.ki S.ns (fc_10 S)) rfl) (pe_bltn rfl (He.free_ok S.ki S.ns (fc_7 S)) PyProof.Rows.Boot.«int» (show RelV (.ty "int") (.type "int") from rfl)) (.own _) (.ty "int") (hk_ti_Frac_int S) (hi_ti_Frac_int S) (hx_ti_Frac_int S) rfl (He.free_ok S.ki S.ns (fc_6 S)))) (by exact ss_one (by exact s_ret (by exact e_bin (Op2.or o_isub (Op2.or (o_left in_sub (by decide +kernel) (mt___sub__ S) (ol_sub S) (fun q _ => vo_bin rfl) (hr.mono (by decide)) tk) (o_right id_sub (by decide +kernel) (mt___rsub__ S) (or_sub S) (vi_bin rfl) (hr.mono (by decide)) tk))) (by exact e_var rfl (Or.inl rfl)) (by exact e_bin (Op2.or o_mmul (Op2.or (o_left in_mul (by decide +kernel) (mt___mul__ S) (ol_mul S) (fun q _ => vo_bin rfl) (hr.mono (by decide)) tk) (o_right id_mul (by decide +kernel) (mt___rmul__ S) (or_mul S) (vi_bin rfl) (hr.mono (by decide)) tk))) (by exact e_var rfl (Or.inl rfl)) (by exact e_bin (Op2.or o_ifdv (Op2.or (o_left in_fdv (by decide +kernel) (mt___floordiv__ S) (ol_floordiv S) (fun q _ => vo_bin rfl) (hr.mono (by decide)) tk) (o_right id_fdv (by decide +kernel) (mt___rfloordiv__ S) (or_floordiv S) (vi_bin rfl) (hr.mono (by decide)) tk))) (by exact e_var rfl (Or.inl rfl)) (by exact e_var rfl (Or.inl rfl))))))) (by exact ss_nil)) (by exact ss_one (by exact s_stk))))
  exact h
theorem g_Frac___mod__ (S : Sy fs fn K mg base) : MtG P w K mg base "Frac" "__mod__" 4 m_Frac___mod__ [] := by
  obtain ⟨fd, G⟩ := S.c.def_ 11 (d := df_Frac___mod__) rfl
  exact ⟨He.cls_ok (fc_0 S), ⟨_, fd, _, [], [], ok_Frac___mod__ S G, He.meth_ok (fc_38 S), (FunD.bindsN (ps := (["self", "other"] : List Str)) G fun _ _ _ _ _ _ us hl => match us, hl with | [_, _], _ => rfl), .nil, rp0⟩⟩
end
end Fx
namespace Fx
open PySem PySem.Spec PyProof.Rows L2 L2H
section
variable {P : Program} {w : World} {K : Fg} {mg : Str → Option Value} {base : Heap}
noncomputable def tb___mod__ : List (String × Fn) := [("Frac", m_Frac___mod__)]
theorem mt___mod__ (S : Sy fs fn K mg base) : ∀ q ∈ tb___mod__, MtG P w K mg base q.1 "__mod__" 4 q.2 [] := by unfold tb___mod__; exact (allC (p := fun q : String × Fn => MtG P w K mg base q.1 "__mod__" 4 q.2 []) ((g_Frac___mod__ S).up (by decide)) allN)
noncomputable def b_Frac___rmod__ : Sx := (sSeq (sIf (cB (c1 (mIsi ti_int) (cV 1))) (sRt (c2 (P2.or iSub (P2.or (opB tb___sub__) (opR tb___rsub__))) (cV 1) (c2 (P2.or mMul (P2.or (opB tb___mul__) (opR tb___rmul__))) (cV 0) (c2 (P2.or iFdv (P2.or (opB tb___floordiv__) (opR tb___rfloordiv__))) (cV 1) (cV 0))))) sNx) sStk)
noncomputable def m_Frac___rmod__ : Fn := mkFn 2 2 b_Frac___rmod__
theorem ok_Frac___rmod__ (S : Sy fs fn K mg base) {f : Addr} {fd : FuncData} {dvs : List V} {kws : List (Str × V)} (G : FunD K "__rmod__" "Frac.__rmod__" (defArgs st_Frac___rmod__) (defBody st_Frac___rmod__) (defScope st_Frac___rmod__) dvs kws f fd) : FnOk P w K mg base (L2.CX P w) 4 f fd (["self", "other"] : List Str) (spF K m_Frac___rmod__) := by
  have h := fn_ok (P := P) (w := w) (mg := mg) (base := base) (body := b_Frac___rmod__) G sc_Frac___rmod__ (k := 3) (fun cdv A outer s H E hr => by
    have tk := tk_cx (P := P) (w := w) (K := K) (mg := mg) (base := base) (N := (["self", "other"] : List Str)) (qual := "Frac.__rmod__") (scope := defScope st_Frac___rmod__) (f := f) (cd := cdv) (A := A) (outer := outer) (s := s) (H := H) (E := E)
    have hp := po_cx (P := P) (w := w) (K := K) (mg := mg) (base := base) (N := (["self", "other"] : List Str)) (qual := "Frac.__rmod__") (scope := defScope st_Frac___rmod__) (f := f) (cd := cdv) (A := A) (outer := outer) (s := s) (H := H) (E := E)
    exact (by exact ss_cons (by exact s_if (by exact t_val (by exact e_isi (by exact e_var rfl (Or.inl rfl)) (pe_bltn rfl (He.free_ok S.ki S.ns (fc_7 S)) PyProof.Rows.Boot.«int» (show RelV (.ty "int") (.type "int") from rfl)) (.ty "int") (hk_ti_int S) (hi_ti_int S) (hx_ti_int S) rfl (He.free_ok S.ki S.ns (fc_6 S)))) (by exact ss_one (by exact s_ret (by exact e_bin (Op2.or o_isub (Op2.or (o_left in_sub (by decide +kernel) (mt___sub__ S) (ol_sub S) (fun q _ => vo_bin rfl) (hr.mono (by decide)) tk) (o_right id_sub (by decide +kernel) (mt___rsub__ S) (or_sub S) (vi_bin rfl) (hr.mono (by decide)) tk))) (by exact e_var rfl (Or.inl rfl)) (by exact e_bin (Op2.or o_mmul (Op2.or (o_left in_mul (by decide +kernel) (mt___mul__ S) (ol_mul S) (fun q _ => vo_bin rfl) (hr.mono (by decide)) tk) (o_right id_mul (by decide +kernel) (mt___rmul__ S) (or_mul S) (vi_bin rfl) (hr.mono (by decide)) tk))) (by exact e_var rfl (Or.inl rfl)) (by exact e_bin (Op2.or o_ifdv (Op2.or (o_left in_fdv (by decide +kernel) (mt___floordiv__ S) (ol_floordiv S) (fun q _ => vo_bin rfl) (hr.mono (by decide)) tk) (o_right id_fdv (by decide +kernel) (mt___rfloordiv__ S) (or_floordiv S) (vi_bin rfl) (hr.mono (by decide)) tk))) (by exact e_var rfl (Or.inl rfl)) (by exact e_var rfl (Or.inl rfl))))))) (by exact ss_nil)) (by exact ss_one (by exact s_stk))))
  exact h
theorem g_Frac___rmod__ (S : Sy fs fn K mg base) : MtG P w K mg base "Frac" "__rmod__" 4 m_Frac___rmod__ [] := by
  obtain ⟨fd, G⟩ := S.c.def_ 16 (d := df_Frac___rmod__) rfl
  exact ⟨He.cls_ok (fc_0 S), ⟨_, fd, _, [], [], ok_Frac___rmod__ S G, He.meth_ok (fc_39 S), (FunD.bindsN (ps := (["self", "other"] : List Str)) G fun _ _ _ _ _ _ us hl => match us, hl with | [_, _], _ => rfl), .nil, rp0⟩⟩
noncomputable def tb___rmod__ : List (String × Fn) := [("Frac", m_Frac___rmod__)]
theorem mt___rmod__ (S : Sy fs fn K mg base) : ∀ q ∈ tb___rmod__, MtG P w K mg base q.1 "__rmod__" 4 q.2 [] := by unfold tb___rmod__; exact (allC (p := fun q : String × Fn => MtG P w K mg base q.1 "__rmod__" 4 q.2 []) ((g_Frac___rmod__ S).up (by decide)) allN)
end
end Fx
namespace Fx
open PySem PySem.Spec PyProof.Rows L2 L2H
section
variable {P : Program} {w : World} {K : Fg} {mg : Str → Option Value} {base : Heap}
theorem ol_mod (S : Sy fs fn K mg base) : ∀ q ∈ tb___mod__, OwnL K q.1 "mod" := by unfold tb___mod__; exact (allC (ownL_ok (fc_40 S)) allN)
theorem or_mod (S : Sy fs fn K mg base) : ∀ q ∈ tb___rmod__, OwnR K q.1 "mod" := by unfold tb___rmod__; exact (allC (ownR_ok (fc_41 S) (fc_16 S)) allN)
theorem gm_Frac_1 (S : Sy fs fn K mg base) : MkG P w K mg base "Frac" 1 m_Frac___init__ [.int 1] := by
  obtain ⟨fd, G⟩ := S.c.def_ 7 (d := df_Frac___init__) rfl
  obtain ⟨ds, hv, hb⟩ := G.binds1 2 1 (ps := (["self", "num", "den"] : List Str)) (by simp [Df.dvs, df_Frac___init__]) rfl (fun _ _ _ _ _ _ _ us its hu hi => match us, its, hu, hi with | [_, _], [_, _], _, _ => ⟨_, rfl, rfl⟩)
  exact ⟨(He.glo_ok S.ki S.ns (fc_10 S)), ⟨_, fd, _, _, ds, ok_Frac___init__ S G, He.mkr_ok (fc_23 S), hb, hv, rp1i⟩⟩
noncomputable def b_frac_of : Sx := (sSeq (sIf (cB (c1 (mIsi ti_Frac) (cV 0))) (sRtV 0) sNx) (sRt (cMake "Frac" m_Frac___init__ [.int 1] (aC (cV 0) aN))))
noncomputable def m_frac_of : Fn := mkFn 1 1 b_frac_of
theorem ok_frac_of (S : Sy fs fn K mg base) {f : Addr} {fd : FuncData} {dvs : List V} {kws : List (Str × V)} (G : FunD K "frac_of" "frac_of" (defArgs st_frac_of) (defBody st_frac_of) (defScope st_frac_of) dvs kws f fd) : FnOk P w K mg base (L2.CX P w) 3 f fd (["value"] : List Str) (spF K m_frac_of) := by
  have h := fn_ok (P := P) (w := w) (mg := mg) (base := base) (body := b_frac_of) G sc_frac_of (k := 2) (fun cdv A outer s H E hr => by
    have tk := tk_cx (P := P) (w := w) (K := K) (mg := mg) (base := base) (N := (["value"] : List Str)) (qual := "frac_of") (scope := defScope st_frac_of) (f := f) (cd := cdv) (A := A) (outer := outer) (s := s) (H := H) (E := E)
    have hp := po_cx (P := P) (w := w) (K := K) (mg := mg) (base := base) (N := (["value"] : List Str)) (qual := "frac_of") (scope := defScope st_frac_of) (f := f) (cd := cdv) (A := A) (outer := outer) (s := s) (H := H) (E := E)
    exact (by exact ss_cons (by exact s_if (by exact t_val (by exact e_isi (by exact e_var rfl (Or.inl rfl)) (pe_glob (v := .ref (He.ga K "Frac")) rfl (He.glo_ok S.ki S.ns (fc_10 S)) rfl) (.own _) (hk_ti_Frac S) (hi_ti_Frac S) (hx_ti_Frac S) rfl (He.free_ok S.ki S.ns (fc_6 S)))) (by exact ss_one (by exact s_retV rfl (Or.inl rfl))) (by exact ss_nil)) (by exact ss_one (by exact s_ret (by exact e_make (gm_Frac_1 S) (hr.mono (by decide)) tk rfl (by exact a_cons (by exact e_var rfl (Or.inl rfl)) a_nil))))))
  exact h
theorem g_frac_of (S : Sy fs fn K mg base) : FnG P w K mg base "frac_of" 3 m_frac_of [] := by
  obtain ⟨fd, G⟩ := S.c.def_ 18 (d := df_frac_of) rfl
  exact ⟨⟨_, fd, _, [], [], ok_frac_of S G, (He.glo_ok S.ki S.ns (fc_42 S)), G.kp, (FunD.bindsN (ps := (["value"] : List Str)) G fun _ _ _ _ _ _ us hl => match us, hl with | [_], _ => rfl), .nil, rp0⟩⟩
noncomputable def b_Frac_over : Sx := (sSeq (sSet 2 (cCall m_frac_of [] (aC (cV 1) aN))) (sRt (cMake "Frac" m_Frac___init__ [] (aC (c2 mMul (cFldV "num" ["Frac"] 0) (cFldV "den" ["Frac"] 2)) (aC (c2 mMul (cFldV "den" ["Frac"] 0) (cFldV "num" ["Frac"] 2)) aN)))))
end
end Fx
namespace Fx
open PySem PySem.Spec PyProof.Rows L2 L2H
section
variable {P : Program} {w : World} {K : Fg} {mg : Str → Option Value} {base : Heap}
noncomputable def m_Frac_over : Fn := mkFn 2 3 b_Frac_over
theorem ok_Frac_over (S : Sy fs fn K mg base) {f : Addr} {fd : FuncData} {dvs : List V} {kws : List (Str × V)} (G : FunD K "over" "Frac.over" (defArgs st_Frac_over) (defBody st_Frac_over) (defScope st_Frac_over) dvs kws f fd) : FnOk P w K mg base (L2.CX P w) 4 f fd (["self", "other"] : List Str) (spF K m_Frac_over) := by
  have h := fn_ok (P := P) (w := w) (mg := mg) (base := base) (body := b_Frac_over) G sc_Frac_over (k := 3) (fun cdv A outer s H E hr => by
    have tk := tk_cx (P := P) (w := w) (K := K) (mg := mg) (base := base) (N := (["self", "other", "divisor"] : List Str)) (qual := "Frac.over") (scope := defScope st_Frac_over) (f := f) (cd := cdv) (A := A) (outer := outer) (s := s) (H := H) (E := E)
    have hp := po_cx (P := P) (w := w) (K := K) (mg := mg) (base := base) (N := (["self", "other", "divisor"] : List Str)) (qual := "Frac.over") (scope := defScope st_Frac_over) (f := f) (cd := cdv) (A := A) (outer := outer) (s := s) (H := H) (E := E)
    exact (by exact ss_cons (by exact s_set sc_Frac_over.nd (i := 2) rfl (Or.inl rfl) (by exact e_call (g_frac_of S) (hr.mono (by decide)) tk rfl (by exact a_cons (by exact e_var rfl (Or.inl rfl)) a_nil))) (by exact ss_one (by exact s_ret (by exact e_make (gm_Frac_2 S) (hr.mono (by decide)) tk rfl (by exact a_cons (by exact e_bin o_mmul (by exact e_fldV rfl (Or.inl rfl) (allC (fdG_ok (fc_0 S) (fc_2 S)) allN)) (by exact e_fldV rfl (Or.inl rfl) (allC (fdG_ok (fc_0 S) (fc_1 S)) allN))) (by exact a_cons (by exact e_bin o_mmul (by exact e_fldV rfl (Or.inl rfl) (allC (fdG_ok (fc_0 S) (fc_1 S)) allN)) (by exact e_fldV rfl (Or.inl rfl) (allC (fdG_ok (fc_0 S) (fc_2 S)) allN))) a_nil)))))))
  exact h
theorem g_Frac_over (S : Sy fs fn K mg base) : MtG P w K mg base "Frac" "over" 4 m_Frac_over [] := by
  obtain ⟨fd, G⟩ := S.c.def_ 17 (d := df_Frac_over) rfl
  exact ⟨He.cls_ok (fc_0 S), ⟨_, fd, _, [], [], ok_Frac_over S G, He.meth_ok (fc_43 S), (FunD.bindsN (ps := (["self", "other"] : List Str)) G fun _ _ _ _ _ _ us hl => match us, hl with | [_, _], _ => rfl), .nil, rp0⟩⟩
noncomputable def tb_over : List (String × Fn) := [("Frac", m_Frac_over)]
theorem mt_over (S : Sy fs fn K mg base) : ∀ q ∈ tb_over, MtG P w K mg base q.1 "over" 4 q.2 [] := by unfold tb_over; exact (allC (p := fun q : String × Fn => MtG P w K mg base q.1 "over" 4 q.2 []) ((g_Frac_over S).up (by decide)) allN)
theorem gx_BadText (S : Sy fs fn K mg base) : ExI P w K mg base "BadText" 1 ["text"] := by
  obtain ⟨fd, G⟩ := S.c.def_ 20 (d := df_BadText___init__) rfl
  have T := oex_ok (fc_45 S)
  exact ⟨(He.glo_ok S.ki S.ns (fc_46 S)), T, ⟨by decide, by decide⟩, ⟨_, fd, (["self", "text"] : List Str), (xin_ok (fc_47 S)).1, (xin_ok (fc_47 S)).2, xi1 G sc_BadText___init__ rfl T (He.eqO_ok (fc_44 S)) (fun cdv A outer s H E hr => pss_one (ps_ost (pv 0) (pv 1))), (FunD.bindsN (ps := (["self", "text"] : List Str)) G fun _ _ _ _ _ _ us hl => match us, hl with | [_, _], _ => rfl)⟩⟩
theorem sg_DIGITS (S : Sy fs fn K mg base) : ∃ t, mg "DIGITS" = some (.str "0123456789" t) := He.str_ok S.ki S.ns (fc_48 S)
noncomputable def b__has_digits : Sx := (sRt (cAn (cCh (iCmp fun i j => decide (i < j)) (iCmp fun i j => decide (i ≤ j)) (cC (.int 0)) (cLenV 0) (cC (.int 60))) (cA bAll (aC (cLc [1] (gN 1) tYs (c2 sIn (cV 1) (cC (.str "0123456789"))) (iTxt (cV 0))) aN))))
end
end Fx
namespace Fx
open PySem PySem.Spec PyProof.Rows L2 L2H
section
variable {P : Program} {w : World} {K : Fg} {mg : Str → Option Value} {base : Heap}
noncomputable def m__has_digits : Fn := mkFn 1 2 b__has_digits
theorem ok__has_digits (S : Sy fs fn K mg base) {f : Addr} {fd : FuncData} {dvs : List V} {kws : List (Str × V)} (G : FunD K "_has_digits" "_has_digits" (defArgs st__has_digits) (defBody st__has_digits) (defScope st__has_digits) dvs kws f fd) : FnOk P w K mg base (L2.CX P w) 1 f fd (["text"] : List Str) (spF K m__has_digits) := by
  have h := fn_ok (P := P) (w := w) (mg := mg) (base := base) (body := b__has_digits) G sc__has_digits (k := 0) (fun cdv A outer s H E hr => by
    have tk := tk_cx (P := P) (w := w) (K := K) (mg := mg) (base := base) (N := (["text", "sign"] : List Str)) (qual := "_has_digits") (scope := defScope st__has_digits) (f := f) (cd := cdv) (A := A) (outer := outer) (s := s) (H := H) (E := E)
    have hp := po_cx (P := P) (w := w) (K := K) (mg := mg) (base := base) (N := (["text", "sign"] : List Str)) (qual := "_has_digits") (scope := defScope st__has_digits) (f := f) (cd := cdv) (A := A) (outer := outer) (s := s) (H := H) (E := E)
    exact (by exact ss_one (by exact s_ret (by exact e_and (by exact e_chain o_ilt o_ile (by exact e_int) (by exact e_lenV rfl (He.free_ok S.ki S.ns (fc_50 S)) rfl (Or.inl rfl)) (by exact e_cv (cvI_ok S.ki S.ns (fc_10 S) (fc_13 S) (fc_14 S)) rfl)) (by exact e_one (by exact e_blt (f_all rfl) rfl (He.free_ok S.ki S.ns (fc_49 S)) PyProof.Rows.Boot.«all» (by exact a_cons (by exact e_lc (own := ([("sign", 1)] : List (Str × Nat))) rfl sc__has_digits.nd (by exact i_txt (by exact e_var rfl (Or.inl rfl))) (show BlkOk (["text", "sign"] : List Str) (defScope st__has_digits) _ _ from ⟨rfl, by decide +kernel, by decide +kernel, by decide +kernel, by decide +kernel⟩) (fun s H C cl fp => (by exact g_name sc__has_digits.nd rfl (Or.inl rfl))) (fun s H C cl fp => ts_nil) (fun s H C cl fp => (by exact e_cmp o_sin (by exact e_var rfl (Or.inl rfl)) (by exact e_glob (v := .str "0123456789") rfl (sg_DIGITS S).choose_spec ⟨_, rfl⟩ (fun F => by simp only [Rp]))))) a_nil)))))))
  exact h
theorem g__has_digits (S : Sy fs fn K mg base) : FnG P w K mg base "_has_digits" 1 m__has_digits [] := by
  obtain ⟨fd, G⟩ := S.c.def_ 21 (d := df__has_digits) rfl
  exact ⟨⟨_, fd, _, [], [], ok__has_digits S G, (He.glo_ok S.ki S.ns (fc_51 S)), G.kp, (FunD.bindsN (ps := (["text"] : List Str)) G fun _ _ _ _ _ _ us hl => match us, hl with | [_], _ => rfl), .nil, rp0⟩⟩
noncomputable def b_Frac_read : Sx := (sSeq (sAsg (gTup 3 (gCons (gN 1) (gCons (gN 2) (gCons (gN 3) gNil)))) (cBm "str" tPart3 (cV 0) (aC (cC (.str "/")) aN))) (sSeq (sIf (tOr' (tNo (cB (cCall m__has_digits [] (aC (cBm "str" tRpre (cV 1) (aC (cC (.str "-")) aN)) aN)))) (tAn (cB (c2 (P2.or dEq (P2.or (opB tb___eq__) (opR tb___eq__))) (cV 2) (cC (.str "/")))) (tNo (cB (cCall m__has_digits [] (aC (cV 3) aN)))))) (sRaise "BadText" ["text"] (aC (cV 0) aN)) sNx) (sSeq (sSet 4 (cIf (cB (c2 (P2.or dEq (P2.or (opB tb___eq__) (opR tb___eq__))) (cV 2) (cC (.str "/")))) (cA bInt (aC (cV 3) aN)) (cC (.int 1)))) (sSeq (sIf (cB (c2 (P2.or dEq (P2.or (opB tb___eq__) (opR tb___eq__))) (cV 4) (cC (.int 0)))) (sRaise "BadText" ["text"] (aC (cV 0) aN)) sNx) (sSeq (sSet 5 (cMake "Frac" m_Frac___init__ [] (aC (cA bInt (aC (cV 1) aN)) (aC (cV 4) aN)))) (sSeq (sIf (cB (c2 (P2.or dNe (P2.or (opN tb___eq__) (opNR tb___eq__))) (cA (PN.or bStr (opSt tb___str__)) (aC (cV 5) aN)) (cV 0))) (sRaise "BadText" ["text"] (aC (cV 0) aN)) sNx) (sRtV 5)))))))
noncomputable def m_Frac_read : Fn := mkFn 1 6 b_Frac_read
theorem ok_Frac_read (S : Sy fs fn K mg base) {f : Addr} {fd : FuncData} {dvs : List V} {kws : List (Str × V)} (G : FunD K "read" "Frac.read" (defArgs st_Frac_read) (defBody st_Frac_read) (defScope st_Frac_read) dvs kws f fd) : FnOk P w K mg base (L2.CX P w) 4 f fd (["text"] : List Str) (spF K m_Frac_read) := by
  have h := fn_ok (P := P) (w := w) (mg := mg) (base := base) (body := b_Frac_read) G sc_Frac_read (k := 3) (fun cdv A outer s H E hr => by
    have tk := tk_cx (P := P) (w := w) (K := K) (mg := mg) (base := base) (N := (["text", "top", "slash", "bottom", "den", "found"] : List Str)) (qual := "Frac.read") (scope := defScope st_Frac_read) (f := f) (cd := cdv) (A := A) (outer := outer) (s := s) (H := H) (E := E)
    have hp := po_cx (P := P) (w := w) (K := K) (mg := mg) (base := base) (N := (["text", "top", "slash", "bottom", "den", "found"] : List Str)) (qual := "Frac.read") (scope := defScope st_Frac_read) (f := f) (cd := cdv) (A := A) (outer := outer) (s := s) (H := H) (E := E)
    exact (by exact ss_cons (by exact s_asg (vs := [1, 2, 3]) (by exact e_bm PySem.F.plainAttrs_str PySem.F.slot_str_partition PySem.F.type_str_partition m_partition (by exact e_var rfl (Or.inl rfl)) (by exact a_cons (by exact e_str) a_nil)) (by exact g_tup rfl (by exact g_cons (by exact g_name sc_Frac_read.nd rfl (Or.inl rfl)) (by exact g_cons (by exact g_name sc_Frac_read.nd rfl (Or.inl rfl)) (by exact g_cons (by exact g_name sc_Frac_read.nd rfl (Or.inl rfl)) g_nil)))) (st_tup (st_cons st_name (st_cons st_name (st_cons st_name st_nil))))) (by exact ss_cons (by exact s_if (by exact PW.pt (by exact t_or (by exact t_not (by exact t_val (by exact e_call (g__has_digits S) (hr.mono (by decide)) tk rfl (by exact a_cons (by exact e_bm PySem.F.plainAttrs_str PySem.F.slot_str_removeprefix PySem.F.type_str_removeprefix m_removeprefix (by exact e_var rfl (Or.inl rfl)) (by exact a_cons (by exact e_str) a_nil)) a_nil)))) (by exact t_or1 (by exact PW.pt (by exact t_and (by exact t_cmp (Op2.or (o_deq (u64 hr)) (Op2.or (o_cmpO (fun _ _ => rfl) (by decide +kernel) (mt___eq__ S) (hr.mono (by decide)) tk) (o_cmpR ic_eq (by decide +kernel) (mt___eq__ S) (ni___eq__ S) (hr.mono (by decide)) tk))) (by exact e_var rfl (Or.inl rfl)) (by exact e_str)) (by exact t_and1 (by exact t_not (by exact t_val (by exact e_call (g__has_digits S) (hr.mono (by decide)) tk rfl (by exact a_cons (by exact e_var rfl (Or.inl rfl)) a_nil)))))))))) (by exact ss_one (by exact s_raise (gx_BadText S) rfl (hr.mono (by decide)) tk passF rfl (by exact a_cons (by exact e_var rfl (Or.inl rfl)) a_nil))) (by exact ss_nil)) (by exact ss_cons (by exact s_set sc_Frac_read.nd (i := 4) rfl (Or.inl rfl) (by exact e_ifx (by exact t_cmp (Op2.or (o_deq (u64 hr)) (Op2.or (o_cmpO (fun _ _ => rfl) (by decide +kernel) (mt___eq__ S) (hr.mono (by decide)) tk) (o_cmpR ic_eq (by decide +kernel) (mt___eq__ S) (ni___eq__ S) (hr.mono (by decide)) tk))) (by exact e_var rfl (Or.inl rfl)) (by exact e_str)) (by exact e_typ (f_int) rfl (He.free_ok S.ki S.ns (fc_7 S)) PyProof.Rows.Boot.«int» (by exact a_cons (by exact e_var rfl (Or.inl rfl)) a_nil)) (by exact e_int))) (by exact ss_cons (by exact s_if (by exact t_cmp (Op2.or (o_deq (u64 hr)) (Op2.or (o_cmpO (fun _ _ => rfl) (by decide +kernel) (mt___eq__ S) (hr.mono (by decide)) tk) (o_cmpR ic_eq (by decide +kernel) (mt___eq__ S) (ni___eq__ S) (hr.mono (by decide)) tk))) (by exact e_var rfl (Or.inl rfl)) (by exact e_int)) (by exact ss_one (by exact s_raise (gx_BadText S) rfl (hr.mono (by decide)) tk passF rfl (by exact a_cons (by exact e_var rfl (Or.inl rfl)) a_nil))) (by exact ss_nil)) (by exact ss_cons (by exact s_set sc_Frac_read.nd (i := 5) rfl (Or.inl rfl) (by exact e_make (gm_Frac_2 S) (hr.mono (by decide)) tk rfl (by exact a_cons (by exact e_typ (f_int) rfl (He.free_ok S.ki S.ns (fc_7 S)) PyProof.Rows.Boot.«int» (by exact a_cons (by exact e_var rfl (Or.inl rfl)) a_nil)) (by exact a_cons (by exact e_var rfl (Or.inl rfl)) a_nil)))) (by exact ss_cons (by exact s_if (by exact t_cmp (Op2.or (o_dne (u64 hr)) (Op2.or (o_neO (mt___eq__ S) (on___eq__ S) (hr.mono (by decide)) tk) (o_neR (mt___eq__ S) (on___eq__ S) (ni___eq__ S) (hr.mono (by decide)) tk))) (by exact e_typ (OpN.or f_str (f_strO (mt___str__ S) (hr.mono (by decide)) tk)) rfl (He.free_ok S.ki S.ns (fc_18 S)) PyProof.Rows.Boot.«str» (by exact a_cons (by exact e_var rfl (Or.inl rfl)) a_nil)) (by exact e_var rfl (Or.inl rfl))) (by exact ss_one (by exact s_raise (gx_BadText S) rfl (hr.mono (by decide)) tk passF rfl (by exact a_cons (by exact e_var rfl (Or.inl rfl)) a_nil))) (by exact ss_nil)) (by exact ss_one (by exact s_retV rfl (Or.inl rfl))))))))))
  exact h
theorem g_Frac_read (S : Sy fs fn K mg base) : StG P w K mg base "Frac" "read" 4 m_Frac_read [] := by
  obtain ⟨fd, G⟩ := S.c.def_ 19 (d := df_Frac_read) rfl
  have T := stat_ok (fc_52 S)
  have R := (fc_13 S)
  exact ⟨(He.glo_ok S.ki S.ns (fc_10 S)), (He.ba R).1, of_decide_eq_true (He.ba R).2, ⟨_, _, T.2.choose, fd, _, [], [], T.1, T.2.choose_spec, ok_Frac_read S G, G.kp, (FunD.bindsN (ps := (["text"] : List Str)) G fun _ _ _ _ _ _ us hl => match us, hl with | [_], _ => rfl), .nil, rp0⟩⟩
theorem htx_BadText (S : Sy fs fn K mg base) : ∀ q ∈ tx_BadText, PySem.W.exmOne K (.ref (He.ga K q.1)) (.ref (He.ga K "BadText")) = some q.2 := exm_ok (cu := fun K => .ref (He.ga K "BadText")) (fc_53 S)
end
end Fx
namespace Fx
open PySem PySem.Spec PyProof.Rows L2 L2H
section
variable {P : Program} {w : World} {K : Fg} {mg : Str → Option Value} {base : Heap}
theorem hi_ti_Mismatch (S : Sy fs fn K mg base) : ∀ c b, (Ty.o c, b) ∈ ti_Mismatch → IsG K c := hi_of [] allN
theorem hx_ti_Mismatch (S : Sy fs fn K mg base) : ∀ c b, (Ty.x c, b) ∈ ti_Mismatch → IxG K c := hx_of ["DivisionByZero", "BadText", "BadCount"] (allC (ix_ok (fc_56 S)) (allC (ix_ok (fc_54 S)) (allC (ix_ok (fc_55 S)) allN)))
theorem hk_ti_Mismatch (S : Sy fs fn K mg base) : ∀ q ∈ ti_Mismatch, PySem.W.kitOne K (q.1.val K) (.ref (He.ga K "Mismatch")) = some q.2 := kit_ok (cu := fun K => .ref (He.ga K "Mismatch")) (fc_58 S)
theorem hi_ti_BadCount (S : Sy fs fn K mg base) : ∀ c b, (Ty.o c, b) ∈ ti_BadCount → IsG K c := hi_of [] allN
theorem hx_ti_BadCount (S : Sy fs fn K mg base) : ∀ c b, (Ty.x c, b) ∈ ti_BadCount → IxG K c := hx_of ["DivisionByZero", "BadText", "BadCount"] (allC (ix_ok (fc_56 S)) (allC (ix_ok (fc_54 S)) (allC (ix_ok (fc_55 S)) allN)))
theorem hk_ti_BadCount (S : Sy fs fn K mg base) : ∀ q ∈ ti_BadCount, PySem.W.kitOne K (q.1.val K) (.ref (He.ga K "BadCount")) = some q.2 := kit_ok (cu := fun K => .ref (He.ga K "BadCount")) (fc_60 S)
theorem hi_ti_BadText (S : Sy fs fn K mg base) : ∀ c b, (Ty.o c, b) ∈ ti_BadText → IsG K c := hi_of [] allN
theorem hx_ti_BadText (S : Sy fs fn K mg base) : ∀ c b, (Ty.x c, b) ∈ ti_BadText → IxG K c := hx_of ["DivisionByZero", "BadText", "BadCount"] (allC (ix_ok (fc_56 S)) (allC (ix_ok (fc_54 S)) (allC (ix_ok (fc_55 S)) allN)))
end
end Fx
namespace Fx
open PySem PySem.Spec PyProof.Rows L2 L2H
section
variable {P : Program} {w : World} {K : Fg} {mg : Str → Option Value} {base : Heap}
theorem hk_ti_BadText (S : Sy fs fn K mg base) : ∀ q ∈ ti_BadText, PySem.W.kitOne K (q.1.val K) (.ref (He.ga K "BadText")) = some q.2 := kit_ok (cu := fun K => .ref (He.ga K "BadText")) (fc_61 S)
theorem hi_ti_DivisionByZero (S : Sy fs fn K mg base) : ∀ c b, (Ty.o c, b) ∈ ti_DivisionByZero → IsG K c := hi_of [] allN
theorem hx_ti_DivisionByZero (S : Sy fs fn K mg base) : ∀ c b, (Ty.x c, b) ∈ ti_DivisionByZero → IxG K c := hx_of ["DivisionByZero", "BadText", "BadCount"] (allC (ix_ok (fc_56 S)) (allC (ix_ok (fc_54 S)) (allC (ix_ok (fc_55 S)) allN)))
theorem hk_ti_DivisionByZero (S : Sy fs fn K mg base) : ∀ q ∈ ti_DivisionByZero, PySem.W.kitOne K (q.1.val K) (.ref (He.ga K "DivisionByZero")) = some q.2 := kit_ok (cu := fun K => .ref (He.ga K "DivisionByZero")) (fc_62 S)
theorem hi_ti_ValueError (S : Sy fs fn K mg base) : ∀ c b, (Ty.o c, b) ∈ ti_ValueError → IsG K c := hi_of [] allN
theorem hx_ti_ValueError (S : Sy fs fn K mg base) : ∀ c b, (Ty.x c, b) ∈ ti_ValueError → IxG K c := hx_of ["DivisionByZero", "BadText", "BadCount"] (allC (ix_ok (fc_56 S)) (allC (ix_ok (fc_54 S)) (allC (ix_ok (fc_55 S)) allN)))
theorem hk_ti_ValueError (S : Sy fs fn K mg base) : ∀ q ∈ ti_ValueError, PySem.W.kitOne K (q.1.val K) (.type "ValueError") = some q.2 := kit_ok (cu := fun K => .type "ValueError") (fc_64 S)
theorem hi_ti_WebError (S : Sy fs fn K mg base) : ∀ c b, (Ty.o c, b) ∈ ti_WebError → IsG K c := hi_of [] allN
end
end Fx
namespace Fx
open PySem PySem.Spec PyProof.Rows L2 L2H
section
variable {P : Program} {w : World} {K : Fg} {mg : Str → Option Value} {base : Heap}
theorem hx_ti_WebError (S : Sy fs fn K mg base) : ∀ c b, (Ty.x c, b) ∈ ti_WebError → IxG K c := hx_of ["DivisionByZero", "BadText", "BadCount"] (allC (ix_ok (fc_56 S)) (allC (ix_ok (fc_54 S)) (allC (ix_ok (fc_55 S)) allN)))
theorem hk_ti_WebError (S : Sy fs fn K mg base) : ∀ q ∈ ti_WebError, PySem.W.kitOne K (q.1.val K) (.ref (He.ga K "WebError")) = some q.2 := kit_ok (cu := fun K => .ref (He.ga K "WebError")) (fc_66 S)
noncomputable def b__law_sort : Sx := (sSeq (sIf (tOr' (tNo (cB (c1 (mIsi ti_WebError) (cV 0)))) (tNo (cB (c1 (mIsi ti_ValueError) (cV 0))))) (sRt (cA mLst aN)) sNx) (sRt (cA mLst (aC (c1 (mIsi ti_DivisionByZero) (cV 0)) (aC (c1 (mIsi ti_BadText) (cV 0)) (aC (c1 (mIsi ti_BadCount) (cV 0)) (aC (c1 (mIsi ti_Mismatch) (cV 0)) aN)))))))
noncomputable def m__law_sort : Fn := mkFn 1 1 b__law_sort
theorem okc__law_sort (S : Sy fs fn K mg base) {f : Addr} {fd : FuncData} {dvs : List V} {kws : List (Str × V)} (G : FunD K "_law_sort" "_law_sort" (defArgs st__law_sort) (defBody st__law_sort) (defScope st__law_sort) dvs kws f fd) : FnC P w K mg base 1 f fd (["_law_e"] : List Str) (spF K m__law_sort) := by
  have h := fn_okC (P := P) (w := w) (mg := mg) (base := base) (body := b__law_sort) G sc__law_sort (k := 0) (fun cdv A outer s H E hr => by
    have tk := tk_cc (P := P) (w := w) (K := K) (mg := mg) (base := base) (N := (["_law_e"] : List Str)) (qual := "_law_sort") (scope := defScope st__law_sort) (f := f) (cd := cdv) (A := A) (outer := outer) (s := s) (H := H) (E := E)
    exact (by exact ss_cons (by exact s_if (by exact PW.pt (by exact t_or (by exact t_not (by exact t_val (by exact e_isi (by exact e_var rfl (Or.inl rfl)) (pe_glob (v := .ref (He.ga K "WebError")) rfl (He.glo_ok S.ki S.ns (fc_65 S)) rfl) (.own _) (hk_ti_WebError S) (hi_ti_WebError S) (hx_ti_WebError S) rfl (He.free_ok S.ki S.ns (fc_6 S))))) (by exact t_or1 (by exact t_not (by exact t_val (by exact e_isi (by exact e_var rfl (Or.inl rfl)) (pe_bltn rfl (He.free_ok S.ki S.ns (fc_63 S)) PyProof.Rows.Boot.«ValueError» (show RelV (.ty "ValueError") (.type "ValueError") from rfl)) (.ty "ValueError") (hk_ti_ValueError S) (hi_ti_ValueError S) (hx_ti_ValueError S) rfl (He.free_ok S.ki S.ns (fc_6 S)))))))) (by exact ss_one (by exact s_ret (by exact e_lst (by exact a_nil)))) (by exact ss_nil)) (by exact ss_one (by exact s_ret (by exact e_lst (by exact a_cons (by exact e_isi (by exact e_var rfl (Or.inl rfl)) (pe_glob (v := .ref (He.ga K "DivisionByZero")) rfl (He.glo_ok S.ki S.ns (fc_21 S)) rfl) (.own _) (hk_ti_DivisionByZero S) (hi_ti_DivisionByZero S) (hx_ti_DivisionByZero S) rfl (He.free_ok S.ki S.ns (fc_6 S))) (by exact a_cons (by exact e_isi (by exact e_var rfl (Or.inl rfl)) (pe_glob (v := .ref (He.ga K "BadText")) rfl (He.glo_ok S.ki S.ns (fc_46 S)) rfl) (.own _) (hk_ti_BadText S) (hi_ti_BadText S) (hx_ti_BadText S) rfl (He.free_ok S.ki S.ns (fc_6 S))) (by exact a_cons (by exact e_isi (by exact e_var rfl (Or.inl rfl)) (pe_glob (v := .ref (He.ga K "BadCount")) rfl (He.glo_ok S.ki S.ns (fc_59 S)) rfl) (.own _) (hk_ti_BadCount S) (hi_ti_BadCount S) (hx_ti_BadCount S) rfl (He.free_ok S.ki S.ns (fc_6 S))) (by exact a_cons (by exact e_isi (by exact e_var rfl (Or.inl rfl)) (pe_glob (v := .ref (He.ga K "Mismatch")) rfl (He.glo_ok S.ki S.ns (fc_57 S)) rfl) (.own _) (hk_ti_Mismatch S) (hi_ti_Mismatch S) (hx_ti_Mismatch S) rfl (He.free_ok S.ki S.ns (fc_6 S))) a_nil)))))))))
  exact h
theorem gc__law_sort (S : Sy fs fn K mg base) : FnGC P w K mg base "_law_sort" 1 m__law_sort [] := by
  obtain ⟨fd, G⟩ := S.c.def_ 22 (d := df__law_sort) rfl
  exact ⟨⟨_, fd, _, [], [], okc__law_sort S G, (He.glo_ok S.ki S.ns (fc_67 S)), G.kp, (FunD.bindsN (ps := (["_law_e"] : List Str)) G fun _ _ _ _ _ _ us hl => match us, hl with | [_], _ => rfl), .nil, rp0⟩⟩
theorem g__law_sort (S : Sy fs fn K mg base) : FnG P w K mg base "_law_sort" 1 m__law_sort [] := (gc__law_sort S).ok
theorem htx_DivisionByZero (S : Sy fs fn K mg base) : ∀ q ∈ tx_DivisionByZero, PySem.W.exmOne K (.ref (He.ga K q.1)) (.ref (He.ga K "DivisionByZero")) = some q.2 := exm_ok (cu := fun K => .ref (He.ga K "DivisionByZero")) (fc_68 S)
end
end Fx
namespace Fx
open PySem PySem.Spec PyProof.Rows L2 L2H
section
variable {P : Program} {w : World} {K : Fg} {mg : Str → Option Value} {base : Heap}
noncomputable def b__law_told : Sx := (sSeq (sTry (sIf (cB (c2 (P2.or dEq (P2.or (opB tb___eq__) (opR tb___eq__))) (cV 0) (cC (.int 0)))) (sSet 3 (cMake "Frac" m_Frac___init__ [] (aC (cV 1) (aC (cV 2) aN)))) (sIf (cB (c2 (P2.or dEq (P2.or (opB tb___eq__) (opR tb___eq__))) (cV 0) (cC (.int 1)))) (sSet 3 (c2 (P2.or iFdv (P2.or (opB tb___floordiv__) (opR tb___rfloordiv__))) (cV 1) (cV 2))) (sIf (cB (c2 (P2.or dEq (P2.or (opB tb___eq__) (opR tb___eq__))) (cV 0) (cC (.int 2)))) (sSet 3 (c2 (P2.or iMod (P2.or (opB tb___mod__) (opR tb___rmod__))) (cV 1) (cV 2))) (sIf (cB (c2 (P2.or dEq (P2.or (opB tb___eq__) (opR tb___eq__))) (cV 0) (cC (.int 3)))) (sSet 3 (cMeth "over" tb_over [] (cV 1) (aC (cV 2) aN))) (sSet 3 (cCall m_Frac_read [] (aC (cV 1) aN))))))) [⟨tx_DivisionByZero, some 4, (sRt (cA mTup (aC (cC (.str "zero")) (aC (cCall m__law_sort [] (aC (cV 4) aN)) (aC (cC (.str "")) aN)))))⟩, ⟨tx_BadText, some 4, (sRt (cA mTup (aC (cC (.str "text")) (aC (cCall m__law_sort [] (aC (cV 4) aN)) (aC (c1 (mXf "text" ["BadText"]) (cV 4)) aN)))))⟩]) (sRt (cA mTup (aC (cC (.str "let")) (aC (cA mLst aN) (aC (cA (PN.or bStr (opSt tb___str__)) (aC (cV 3) aN)) aN))))))
noncomputable def m__law_told : Fn := mkFn 3 5 b__law_told
theorem ok__law_told (S : Sy fs fn K mg base) {f : Addr} {fd : FuncData} {dvs : List V} {kws : List (Str × V)} (G : FunD K "_law_told" "_law_told" (defArgs st__law_told) (defBody st__law_told) (defScope st__law_told) dvs kws f fd) : FnOk P w K mg base (L2.CX P w) 5 f fd (["_law_what", "_law_one", "_law_two"] : List Str) (spF K m__law_told) := by
  have h := fn_ok (P := P) (w := w) (mg := mg) (base := base) (body := b__law_told) G sc__law_told (k := 4) (fun cdv A outer s H E hr => by
    have tk := tk_cx (P := P) (w := w) (K := K) (mg := mg) (base := base) (N := (["_law_what", "_law_one", "_law_two", "_law_got", "_law_e"] : List Str)) (qual := "_law_told") (scope := defScope st__law_told) (f := f) (cd := cdv) (A := A) (outer := outer) (s := s) (H := H) (E := E)
    have hp := po_cx (P := P) (w := w) (K := K) (mg := mg) (base := base) (N := (["_law_what", "_law_one", "_law_two", "_law_got", "_law_e"] : List Str)) (qual := "_law_told") (scope := defScope st__law_told) (f := f) (cd := cdv) (A := A) (outer := outer) (s := s) (H := H) (E := E)
    exact (by exact ss_cons (by exact s_try rfl rfl sc__law_told.nd tk (fun W pn xe tk hp => (by exact ss_one (by exact s_if (by exact t_cmp (Op2.or (o_deq (u64 hr)) (Op2.or (o_cmpO (fun _ _ => rfl) (by decide +kernel) (mt___eq__ S) (hr.mono (by decide)) tk) (o_cmpR ic_eq (by decide +kernel) (mt___eq__ S) (ni___eq__ S) (hr.mono (by decide)) tk))) (by exact e_var rfl (Or.inl rfl)) (by exact e_int)) (by exact ss_one (by exact s_set sc__law_told.nd (i := 3) rfl (Or.inl rfl) (by exact e_make (gm_Frac_2 S) (hr.mono (by decide)) tk rfl (by exact a_cons (by exact e_var rfl (Or.inl rfl)) (by exact a_cons (by exact e_var rfl (Or.inl rfl)) a_nil))))) (by exact ss_one (by exact s_if (by exact t_cmp (Op2.or (o_deq (u64 hr)) (Op2.or (o_cmpO (fun _ _ => rfl) (by decide +kernel) (mt___eq__ S) (hr.mono (by decide)) tk) (o_cmpR ic_eq (by decide +kernel) (mt___eq__ S) (ni___eq__ S) (hr.mono (by decide)) tk))) (by exact e_var rfl (Or.inl rfl)) (by exact e_int)) (by exact ss_one (by exact s_set sc__law_told.nd (i := 3) rfl (Or.inl rfl) (by exact e_bin (Op2.or o_ifdv (Op2.or (o_left in_fdv (by decide +kernel) (mt___floordiv__ S) (ol_floordiv S) (fun q _ => vo_bin rfl) (hr.mono (by decide)) tk) (o_right id_fdv (by decide +kernel) (mt___rfloordiv__ S) (or_floordiv S) (vi_bin rfl) (hr.mono (by decide)) tk))) (by exact e_var rfl (Or.inl rfl)) (by exact e_var rfl (Or.inl rfl))))) (by exact ss_one (by exact s_if (by exact t_cmp (Op2.or (o_deq (u64 hr)) (Op2.or (o_cmpO (fun _ _ => rfl) (by decide +kernel) (mt___eq__ S) (hr.mono (by decide)) tk) (o_cmpR ic_eq (by decide +kernel) (mt___eq__ S) (ni___eq__ S) (hr.mono (by decide)) tk))) (by exact e_var rfl (Or.inl rfl)) (by exact e_int)) (by exact ss_one (by exact s_set sc__law_told.nd (i := 3) rfl (Or.inl rfl) (by exact e_bin (Op2.or o_imod (Op2.or (o_left in_mod (by decide +kernel) (mt___mod__ S) (ol_mod S) (fun q _ => vo_bin rfl) (hr.mono (by decide)) tk) (o_right id_mod (by decide +kernel) (mt___rmod__ S) (or_mod S) (vi_bin rfl) (hr.mono (by decide)) tk))) (by exact e_var rfl (Or.inl rfl)) (by exact e_var rfl (Or.inl rfl))))) (by exact ss_one (by exact s_if (by exact t_cmp (Op2.or (o_deq (u64 hr)) (Op2.or (o_cmpO (fun _ _ => rfl) (by decide +kernel) (mt___eq__ S) (hr.mono (by decide)) tk) (o_cmpR ic_eq (by decide +kernel) (mt___eq__ S) (ni___eq__ S) (hr.mono (by decide)) tk))) (by exact e_var rfl (Or.inl rfl)) (by exact e_int)) (by exact ss_one (by exact s_set sc__law_told.nd (i := 3) rfl (Or.inl rfl) (by exact e_meth (by exact e_var rfl (Or.inl rfl)) (mt_over S) (hr.mono (by decide)) tk (by exact a_cons (by exact e_var rfl (Or.inl rfl)) a_nil)))) (by exact ss_one (by exact s_set sc__law_told.nd (i := 3) rfl (Or.inl rfl) (by exact e_stat (g_Frac_read S) (hr.mono (by decide)) tk rfl (by exact a_cons (by exact e_var rfl (Or.inl rfl)) a_nil))))))))))))) rfl (ClOk.named (i := 4) ⟨rfl, by decide, .inl (He.glo_ok S.ki S.ns (fc_21 S))⟩ rfl rfl (htx_DivisionByZero S) (fun a pn => (by exact ss_one (by exact s_ret (by exact e_tup (by exact a_cons (by exact e_str) (by exact a_cons (by exact e_callC (gc__law_sort S) ((roomS (a := a) (pn := pn) hr).mono (by decide)) takes0 rfl (by exact a_cons (by exact e_var rfl (Or.inl rfl)) a_nil)) (by exact a_cons (by exact e_str) a_nil))))))) (ClOk.named (i := 4) ⟨rfl, by decide, .inl (He.glo_ok S.ki S.ns (fc_46 S))⟩ rfl rfl (htx_BadText S) (fun a pn => (by exact ss_one (by exact s_ret (by exact e_tup (by exact a_cons (by exact e_str) (by exact a_cons (by exact e_callC (gc__law_sort S) ((roomS (a := a) (pn := pn) hr).mono (by decide)) takes0 rfl (by exact a_cons (by exact e_var rfl (Or.inl rfl)) a_nil)) (by exact a_cons (by exact e_xf (allC (xf_ok (fc_54 S) (fc_44 S)) allN) (by exact e_var rfl (Or.inl rfl))) a_nil))))))) ClOk.nil))) (by exact ss_one (by exact s_ret (by exact e_tup (by exact a_cons (by exact e_str) (by exact a_cons (by exact e_lst (by exact a_nil)) (by exact a_cons (by exact e_typ (OpN.or f_str (f_strO (mt___str__ S) (hr.mono (by decide)) tk)) rfl (He.free_ok S.ki S.ns (fc_18 S)) PyProof.Rows.Boot.«str» (by exact a_cons (by exact e_var rfl (Or.inl rfl)) a_nil)) a_nil))))))))
  exact h
theorem g__law_told (S : Sy fs fn K mg base) : FnG P w K mg base "_law_told" 5 m__law_told [] := by
  obtain ⟨fd, G⟩ := S.c.def_ 5 (d := df__law_told) rfl
  exact ⟨⟨_, fd, _, [], [], ok__law_told S G, (He.glo_ok S.ki S.ns (fc_69 S)), G.kp, (FunD.bindsN (ps := (["_law_what", "_law_one", "_law_two"] : List Str)) G fun _ _ _ _ _ _ us hl => match us, hl with | [_, _, _], _ => rfl), .nil, rp0⟩⟩
noncomputable def b_Frac___add__ : Sx := (sSeq (sIf (cB (c1 (mIsi ti_Frac) (cV 1))) (sRt (cMake "Frac" m_Frac___init__ [] (aC (c2 mAdd (c2 mMul (cFldV "num" ["Frac"] 0) (cFldV "den" ["Frac"] 1)) (c2 mMul (cFldV "num" ["Frac"] 1) (cFldV "den" ["Frac"] 0))) (aC (c2 mMul (cFldV "den" ["Frac"] 0) (cFldV "den" ["Frac"] 1)) aN)))) sNx) (sSeq (sIf (cB (c1 (mIsi ti_int) (cV 1))) (sRt (cMake "Frac" m_Frac___init__ [] (aC (c2 mAdd (cFldV "num" ["Frac"] 0) (c2 mMul (cV 1) (cFldV "den" ["Frac"] 0))) (aC (cFldV "den" ["Frac"] 0) aN)))) sNx) sStk))
noncomputable def m_Frac___add__ : Fn := mkFn 2 2 b_Frac___add__
theorem ok_Frac___add__ (S : Sy fs fn K mg base) {f : Addr} {fd : FuncData} {dvs : List V} {kws : List (Str × V)} (G : FunD K "__add__" "Frac.__add__" (defArgs st_Frac___add__) (defBody st_Frac___add__) (defScope st_Frac___add__) dvs kws f fd) : FnOk P w K mg base (L2.CX P w) 3 f fd (["self", "other"] : List Str) (spF K m_Frac___add__) := by
  have h := fn_ok (P := P) (w := w) (mg := mg) (base := base) (body := b_Frac___add__) G sc_Frac___add__ (k := 2) (fun cdv A outer s H E hr => by
    have tk := tk_cx (P := P) (w := w) (K := K) (mg := mg) (base := base) (N := (["self", "other"] : List Str)) (qual := "Frac.__add__") (scope := defScope st_Frac___add__) (f := f) (cd := cdv) (A := A) (outer := outer) (s := s) (H := H) (E := E)
    have hp := po_cx (P := P) (w := w) (K := K) (mg := mg) (base := base) (N := (["self", "other"] : List Str)) (qual := "Frac.__add__") (scope := defScope st_Frac___add__) (f := f) (cd := cdv) (A := A) (outer := outer) (s := s) (H := H) (E := E)
    exact (by exact ss_cons (by exact s_if (by exact t_val (by exact e_isi (by exact e_var rfl (Or.inl rfl)) (pe_glob (v := .ref (He.ga K "Frac")) rfl (He.glo_ok S.ki S.ns (fc_10 S)) rfl) (.own _) (hk_ti_Frac S) (hi_ti_Frac S) (hx_ti_Frac S) rfl (He.free_ok S.ki S.ns (fc_6 S)))) (by exact ss_one (by exact s_ret (by exact e_make (gm_Frac_2 S) (hr.mono (by decide)) tk rfl (by exact a_cons (by exact e_bin o_madd (by exact e_bin o_mmul (by exact e_fldV rfl (Or.inl rfl) (allC (fdG_ok (fc_0 S) (fc_2 S)) allN)) (by exact e_fldV rfl (Or.inl rfl) (allC (fdG_ok (fc_0 S) (fc_1 S)) allN))) (by exact e_bin o_mmul (by exact e_fldV rfl (Or.inl rfl) (allC (fdG_ok (fc_0 S) (fc_2 S)) allN)) (by exact e_fldV rfl (Or.inl rfl) (allC (fdG_ok (fc_0 S) (fc_1 S)) allN)))) (by exact a_cons (by exact e_bin o_mmul (by exact e_fldV rfl (Or.inl rfl) (allC (fdG_ok (fc_0 S) (fc_1 S)) allN)) (by exact e_fldV rfl (Or.inl rfl) (allC (fdG_ok (fc_0 S) (fc_1 S)) allN))) a_nil))))) (by exact ss_nil)) (by exact ss_cons (by exact s_if (by exact t_val (by exact e_isi (by exact e_var rfl (Or.inl rfl)) (pe_bltn rfl (He.free_ok S.ki S.ns (fc_7 S)) PyProof.Rows.Boot.«int» (show RelV (.ty "int") (.type "int") from rfl)) (.ty "int") (hk_ti_int S) (hi_ti_int S) (hx_ti_int S) rfl (He.free_ok S.ki S.ns (fc_6 S)))) (by exact ss_one (by exact s_ret (by exact e_make (gm_Frac_2 S) (hr.mono (by decide)) tk rfl (by exact a_cons (by exact e_bin o_madd (by exact e_fldV rfl (Or.inl rfl) (allC (fdG_ok (fc_0 S) (fc_2 S)) allN)) (by exact e_bin o_mmul (by exact e_var rfl (Or.inl rfl)) (by exact e_fldV rfl (Or.inl rfl) (allC (fdG_ok (fc_0 S) (fc_1 S)) allN)))) (by exact a_cons (by exact e_fldV rfl (Or.inl rfl) (allC (fdG_ok (fc_0 S) (fc_1 S)) allN)) a_nil))))) (by exact ss_nil)) (by exact ss_one (by exact s_stk)))))
  exact h
theorem g_Frac___add__ (S : Sy fs fn K mg base) : MtG P w K mg base "Frac" "__add__" 3 m_Frac___add__ [] := by
  obtain ⟨fd, G⟩ := S.c.def_ 23 (d := df_Frac___add__) rfl
  exact ⟨He.cls_ok (fc_0 S), ⟨_, fd, _, [], [], ok_Frac___add__ S G, He.meth_ok (fc_70 S), (FunD.bindsN (ps := (["self", "other"] : List Str)) G fun _ _ _ _ _ _ us hl => match us, hl with | [_, _], _ => rfl), .nil, rp0⟩⟩
end
end Fx
namespace Fx
open PySem PySem.Spec PyProof.Rows L2 L2H
section
variable {P : Program} {w : World} {K : Fg} {mg : Str → Option Value} {base : Heap}
noncomputable def tb___add__ : List (String × Fn) := [("Frac", m_Frac___add__)]
theorem mt___add__ (S : Sy fs fn K mg base) : ∀ q ∈ tb___add__, MtG P w K mg base q.1 "__add__" 3 q.2 [] := by unfold tb___add__; exact (allC (p := fun q : String × Fn => MtG P w K mg base q.1 "__add__" 3 q.2 []) ((g_Frac___add__ S).up (by decide)) allN)
noncomputable def b_Frac___radd__ : Sx := (sSeq (sIf (cB (c1 (mIsi ti_int) (cV 1))) (sRt (cMake "Frac" m_Frac___init__ [] (aC (c2 mAdd (c2 mMul (cV 1) (cFldV "den" ["Frac"] 0)) (cFldV "num" ["Frac"] 0)) (aC (cFldV "den" ["Frac"] 0) aN)))) sNx) sStk)
noncomputable def m_Frac___radd__ : Fn := mkFn 2 2 b_Frac___radd__
theorem ok_Frac___radd__ (S : Sy fs fn K mg base) {f : Addr} {fd : FuncData} {dvs : List V} {kws : List (Str × V)} (G : FunD K "__radd__" "Frac.__radd__" (defArgs st_Frac___radd__) (defBody st_Frac___radd__) (defScope st_Frac___radd__) dvs kws f fd) : FnOk P w K mg base (L2.CX P w) 3 f fd (["self", "other"] : List Str) (spF K m_Frac___radd__) := by
  have h := fn_ok (P := P) (w := w) (mg := mg) (base := base) (body := b_Frac___radd__) G sc_Frac___radd__ (k := 2) (fun cdv A outer s H E hr => by
    have tk := tk_cx (P := P) (w := w) (K := K) (mg := mg) (base := base) (N := (["self", "other"] : List Str)) (qual := "Frac.__radd__") (scope := defScope st_Frac___radd__) (f := f) (cd := cdv) (A := A) (outer := outer) (s := s) (H := H) (E := E)
    have hp := po_cx (P := P) (w := w) (K := K) (mg := mg) (base := base) (N := (["self", "other"] : List Str)) (qual := "Frac.__radd__") (scope := defScope st_Frac___radd__) (f := f) (cd := cdv) (A := A) (outer := outer) (s := s) (H := H) (E := E)
    exact (by exact ss_cons (by exact s_if (by exact t_val (by exact e_isi (by exact e_var rfl (Or.inl rfl)) (pe_bltn rfl (He.free_ok S.ki S.ns (fc_7 S)) PyProof.Rows.Boot.«int» (show RelV (.ty "int") (.type "int") from rfl)) (.ty "int") (hk_ti_int S) (hi_ti_int S) (hx_ti_int S) rfl (He.free_ok S.ki S.ns (fc_6 S)))) (by exact ss_one (by exact s_ret (by exact e_make (gm_Frac_2 S) (hr.mono (by decide)) tk rfl (by exact a_cons (by exact e_bin o_madd (by exact e_bin o_mmul (by exact e_var rfl (Or.inl rfl)) (by exact e_fldV rfl (Or.inl rfl) (allC (fdG_ok (fc_0 S) (fc_1 S)) allN))) (by exact e_fldV rfl (Or.inl rfl) (allC (fdG_ok (fc_0 S) (fc_2 S)) allN))) (by exact a_cons (by exact e_fldV rfl (Or.inl rfl) (allC (fdG_ok (fc_0 S) (fc_1 S)) allN)) a_nil))))) (by exact ss_nil)) (by exact ss_one (by exact s_stk))))
  exact h
theorem g_Frac___radd__ (S : Sy fs fn K mg base) : MtG P w K mg base "Frac" "__radd__" 3 m_Frac___radd__ [] := by
  obtain ⟨fd, G⟩ := S.c.def_ 24 (d := df_Frac___radd__) rfl
  exact ⟨He.cls_ok (fc_0 S), ⟨_, fd, _, [], [], ok_Frac___radd__ S G, He.meth_ok (fc_71 S), (FunD.bindsN (ps := (["self", "other"] : List Str)) G fun _ _ _ _ _ _ us hl => match us, hl with | [_, _], _ => rfl), .nil, rp0⟩⟩
noncomputable def tb___radd__ : List (String × Fn) := [("Frac", m_Frac___radd__)]
theorem mt___radd__ (S : Sy fs fn K mg base) : ∀ q ∈ tb___radd__, MtG P w K mg base q.1 "__radd__" 3 q.2 [] := by unfold tb___radd__; exact (allC (p := fun q : String × Fn => MtG P w K mg base q.1 "__radd__" 3 q.2 []) ((g_Frac___radd__ S).up (by decide)) allN)
end
end Fx
namespace Fx
open PySem PySem.Spec PyProof.Rows L2 L2H
section
variable {P : Program} {w : World} {K : Fg} {mg : Str → Option Value} {base : Heap}
theorem ol_add (S : Sy fs fn K mg base) : ∀ q ∈ tb___add__, OwnL K q.1 "add" := by unfold tb___add__; exact (allC (ownL_ok (fc_72 S)) allN)
theorem or_add (S : Sy fs fn K mg base) : ∀ q ∈ tb___radd__, OwnR K q.1 "add" := by unfold tb___radd__; exact (allC (ownR_ok (fc_73 S) (fc_16 S)) allN)
noncomputable def b__law_put : Sx := (sRt (c2 mAdd (c2 mAdd (c3 mSl (cV 0) pNo (pSo (cV 1))) (cV 2)) (c3 mSl (cV 0) (pSo (cV 1)) pNo)))
noncomputable def m__law_put : Fn := mkFn 3 3 b__law_put
theorem ok__law_put (S : Sy fs fn K mg base) {f : Addr} {fd : FuncData} {dvs : List V} {kws : List (Str × V)} (G : FunD K "_law_put" "_law_put" (defArgs st__law_put) (defBody st__law_put) (defScope st__law_put) dvs kws f fd) : FnOk P w K mg base (L2.CX P w) 1 f fd (["_law_text", "_law_place", "_law_sign"] : List Str) (spF K m__law_put) := by
  have h := fn_ok (P := P) (w := w) (mg := mg) (base := base) (body := b__law_put) G sc__law_put (k := 0) (fun cdv A outer s H E hr => by
    have tk := tk_cx (P := P) (w := w) (K := K) (mg := mg) (base := base) (N := (["_law_text", "_law_place", "_law_sign"] : List Str)) (qual := "_law_put") (scope := defScope st__law_put) (f := f) (cd := cdv) (A := A) (outer := outer) (s := s) (H := H) (E := E)
    have hp := po_cx (P := P) (w := w) (K := K) (mg := mg) (base := base) (N := (["_law_text", "_law_place", "_law_sign"] : List Str)) (qual := "_law_put") (scope := defScope st__law_put) (f := f) (cd := cdv) (A := A) (outer := outer) (s := s) (H := H) (E := E)
    exact (by exact ss_one (by exact s_ret (by exact e_bin o_madd (by exact e_bin o_madd (by exact e_slice x_slice (by exact e_var rfl (Or.inl rfl)) p_no (p_so (by exact e_var rfl (Or.inl rfl)))) (by exact e_var rfl (Or.inl rfl))) (by exact e_slice x_slice (by exact e_var rfl (Or.inl rfl)) (p_so (by exact e_var rfl (Or.inl rfl))) p_no)))))
  exact h
theorem g__law_put (S : Sy fs fn K mg base) : FnG P w K mg base "_law_put" 1 m__law_put [] := by
  obtain ⟨fd, G⟩ := S.c.def_ 26 (d := df__law_put) rfl
  exact ⟨⟨_, fd, _, [], [], ok__law_put S G, (He.glo_ok S.ki S.ns (fc_74 S)), G.kp, (FunD.bindsN (ps := (["_law_text", "_law_place", "_law_sign"] : List Str)) G fun _ _ _ _ _ _ us hl => match us, hl with | [_, _, _], _ => rfl), .nil, rp0⟩⟩
noncomputable def b__law_written : Sx := (sSeq (sIf (cB (c2 dEq (cIxV 0 (cC (.int 1))) (cC (.int 1)))) (sRt (cA bStr (aC (cIxV 0 (cC (.int 0))) aN))) sNx) (sRt (c2 mAdd (c2 mAdd (cA bStr (aC (cIxV 0 (cC (.int 0))) aN)) (cC (.str "/"))) (cA bStr (aC (cIxV 0 (cC (.int 1))) aN)))))
noncomputable def m__law_written : Fn := mkFn 1 1 b__law_written
end
end Fx
namespace Fx
open PySem PySem.Spec PyProof.Rows L2 L2H
section
variable {P : Program} {w : World} {K : Fg} {mg : Str → Option Value} {base : Heap}
theorem ok__law_written (S : Sy fs fn K mg base) {f : Addr} {fd : FuncData} {dvs : List V} {kws : List (Str × V)} (G : FunD K "_law_written" "_law_written" (defArgs st__law_written) (defBody st__law_written) (defScope st__law_written) dvs kws f fd) : FnOk P w K mg base (L2.CX P w) 1 f fd (["_law_p"] : List Str) (spF K m__law_written) := by
  have h := fn_ok (P := P) (w := w) (mg := mg) (base := base) (body := b__law_written) G sc__law_written (k := 0) (fun cdv A outer s H E hr => by
    have tk := tk_cx (P := P) (w := w) (K := K) (mg := mg) (base := base) (N := (["_law_p"] : List Str)) (qual := "_law_written") (scope := defScope st__law_written) (f := f) (cd := cdv) (A := A) (outer := outer) (s := s) (H := H) (E := E)
    have hp := po_cx (P := P) (w := w) (K := K) (mg := mg) (base := base) (N := (["_law_p"] : List Str)) (qual := "_law_written") (scope := defScope st__law_written) (f := f) (cd := cdv) (A := A) (outer := outer) (s := s) (H := H) (E := E)
    exact (by exact ss_cons (by exact s_if (by exact t_cmp (o_deq (u64 hr)) (by exact e_ixV rfl (Or.inl rfl) (by exact e_int) (fun _ _ => rfl)) (by exact e_int)) (by exact ss_one (by exact s_ret (by exact e_typ (f_str) rfl (He.free_ok S.ki S.ns (fc_18 S)) PyProof.Rows.Boot.«str» (by exact a_cons (by exact e_ixV rfl (Or.inl rfl) (by exact e_int) (fun _ _ => rfl)) a_nil)))) (by exact ss_nil)) (by exact ss_one (by exact s_ret (by exact e_bin o_madd (by exact e_bin o_madd (by exact e_typ (f_str) rfl (He.free_ok S.ki S.ns (fc_18 S)) PyProof.Rows.Boot.«str» (by exact a_cons (by exact e_ixV rfl (Or.inl rfl) (by exact e_int) (fun _ _ => rfl)) a_nil)) (by exact e_str)) (by exact e_typ (f_str) rfl (He.free_ok S.ki S.ns (fc_18 S)) PyProof.Rows.Boot.«str» (by exact a_cons (by exact e_ixV rfl (Or.inl rfl) (by exact e_int) (fun _ _ => rfl)) a_nil)))))))
  exact h
theorem g__law_written (S : Sy fs fn K mg base) : FnG P w K mg base "_law_written" 1 m__law_written [] := by
  obtain ⟨fd, G⟩ := S.c.def_ 27 (d := df__law_written) rfl
  exact ⟨⟨_, fd, _, [], [], ok__law_written S G, (He.glo_ok S.ki S.ns (fc_75 S)), G.kp, (FunD.bindsN (ps := (["_law_p"] : List Str)) G fun _ _ _ _ _ _ us hl => match us, hl with | [_], _ => rfl), .nil, rp0⟩⟩
noncomputable def b__law_spoilt : Sx := (sSeq (sSet 3 (cCall m__law_written [] (aC (cV 0) aN))) (sSeq (sSet 4 (cA bStr (aC (cIxV 0 (cC (.int 0))) aN))) (sSeq (sIf (cB (c2 dEq (cV 1) (cC (.int 0)))) (sRt (c2 mAdd (cC (.str "0")) (cV 3))) sNx) (sSeq (sIf (tAn (cB (c2 dEq (cV 1) (cC (.int 1)))) (cB (c2 dEq (cIxV 0 (cC (.int 1))) (cC (.int 1))))) (sRt (c2 mAdd (cV 3) (cC (.str "/1")))) sNx) (sSeq (sIf (cB (c2 dEq (cV 1) (cC (.int 1)))) (sRt (c2 mAdd (c2 mAdd (cV 4) (cC (.str "/0"))) (cA bStr (aC (cIxV 0 (cC (.int 1))) aN)))) sNx) (sSeq (sIf (cB (c2 dEq (cV 1) (cC (.int 2)))) (sRt (c2 mAdd (cC (.str "+")) (cV 3))) sNx) (sSeq (sIf (cB (c2 dEq (cV 1) (cC (.int 3)))) (sRt (c2 mAdd (cV 3) (cC (.str "\n")))) sNx) (sSeq (sIf (cB (c2 dEq (cV 1) (cC (.int 4)))) (sRt (c2 mAdd (cC (.str "/")) (cV 3))) sNx) (sSeq (sIf (cB (c2 dEq (cV 1) (cC (.int 5)))) (sRt (c2 mAdd (cV 3) (cC (.str "/")))) sNx) (sSeq (sIf (cB (c2 dEq (cV 1) (cC (.int 6)))) (sRt (c2 mAdd (c2 mAdd (cA bStr (aC (c2 mMul (cC (.int 2)) (cIxV 0 (cC (.int 0)))) aN)) (cC (.str "/"))) (cA bStr (aC (c2 mMul (cC (.int 2)) (cIxV 0 (cC (.int 1)))) aN)))) sNx) (sSeq (sIf (tAn (cB (c2 dEq (cV 1) (cC (.int 7)))) (cB (c2 (iCmp fun i j => decide (i ≤ j)) (cIxV 0 (cC (.int 0))) (cC (.int 0))))) (sRt (c2 mAdd (cC (.str "-")) (cV 3))) sNx) (sSeq (sIf (cB (c2 dEq (cV 1) (cC (.int 7)))) (sRt (c2 mAdd (cV 3) (cC (.str "-")))) sNx) (sSeq (sIf (cB (c2 dEq (cV 1) (cC (.int 8)))) (sRt (c2 mAdd (cV 4) (cC (.str "/0")))) sNx) (sSeq (sIf (cB (c2 dEq (cV 1) (cC (.int 9)))) (sRt (c2 mAdd (c2 mAdd (cV 4) (cC (.str "/-"))) (cA bStr (aC (cIxV 0 (cC (.int 1))) aN)))) sNx) (sRt (cCall m__law_put [] (aC (cV 3) (aC (cV 2) (aC (c2 mIx (cA mLst (aC (cC (.str " ")) (aC (cC (.str "_")) (aC (cC (.str "a")) (aC (cC (.str ".")) (aC (cC (.str "+")) (aC (cC (.str "\n")) aN))))))) (c2 iSub (cV 1) (cC (.int 10)))) aN)))))))))))))))))))
noncomputable def m__law_spoilt : Fn := mkFn 3 5 b__law_spoilt
theorem ok__law_spoilt (S : Sy fs fn K mg base) {f : Addr} {fd : FuncData} {dvs : List V} {kws : List (Str × V)} (G : FunD K "_law_spoilt" "_law_spoilt" (defArgs st__law_spoilt) (defBody st__law_spoilt) (defScope st__law_spoilt) dvs kws f fd) : FnOk P w K mg base (L2.CX P w) 2 f fd (["_law_p", "_law_mode", "_law_place"] : List Str) (spF K m__law_spoilt) := by
  have h := fn_ok (P := P) (w := w) (mg := mg) (base := base) (body := b__law_spoilt) G sc__law_spoilt (k := 1) (fun cdv A outer s H E hr => by
    have tk := tk_cx (P := P) (w := w) (K := K) (mg := mg) (base := base) (N := (["_law_p", "_law_mode", "_law_place", "_law_text", "_law_top_here"] : List Str)) (qual := "_law_spoilt") (scope := defScope st__law_spoilt) (f := f) (cd := cdv) (A := A) (outer := outer) (s := s) (H := H) (E := E)
    have hp := po_cx (P := P) (w := w) (K := K) (mg := mg) (base := base) (N := (["_law_p", "_law_mode", "_law_place", "_law_text", "_law_top_here"] : List Str)) (qual := "_law_spoilt") (scope := defScope st__law_spoilt) (f := f) (cd := cdv) (A := A) (outer := outer) (s := s) (H := H) (E := E)
    exact (by exact ss_cons (by exact s_set sc__law_spoilt.nd (i := 3) rfl (Or.inl rfl) (by exact e_call (g__law_written S) (hr.mono (by decide)) tk rfl (by exact a_cons (by exact e_var rfl (Or.inl rfl)) a_nil))) (by exact ss_cons (by exact s_set sc__law_spoilt.nd (i := 4) rfl (Or.inl rfl) (by exact e_typ (f_str) rfl (He.free_ok S.ki S.ns (fc_18 S)) PyProof.Rows.Boot.«str» (by exact a_cons (by exact e_ixV rfl (Or.inl rfl) (by exact e_int) (fun _ _ => rfl)) a_nil))) (by exact ss_cons (by exact s_if (by exact t_cmp (o_deq (u64 hr)) (by exact e_var rfl (Or.inl rfl)) (by exact e_int)) (by exact ss_one (by exact s_ret (by exact e_bin o_madd (by exact e_str) (by exact e_var rfl (Or.inl rfl))))) (by exact ss_nil)) (by exact ss_cons (by exact s_if (by exact PW.pt (by exact t_and (by exact t_cmp (o_deq (u64 hr)) (by exact e_var rfl (Or.inl rfl)) (by exact e_int)) (by exact t_and1 (by exact t_cmp (o_deq (u64 hr)) (by exact e_ixV rfl (Or.inl rfl) (by exact e_int) (fun _ _ => rfl)) (by exact e_int))))) (by exact ss_one (by exact s_ret (by exact e_bin o_madd (by exact e_var rfl (Or.inl rfl)) (by exact e_str)))) (by exact ss_nil)) (by exact ss_cons (by exact s_if (by exact t_cmp (o_deq (u64 hr)) (by exact e_var rfl (Or.inl rfl)) (by exact e_int)) (by exact ss_one (by exact s_ret (by exact e_bin o_madd (by exact e_bin o_madd (by exact e_var rfl (Or.inl rfl)) (by exact e_str)) (by exact e_typ (f_str) rfl (He.free_ok S.ki S.ns (fc_18 S)) PyProof.Rows.Boot.«str» (by exact a_cons (by exact e_ixV rfl (Or.inl rfl) (by exact e_int) (fun _ _ => rfl)) a_nil))))) (by exact ss_nil)) (by exact ss_cons (by exact s_if (by exact t_cmp (o_deq (u64 hr)) (by exact e_var rfl (Or.inl rfl)) (by exact e_int)) (by exact ss_one (by exact s_ret (by exact e_bin o_madd (by exact e_str) (by exact e_var rfl (Or.inl rfl))))) (by exact ss_nil)) (by exact ss_cons (by exact s_if (by exact t_cmp (o_deq (u64 hr)) (by exact e_var rfl (Or.inl rfl)) (by exact e_int)) (by exact ss_one (by exact s_ret (by exact e_bin o_madd (by exact e_var rfl (Or.inl rfl)) (by exact e_str)))) (by exact ss_nil)) (by exact ss_cons (by exact s_if (by exact t_cmp (o_deq (u64 hr)) (by exact e_var rfl (Or.inl rfl)) (by exact e_int)) (by exact ss_one (by exact s_ret (by exact e_bin o_madd (by exact e_str) (by exact e_var rfl (Or.inl rfl))))) (by exact ss_nil)) (by exact ss_cons (by exact s_if (by exact t_cmp (o_deq (u64 hr)) (by exact e_var rfl (Or.inl rfl)) (by exact e_int)) (by exact ss_one (by exact s_ret (by exact e_bin o_madd (by exact e_var rfl (Or.inl rfl)) (by exact e_str)))) (by exact ss_nil)) (by exact ss_cons (by exact s_if (by exact t_cmp (o_deq (u64 hr)) (by exact e_var rfl (Or.inl rfl)) (by exact e_int)) (by exact ss_one (by exact s_ret (by exact e_bin o_madd (by exact e_bin o_madd (by exact e_typ (f_str) rfl (He.free_ok S.ki S.ns (fc_18 S)) PyProof.Rows.Boot.«str» (by exact a_cons (by exact e_bin o_mmul (by exact e_int) (by exact e_ixV rfl (Or.inl rfl) (by exact e_int) (fun _ _ => rfl))) a_nil)) (by exact e_str)) (by exact e_typ (f_str) rfl (He.free_ok S.ki S.ns (fc_18 S)) PyProof.Rows.Boot.«str» (by exact a_cons (by exact e_bin o_mmul (by exact e_int) (by exact e_ixV rfl (Or.inl rfl) (by exact e_int) (fun _ _ => rfl))) a_nil))))) (by exact ss_nil)) (by exact ss_cons (by exact s_if (by exact PW.pt (by exact t_and (by exact t_cmp (o_deq (u64 hr)) (by exact e_var rfl (Or.inl rfl)) (by exact e_int)) (by exact t_and1 (by exact t_cmp o_ile (by exact e_ixV rfl (Or.inl rfl) (by exact e_int) (fun _ _ => rfl)) (by exact e_int))))) (by exact ss_one (by exact s_ret (by exact e_bin o_madd (by exact e_str) (by exact e_var rfl (Or.inl rfl))))) (by exact ss_nil)) (by exact ss_cons (by exact s_if (by exact t_cmp (o_deq (u64 hr)) (by exact e_var rfl (Or.inl rfl)) (by exact e_int)) (by exact ss_one (by exact s_ret (by exact e_bin o_madd (by exact e_var rfl (Or.inl rfl)) (by exact e_str)))) (by exact ss_nil)) (by exact ss_cons (by exact s_if (by exact t_cmp (o_deq (u64 hr)) (by exact e_var rfl (Or.inl rfl)) (by exact e_int)) (by exact ss_one (by exact s_ret (by exact e_bin o_madd (by exact e_var rfl (Or.inl rfl)) (by exact e_str)))) (by exact ss_nil)) (by exact ss_cons (by exact s_if (by exact t_cmp (o_deq (u64 hr)) (by exact e_var rfl (Or.inl rfl)) (by exact e_int)) (by exact ss_one (by exact s_ret (by exact e_bin o_madd (by exact e_bin o_madd (by exact e_var rfl (Or.inl rfl)) (by exact e_str)) (by exact e_typ (f_str) rfl (He.free_ok S.ki S.ns (fc_18 S)) PyProof.Rows.Boot.«str» (by exact a_cons (by exact e_ixV rfl (Or.inl rfl) (by exact e_int) (fun _ _ => rfl)) a_nil))))) (by exact ss_nil)) (by exact ss_one (by exact s_ret (by exact e_call (g__law_put S) (hr.mono (by decide)) tk rfl (by exact a_cons (by exact e_var rfl (Or.inl rfl)) (by exact a_cons (by exact e_var rfl (Or.inl rfl)) (by exact a_cons (by exact e_ix x_ix (by exact e_lst (by exact a_cons (by exact e_str) (by exact a_cons (by exact e_str) (by exact a_cons (by exact e_str) (by exact a_cons (by exact e_str) (by exact a_cons (by exact e_str) (by exact a_cons (by exact e_str) a_nil))))))) (by exact e_bin o_isub (by exact e_var rfl (Or.inl rfl)) (by exact e_int)) (fun _ _ => rfl)) a_nil)))))))))))))))))))))
  exact h
theorem g__law_spoilt (S : Sy fs fn K mg base) : FnG P w K mg base "_law_spoilt" 2 m__law_spoilt [] := by
  obtain ⟨fd, G⟩ := S.c.def_ 25 (d := df__law_spoilt) rfl
  exact ⟨⟨_, fd, _, [], [], ok__law_spoilt S G, (He.glo_ok S.ki S.ns (fc_76 S)), G.kp, (FunD.bindsN (ps := (["_law_p", "_law_mode", "_law_place"] : List Str)) G fun _ _ _ _ _ _ us hl => match us, hl with | [_, _, _], _ => rfl), .nil, rp0⟩⟩
theorem gx_BadCount (S : Sy fs fn K mg base) : ExI P w K mg base "BadCount" 1 ["count"] := by
  obtain ⟨fd, G⟩ := S.c.def_ 29 (d := df_BadCount___init__) rfl
  have T := oex_ok (fc_79 S)
  exact ⟨(He.glo_ok S.ki S.ns (fc_59 S)), T, ⟨by decide, by decide⟩, ⟨_, fd, (["self", "count"] : List Str), (xin_ok (fc_80 S)).1, (xin_ok (fc_80 S)).2, xi1 G sc_BadCount___init__ rfl T (He.eqO_ok (fc_78 S)) (fun cdv A outer s H E hr => pss_one (ps_ost (pv 0) (pv 1))), (FunD.bindsN (ps := (["self", "count"] : List Str)) G fun _ _ _ _ _ _ us hl => match us, hl with | [_, _], _ => rfl)⟩⟩
noncomputable def b_Frac___pow__ : Sx := (sSeq (sIf (tNo (cB (cCh (iCmp fun i j => decide (i ≤ j)) (iCmp fun i j => decide (i ≤ j)) (cC (.int 0)) (cV 1) (cC (.int 64))))) (sRaise "BadCount" ["count"] (aC (cV 1) aN)) sNx) (sSeq (sSet 2 (cC (.int 1))) (sSeq (sSet 3 (cC (.int 1))) (sSeq (sFor (gN 4) (sSeq (sSet 2 (c2 mMul (cV 2) (cFldV "num" ["Frac"] 0))) (sSet 3 (c2 mMul (cV 3) (cFldV "den" ["Frac"] 0)))) (iRng (aC (cV 1) aN))) (sRt (cMake "Frac" m_Frac___init__ [] (aC (cV 2) (aC (cV 3) aN))))))))
end
end Fx
namespace Fx
open PySem PySem.Spec PyProof.Rows L2 L2H
section
variable {P : Program} {w : World} {K : Fg} {mg : Str → Option Value} {base : Heap}
noncomputable def m_Frac___pow__ : Fn := mkFn 2 5 b_Frac___pow__
theorem ok_Frac___pow__ (S : Sy fs fn K mg base) {f : Addr} {fd : FuncData} {dvs : List V} {kws : List (Str × V)} (G : FunD K "__pow__" "Frac.__pow__" (defArgs st_Frac___pow__) (defBody st_Frac___pow__) (defScope st_Frac___pow__) dvs kws f fd) : FnOk P w K mg base (L2.CX P w) 3 f fd (["self", "other"] : List Str) (spF K m_Frac___pow__) := by
  have h := fn_ok (P := P) (w := w) (mg := mg) (base := base) (body := b_Frac___pow__) G sc_Frac___pow__ (k := 2) (fun cdv A outer s H E hr => by
    have tk := tk_cx (P := P) (w := w) (K := K) (mg := mg) (base := base) (N := (["self", "other", "num", "den", "_"] : List Str)) (qual := "Frac.__pow__") (scope := defScope st_Frac___pow__) (f := f) (cd := cdv) (A := A) (outer := outer) (s := s) (H := H) (E := E)
    have hp := po_cx (P := P) (w := w) (K := K) (mg := mg) (base := base) (N := (["self", "other", "num", "den", "_"] : List Str)) (qual := "Frac.__pow__") (scope := defScope st_Frac___pow__) (f := f) (cd := cdv) (A := A) (outer := outer) (s := s) (H := H) (E := E)
    exact (by exact ss_cons (by exact s_if (by exact t_not (by exact t_chain o_ile o_ile (by exact e_int) (by exact e_var rfl (Or.inl rfl)) (by exact e_int))) (by exact ss_one (by exact s_raise (gx_BadCount S) rfl (hr.mono (by decide)) tk passF rfl (by exact a_cons (by exact e_var rfl (Or.inl rfl)) a_nil))) (by exact ss_nil)) (by exact ss_cons (by exact s_set sc_Frac___pow__.nd (i := 2) rfl (Or.inl rfl) (by exact e_int)) (by exact ss_cons (by exact s_set sc_Frac___pow__.nd (i := 3) rfl (Or.inl rfl) (by exact e_int)) (by exact ss_cons (by exact s_for (vs := [4]) hp rfl (by exact i_rng1 rfl (He.free_ok S.ki S.ns (fc_77 S)) (by exact a_cons (by exact e_var rfl (Or.inl rfl)) a_nil)) (by exact g_name sc_Frac___pow__.nd rfl (Or.inl rfl)) st_name (by exact ss_cons (by exact s_set sc_Frac___pow__.nd (i := 2) rfl (Or.inl rfl) (by exact e_bin o_mmul (by exact e_var rfl (Or.inl rfl)) (by exact e_fldV rfl (Or.inl rfl) (allC (fdG_ok (fc_0 S) (fc_2 S)) allN)))) (by exact ss_one (by exact s_set sc_Frac___pow__.nd (i := 3) rfl (Or.inl rfl) (by exact e_bin o_mmul (by exact e_var rfl (Or.inl rfl)) (by exact e_fldV rfl (Or.inl rfl) (allC (fdG_ok (fc_0 S) (fc_1 S)) allN))))))) (by exact ss_one (by exact s_ret (by exact e_make (gm_Frac_2 S) (hr.mono (by decide)) tk rfl (by exact a_cons (by exact e_var rfl (Or.inl rfl)) (by exact a_cons (by exact e_var rfl (Or.inl rfl)) a_nil))))))))))
  exact h
theorem g_Frac___pow__ (S : Sy fs fn K mg base) : MtG P w K mg base "Frac" "__pow__" 3 m_Frac___pow__ [] := by
  obtain ⟨fd, G⟩ := S.c.def_ 28 (d := df_Frac___pow__) rfl
  exact ⟨He.cls_ok (fc_0 S), ⟨_, fd, _, [], [], ok_Frac___pow__ S G, He.meth_ok (fc_81 S), (FunD.bindsN (ps := (["self", "other"] : List Str)) G fun _ _ _ _ _ _ us hl => match us, hl with | [_, _], _ => rfl), .nil, rp0⟩⟩
noncomputable def tb___pow__ : List (String × Fn) := [("Frac", m_Frac___pow__)]
theorem mt___pow__ (S : Sy fs fn K mg base) : ∀ q ∈ tb___pow__, MtG P w K mg base q.1 "__pow__" 3 q.2 [] := by unfold tb___pow__; exact (allC (p := fun q : String × Fn => MtG P w K mg base q.1 "__pow__" 3 q.2 []) ((g_Frac___pow__ S).up (by decide)) allN)
theorem ol_pow (S : Sy fs fn K mg base) : ∀ q ∈ tb___pow__, OwnL K q.1 "pow" := by unfold tb___pow__; exact (allC (ownL_ok (fc_82 S)) allN)
noncomputable def b_Frac___neg__ : Sx := (sRt (cMake "Frac" m_Frac___init__ [] (aC (c1 iNeg (cFldV "num" ["Frac"] 0)) (aC (cFldV "den" ["Frac"] 0) aN))))
noncomputable def m_Frac___neg__ : Fn := mkFn 1 1 b_Frac___neg__
end
end Fx
namespace Fx
open PySem PySem.Spec PyProof.Rows L2 L2H
section
variable {P : Program} {w : World} {K : Fg} {mg : Str → Option Value} {base : Heap}
theorem ok_Frac___neg__ (S : Sy fs fn K mg base) {f : Addr} {fd : FuncData} {dvs : List V} {kws : List (Str × V)} (G : FunD K "__neg__" "Frac.__neg__" (defArgs st_Frac___neg__) (defBody st_Frac___neg__) (defScope st_Frac___neg__) dvs kws f fd) : FnOk P w K mg base (L2.CX P w) 3 f fd (["self"] : List Str) (spF K m_Frac___neg__) := by
  have h := fn_ok (P := P) (w := w) (mg := mg) (base := base) (body := b_Frac___neg__) G sc_Frac___neg__ (k := 2) (fun cdv A outer s H E hr => by
    have tk := tk_cx (P := P) (w := w) (K := K) (mg := mg) (base := base) (N := (["self"] : List Str)) (qual := "Frac.__neg__") (scope := defScope st_Frac___neg__) (f := f) (cd := cdv) (A := A) (outer := outer) (s := s) (H := H) (E := E)
    have hp := po_cx (P := P) (w := w) (K := K) (mg := mg) (base := base) (N := (["self"] : List Str)) (qual := "Frac.__neg__") (scope := defScope st_Frac___neg__) (f := f) (cd := cdv) (A := A) (outer := outer) (s := s) (H := H) (E := E)
    exact (by exact ss_one (by exact s_ret (by exact e_make (gm_Frac_2 S) (hr.mono (by decide)) tk rfl (by exact a_cons (by exact e_un o_ineg (by exact e_fldV rfl (Or.inl rfl) (allC (fdG_ok (fc_0 S) (fc_2 S)) allN))) (by exact a_cons (by exact e_fldV rfl (Or.inl rfl) (allC (fdG_ok (fc_0 S) (fc_1 S)) allN)) a_nil))))))
  exact h
theorem g_Frac___neg__ (S : Sy fs fn K mg base) : MtG P w K mg base "Frac" "__neg__" 3 m_Frac___neg__ [] := by
  obtain ⟨fd, G⟩ := S.c.def_ 30 (d := df_Frac___neg__) rfl
  exact ⟨He.cls_ok (fc_0 S), ⟨_, fd, _, [], [], ok_Frac___neg__ S G, He.meth_ok (fc_83 S), (FunD.bindsN (ps := (["self"] : List Str)) G fun _ _ _ _ _ _ us hl => match us, hl with | [_], _ => rfl), .nil, rp0⟩⟩
noncomputable def tb___neg__ : List (String × Fn) := [("Frac", m_Frac___neg__)]
theorem mt___neg__ (S : Sy fs fn K mg base) : ∀ q ∈ tb___neg__, MtG P w K mg base q.1 "__neg__" 3 q.2 [] := by unfold tb___neg__; exact (allC (p := fun q : String × Fn => MtG P w K mg base q.1 "__neg__" 3 q.2 []) ((g_Frac___neg__ S).up (by decide)) allN)
theorem hi_ti_str (S : Sy fs fn K mg base) : ∀ c b, (Ty.o c, b) ∈ ti_str → IsG K c := hi_of ["Frac"] (allC (isG_ok (fc_0 S) (fc_3 S)) allN)
theorem hx_ti_str (S : Sy fs fn K mg base) : ∀ c b, (Ty.x c, b) ∈ ti_str → IxG K c := hx_of [] allN
theorem hk_ti_str (S : Sy fs fn K mg base) : ∀ q ∈ ti_str, PySem.W.kitOne K (q.1.val K) (.type "str") = some q.2 := kit_ok (cu := fun K => .type "str") (fc_84 S)
noncomputable def b__law_texts : Sx := (sSeq (sSet 4 (cCall m__law_written [] (aC (cV 1) aN))) (sSeq (sSet 5 (cA (PN.or bStr (opSt tb___str__)) (aC (cV 0) aN))) (sSeq (sIf (tOr' (tNo (cB (c1 (mIsi ti_str) (cV 5)))) (tOr' (cB (c2 (P2.or dNe (P2.or (opN tb___eq__) (opNR tb___eq__))) (cV 5) (cV 4))) (tNo (cB (cCall m__law_is [] (aC (cCall m_Frac_read [] (aC (cV 4) aN)) (aC (cV 1) aN))))))) (sRt (cC (.bl false))) sNx) (sSeq (sSet 6 (c2 (P2.or mMul (P2.or (opB tb___mul__) (opR tb___rmul__))) (cC (.str "9")) (cC (.int 60)))) (sSeq (sSet 7 (c2 (P2.or iSub (P2.or (opB tb___sub__) (opR tb___rsub__))) (c2 (P2.or iPow (opB tb___pow__)) (cC (.int 10)) (cC (.int 60))) (cC (.int 1)))) (sSeq (sSet 8 (cA mLst (aC (cA mTup (aC (cV 6) (aC (cA mTup (aC (cV 7) (aC (cC (.int 1)) aN))) aN))) (aC (cA mTup (aC (c2 (P2.or mAdd (P2.or (opB tb___add__) (opR tb___radd__))) (c2 (P2.or mAdd (P2.or (opB tb___add__) (opR tb___radd__))) (c2 (P2.or mAdd (P2.or (opB tb___add__) (opR tb___radd__))) (cC (.str "-")) (cV 6)) (cC (.str "/1"))) (c2 (P2.or mMul (P2.or (opB tb___mul__) (opR tb___rmul__))) (cC (.str "0")) (cC (.int 59)))) (aC (cA mTup (aC (c1 (P1.or iNeg (opU tb___neg__)) (cV 7)) (aC (c2 (P2.or iPow (opB tb___pow__)) (cC (.int 10)) (cC (.int 59))) aN))) aN))) (aC (cA mTup (aC (c2 (P2.or mAdd (P2.or (opB tb___add__) (opR tb___radd__))) (cC (.str "1/")) (cV 6)) (aC (cA mTup (aC (cC (.int 1)) (aC (cV 7) aN))) aN))) aN))))) (sSeq (sIf (tNo (cB (cA bAll (aC (cLc [10, 11] (gTup 2 (gCons (gN 10) (gCons (gN 11) gNil))) tYs (cCall m__law_is [] (aC (cCall m_Frac_read [] (aC (cV 10) aN)) (aC (cV 11) aN))) (iSeq (cV 8))) aN)))) (sRt (cC (.bl false))) sNx) (sSeq (sSet 9 (cA mLst (aC (cCall m__law_spoilt [] (aC (cV 1) (aC (cV 2) (aC (cV 3) aN)))) (aC (cC (.str "")) (aC (cC (.str "-")) (aC (c2 (P2.or mAdd (P2.or (opB tb___add__) (opR tb___radd__))) (cC (.str "1")) (c2 (P2.or mMul (P2.or (opB tb___mul__) (opR tb___rmul__))) (cC (.str "0")) (cC (.int 60)))) (aC (c2 (P2.or mAdd (P2.or (opB tb___add__) (opR tb___radd__))) (c2 (P2.or mAdd (P2.or (opB tb___add__) (opR tb___radd__))) (cC (.str "-")) (cV 6)) (cC (.str "1"))) (aC (c2 (P2.or mAdd (P2.or (opB tb___add__) (opR tb___radd__))) (c2 (P2.or mAdd (P2.or (opB tb___add__) (opR tb___radd__))) (cC (.str "1/")) (cV 6)) (cC (.str "1"))) aN)))))))) (sSeq (sSet 9 (c2 (P2.or mAdd (P2.or (opB tb___add__) (opR tb___radd__))) (cV 9) (cA mLst (aC (cC (.str "2/4")) (aC (cC (.str "3/1")) (aC (cC (.str "-0")) (aC (cC (.str "+1")) (aC (cC (.str "01")) (aC (cC (.str "1/0")) (aC (cC (.str "1/-2")) (aC (cC (.str " 1")) (aC (cC (.str "1 ")) (aC (cC (.str "1//2")) (aC (cC (.str "1/2/3")) aN)))))))))))))) (sRt (cA bAll (aC (cLc [10] (gN 10) tYs (c2 (P2.or dEq (P2.or (opB tb___eq__) (opR tb___eq__))) (cCall m__law_told [] (aC (cC (.int 4)) (aC (cV 10) (aC (cC (.int 0)) aN)))) (cA mTup (aC (cC (.str "text")) (aC (cA mLst (aC (cC (.bl false)) (aC (cC (.bl true)) (aC (cC (.bl false)) (aC (cC (.bl false)) aN))))) (aC (cV 10) aN))))) (iSeq (cV 9))) aN))))))))))))
end
end Fx
namespace Fx
open PySem PySem.Spec PyProof.Rows L2 L2H
section
variable {P : Program} {w : World} {K : Fg} {mg : Str → Option Value} {base : Heap}
noncomputable def m__law_texts : Fn := mkFn 4 12 b__law_texts
theorem ok__law_texts (S : Sy fs fn K mg base) {f : Addr} {fd : FuncData} {dvs : List V} {kws : List (Str × V)} (G : FunD K "_law_texts" "_law_texts" (defArgs st__law_texts) (defBody st__law_texts) (defScope st__law_texts) dvs kws f fd) : FnOk P w K mg base (L2.CX P w) 6 f fd (["_law_x", "_law_p", "_law_mode", "_law_place"] : List Str) (spF K m__law_texts) := by
  have h := fn_ok (P := P) (w := w) (mg := mg) (base := base) (body := b__law_texts) G sc__law_texts (k := 5) (fun cdv A outer s H E hr => by
    have tk := tk_cx (P := P) (w := w) (K := K) (mg := mg) (base := base) (N := (["_law_x", "_law_p", "_law_mode", "_law_place", "_law_text", "_law_got", "_law_nines", "_law_most", "_law_good", "_law_bad", "_law_a", "_law_b"] : List Str)) (qual := "_law_texts") (scope := defScope st__law_texts) (f := f) (cd := cdv) (A := A) (outer := outer) (s := s) (H := H) (E := E)
    have hp := po_cx (P := P) (w := w) (K := K) (mg := mg) (base := base) (N := (["_law_x", "_law_p", "_law_mode", "_law_place", "_law_text", "_law_got", "_law_nines", "_law_most", "_law_good", "_law_bad", "_law_a", "_law_b"] : List Str)) (qual := "_law_texts") (scope := defScope st__law_texts) (f := f) (cd := cdv) (A := A) (outer := outer) (s := s) (H := H) (E := E)
    exact (by exact ss_cons (by exact s_set sc__law_texts.nd (i := 4) rfl (Or.inl rfl) (by exact e_call (g__law_written S) (hr.mono (by decide)) tk rfl (by exact a_cons (by exact e_var rfl (Or.inl rfl)) a_nil))) (by exact ss_cons (by exact s_set sc__law_texts.nd (i := 5) rfl (Or.inl rfl) (by exact e_typ (OpN.or f_str (f_strO (mt___str__ S) (hr.mono (by decide)) tk)) rfl (He.free_ok S.ki S.ns (fc_18 S)) PyProof.Rows.Boot.«str» (by exact a_cons (by exact e_var rfl (Or.inl rfl)) a_nil))) (by exact ss_cons (by exact s_if (by exact PW.pt (by exact t_or (by exact t_not (by exact t_val (by exact e_isi (by exact e_var rfl (Or.inl rfl)) (pe_bltn rfl (He.free_ok S.ki S.ns (fc_18 S)) PyProof.Rows.Boot.«str» (show RelV (.ty "str") (.type "str") from rfl)) (.ty "str") (hk_ti_str S) (hi_ti_str S) (hx_ti_str S) rfl (He.free_ok S.ki S.ns (fc_6 S))))) (by exact t_or (by exact t_cmp (Op2.or (o_dne (u64 hr)) (Op2.or (o_neO (mt___eq__ S) (on___eq__ S) (hr.mono (by decide)) tk) (o_neR (mt___eq__ S) (on___eq__ S) (ni___eq__ S) (hr.mono (by decide)) tk))) (by exact e_var rfl (Or.inl rfl)) (by exact e_var rfl (Or.inl rfl))) (by exact t_or1 (by exact t_not (by exact t_val (by exact e_call (g__law_is S) (hr.mono (by decide)) tk rfl (by exact a_cons (by exact e_stat (g_Frac_read S) (hr.mono (by decide)) tk rfl (by exact a_cons (by exact e_var rfl (Or.inl rfl)) a_nil)) (by exact a_cons (by exact e_var rfl (Or.inl rfl)) a_nil))))))))) (by exact ss_one (by exact s_ret (by exact e_bl))) (by exact ss_nil)) (by exact ss_cons (by exact s_set sc__law_texts.nd (i := 6) rfl (Or.inl rfl) (by exact e_bin (Op2.or o_mmul (Op2.or (o_left in_mul (by decide +kernel) (mt___mul__ S) (ol_mul S) (fun q _ => vo_bin rfl) (hr.mono (by decide)) tk) (o_right id_mul (by decide +kernel) (mt___rmul__ S) (or_mul S) (vi_bin rfl) (hr.mono (by decide)) tk))) (by exact e_str) (by exact e_int))) (by exact ss_cons (by exact s_set sc__law_texts.nd (i := 7) rfl (Or.inl rfl) (by exact e_bin (Op2.or o_isub (Op2.or (o_left in_sub (by decide +kernel) (mt___sub__ S) (ol_sub S) (fun q _ => vo_bin rfl) (hr.mono (by decide)) tk) (o_right id_sub (by decide +kernel) (mt___rsub__ S) (or_sub S) (vi_bin rfl) (hr.mono (by decide)) tk))) (by exact e_bin (Op2.or o_ipow (o_left in_pow (by decide +kernel) (mt___pow__ S) (ol_pow S) (fun q _ => vo_bin rfl) (hr.mono (by decide)) tk)) (by exact e_int) (by exact e_int)) (by exact e_int))) (by exact ss_cons (by exact s_set sc__law_texts.nd (i := 8) rfl (Or.inl rfl) (by exact e_lst (by exact a_cons (by exact e_tup (by exact a_cons (by exact e_var rfl (Or.inl rfl)) (by exact a_cons (by exact e_tup (by exact a_cons (by exact e_var rfl (Or.inl rfl)) (by exact a_cons (by exact e_int) a_nil))) a_nil))) (by exact a_cons (by exact e_tup (by exact a_cons (by exact e_bin (Op2.or o_madd (Op2.or (o_left in_add (by decide +kernel) (mt___add__ S) (ol_add S) (fun q _ => vo_bin rfl) (hr.mono (by decide)) tk) (o_right id_add (by decide +kernel) (mt___radd__ S) (or_add S) (vi_bin rfl) (hr.mono (by decide)) tk))) (by exact e_bin (Op2.or o_madd (Op2.or (o_left in_add (by decide +kernel) (mt___add__ S) (ol_add S) (fun q _ => vo_bin rfl) (hr.mono (by decide)) tk) (o_right id_add (by decide +kernel) (mt___radd__ S) (or_add S) (vi_bin rfl) (hr.mono (by decide)) tk))) (by exact e_bin (Op2.or o_madd (Op2.or (o_left in_add (by decide +kernel) (mt___add__ S) (ol_add S) (fun q _ => vo_bin rfl) (hr.mono (by decide)) tk) (o_right id_add (by decide +kernel) (mt___radd__ S) (or_add S) (vi_bin rfl) (hr.mono (by decide)) tk))) (by exact e_str) (by exact e_var rfl (Or.inl rfl))) (by exact e_str)) (by exact e_bin (Op2.or o_mmul (Op2.or (o_left in_mul (by decide +kernel) (mt___mul__ S) (ol_mul S) (fun q _ => vo_bin rfl) (hr.mono (by decide)) tk) (o_right id_mul (by decide +kernel) (mt___rmul__ S) (or_mul S) (vi_bin rfl) (hr.mono (by decide)) tk))) (by exact e_str) (by exact e_int))) (by exact a_cons (by exact e_tup (by exact a_cons (by exact e_un (Un1.or o_ineg (o_negO (mt___neg__ S) (hr.mono (by decide)) tk)) (by exact e_var rfl (Or.inl rfl))) (by exact a_cons (by exact e_bin (Op2.or o_ipow (o_left in_pow (by decide +kernel) (mt___pow__ S) (ol_pow S) (fun q _ => vo_bin rfl) (hr.mono (by decide)) tk)) (by exact e_int) (by exact e_int)) a_nil))) a_nil))) (by exact a_cons (by exact e_tup (by exact a_cons (by exact e_bin (Op2.or o_madd (Op2.or (o_left in_add (by decide +kernel) (mt___add__ S) (ol_add S) (fun q _ => vo_bin rfl) (hr.mono (by decide)) tk) (o_right id_add (by decide +kernel) (mt___radd__ S) (or_add S) (vi_bin rfl) (hr.mono (by decide)) tk))) (by exact e_str) (by exact e_var rfl (Or.inl rfl))) (by exact a_cons (by exact e_tup (by exact a_cons (by exact e_int) (by exact a_cons (by exact e_var rfl (Or.inl rfl)) a_nil))) a_nil))) a_nil))))) (by exact ss_cons (by exact s_if (by exact t_not (by exact t_val (by exact e_blt (f_all rfl) rfl (He.free_ok S.ki S.ns (fc_49 S)) PyProof.Rows.Boot.«all» (by exact a_cons (by exact e_lc (own := ([("_law_a", 10), ("_law_b", 11)] : List (Str × Nat))) rfl sc__law_texts.nd (by exact i_seq (by exact e_var rfl (Or.inl rfl))) (show BlkOk (["_law_x", "_law_p", "_law_mode", "_law_place", "_law_text", "_law_got", "_law_nines", "_law_most", "_law_good", "_law_bad", "_law_a", "_law_b"] : List Str) (defScope st__law_texts) _ _ from ⟨rfl, by decide +kernel, by decide +kernel, by decide +kernel, by decide +kernel⟩) (fun s H C cl fp => (by exact g_tup rfl (by exact g_cons (by exact g_name sc__law_texts.nd rfl (Or.inl rfl)) (by exact g_cons (by exact g_name sc__law_texts.nd rfl (Or.inl rfl)) g_nil)))) (fun s H C cl fp => ts_nil) (fun s H C cl fp => (by exact e_call (g__law_is S) (hr.mono (by decide)) tk0 rfl (by exact a_cons (by exact e_stat (g_Frac_read S) (hr.mono (by decide)) tk0 rfl (by exact a_cons (by exact e_var rfl (Or.inl rfl)) a_nil)) (by exact a_cons (by exact e_var rfl (Or.inl rfl)) a_nil))))) a_nil)))) (by exact ss_one (by exact s_ret (by exact e_bl))) (by exact ss_nil)) (by exact ss_cons (by exact s_set sc__law_texts.nd (i := 9) rfl (Or.inl rfl) (by exact e_lst (by exact a_cons (by exact e_call (g__law_spoilt S) (hr.mono (by decide)) tk rfl (by exact a_cons (by exact e_var rfl (Or.inl rfl)) (by exact a_cons (by exact e_var rfl (Or.inl rfl)) (by exact a_cons (by exact e_var rfl (Or.inl rfl)) a_nil)))) (by exact a_cons (by exact e_str) (by exact a_cons (by exact e_str) (by exact a_cons (by exact e_bin (Op2.or o_madd (Op2.or (o_left in_add (by decide +kernel) (mt___add__ S) (ol_add S) (fun q _ => vo_bin rfl) (hr.mono (by decide)) tk) (o_right id_add (by decide +kernel) (mt___radd__ S) (or_add S) (vi_bin rfl) (hr.mono (by decide)) tk))) (by exact e_str) (by exact e_bin (Op2.or o_mmul (Op2.or (o_left in_mul (by decide +kernel) (mt___mul__ S) (ol_mul S) (fun q _ => vo_bin rfl) (hr.mono (by decide)) tk) (o_right id_mul (by decide +kernel) (mt___rmul__ S) (or_mul S) (vi_bin rfl) (hr.mono (by decide)) tk))) (by exact e_str) (by exact e_int))) (by exact a_cons (by exact e_bin (Op2.or o_madd (Op2.or (o_left in_add (by decide +kernel) (mt___add__ S) (ol_add S) (fun q _ => vo_bin rfl) (hr.mono (by decide)) tk) (o_right id_add (by decide +kernel) (mt___radd__ S) (or_add S) (vi_bin rfl) (hr.mono (by decide)) tk))) (by exact e_bin (Op2.or o_madd (Op2.or (o_left in_add (by decide +kernel) (mt___add__ S) (ol_add S) (fun q _ => vo_bin rfl) (hr.mono (by decide)) tk) (o_right id_add (by decide +kernel) (mt___radd__ S) (or_add S) (vi_bin rfl) (hr.mono (by decide)) tk))) (by exact e_str) (by exact e_var rfl (Or.inl rfl))) (by exact e_str)) (by exact a_cons (by exact e_bin (Op2.or o_madd (Op2.or (o_left in_add (by decide +kernel) (mt___add__ S) (ol_add S) (fun q _ => vo_bin rfl) (hr.mono (by decide)) tk) (o_right id_add (by decide +kernel) (mt___radd__ S) (or_add S) (vi_bin rfl) (hr.mono (by decide)) tk))) (by exact e_bin (Op2.or o_madd (Op2.or (o_left in_add (by decide +kernel) (mt___add__ S) (ol_add S) (fun q _ => vo_bin rfl) (hr.mono (by decide)) tk) (o_right id_add (by decide +kernel) (mt___radd__ S) (or_add S) (vi_bin rfl) (hr.mono (by decide)) tk))) (by exact e_str) (by exact e_var rfl (Or.inl rfl))) (by exact e_str)) a_nil)))))))) (by exact ss_cons (by exact s_set sc__law_texts.nd (i := 9) rfl (Or.inl rfl) (by exact e_bin (Op2.or o_madd (Op2.or (o_left in_add (by decide +kernel) (mt___add__ S) (ol_add S) (fun q _ => vo_bin rfl) (hr.mono (by decide)) tk) (o_right id_add (by decide +kernel) (mt___radd__ S) (or_add S) (vi_bin rfl) (hr.mono (by decide)) tk))) (by exact e_var rfl (Or.inl rfl)) (by exact e_lst (by exact a_cons (by exact e_str) (by exact a_cons (by exact e_str) (by exact a_cons (by exact e_str) (by exact a_cons (by exact e_str) (by exact a_cons (by exact e_str) (by exact a_cons (by exact e_str) (by exact a_cons (by exact e_str) (by exact a_cons (by exact e_str) (by exact a_cons (by exact e_str) (by exact a_cons (by exact e_str) (by exact a_cons (by exact e_str) a_nil)))))))))))))) (by exact ss_one (by exact s_ret (by exact e_blt (f_all rfl) rfl (He.free_ok S.ki S.ns (fc_49 S)) PyProof.Rows.Boot.«all» (by exact a_cons (by exact e_lc (own := ([("_law_a", 10)] : List (Str × Nat))) rfl sc__law_texts.nd (by exact i_seq (by exact e_var rfl (Or.inl rfl))) (show BlkOk (["_law_x", "_law_p", "_law_mode", "_law_place", "_law_text", "_law_got", "_law_nines", "_law_most", "_law_good", "_law_bad", "_law_a", "_law_b"] : List Str) (defScope st__law_texts) _ _ from ⟨rfl, by decide +kernel, by decide +kernel, by decide +kernel, by decide +kernel⟩) (fun s H C cl fp => (by exact g_name sc__law_texts.nd rfl (Or.inl rfl))) (fun s H C cl fp => ts_nil) (fun s H C cl fp => (by exact e_cmp (Op2.or (o_deq (u64 hr)) (Op2.or (o_cmpO (fun _ _ => rfl) (by decide +kernel) (mt___eq__ S) (hr.mono (by decide)) tk0) (o_cmpR ic_eq (by decide +kernel) (mt___eq__ S) (ni___eq__ S) (hr.mono (by decide)) tk0))) (by exact e_call (g__law_told S) (hr.mono (by decide)) tk0 rfl (by exact a_cons (by exact e_int) (by exact a_cons (by exact e_var rfl (Or.inl rfl)) (by exact a_cons (by exact e_int) a_nil)))) (by exact e_tup (by exact a_cons (by exact e_str) (by exact a_cons (by exact e_lst (by exact a_cons (by exact e_bl) (by exact a_cons (by exact e_bl) (by exact a_cons (by exact e_bl) (by exact a_cons (by exact e_bl) a_nil))))) (by exact a_cons (by exact e_var rfl (Or.inl rfl)) a_nil))))))) a_nil))))))))))))))
  exact h
theorem g__law_texts (S : Sy fs fn K mg base) : FnG P w K mg base "_law_texts" 6 m__law_texts [] := by
  obtain ⟨fd, G⟩ := S.c.def_ 4 (d := df__law_texts) rfl
  exact ⟨⟨_, fd, _, [], [], ok__law_texts S G, (He.glo_ok S.ki S.ns (fc_85 S)), G.kp, (FunD.bindsN (ps := (["_law_x", "_law_p", "_law_mode", "_law_place"] : List Str)) G fun _ _ _ _ _ _ us hl => match us, hl with | [_, _, _, _], _ => rfl), .nil, rp0⟩⟩
noncomputable def b__law_pick : Sx := (sSeq (sIf (tOr' (cB (c2 dEq (cIxV 0 (cC (.int 2))) (cC (.int 0)))) (cB (c2 dEq (cIxV 0 (cC (.int 3))) (cC (.int 60))))) (sSeq (sIf (cB (c2 dEq (cIxV 0 (cC (.int 1))) (cA bLen (aC (cIxV 0 (cC (.int 0))) aN)))) (sRt (cC (.int 0))) sNx) (sSeq (sSetI 0 (cC (.int 2)) (c2 mIx (cIxV 0 (cC (.int 0))) (cIxV 0 (cC (.int 1))))) (sSeq (sSetI 0 (cC (.int 1)) (c2 mAdd (cIxV 0 (cC (.int 1))) (cC (.int 1)))) (sSetI 0 (cC (.int 3)) (cC (.int 0)))))) sNx) (sSeq (sSet 2 (c2 iMod (cA bInt (aC (cIxV 0 (cC (.int 2))) aN)) (cV 1))) (sSeq (sSetI 0 (cC (.int 2)) (c2 iFdv (cA bInt (aC (cIxV 0 (cC (.int 2))) aN)) (cV 1))) (sSeq (sSetI 0 (cC (.int 3)) (c2 mAdd (cIxV 0 (cC (.int 3))) (cC (.int 1)))) (sRtV 2)))))
noncomputable def m__law_pick : Fn := mkFn 2 3 b__law_pick
theorem ok__law_pick (S : Sy fs fn K mg base) {f : Addr} {fd : FuncData} {dvs : List V} {kws : List (Str × V)} (G : FunD K "_law_pick" "_law_pick" (defArgs st__law_pick) (defBody st__law_pick) (defScope st__law_pick) dvs kws f fd) : FnOk P w K mg base (L2.CX P w) 1 f fd (["_law_pool_here", "_law_many"] : List Str) (spF K m__law_pick) := by
  have h := fn_ok (P := P) (w := w) (mg := mg) (base := base) (body := b__law_pick) G sc__law_pick (k := 0) (fun cdv A outer s H E hr => by
    have tk := tk_cx (P := P) (w := w) (K := K) (mg := mg) (base := base) (N := (["_law_pool_here", "_law_many", "_law_digit"] : List Str)) (qual := "_law_pick") (scope := defScope st__law_pick) (f := f) (cd := cdv) (A := A) (outer := outer) (s := s) (H := H) (E := E)
    have hp := po_cx (P := P) (w := w) (K := K) (mg := mg) (base := base) (N := (["_law_pool_here", "_law_many", "_law_digit"] : List Str)) (qual := "_law_pick") (scope := defScope st__law_pick) (f := f) (cd := cdv) (A := A) (outer := outer) (s := s) (H := H) (E := E)
    exact (by exact ss_cons (by exact s_if (by exact PW.pt (by exact t_or (by exact t_cmp (o_deq (u64 hr)) (by exact e_ixV rfl (Or.inl rfl) (by exact e_int) (fun _ _ => rfl)) (by exact e_int)) (by exact t_or1 (by exact t_cmp (o_deq (u64 hr)) (by exact e_ixV rfl (Or.inl rfl) (by exact e_int) (fun _ _ => rfl)) (by exact e_int))))) (by exact ss_cons (by exact s_if (by exact t_cmp (o_deq (u64 hr)) (by exact e_ixV rfl (Or.inl rfl) (by exact e_int) (fun _ _ => rfl)) (by exact e_blt (f_len) rfl (He.free_ok S.ki S.ns (fc_50 S)) PyProof.Rows.Boot.«len» (by exact a_cons (by exact e_ixV rfl (Or.inl rfl) (by exact e_int) (fun _ _ => rfl)) a_nil))) (by exact ss_one (by exact s_ret (by exact e_int))) (by exact ss_nil)) (by exact ss_cons (by exact s_setI rfl (Or.inl rfl) (by exact e_int) (by exact e_ix x_ix (by exact e_ixV rfl (Or.inl rfl) (by exact e_int) (fun _ _ => rfl)) (by exact e_ixV rfl (Or.inl rfl) (by exact e_int) (fun _ _ => rfl)) (fun _ _ => rfl))) (by exact ss_cons (by exact s_setI rfl (Or.inl rfl) (by exact e_int) (by exact e_bin o_madd (by exact e_ixV rfl (Or.inl rfl) (by exact e_int) (fun _ _ => rfl)) (by exact e_int))) (by exact ss_one (by exact s_setI rfl (Or.inl rfl) (by exact e_int) (by exact e_int)))))) (by exact ss_nil)) (by exact ss_cons (by exact s_set sc__law_pick.nd (i := 2) rfl (Or.inl rfl) (by exact e_bin o_imod (by exact e_typ (f_int) rfl (He.free_ok S.ki S.ns (fc_7 S)) PyProof.Rows.Boot.«int» (by exact a_cons (by exact e_ixV rfl (Or.inl rfl) (by exact e_int) (fun _ _ => rfl)) a_nil)) (by exact e_var rfl (Or.inl rfl)))) (by exact ss_cons (by exact s_setI rfl (Or.inl rfl) (by exact e_int) (by exact e_bin o_ifdv (by exact e_typ (f_int) rfl (He.free_ok S.ki S.ns (fc_7 S)) PyProof.Rows.Boot.«int» (by exact a_cons (by exact e_ixV rfl (Or.inl rfl) (by exact e_int) (fun _ _ => rfl)) a_nil)) (by exact e_var rfl (Or.inl rfl)))) (by exact ss_cons (by exact s_setI rfl (Or.inl rfl) (by exact e_int) (by exact e_bin o_madd (by exact e_ixV rfl (Or.inl rfl) (by exact e_int) (fun _ _ => rfl)) (by exact e_int))) (by exact ss_one (by exact s_retV rfl (Or.inl rfl))))))))
  exact h
theorem g__law_pick (S : Sy fs fn K mg base) : FnG P w K mg base "_law_pick" 1 m__law_pick [] := by
  obtain ⟨fd, G⟩ := S.c.def_ 31 (d := df__law_pick) rfl
  exact ⟨⟨_, fd, _, [], [], ok__law_pick S G, (He.glo_ok S.ki S.ns (fc_86 S)), G.kp, (FunD.bindsN (ps := (["_law_pool_here", "_law_many"] : List Str)) G fun _ _ _ _ _ _ us hl => match us, hl with | [_, _], _ => rfl), .nil, rp0⟩⟩
theorem gm_Frac_0 (S : Sy fs fn K mg base) : MkG P w K mg base "Frac" 1 m_Frac___init__ [.int 0, .int 1] := by
  obtain ⟨fd, G⟩ := S.c.def_ 7 (d := df_Frac___init__) rfl
  obtain ⟨ds, hv, hb⟩ := G.binds1 1 0 (ps := (["self", "num", "den"] : List Str)) (by simp [Df.dvs, df_Frac___init__]) rfl (fun _ _ _ _ _ _ _ us its hu hi => match us, its, hu, hi with | [_], [_, _], _, _ => ⟨_, rfl, rfl⟩)
  exact ⟨(He.glo_ok S.ki S.ns (fc_10 S)), ⟨_, fd, _, _, ds, ok_Frac___init__ S G, He.mkr_ok (fc_23 S), hb, hv, rp2i⟩⟩
end
end Fx
namespace Fx
open PySem PySem.Spec PyProof.Rows L2 L2H
section
variable {P : Program} {w : World} {K : Fg} {mg : Str → Option Value} {base : Heap}
noncomputable def b__law_zeros : Sx := (sSeq (sSet 2 (cMake "Frac" m_Frac___init__ [.int 0, .int 1] aN)) (sSeq (sSet 3 (cA mLst (aC (cA mTup (aC (cC (.int 0)) (aC (cV 1) (aC (cC (.int 0)) aN)))) (aC (cA mTup (aC (cC (.int 0)) (aC (cC (.int 0)) (aC (cC (.int 0)) aN)))) (aC (cA mTup (aC (cC (.int 1)) (aC (cV 0) (aC (cV 2) aN)))) (aC (cA mTup (aC (cC (.int 1)) (aC (cV 0) (aC (cC (.int 0)) aN)))) (aC (cA mTup (aC (cC (.int 1)) (aC (cV 1) (aC (cV 2) aN)))) (aC (cA mTup (aC (cC (.int 2)) (aC (cV 0) (aC (cV 2) aN)))) (aC (cA mTup (aC (cC (.int 2)) (aC (cV 0) (aC (cC (.int 0)) aN)))) (aC (cA mTup (aC (cC (.int 2)) (aC (cV 1) (aC (cV 2) aN)))) aN)))))))))) (sSeq (sSet 3 (c2 mAdd (cV 3) (cA mLst (aC (cA mTup (aC (cC (.int 3)) (aC (cV 0) (aC (cV 2) aN)))) (aC (cA mTup (aC (cC (.int 3)) (aC (cV 0) (aC (cC (.int 0)) aN)))) aN))))) (sSeq (sSet 4 (cA mTup (aC (cC (.str "zero")) (aC (cA mLst (aC (cC (.bl true)) (aC (cC (.bl false)) (aC (cC (.bl false)) (aC (cC (.bl false)) aN))))) (aC (cC (.str "")) aN))))) (sRt (cA bAll (aC (cLc [5, 6, 7] (gTup 3 (gCons (gN 5) (gCons (gN 6) (gCons (gN 7) gNil)))) tYs (c2 dEq (cCall m__law_told [] (aC (cV 5) (aC (cV 6) (aC (cV 7) aN)))) (cV 4)) (iSeq (cV 3))) aN)))))))
noncomputable def m__law_zeros : Fn := mkFn 2 8 b__law_zeros
theorem ok__law_zeros (S : Sy fs fn K mg base) {f : Addr} {fd : FuncData} {dvs : List V} {kws : List (Str × V)} (G : FunD K "_law_zeros" "_law_zeros" (defArgs st__law_zeros) (defBody st__law_zeros) (defScope st__law_zeros) dvs kws f fd) : FnOk P w K mg base (L2.CX P w) 6 f fd (["_law_x", "_law_n"] : List Str) (spF K m__law_zeros) := by
  have h := fn_ok (P := P) (w := w) (mg := mg) (base := base) (body := b__law_zeros) G sc__law_zeros (k := 5) (fun cdv A outer s H E hr => by
    have tk := tk_cx (P := P) (w := w) (K := K) (mg := mg) (base := base) (N := (["_law_x", "_law_n", "_law_none", "_law_rows", "_law_due", "_law_what", "_law_one", "_law_two"] : List Str)) (qual := "_law_zeros") (scope := defScope st__law_zeros) (f := f) (cd := cdv) (A := A) (outer := outer) (s := s) (H := H) (E := E)
    have hp := po_cx (P := P) (w := w) (K := K) (mg := mg) (base := base) (N := (["_law_x", "_law_n", "_law_none", "_law_rows", "_law_due", "_law_what", "_law_one", "_law_two"] : List Str)) (qual := "_law_zeros") (scope := defScope st__law_zeros) (f := f) (cd := cdv) (A := A) (outer := outer) (s := s) (H := H) (E := E)
    exact (by exact ss_cons (by exact s_set sc__law_zeros.nd (i := 2) rfl (Or.inl rfl) (by exact e_make0 (gm_Frac_0 S) (hr.mono (by decide)) tk rfl)) (by exact ss_cons (by exact s_set sc__law_zeros.nd (i := 3) rfl (Or.inl rfl) (by exact e_lst (by exact a_cons (by exact e_tup (by exact a_cons (by exact e_int) (by exact a_cons (by exact e_var rfl (Or.inl rfl)) (by exact a_cons (by exact e_int) a_nil)))) (by exact a_cons (by exact e_tup (by exact a_cons (by exact e_int) (by exact a_cons (by exact e_int) (by exact a_cons (by exact e_int) a_nil)))) (by exact a_cons (by exact e_tup (by exact a_cons (by exact e_int) (by exact a_cons (by exact e_var rfl (Or.inl rfl)) (by exact a_cons (by exact e_var rfl (Or.inl rfl)) a_nil)))) (by exact a_cons (by exact e_tup (by exact a_cons (by exact e_int) (by exact a_cons (by exact e_var rfl (Or.inl rfl)) (by exact a_cons (by exact e_int) a_nil)))) (by exact a_cons (by exact e_tup (by exact a_cons (by exact e_int) (by exact a_cons (by exact e_var rfl (Or.inl rfl)) (by exact a_cons (by exact e_var rfl (Or.inl rfl)) a_nil)))) (by exact a_cons (by exact e_tup (by exact a_cons (by exact e_int) (by exact a_cons (by exact e_var rfl (Or.inl rfl)) (by exact a_cons (by exact e_var rfl (Or.inl rfl)) a_nil)))) (by exact a_cons (by exact e_tup (by exact a_cons (by exact e_int) (by exact a_cons (by exact e_var rfl (Or.inl rfl)) (by exact a_cons (by exact e_int) a_nil)))) (by exact a_cons (by exact e_tup (by exact a_cons (by exact e_int) (by exact a_cons (by exact e_var rfl (Or.inl rfl)) (by exact a_cons (by exact e_var rfl (Or.inl rfl)) a_nil)))) a_nil)))))))))) (by exact ss_cons (by exact s_set sc__law_zeros.nd (i := 3) rfl (Or.inl rfl) (by exact e_bin o_madd (by exact e_var rfl (Or.inl rfl)) (by exact e_lst (by exact a_cons (by exact e_tup (by exact a_cons (by exact e_int) (by exact a_cons (by exact e_var rfl (Or.inl rfl)) (by exact a_cons (by exact e_var rfl (Or.inl rfl)) a_nil)))) (by exact a_cons (by exact e_tup (by exact a_cons (by exact e_int) (by exact a_cons (by exact e_var rfl (Or.inl rfl)) (by exact a_cons (by exact e_int) a_nil)))) a_nil))))) (by exact ss_cons (by exact s_set sc__law_zeros.nd (i := 4) rfl (Or.inr rfl) (by exact e_tup (by exact a_cons (by exact e_str) (by exact a_cons (by exact e_lst (by exact a_cons (by exact e_bl) (by exact a_cons (by exact e_bl) (by exact a_cons (by exact e_bl) (by exact a_cons (by exact e_bl) a_nil))))) (by exact a_cons (by exact e_str) a_nil))))) (by exact ss_one (by exact s_ret (by exact e_blt (f_all rfl) rfl (He.free_ok S.ki S.ns (fc_49 S)) PyProof.Rows.Boot.«all» (by exact a_cons (by exact e_lc (own := ([("_law_what", 5), ("_law_one", 6), ("_law_two", 7)] : List (Str × Nat))) rfl sc__law_zeros.nd (by exact i_seq (by exact e_var rfl (Or.inl rfl))) (show BlkOk (["_law_x", "_law_n", "_law_none", "_law_rows", "_law_due", "_law_what", "_law_one", "_law_two"] : List Str) (defScope st__law_zeros) _ _ from ⟨rfl, by decide +kernel, by decide +kernel, by decide +kernel, by decide +kernel⟩) (fun s H C cl fp => (by exact g_tup rfl (by exact g_cons (by exact g_name sc__law_zeros.nd rfl (Or.inl rfl)) (by exact g_cons (by exact g_name sc__law_zeros.nd rfl (Or.inl rfl)) (by exact g_cons (by exact g_name sc__law_zeros.nd rfl (Or.inl rfl)) g_nil))))) (fun s H C cl fp => ts_nil) (fun s H C cl fp => (by exact e_cmp (o_deq (u64 hr)) (by exact e_call (g__law_told S) (hr.mono (by decide)) tk0 rfl (by exact a_cons (by exact e_var rfl (Or.inl rfl)) (by exact a_cons (by exact e_var rfl (Or.inl rfl)) (by exact a_cons (by exact e_var rfl (Or.inl rfl)) a_nil)))) (by exact e_var rfl (Or.inr (Or.inl rfl)))))) a_nil)))))))))
  exact h
theorem g__law_zeros (S : Sy fs fn K mg base) : FnG P w K mg base "_law_zeros" 6 m__law_zeros [] := by
  obtain ⟨fd, G⟩ := S.c.def_ 32 (d := df__law_zeros) rfl
  exact ⟨⟨_, fd, _, [], [], ok__law_zeros S G, (He.glo_ok S.ki S.ns (fc_87 S)), G.kp, (FunD.bindsN (ps := (["_law_x", "_law_n"] : List Str)) G fun _ _ _ _ _ _ us hl => match us, hl with | [_, _], _ => rfl), .nil, rp0⟩⟩
noncomputable def b_Frac___bool__ : Sx := (sRt (cA bBool (aC (cFldV "num" ["Frac"] 0) aN)))
noncomputable def m_Frac___bool__ : Fn := mkFn 1 1 b_Frac___bool__
theorem ok_Frac___bool__ (S : Sy fs fn K mg base) {f : Addr} {fd : FuncData} {dvs : List V} {kws : List (Str × V)} (G : FunD K "__bool__" "Frac.__bool__" (defArgs st_Frac___bool__) (defBody st_Frac___bool__) (defScope st_Frac___bool__) dvs kws f fd) : FnOk P w K mg base (L2.CX P w) 1 f fd (["self"] : List Str) (spF K m_Frac___bool__) := by
  have h := fn_ok (P := P) (w := w) (mg := mg) (base := base) (body := b_Frac___bool__) G sc_Frac___bool__ (k := 0) (fun cdv A outer s H E hr => by
    have tk := tk_cx (P := P) (w := w) (K := K) (mg := mg) (base := base) (N := (["self"] : List Str)) (qual := "Frac.__bool__") (scope := defScope st_Frac___bool__) (f := f) (cd := cdv) (A := A) (outer := outer) (s := s) (H := H) (E := E)
    have hp := po_cx (P := P) (w := w) (K := K) (mg := mg) (base := base) (N := (["self"] : List Str)) (qual := "Frac.__bool__") (scope := defScope st_Frac___bool__) (f := f) (cd := cdv) (A := A) (outer := outer) (s := s) (H := H) (E := E)
    exact (by exact ss_one (by exact s_ret (by exact e_typ (f_bool) rfl (He.free_ok S.ki S.ns (fc_4 S)) PyProof.Rows.Boot.«bool» (by exact a_cons (by exact e_fldV rfl (Or.inl rfl) (allC (fdG_ok (fc_0 S) (fc_2 S)) allN)) a_nil)))))
  exact h
theorem g_Frac___bool__ (S : Sy fs fn K mg base) : MtG P w K mg base "Frac" "__bool__" 1 m_Frac___bool__ [] := by
  obtain ⟨fd, G⟩ := S.c.def_ 33 (d := df_Frac___bool__) rfl
  exact ⟨He.cls_ok (fc_0 S), ⟨_, fd, _, [], [], ok_Frac___bool__ S G, He.meth_ok (fc_88 S), (FunD.bindsN (ps := (["self"] : List Str)) G fun _ _ _ _ _ _ us hl => match us, hl with | [_], _ => rfl), .nil, rp0⟩⟩
end
end Fx
namespace Fx
open PySem PySem.Spec PyProof.Rows L2 L2H
section
variable {P : Program} {w : World} {K : Fg} {mg : Str → Option Value} {base : Heap}
noncomputable def tb___bool__ : List (String × Fn) := [("Frac", m_Frac___bool__)]
theorem mt___bool__ (S : Sy fs fn K mg base) : ∀ q ∈ tb___bool__, MtG P w K mg base q.1 "__bool__" 1 q.2 [] := by unfold tb___bool__; exact (allC (p := fun q : String × Fn => MtG P w K mg base q.1 "__bool__" 1 q.2 []) ((g_Frac___bool__ S).up (by decide)) allN)
noncomputable def b_Frac___ge__ : Sx := (sSeq (sIf (cB (c1 (mIsi ti_Frac) (cV 1))) (sRt (c2 (iCmp fun i j => decide (j ≤ i)) (c2 mMul (cFldV "num" ["Frac"] 0) (cFldV "den" ["Frac"] 1)) (c2 mMul (cFldV "num" ["Frac"] 1) (cFldV "den" ["Frac"] 0)))) sNx) (sSeq (sIf (cB (c1 (mIsi ti_int) (cV 1))) (sRt (c2 (iCmp fun i j => decide (j ≤ i)) (cFldV "num" ["Frac"] 0) (c2 mMul (cV 1) (cFldV "den" ["Frac"] 0)))) sNx) sStk))
noncomputable def m_Frac___ge__ : Fn := mkFn 2 2 b_Frac___ge__
theorem ok_Frac___ge__ (S : Sy fs fn K mg base) {f : Addr} {fd : FuncData} {dvs : List V} {kws : List (Str × V)} (G : FunD K "__ge__" "Frac.__ge__" (defArgs st_Frac___ge__) (defBody st_Frac___ge__) (defScope st_Frac___ge__) dvs kws f fd) : FnOk P w K mg base (L2.CX P w) 1 f fd (["self", "other"] : List Str) (spF K m_Frac___ge__) := by
  have h := fn_ok (P := P) (w := w) (mg := mg) (base := base) (body := b_Frac___ge__) G sc_Frac___ge__ (k := 0) (fun cdv A outer s H E hr => by
    have tk := tk_cx (P := P) (w := w) (K := K) (mg := mg) (base := base) (N := (["self", "other"] : List Str)) (qual := "Frac.__ge__") (scope := defScope st_Frac___ge__) (f := f) (cd := cdv) (A := A) (outer := outer) (s := s) (H := H) (E := E)
    have hp := po_cx (P := P) (w := w) (K := K) (mg := mg) (base := base) (N := (["self", "other"] : List Str)) (qual := "Frac.__ge__") (scope := defScope st_Frac___ge__) (f := f) (cd := cdv) (A := A) (outer := outer) (s := s) (H := H) (E := E)
    exact (by exact ss_cons (by exact s_if (by exact t_val (by exact e_isi (by exact e_var rfl (Or.inl rfl)) (pe_glob (v := .ref (He.ga K "Frac")) rfl (He.glo_ok S.ki S.ns (fc_10 S)) rfl) (.own _) (hk_ti_Frac S) (hi_ti_Frac S) (hx_ti_Frac S) rfl (He.free_ok S.ki S.ns (fc_6 S)))) (by exact ss_one (by exact s_ret (by exact e_cmp o_ige (by exact e_bin o_mmul (by exact e_fldV rfl (Or.inl rfl) (allC (fdG_ok (fc_0 S) (fc_2 S)) allN)) (by exact e_fldV rfl (Or.inl rfl) (allC (fdG_ok (fc_0 S) (fc_1 S)) allN))) (by exact e_bin o_mmul (by exact e_fldV rfl (Or.inl rfl) (allC (fdG_ok (fc_0 S) (fc_2 S)) allN)) (by exact e_fldV rfl (Or.inl rfl) (allC (fdG_ok (fc_0 S) (fc_1 S)) allN)))))) (by exact ss_nil)) (by exact ss_cons (by exact s_if (by exact t_val (by exact e_isi (by exact e_var rfl (Or.inl rfl)) (pe_bltn rfl (He.free_ok S.ki S.ns (fc_7 S)) PyProof.Rows.Boot.«int» (show RelV (.ty "int") (.type "int") from rfl)) (.ty "int") (hk_ti_int S) (hi_ti_int S) (hx_ti_int S) rfl (He.free_ok S.ki S.ns (fc_6 S)))) (by exact ss_one (by exact s_ret (by exact e_cmp o_ige (by exact e_fldV rfl (Or.inl rfl) (allC (fdG_ok (fc_0 S) (fc_2 S)) allN)) (by exact e_bin o_mmul (by exact e_var rfl (Or.inl rfl)) (by exact e_fldV rfl (Or.inl rfl) (allC (fdG_ok (fc_0 S) (fc_1 S)) allN)))))) (by exact ss_nil)) (by exact ss_one (by exact s_stk)))))
  exact h
theorem g_Frac___ge__ (S : Sy fs fn K mg base) : MtG P w K mg base "Frac" "__ge__" 1 m_Frac___ge__ [] := by
  obtain ⟨fd, G⟩ := S.c.def_ 35 (d := df_Frac___ge__) rfl
  exact ⟨He.cls_ok (fc_0 S), ⟨_, fd, _, [], [], ok_Frac___ge__ S G, He.meth_ok (fc_89 S), (FunD.bindsN (ps := (["self", "other"] : List Str)) G fun _ _ _ _ _ _ us hl => match us, hl with | [_, _], _ => rfl), .nil, rp0⟩⟩
noncomputable def tb___ge__ : List (String × Fn) := [("Frac", m_Frac___ge__)]
theorem mt___ge__ (S : Sy fs fn K mg base) : ∀ q ∈ tb___ge__, MtG P w K mg base q.1 "__ge__" 1 q.2 [] := by unfold tb___ge__; exact (allC (p := fun q : String × Fn => MtG P w K mg base q.1 "__ge__" 1 q.2 []) ((g_Frac___ge__ S).up (by decide)) allN)
end
end Fx
namespace Fx
open PySem PySem.Spec PyProof.Rows L2 L2H
section
variable {P : Program} {w : World} {K : Fg} {mg : Str → Option Value} {base : Heap}
noncomputable def b_Frac___le__ : Sx := (sSeq (sIf (cB (c1 (mIsi ti_Frac) (cV 1))) (sRt (c2 (iCmp fun i j => decide (i ≤ j)) (c2 mMul (cFldV "num" ["Frac"] 0) (cFldV "den" ["Frac"] 1)) (c2 mMul (cFldV "num" ["Frac"] 1) (cFldV "den" ["Frac"] 0)))) sNx) (sSeq (sIf (cB (c1 (mIsi ti_int) (cV 1))) (sRt (c2 (iCmp fun i j => decide (i ≤ j)) (cFldV "num" ["Frac"] 0) (c2 mMul (cV 1) (cFldV "den" ["Frac"] 0)))) sNx) sStk))
noncomputable def m_Frac___le__ : Fn := mkFn 2 2 b_Frac___le__
theorem ok_Frac___le__ (S : Sy fs fn K mg base) {f : Addr} {fd : FuncData} {dvs : List V} {kws : List (Str × V)} (G : FunD K "__le__" "Frac.__le__" (defArgs st_Frac___le__) (defBody st_Frac___le__) (defScope st_Frac___le__) dvs kws f fd) : FnOk P w K mg base (L2.CX P w) 1 f fd (["self", "other"] : List Str) (spF K m_Frac___le__) := by
  have h := fn_ok (P := P) (w := w) (mg := mg) (base := base) (body := b_Frac___le__) G sc_Frac___le__ (k := 0) (fun cdv A outer s H E hr => by
    have tk := tk_cx (P := P) (w := w) (K := K) (mg := mg) (base := base) (N := (["self", "other"] : List Str)) (qual := "Frac.__le__") (scope := defScope st_Frac___le__) (f := f) (cd := cdv) (A := A) (outer := outer) (s := s) (H := H) (E := E)
    have hp := po_cx (P := P) (w := w) (K := K) (mg := mg) (base := base) (N := (["self", "other"] : List Str)) (qual := "Frac.__le__") (scope := defScope st_Frac___le__) (f := f) (cd := cdv) (A := A) (outer := outer) (s := s) (H := H) (E := E)
    exact (by exact ss_cons (by exact s_if (by exact t_val (by exact e_isi (by exact e_var rfl (Or.inl rfl)) (pe_glob (v := .ref (He.ga K "Frac")) rfl (He.glo_ok S.ki S.ns (fc_10 S)) rfl) (.own _) (hk_ti_Frac S) (hi_ti_Frac S) (hx_ti_Frac S) rfl (He.free_ok S.ki S.ns (fc_6 S)))) (by exact ss_one (by exact s_ret (by exact e_cmp o_ile (by exact e_bin o_mmul (by exact e_fldV rfl (Or.inl rfl) (allC (fdG_ok (fc_0 S) (fc_2 S)) allN)) (by exact e_fldV rfl (Or.inl rfl) (allC (fdG_ok (fc_0 S) (fc_1 S)) allN))) (by exact e_bin o_mmul (by exact e_fldV rfl (Or.inl rfl) (allC (fdG_ok (fc_0 S) (fc_2 S)) allN)) (by exact e_fldV rfl (Or.inl rfl) (allC (fdG_ok (fc_0 S) (fc_1 S)) allN)))))) (by exact ss_nil)) (by exact ss_cons (by exact s_if (by exact t_val (by exact e_isi (by exact e_var rfl (Or.inl rfl)) (pe_bltn rfl (He.free_ok S.ki S.ns (fc_7 S)) PyProof.Rows.Boot.«int» (show RelV (.ty "int") (.type "int") from rfl)) (.ty "int") (hk_ti_int S) (hi_ti_int S) (hx_ti_int S) rfl (He.free_ok S.ki S.ns (fc_6 S)))) (by exact ss_one (by exact s_ret (by exact e_cmp o_ile (by exact e_fldV rfl (Or.inl rfl) (allC (fdG_ok (fc_0 S) (fc_2 S)) allN)) (by exact e_bin o_mmul (by exact e_var rfl (Or.inl rfl)) (by exact e_fldV rfl (Or.inl rfl) (allC (fdG_ok (fc_0 S) (fc_1 S)) allN)))))) (by exact ss_nil)) (by exact ss_one (by exact s_stk)))))
  exact h
theorem g_Frac___le__ (S : Sy fs fn K mg base) : MtG P w K mg base "Frac" "__le__" 1 m_Frac___le__ [] := by
  obtain ⟨fd, G⟩ := S.c.def_ 36 (d := df_Frac___le__) rfl
  exact ⟨He.cls_ok (fc_0 S), ⟨_, fd, _, [], [], ok_Frac___le__ S G, He.meth_ok (fc_90 S), (FunD.bindsN (ps := (["self", "other"] : List Str)) G fun _ _ _ _ _ _ us hl => match us, hl with | [_, _], _ => rfl), .nil, rp0⟩⟩
noncomputable def tb___le__ : List (String × Fn) := [("Frac", m_Frac___le__)]
theorem mt___le__ (S : Sy fs fn K mg base) : ∀ q ∈ tb___le__, MtG P w K mg base q.1 "__le__" 1 q.2 [] := by unfold tb___le__; exact (allC (p := fun q : String × Fn => MtG P w K mg base q.1 "__le__" 1 q.2 []) ((g_Frac___le__ S).up (by decide)) allN)
theorem ni___le__ (S : Sy fs fn K mg base) : ∀ q ∈ tb___le__, PySem.W.subIn K (.ref (He.ga K q.1)) (.type "int") = some false := by unfold tb___le__; exact (allC (ni_ok (fc_16 S)) allN)
noncomputable def b_Frac___gt__ : Sx := (sSeq (sIf (cB (c1 (mIsi ti_Frac) (cV 1))) (sRt (c2 (iCmp fun i j => decide (j < i)) (c2 mMul (cFldV "num" ["Frac"] 0) (cFldV "den" ["Frac"] 1)) (c2 mMul (cFldV "num" ["Frac"] 1) (cFldV "den" ["Frac"] 0)))) sNx) (sSeq (sIf (cB (c1 (mIsi ti_int) (cV 1))) (sRt (c2 (iCmp fun i j => decide (j < i)) (cFldV "num" ["Frac"] 0) (c2 mMul (cV 1) (cFldV "den" ["Frac"] 0)))) sNx) sStk))
end
end Fx
namespace Fx
open PySem PySem.Spec PyProof.Rows L2 L2H
section
variable {P : Program} {w : World} {K : Fg} {mg : Str → Option Value} {base : Heap}
noncomputable def m_Frac___gt__ : Fn := mkFn 2 2 b_Frac___gt__
theorem ok_Frac___gt__ (S : Sy fs fn K mg base) {f : Addr} {fd : FuncData} {dvs : List V} {kws : List (Str × V)} (G : FunD K "__gt__" "Frac.__gt__" (defArgs st_Frac___gt__) (defBody st_Frac___gt__) (defScope st_Frac___gt__) dvs kws f fd) : FnOk P w K mg base (L2.CX P w) 1 f fd (["self", "other"] : List Str) (spF K m_Frac___gt__) := by
  have h := fn_ok (P := P) (w := w) (mg := mg) (base := base) (body := b_Frac___gt__) G sc_Frac___gt__ (k := 0) (fun cdv A outer s H E hr => by
    have tk := tk_cx (P := P) (w := w) (K := K) (mg := mg) (base := base) (N := (["self", "other"] : List Str)) (qual := "Frac.__gt__") (scope := defScope st_Frac___gt__) (f := f) (cd := cdv) (A := A) (outer := outer) (s := s) (H := H) (E := E)
    have hp := po_cx (P := P) (w := w) (K := K) (mg := mg) (base := base) (N := (["self", "other"] : List Str)) (qual := "Frac.__gt__") (scope := defScope st_Frac___gt__) (f := f) (cd := cdv) (A := A) (outer := outer) (s := s) (H := H) (E := E)
    exact (by exact ss_cons (by exact s_if (by exact t_val (by exact e_isi (by exact e_var rfl (Or.inl rfl)) (pe_glob (v := .ref (He.ga K "Frac")) rfl (He.glo_ok S.ki S.ns (fc_10 S)) rfl) (.own _) (hk_ti_Frac S) (hi_ti_Frac S) (hx_ti_Frac S) rfl (He.free_ok S.ki S.ns (fc_6 S)))) (by exact ss_one (by exact s_ret (by exact e_cmp o_igt (by exact e_bin o_mmul (by exact e_fldV rfl (Or.inl rfl) (allC (fdG_ok (fc_0 S) (fc_2 S)) allN)) (by exact e_fldV rfl (Or.inl rfl) (allC (fdG_ok (fc_0 S) (fc_1 S)) allN))) (by exact e_bin o_mmul (by exact e_fldV rfl (Or.inl rfl) (allC (fdG_ok (fc_0 S) (fc_2 S)) allN)) (by exact e_fldV rfl (Or.inl rfl) (allC (fdG_ok (fc_0 S) (fc_1 S)) allN)))))) (by exact ss_nil)) (by exact ss_cons (by exact s_if (by exact t_val (by exact e_isi (by exact e_var rfl (Or.inl rfl)) (pe_bltn rfl (He.free_ok S.ki S.ns (fc_7 S)) PyProof.Rows.Boot.«int» (show RelV (.ty "int") (.type "int") from rfl)) (.ty "int") (hk_ti_int S) (hi_ti_int S) (hx_ti_int S) rfl (He.free_ok S.ki S.ns (fc_6 S)))) (by exact ss_one (by exact s_ret (by exact e_cmp o_igt (by exact e_fldV rfl (Or.inl rfl) (allC (fdG_ok (fc_0 S) (fc_2 S)) allN)) (by exact e_bin o_mmul (by exact e_var rfl (Or.inl rfl)) (by exact e_fldV rfl (Or.inl rfl) (allC (fdG_ok (fc_0 S) (fc_1 S)) allN)))))) (by exact ss_nil)) (by exact ss_one (by exact s_stk)))))
  exact h
theorem g_Frac___gt__ (S : Sy fs fn K mg base) : MtG P w K mg base "Frac" "__gt__" 1 m_Frac___gt__ [] := by
  obtain ⟨fd, G⟩ := S.c.def_ 37 (d := df_Frac___gt__) rfl
  exact ⟨He.cls_ok (fc_0 S), ⟨_, fd, _, [], [], ok_Frac___gt__ S G, He.meth_ok (fc_91 S), (FunD.bindsN (ps := (["self", "other"] : List Str)) G fun _ _ _ _ _ _ us hl => match us, hl with | [_, _], _ => rfl), .nil, rp0⟩⟩
noncomputable def tb___gt__ : List (String × Fn) := [("Frac", m_Frac___gt__)]
theorem mt___gt__ (S : Sy fs fn K mg base) : ∀ q ∈ tb___gt__, MtG P w K mg base q.1 "__gt__" 1 q.2 [] := by unfold tb___gt__; exact (allC (p := fun q : String × Fn => MtG P w K mg base q.1 "__gt__" 1 q.2 []) ((g_Frac___gt__ S).up (by decide)) allN)
noncomputable def b_Frac___lt__ : Sx := (sSeq (sIf (cB (c1 (mIsi ti_Frac) (cV 1))) (sRt (c2 (iCmp fun i j => decide (i < j)) (c2 mMul (cFldV "num" ["Frac"] 0) (cFldV "den" ["Frac"] 1)) (c2 mMul (cFldV "num" ["Frac"] 1) (cFldV "den" ["Frac"] 0)))) sNx) (sSeq (sIf (cB (c1 (mIsi ti_int) (cV 1))) (sRt (c2 (iCmp fun i j => decide (i < j)) (cFldV "num" ["Frac"] 0) (c2 mMul (cV 1) (cFldV "den" ["Frac"] 0)))) sNx) sStk))
noncomputable def m_Frac___lt__ : Fn := mkFn 2 2 b_Frac___lt__
theorem ok_Frac___lt__ (S : Sy fs fn K mg base) {f : Addr} {fd : FuncData} {dvs : List V} {kws : List (Str × V)} (G : FunD K "__lt__" "Frac.__lt__" (defArgs st_Frac___lt__) (defBody st_Frac___lt__) (defScope st_Frac___lt__) dvs kws f fd) : FnOk P w K mg base (L2.CX P w) 1 f fd (["self", "other"] : List Str) (spF K m_Frac___lt__) := by
  have h := fn_ok (P := P) (w := w) (mg := mg) (base := base) (body := b_Frac___lt__) G sc_Frac___lt__ (k := 0) (fun cdv A outer s H E hr => by
    have tk := tk_cx (P := P) (w := w) (K := K) (mg := mg) (base := base) (N := (["self", "other"] : List Str)) (qual := "Frac.__lt__") (scope := defScope st_Frac___lt__) (f := f) (cd := cdv) (A := A) (outer := outer) (s := s) (H := H) (E := E)
    have hp := po_cx (P := P) (w := w) (K := K) (mg := mg) (base := base) (N := (["self", "other"] : List Str)) (qual := "Frac.__lt__") (scope := defScope st_Frac___lt__) (f := f) (cd := cdv) (A := A) (outer := outer) (s := s) (H := H) (E := E)
    exact (by exact ss_cons (by exact s_if (by exact t_val (by exact e_isi (by exact e_var rfl (Or.inl rfl)) (pe_glob (v := .ref (He.ga K "Frac")) rfl (He.glo_ok S.ki S.ns (fc_10 S)) rfl) (.own _) (hk_ti_Frac S) (hi_ti_Frac S) (hx_ti_Frac S) rfl (He.free_ok S.ki S.ns (fc_6 S)))) (by exact ss_one (by exact s_ret (by exact e_cmp o_ilt (by exact e_bin o_mmul (by exact e_fldV rfl (Or.inl rfl) (allC (fdG_ok (fc_0 S) (fc_2 S)) allN)) (by exact e_fldV rfl (Or.inl rfl) (allC (fdG_ok (fc_0 S) (fc_1 S)) allN))) (by exact e_bin o_mmul (by exact e_fldV rfl (Or.inl rfl) (allC (fdG_ok (fc_0 S) (fc_2 S)) allN)) (by exact e_fldV rfl (Or.inl rfl) (allC (fdG_ok (fc_0 S) (fc_1 S)) allN)))))) (by exact ss_nil)) (by exact ss_cons (by exact s_if (by exact t_val (by exact e_isi (by exact e_var rfl (Or.inl rfl)) (pe_bltn rfl (He.free_ok S.ki S.ns (fc_7 S)) PyProof.Rows.Boot.«int» (show RelV (.ty "int") (.type "int") from rfl)) (.ty "int") (hk_ti_int S) (hi_ti_int S) (hx_ti_int S) rfl (He.free_ok S.ki S.ns (fc_6 S)))) (by exact ss_one (by exact s_ret (by exact e_cmp o_ilt (by exact e_fldV rfl (Or.inl rfl) (allC (fdG_ok (fc_0 S) (fc_2 S)) allN)) (by exact e_bin o_mmul (by exact e_var rfl (Or.inl rfl)) (by exact e_fldV rfl (Or.inl rfl) (allC (fdG_ok (fc_0 S) (fc_1 S)) allN)))))) (by exact ss_nil)) (by exact ss_one (by exact s_stk)))))
  exact h
end
end Fx
namespace Fx
open PySem PySem.Spec PyProof.Rows L2 L2H
section
variable {P : Program} {w : World} {K : Fg} {mg : Str → Option Value} {base : Heap}
theorem g_Frac___lt__ (S : Sy fs fn K mg base) : MtG P w K mg base "Frac" "__lt__" 1 m_Frac___lt__ [] := by
  obtain ⟨fd, G⟩ := S.c.def_ 38 (d := df_Frac___lt__) rfl
  exact ⟨He.cls_ok (fc_0 S), ⟨_, fd, _, [], [], ok_Frac___lt__ S G, He.meth_ok (fc_92 S), (FunD.bindsN (ps := (["self", "other"] : List Str)) G fun _ _ _ _ _ _ us hl => match us, hl with | [_, _], _ => rfl), .nil, rp0⟩⟩
noncomputable def tb___lt__ : List (String × Fn) := [("Frac", m_Frac___lt__)]
theorem mt___lt__ (S : Sy fs fn K mg base) : ∀ q ∈ tb___lt__, MtG P w K mg base q.1 "__lt__" 1 q.2 [] := by unfold tb___lt__; exact (allC (p := fun q : String × Fn => MtG P w K mg base q.1 "__lt__" 1 q.2 []) ((g_Frac___lt__ S).up (by decide)) allN)
theorem ni___lt__ (S : Sy fs fn K mg base) : ∀ q ∈ tb___lt__, PySem.W.subIn K (.ref (He.ga K q.1)) (.type "int") = some false := by unfold tb___lt__; exact (allC (ni_ok (fc_16 S)) allN)
theorem ni___ge__ (S : Sy fs fn K mg base) : ∀ q ∈ tb___ge__, PySem.W.subIn K (.ref (He.ga K q.1)) (.type "int") = some false := by unfold tb___ge__; exact (allC (ni_ok (fc_16 S)) allN)
theorem ni___gt__ (S : Sy fs fn K mg base) : ∀ q ∈ tb___gt__, PySem.W.subIn K (.ref (He.ga K q.1)) (.type "int") = some false := by unfold tb___gt__; exact (allC (ni_ok (fc_16 S)) allN)
noncomputable def b__law_order : Sx := (sSeq (sSet 4 (c2 (P2.or iSub (P2.or (opB tb___sub__) (opR tb___rsub__))) (c2 (P2.or mMul (P2.or (opB tb___mul__) (opR tb___rmul__))) (cIxV 2 (cC (.int 0))) (cIxV 3 (cC (.int 1)))) (c2 (P2.or mMul (P2.or (opB tb___mul__) (opR tb___rmul__))) (cIxV 3 (cC (.int 0))) (cIxV 2 (cC (.int 1)))))) (sSeq (sSet 5 (cA mLst (aC (c2 (P2.or (iCmp fun i j => decide (i < j)) (P2.or (opB tb___lt__) (opR tb___gt__))) (cV 0) (cV 1)) (aC (c2 (P2.or (iCmp fun i j => decide (i ≤ j)) (P2.or (opB tb___le__) (opR tb___ge__))) (cV 0) (cV 1)) (aC (c2 (P2.or (iCmp fun i j => decide (j < i)) (P2.or (opB tb___gt__) (opR tb___lt__))) (cV 0) (cV 1)) (aC (c2 (P2.or (iCmp fun i j => decide (j ≤ i)) (P2.or (opB tb___ge__) (opR tb___le__))) (cV 0) (cV 1)) aN)))))) (sSeq (sSet 6 (cA mLst (aC (c2 (P2.or dEq (P2.or (opB tb___eq__) (opR tb___eq__))) (cV 0) (cV 1)) (aC (c2 (P2.or dNe (P2.or (opN tb___eq__) (opNR tb___eq__))) (cV 0) (cV 1)) aN)))) (sSeq (sIf (tOr' (tNo (cB (c1 (mIsi ti_bool) (cIxV 6 (cC (.int 0)))))) (tNo (cB (c1 (mIsi ti_bool) (cIxV 6 (cC (.int 1))))))) (sRt (cC (.bl false))) sNx) (sRt (cAn (c2 (P2.or dEq (P2.or (opB tb___eq__) (opR tb___eq__))) (cV 5) (cA mLst (aC (c2 (P2.or (iCmp fun i j => decide (i < j)) (P2.or (opB tb___lt__) (opR tb___gt__))) (cV 4) (cC (.int 0))) (aC (c2 (P2.or (iCmp fun i j => decide (i ≤ j)) (P2.or (opB tb___le__) (opR tb___ge__))) (cV 4) (cC (.int 0))) (aC (c2 (P2.or (iCmp fun i j => decide (j < i)) (P2.or (opB tb___gt__) (opR tb___lt__))) (cV 4) (cC (.int 0))) (aC (c2 (P2.or (iCmp fun i j => decide (j ≤ i)) (P2.or (opB tb___ge__) (opR tb___le__))) (cV 4) (cC (.int 0))) aN)))))) (c2 (P2.or dEq (P2.or (opB tb___eq__) (opR tb___eq__))) (cV 6) (cA mLst (aC (c2 (P2.or dEq (P2.or (opB tb___eq__) (opR tb___eq__))) (cV 4) (cC (.int 0))) (aC (c2 (P2.or dNe (P2.or (opN tb___eq__) (opNR tb___eq__))) (cV 4) (cC (.int 0))) aN))))))))))
noncomputable def m__law_order : Fn := mkFn 4 7 b__law_order
end
end Fx
namespace Fx
open PySem PySem.Spec PyProof.Rows L2 L2H
section
variable {P : Program} {w : World} {K : Fg} {mg : Str → Option Value} {base : Heap}
theorem ok__law_order (S : Sy fs fn K mg base) {f : Addr} {fd : FuncData} {dvs : List V} {kws : List (Str × V)} (G : FunD K "_law_order" "_law_order" (defArgs st__law_order) (defBody st__law_order) (defScope st__law_order) dvs kws f fd) : FnOk P w K mg base (L2.CX P w) 4 f fd (["_law_one", "_law_two", "_law_p", "_law_q"] : List Str) (spF K m__law_order) := by
  have h := fn_ok (P := P) (w := w) (mg := mg) (base := base) (body := b__law_order) G sc__law_order (k := 3) (fun cdv A outer s H E hr => by
    have tk := tk_cx (P := P) (w := w) (K := K) (mg := mg) (base := base) (N := (["_law_one", "_law_two", "_law_p", "_law_q", "_law_c", "_law_got", "_law_same"] : List Str)) (qual := "_law_order") (scope := defScope st__law_order) (f := f) (cd := cdv) (A := A) (outer := outer) (s := s) (H := H) (E := E)
    have hp := po_cx (P := P) (w := w) (K := K) (mg := mg) (base := base) (N := (["_law_one", "_law_two", "_law_p", "_law_q", "_law_c", "_law_got", "_law_same"] : List Str)) (qual := "_law_order") (scope := defScope st__law_order) (f := f) (cd := cdv) (A := A) (outer := outer) (s := s) (H := H) (E := E)
    exact (by exact ss_cons (by exact s_set sc__law_order.nd (i := 4) rfl (Or.inl rfl) (by exact e_bin (Op2.or o_isub (Op2.or (o_left in_sub (by decide +kernel) (mt___sub__ S) (ol_sub S) (fun q _ => vo_bin rfl) (hr.mono (by decide)) tk) (o_right id_sub (by decide +kernel) (mt___rsub__ S) (or_sub S) (vi_bin rfl) (hr.mono (by decide)) tk))) (by exact e_bin (Op2.or o_mmul (Op2.or (o_left in_mul (by decide +kernel) (mt___mul__ S) (ol_mul S) (fun q _ => vo_bin rfl) (hr.mono (by decide)) tk) (o_right id_mul (by decide +kernel) (mt___rmul__ S) (or_mul S) (vi_bin rfl) (hr.mono (by decide)) tk))) (by exact e_ixV rfl (Or.inl rfl) (by exact e_int) (fun _ _ => rfl)) (by exact e_ixV rfl (Or.inl rfl) (by exact e_int) (fun _ _ => rfl))) (by exact e_bin (Op2.or o_mmul (Op2.or (o_left in_mul (by decide +kernel) (mt___mul__ S) (ol_mul S) (fun q _ => vo_bin rfl) (hr.mono (by decide)) tk) (o_right id_mul (by decide +kernel) (mt___rmul__ S) (or_mul S) (vi_bin rfl) (hr.mono (by decide)) tk))) (by exact e_ixV rfl (Or.inl rfl) (by exact e_int) (fun _ _ => rfl)) (by exact e_ixV rfl (Or.inl rfl) (by exact e_int) (fun _ _ => rfl))))) (by exact ss_cons (by exact s_set sc__law_order.nd (i := 5) rfl (Or.inl rfl) (by exact e_lst (by exact a_cons (by exact e_cmp (Op2.or o_ilt (Op2.or (o_cmpO (fun _ _ => rfl) (by decide +kernel) (mt___lt__ S) (hr.mono (by decide)) tk) (o_cmpR ic_lt (by decide +kernel) (mt___gt__ S) (ni___gt__ S) (hr.mono (by decide)) tk))) (by exact e_var rfl (Or.inl rfl)) (by exact e_var rfl (Or.inl rfl))) (by exact a_cons (by exact e_cmp (Op2.or o_ile (Op2.or (o_cmpO (fun _ _ => rfl) (by decide +kernel) (mt___le__ S) (hr.mono (by decide)) tk) (o_cmpR ic_le (by decide +kernel) (mt___ge__ S) (ni___ge__ S) (hr.mono (by decide)) tk))) (by exact e_var rfl (Or.inl rfl)) (by exact e_var rfl (Or.inl rfl))) (by exact a_cons (by exact e_cmp (Op2.or o_igt (Op2.or (o_cmpO (fun _ _ => rfl) (by decide +kernel) (mt___gt__ S) (hr.mono (by decide)) tk) (o_cmpR ic_gt (by decide +kernel) (mt___lt__ S) (ni___lt__ S) (hr.mono (by decide)) tk))) (by exact e_var rfl (Or.inl rfl)) (by exact e_var rfl (Or.inl rfl))) (by exact a_cons (by exact e_cmp (Op2.or o_ige (Op2.or (o_cmpO (fun _ _ => rfl) (by decide +kernel) (mt___ge__ S) (hr.mono (by decide)) tk) (o_cmpR ic_ge (by decide +kernel) (mt___le__ S) (ni___le__ S) (hr.mono (by decide)) tk))) (by exact e_var rfl (Or.inl rfl)) (by exact e_var rfl (Or.inl rfl))) a_nil)))))) (by exact ss_cons (by exact s_set sc__law_order.nd (i := 6) rfl (Or.inl rfl) (by exact e_lst (by exact a_cons (by exact e_cmp (Op2.or (o_deq (u64 hr)) (Op2.or (o_cmpO (fun _ _ => rfl) (by decide +kernel) (mt___eq__ S) (hr.mono (by decide)) tk) (o_cmpR ic_eq (by decide +kernel) (mt___eq__ S) (ni___eq__ S) (hr.mono (by decide)) tk))) (by exact e_var rfl (Or.inl rfl)) (by exact e_var rfl (Or.inl rfl))) (by exact a_cons (by exact e_cmp (Op2.or (o_dne (u64 hr)) (Op2.or (o_neO (mt___eq__ S) (on___eq__ S) (hr.mono (by decide)) tk) (o_neR (mt___eq__ S) (on___eq__ S) (ni___eq__ S) (hr.mono (by decide)) tk))) (by exact e_var rfl (Or.inl rfl)) (by exact e_var rfl (Or.inl rfl))) a_nil)))) (by exact ss_cons (by exact s_if (by exact PW.pt (by exact t_or (by exact t_not (by exact t_val (by exact e_isi (by exact e_ixV rfl (Or.inl rfl) (by exact e_int) (fun _ _ => rfl)) (pe_bltn rfl (He.free_ok S.ki S.ns (fc_4 S)) PyProof.Rows.Boot.«bool» (show RelV (.ty "bool") (.type "bool") from rfl)) (.ty "bool") (hk_ti_bool S) (hi_ti_bool S) (hx_ti_bool S) rfl (He.free_ok S.ki S.ns (fc_6 S))))) (by exact t_or1 (by exact t_not (by exact t_val (by exact e_isi (by exact e_ixV rfl (Or.inl rfl) (by exact e_int) (fun _ _ => rfl)) (pe_bltn rfl (He.free_ok S.ki S.ns (fc_4 S)) PyProof.Rows.Boot.«bool» (show RelV (.ty "bool") (.type "bool") from rfl)) (.ty "bool") (hk_ti_bool S) (hi_ti_bool S) (hx_ti_bool S) rfl (He.free_ok S.ki S.ns (fc_6 S)))))))) (by exact ss_one (by exact s_ret (by exact e_bl))) (by exact ss_nil)) (by exact ss_one (by exact s_ret (by exact e_and (by exact e_cmp (Op2.or (o_deq (u64 hr)) (Op2.or (o_cmpO (fun _ _ => rfl) (by decide +kernel) (mt___eq__ S) (hr.mono (by decide)) tk) (o_cmpR ic_eq (by decide +kernel) (mt___eq__ S) (ni___eq__ S) (hr.mono (by decide)) tk))) (by exact e_var rfl (Or.inl rfl)) (by exact e_lst (by exact a_cons (by exact e_cmp (Op2.or o_ilt (Op2.or (o_cmpO (fun _ _ => rfl) (by decide +kernel) (mt___lt__ S) (hr.mono (by decide)) tk) (o_cmpR ic_lt (by decide +kernel) (mt___gt__ S) (ni___gt__ S) (hr.mono (by decide)) tk))) (by exact e_var rfl (Or.inl rfl)) (by exact e_int)) (by exact a_cons (by exact e_cmp (Op2.or o_ile (Op2.or (o_cmpO (fun _ _ => rfl) (by decide +kernel) (mt___le__ S) (hr.mono (by decide)) tk) (o_cmpR ic_le (by decide +kernel) (mt___ge__ S) (ni___ge__ S) (hr.mono (by decide)) tk))) (by exact e_var rfl (Or.inl rfl)) (by exact e_int)) (by exact a_cons (by exact e_cmp (Op2.or o_igt (Op2.or (o_cmpO (fun _ _ => rfl) (by decide +kernel) (mt___gt__ S) (hr.mono (by decide)) tk) (o_cmpR ic_gt (by decide +kernel) (mt___lt__ S) (ni___lt__ S) (hr.mono (by decide)) tk))) (by exact e_var rfl (Or.inl rfl)) (by exact e_int)) (by exact a_cons (by exact e_cmp (Op2.or o_ige (Op2.or (o_cmpO (fun _ _ => rfl) (by decide +kernel) (mt___ge__ S) (hr.mono (by decide)) tk) (o_cmpR ic_ge (by decide +kernel) (mt___le__ S) (ni___le__ S) (hr.mono (by decide)) tk))) (by exact e_var rfl (Or.inl rfl)) (by exact e_int)) a_nil)))))) (by exact e_one (by exact e_cmp (Op2.or (o_deq (u64 hr)) (Op2.or (o_cmpO (fun _ _ => rfl) (by decide +kernel) (mt___eq__ S) (hr.mono (by decide)) tk) (o_cmpR ic_eq (by decide +kernel) (mt___eq__ S) (ni___eq__ S) (hr.mono (by decide)) tk))) (by exact e_var rfl (Or.inl rfl)) (by exact e_lst (by exact a_cons (by exact e_cmp (Op2.or (o_deq (u64 hr)) (Op2.or (o_cmpO (fun _ _ => rfl) (by decide +kernel) (mt___eq__ S) (hr.mono (by decide)) tk) (o_cmpR ic_eq (by decide +kernel) (mt___eq__ S) (ni___eq__ S) (hr.mono (by decide)) tk))) (by exact e_var rfl (Or.inl rfl)) (by exact e_int)) (by exact a_cons (by exact e_cmp (Op2.or (o_dne (u64 hr)) (Op2.or (o_neO (mt___eq__ S) (on___eq__ S) (hr.mono (by decide)) tk) (o_neR (mt___eq__ S) (on___eq__ S) (ni___eq__ S) (hr.mono (by decide)) tk))) (by exact e_var rfl (Or.inl rfl)) (by exact e_int)) a_nil)))))))))))))
  exact h
theorem g__law_order (S : Sy fs fn K mg base) : FnG P w K mg base "_law_order" 4 m__law_order [] := by
  obtain ⟨fd, G⟩ := S.c.def_ 34 (d := df__law_order) rfl
  exact ⟨⟨_, fd, _, [], [], ok__law_order S G, (He.glo_ok S.ki S.ns (fc_93 S)), G.kp, (FunD.bindsN (ps := (["_law_one", "_law_two", "_law_p", "_law_q"] : List Str)) G fun _ _ _ _ _ _ us hl => match us, hl with | [_, _, _, _], _ => rfl), .nil, rp0⟩⟩
noncomputable def b__law_power : Sx := (sSeq (sSet 2 (cC (.int 1))) (sSeq (sSet 3 (cC (.int 1))) (sSeq (sFor (gN 4) (sSeq (sSet 2 (c2 mMul (cV 2) (cIxV 0 (cC (.int 0))))) (sSet 3 (c2 mMul (cV 3) (cIxV 0 (cC (.int 1)))))) (iRng (aC (cV 1) aN))) (sRt (cA mTup (aC (cV 2) (aC (cV 3) aN)))))))
noncomputable def m__law_power : Fn := mkFn 2 5 b__law_power
theorem ok__law_power (S : Sy fs fn K mg base) {f : Addr} {fd : FuncData} {dvs : List V} {kws : List (Str × V)} (G : FunD K "_law_power" "_law_power" (defArgs st__law_power) (defBody st__law_power) (defScope st__law_power) dvs kws f fd) : FnOk P w K mg base (L2.CX P w) 1 f fd (["_law_p", "_law_k"] : List Str) (spF K m__law_power) := by
  have h := fn_ok (P := P) (w := w) (mg := mg) (base := base) (body := b__law_power) G sc__law_power (k := 0) (fun cdv A outer s H E hr => by
    have tk := tk_cx (P := P) (w := w) (K := K) (mg := mg) (base := base) (N := (["_law_p", "_law_k", "_law_top_here", "_law_bottom", "_law_j"] : List Str)) (qual := "_law_power") (scope := defScope st__law_power) (f := f) (cd := cdv) (A := A) (outer := outer) (s := s) (H := H) (E := E)
    have hp := po_cx (P := P) (w := w) (K := K) (mg := mg) (base := base) (N := (["_law_p", "_law_k", "_law_top_here", "_law_bottom", "_law_j"] : List Str)) (qual := "_law_power") (scope := defScope st__law_power) (f := f) (cd := cdv) (A := A) (outer := outer) (s := s) (H := H) (E := E)
    exact (by exact ss_cons (by exact s_set sc__law_power.nd (i := 2) rfl (Or.inl rfl) (by exact e_int)) (by exact ss_cons (by exact s_set sc__law_power.nd (i := 3) rfl (Or.inl rfl) (by exact e_int)) (by exact ss_cons (by exact s_for (vs := [4]) hp rfl (by exact i_rng1 rfl (He.free_ok S.ki S.ns (fc_77 S)) (by exact a_cons (by exact e_var rfl (Or.inl rfl)) a_nil)) (by exact g_name sc__law_power.nd rfl (Or.inl rfl)) st_name (by exact ss_cons (by exact s_set sc__law_power.nd (i := 2) rfl (Or.inl rfl) (by exact e_bin o_mmul (by exact e_var rfl (Or.inl rfl)) (by exact e_ixV rfl (Or.inl rfl) (by exact e_int) (fun _ _ => rfl)))) (by exact ss_one (by exact s_set sc__law_power.nd (i := 3) rfl (Or.inl rfl) (by exact e_bin o_mmul (by exact e_var rfl (Or.inl rfl)) (by exact e_ixV rfl (Or.inl rfl) (by exact e_int) (fun _ _ => rfl))))))) (by exact ss_one (by exact s_ret (by exact e_tup (by exact a_cons (by exact e_var rfl (Or.inl rfl)) (by exact a_cons (by exact e_var rfl (Or.inl rfl)) a_nil)))))))))
  exact h
theorem g__law_power (S : Sy fs fn K mg base) : FnG P w K mg base "_law_power" 1 m__law_power [] := by
  obtain ⟨fd, G⟩ := S.c.def_ 39 (d := df__law_power) rfl
  exact ⟨⟨_, fd, _, [], [], ok__law_power S G, (He.glo_ok S.ki S.ns (fc_94 S)), G.kp, (FunD.bindsN (ps := (["_law_p", "_law_k"] : List Str)) G fun _ _ _ _ _ _ us hl => match us, hl with | [_, _], _ => rfl), .nil, rp0⟩⟩
noncomputable def b__law_low : Sx := (sSeq (sSet 2 (cA bAbs (aC (cV 0) aN))) (sSeq (sSet 3 (cA bAbs (aC (cV 1) aN))) (sSeq (sWh (cB (c2 (iCmp fun i j => decide (j < i)) (cV 3) (cC (.int 0)))) (sSeq (sSet 4 (c2 iMod (cA bInt (aC (cV 2) aN)) (cV 3))) (sSeq (sSet 2 (cV 3)) (sSet 3 (cV 4))))) (sSeq (sIf (cB (c2 (iCmp fun i j => decide (i < j)) (cV 1) (cC (.int 0)))) (sSet 2 (c1 iNeg (cV 2))) sNx) (sRt (cA mTup (aC (c2 iFdv (cV 0) (cV 2)) (aC (c2 iFdv (cV 1) (cV 2)) aN))))))))
noncomputable def m__law_low : Fn := mkFn 2 5 b__law_low
end
end Fx
namespace Fx
open PySem PySem.Spec PyProof.Rows L2 L2H
section
variable {P : Program} {w : World} {K : Fg} {mg : Str → Option Value} {base : Heap}
theorem ok__law_low (S : Sy fs fn K mg base) {f : Addr} {fd : FuncData} {dvs : List V} {kws : List (Str × V)} (G : FunD K "_law_low" "_law_low" (defArgs st__law_low) (defBody st__law_low) (defScope st__law_low) dvs kws f fd) : FnOk P w K mg base (L2.CX P w) 1 f fd (["_law_top_here", "_law_bottom"] : List Str) (spF K m__law_low) := by
  have h := fn_ok (P := P) (w := w) (mg := mg) (base := base) (body := b__law_low) G sc__law_low (k := 0) (fun cdv A outer s H E hr => by
    have tk := tk_cx (P := P) (w := w) (K := K) (mg := mg) (base := base) (N := (["_law_top_here", "_law_bottom", "_law_a", "_law_b", "_law_c"] : List Str)) (qual := "_law_low") (scope := defScope st__law_low) (f := f) (cd := cdv) (A := A) (outer := outer) (s := s) (H := H) (E := E)
    have hp := po_cx (P := P) (w := w) (K := K) (mg := mg) (base := base) (N := (["_law_top_here", "_law_bottom", "_law_a", "_law_b", "_law_c"] : List Str)) (qual := "_law_low") (scope := defScope st__law_low) (f := f) (cd := cdv) (A := A) (outer := outer) (s := s) (H := H) (E := E)
    exact (by exact ss_cons (by exact s_set sc__law_low.nd (i := 2) rfl (Or.inl rfl) (by exact e_blt (f_abs) rfl (He.free_ok S.ki S.ns (fc_95 S)) PyProof.Rows.Boot.«abs» (by exact a_cons (by exact e_var rfl (Or.inl rfl)) a_nil))) (by exact ss_cons (by exact s_set sc__law_low.nd (i := 3) rfl (Or.inl rfl) (by exact e_blt (f_abs) rfl (He.free_ok S.ki S.ns (fc_95 S)) PyProof.Rows.Boot.«abs» (by exact a_cons (by exact e_var rfl (Or.inl rfl)) a_nil))) (by exact ss_cons (by exact s_while hp (by exact t_cmp o_igt (by exact e_var rfl (Or.inl rfl)) (by exact e_int)) (by exact ss_cons (by exact s_set sc__law_low.nd (i := 4) rfl (Or.inl rfl) (by exact e_bin o_imod (by exact e_typ (f_int) rfl (He.free_ok S.ki S.ns (fc_7 S)) PyProof.Rows.Boot.«int» (by exact a_cons (by exact e_var rfl (Or.inl rfl)) a_nil)) (by exact e_var rfl (Or.inl rfl)))) (by exact ss_cons (by exact s_set sc__law_low.nd (i := 2) rfl (Or.inl rfl) (by exact e_var rfl (Or.inl rfl))) (by exact ss_one (by exact s_set sc__law_low.nd (i := 3) rfl (Or.inl rfl) (by exact e_var rfl (Or.inl rfl))))))) (by exact ss_cons (by exact s_if (by exact t_cmp o_ilt (by exact e_var rfl (Or.inl rfl)) (by exact e_int)) (by exact ss_one (by exact s_set sc__law_low.nd (i := 2) rfl (Or.inl rfl) (by exact e_un o_ineg (by exact e_var rfl (Or.inl rfl))))) (by exact ss_nil)) (by exact ss_one (by exact s_ret (by exact e_tup (by exact a_cons (by exact e_bin o_ifdv (by exact e_var rfl (Or.inl rfl)) (by exact e_var rfl (Or.inl rfl))) (by exact a_cons (by exact e_bin o_ifdv (by exact e_var rfl (Or.inl rfl)) (by exact e_var rfl (Or.inl rfl))) a_nil))))))))))
  exact h
theorem g__law_low (S : Sy fs fn K mg base) : FnG P w K mg base "_law_low" 1 m__law_low [] := by
  obtain ⟨fd, G⟩ := S.c.def_ 43 (d := df__law_low) rfl
  exact ⟨⟨_, fd, _, [], [], ok__law_low S G, (He.glo_ok S.ki S.ns (fc_96 S)), G.kp, (FunD.bindsN (ps := (["_law_top_here", "_law_bottom"] : List Str)) G fun _ _ _ _ _ _ us hl => match us, hl with | [_, _], _ => rfl), .nil, rp0⟩⟩
noncomputable def b__law_sum : Sx := (sRt (cCall m__law_low [] (aC (c2 mAdd (c2 mMul (cIxV 0 (cC (.int 0))) (cIxV 1 (cC (.int 1)))) (c2 mMul (c2 mMul (cV 2) (cIxV 1 (cC (.int 0)))) (cIxV 0 (cC (.int 1))))) (aC (c2 mMul (cIxV 0 (cC (.int 1))) (cIxV 1 (cC (.int 1)))) aN))))
noncomputable def m__law_sum : Fn := mkFn 3 3 b__law_sum
theorem ok__law_sum (S : Sy fs fn K mg base) {f : Addr} {fd : FuncData} {dvs : List V} {kws : List (Str × V)} (G : FunD K "_law_sum" "_law_sum" (defArgs st__law_sum) (defBody st__law_sum) (defScope st__law_sum) dvs kws f fd) : FnOk P w K mg base (L2.CX P w) 2 f fd (["_law_p", "_law_q", "_law_sign"] : List Str) (spF K m__law_sum) := by
  have h := fn_ok (P := P) (w := w) (mg := mg) (base := base) (body := b__law_sum) G sc__law_sum (k := 1) (fun cdv A outer s H E hr => by
    have tk := tk_cx (P := P) (w := w) (K := K) (mg := mg) (base := base) (N := (["_law_p", "_law_q", "_law_sign"] : List Str)) (qual := "_law_sum") (scope := defScope st__law_sum) (f := f) (cd := cdv) (A := A) (outer := outer) (s := s) (H := H) (E := E)
    have hp := po_cx (P := P) (w := w) (K := K) (mg := mg) (base := base) (N := (["_law_p", "_law_q", "_law_sign"] : List Str)) (qual := "_law_sum") (scope := defScope st__law_sum) (f := f) (cd := cdv) (A := A) (outer := outer) (s := s) (H := H) (E := E)
    exact (by exact ss_one (by exact s_ret (by exact e_call (g__law_low S) (hr.mono (by decide)) tk rfl (by exact a_cons (by exact e_bin o_madd (by exact e_bin o_mmul (by exact e_ixV rfl (Or.inl rfl) (by exact e_int) (fun _ _ => rfl)) (by exact e_ixV rfl (Or.inl rfl) (by exact e_int) (fun _ _ => rfl))) (by exact e_bin o_mmul (by exact e_bin o_mmul (by exact e_var rfl (Or.inl rfl)) (by exact e_ixV rfl (Or.inl rfl) (by exact e_int) (fun _ _ => rfl))) (by exact e_ixV rfl (Or.inl rfl) (by exact e_int) (fun _ _ => rfl)))) (by exact a_cons (by exact e_bin o_mmul (by exact e_ixV rfl (Or.inl rfl) (by exact e_int) (fun _ _ => rfl)) (by exact e_ixV rfl (Or.inl rfl) (by exact e_int) (fun _ _ => rfl))) a_nil))))))
  exact h
theorem g__law_sum (S : Sy fs fn K mg base) : FnG P w K mg base "_law_sum" 2 m__law_sum [] := by
  obtain ⟨fd, G⟩ := S.c.def_ 42 (d := df__law_sum) rfl
  exact ⟨⟨_, fd, _, [], [], ok__law_sum S G, (He.glo_ok S.ki S.ns (fc_97 S)), G.kp, (FunD.bindsN (ps := (["_law_p", "_law_q", "_law_sign"] : List Str)) G fun _ _ _ _ _ _ us hl => match us, hl with | [_, _, _], _ => rfl), .nil, rp0⟩⟩
noncomputable def b__law_floors : Sx := (sSeq (sSet 4 (cCall m__law_low [] (aC (c2 (P2.or mMul (P2.or (opB tb___mul__) (opR tb___rmul__))) (cIxV 2 (cC (.int 0))) (cIxV 3 (cC (.int 1)))) (aC (c2 (P2.or mMul (P2.or (opB tb___mul__) (opR tb___rmul__))) (cIxV 2 (cC (.int 1))) (cIxV 3 (cC (.int 0)))) aN)))) (sSeq (sSet 5 (c2 (P2.or iFdv (P2.or (opB tb___floordiv__) (opR tb___rfloordiv__))) (cIxV 4 (cC (.int 0))) (cIxV 4 (cC (.int 1))))) (sSeq (sSet 6 (cCall m__law_sum [] (aC (cV 2) (aC (cA mTup (aC (c2 (P2.or mMul (P2.or (opB tb___mul__) (opR tb___rmul__))) (cIxV 3 (cC (.int 0))) (cV 5)) (aC (cIxV 3 (cC (.int 1))) aN))) (aC (c1 (P1.or iNeg (opU tb___neg__)) (cC (.int 1))) aN))))) (sSeq (sSet 7 (c2 (P2.or iFdv (P2.or (opB tb___floordiv__) (opR tb___rfloordiv__))) (cV 0) (cV 1))) (sRt (cAn (cCall m__law_int [] (aC (cV 7) aN)) (cAn (c2 (P2.or dEq (P2.or (opB tb___eq__) (opR tb___eq__))) (cV 7) (cV 5)) (cCall m__law_is [] (aC (c2 (P2.or iMod (P2.or (opB tb___mod__) (opR tb___rmod__))) (cV 0) (cV 1)) (aC (cV 6) aN))))))))))
noncomputable def m__law_floors : Fn := mkFn 4 8 b__law_floors
end
end Fx
namespace Fx
open PySem PySem.Spec PyProof.Rows L2 L2H
section
variable {P : Program} {w : World} {K : Fg} {mg : Str → Option Value} {base : Heap}
theorem ok__law_floors (S : Sy fs fn K mg base) {f : Addr} {fd : FuncData} {dvs : List V} {kws : List (Str × V)} (G : FunD K "_law_floors" "_law_floors" (defArgs st__law_floors) (defBody st__law_floors) (defScope st__law_floors) dvs kws f fd) : FnOk P w K mg base (L2.CX P w) 5 f fd (["_law_one", "_law_two", "_law_p", "_law_q"] : List Str) (spF K m__law_floors) := by
  have h := fn_ok (P := P) (w := w) (mg := mg) (base := base) (body := b__law_floors) G sc__law_floors (k := 4) (fun cdv A outer s H E hr => by
    have tk := tk_cx (P := P) (w := w) (K := K) (mg := mg) (base := base) (N := (["_law_one", "_law_two", "_law_p", "_law_q", "_law_exact", "_law_floor", "_law_rest", "_law_got"] : List Str)) (qual := "_law_floors") (scope := defScope st__law_floors) (f := f) (cd := cdv) (A := A) (outer := outer) (s := s) (H := H) (E := E)
    have hp := po_cx (P := P) (w := w) (K := K) (mg := mg) (base := base) (N := (["_law_one", "_law_two", "_law_p", "_law_q", "_law_exact", "_law_floor", "_law_rest", "_law_got"] : List Str)) (qual := "_law_floors") (scope := defScope st__law_floors) (f := f) (cd := cdv) (A := A) (outer := outer) (s := s) (H := H) (E := E)
    exact (by exact ss_cons (by exact s_set sc__law_floors.nd (i := 4) rfl (Or.inl rfl) (by exact e_call (g__law_low S) (hr.mono (by decide)) tk rfl (by exact a_cons (by exact e_bin (Op2.or o_mmul (Op2.or (o_left in_mul (by decide +kernel) (mt___mul__ S) (ol_mul S) (fun q _ => vo_bin rfl) (hr.mono (by decide)) tk) (o_right id_mul (by decide +kernel) (mt___rmul__ S) (or_mul S) (vi_bin rfl) (hr.mono (by decide)) tk))) (by exact e_ixV rfl (Or.inl rfl) (by exact e_int) (fun _ _ => rfl)) (by exact e_ixV rfl (Or.inl rfl) (by exact e_int) (fun _ _ => rfl))) (by exact a_cons (by exact e_bin (Op2.or o_mmul (Op2.or (o_left in_mul (by decide +kernel) (mt___mul__ S) (ol_mul S) (fun q _ => vo_bin rfl) (hr.mono (by decide)) tk) (o_right id_mul (by decide +kernel) (mt___rmul__ S) (or_mul S) (vi_bin rfl) (hr.mono (by decide)) tk))) (by exact e_ixV rfl (Or.inl rfl) (by exact e_int) (fun _ _ => rfl)) (by exact e_ixV rfl (Or.inl rfl) (by exact e_int) (fun _ _ => rfl))) a_nil)))) (by exact ss_cons (by exact s_set sc__law_floors.nd (i := 5) rfl (Or.inl rfl) (by exact e_bin (Op2.or o_ifdv (Op2.or (o_left in_fdv (by decide +kernel) (mt___floordiv__ S) (ol_floordiv S) (fun q _ => vo_bin rfl) (hr.mono (by decide)) tk) (o_right id_fdv (by decide +kernel) (mt___rfloordiv__ S) (or_floordiv S) (vi_bin rfl) (hr.mono (by decide)) tk))) (by exact e_ixV rfl (Or.inl rfl) (by exact e_int) (fun _ _ => rfl)) (by exact e_ixV rfl (Or.inl rfl) (by exact e_int) (fun _ _ => rfl)))) (by exact ss_cons (by exact s_set sc__law_floors.nd (i := 6) rfl (Or.inl rfl) (by exact e_call (g__law_sum S) (hr.mono (by decide)) tk rfl (by exact a_cons (by exact e_var rfl (Or.inl rfl)) (by exact a_cons (by exact e_tup (by exact a_cons (by exact e_bin (Op2.or o_mmul (Op2.or (o_left in_mul (by decide +kernel) (mt___mul__ S) (ol_mul S) (fun q _ => vo_bin rfl) (hr.mono (by decide)) tk) (o_right id_mul (by decide +kernel) (mt___rmul__ S) (or_mul S) (vi_bin rfl) (hr.mono (by decide)) tk))) (by exact e_ixV rfl (Or.inl rfl) (by exact e_int) (fun _ _ => rfl)) (by exact e_var rfl (Or.inl rfl))) (by exact a_cons (by exact e_ixV rfl (Or.inl rfl) (by exact e_int) (fun _ _ => rfl)) a_nil))) (by exact a_cons (by exact e_un (Un1.or o_ineg (o_negO (mt___neg__ S) (hr.mono (by decide)) tk)) (by exact e_int)) a_nil))))) (by exact ss_cons (by exact s_set sc__law_floors.nd (i := 7) rfl (Or.inl rfl) (by exact e_bin (Op2.or o_ifdv (Op2.or (o_left in_fdv (by decide +kernel) (mt___floordiv__ S) (ol_floordiv S) (fun q _ => vo_bin rfl) (hr.mono (by decide)) tk) (o_right id_fdv (by decide +kernel) (mt___rfloordiv__ S) (or_floordiv S) (vi_bin rfl) (hr.mono (by decide)) tk))) (by exact e_var rfl (Or.inl rfl)) (by exact e_var rfl (Or.inl rfl)))) (by exact ss_one (by exact s_ret (by exact e_and (by exact e_call (g__law_int S) (hr.mono (by decide)) tk rfl (by exact a_cons (by exact e_var rfl (Or.inl rfl)) a_nil)) (by exact e_and (by exact e_cmp (Op2.or (o_deq (u64 hr)) (Op2.or (o_cmpO (fun _ _ => rfl) (by decide +kernel) (mt___eq__ S) (hr.mono (by decide)) tk) (o_cmpR ic_eq (by decide +kernel) (mt___eq__ S) (ni___eq__ S) (hr.mono (by decide)) tk))) (by exact e_var rfl (Or.inl rfl)) (by exact e_var rfl (Or.inl rfl))) (by exact e_one (by exact e_call (g__law_is S) (hr.mono (by decide)) tk rfl (by exact a_cons (by exact e_bin (Op2.or o_imod (Op2.or (o_left in_mod (by decide +kernel) (mt___mod__ S) (ol_mod S) (fun q _ => vo_bin rfl) (hr.mono (by decide)) tk) (o_right id_mod (by decide +kernel) (mt___rmod__ S) (or_mod S) (vi_bin rfl) (hr.mono (by decide)) tk))) (by exact e_var rfl (Or.inl rfl)) (by exact e_var rfl (Or.inl rfl))) (by exact a_cons (by exact e_var rfl (Or.inl rfl)) a_nil)))))))))))))
  exact h
theorem g__law_floors (S : Sy fs fn K mg base) : FnG P w K mg base "_law_floors" 5 m__law_floors [] := by
  obtain ⟨fd, G⟩ := S.c.def_ 41 (d := df__law_floors) rfl
  exact ⟨⟨_, fd, _, [], [], ok__law_floors S G, (He.glo_ok S.ki S.ns (fc_98 S)), G.kp, (FunD.bindsN (ps := (["_law_one", "_law_two", "_law_p", "_law_q"] : List Str)) G fun _ _ _ _ _ _ us hl => match us, hl with | [_, _, _, _], _ => rfl), .nil, rp0⟩⟩
noncomputable def b__law_divided : Sx := (sSeq (sSet 5 (cA mTup (aC (cV 2) (aC (cC (.int 1)) aN)))) (sSeq (sIf (cB (c2 (P2.or dNe (P2.or (opN tb___eq__) (opNR tb___eq__))) (cIxV 4 (cC (.int 0))) (cC (.int 0)))) (sIf (tOr' (tNo (cB (cCall m__law_floors [] (aC (cV 0) (aC (cV 1) (aC (cV 3) (aC (cV 4) aN))))))) (tNo (cB (cCall m__law_is [] (aC (cMeth "over" tb_over [] (cV 0) (aC (cV 1) aN)) (aC (cCall m__law_low [] (aC (c2 (P2.or mMul (P2.or (opB tb___mul__) (opR tb___rmul__))) (cIxV 3 (cC (.int 0))) (cIxV 4 (cC (.int 1)))) (aC (c2 (P2.or mMul (P2.or (opB tb___mul__) (opR tb___rmul__))) (cIxV 3 (cC (.int 1))) (cIxV 4 (cC (.int 0)))) aN))) aN)))))) (sRt (cC (.bl false))) sNx) sNx) (sSeq (sIf (cB (c2 (P2.or dNe (P2.or (opN tb___eq__) (opNR tb___eq__))) (cV 2) (cC (.int 0)))) (sIf (tOr' (tNo (cB (cCall m__law_floors [] (aC (cV 0) (aC (cV 2) (aC (cV 3) (aC (cV 5) aN))))))) (tNo (cB (cCall m__law_is [] (aC (cMeth "over" tb_over [] (cV 0) (aC (cV 2) aN)) (aC (cCall m__law_low [] (aC (cIxV 3 (cC (.int 0))) (aC (c2 (P2.or mMul (P2.or (opB tb___mul__) (opR tb___rmul__))) (cIxV 3 (cC (.int 1))) (cV 2)) aN))) aN)))))) (sRt (cC (.bl false))) sNx) sNx) (sSeq (sIf (cB (c2 (P2.or dNe (P2.or (opN tb___eq__) (opNR tb___eq__))) (cIxV 3 (cC (.int 0))) (cC (.int 0)))) (sRt (cCall m__law_floors [] (aC (cV 2) (aC (cV 0) (aC (cV 5) (aC (cV 3) aN)))))) sNx) (sRt (cC (.bl true)))))))
noncomputable def m__law_divided : Fn := mkFn 5 6 b__law_divided
theorem ok__law_divided (S : Sy fs fn K mg base) {f : Addr} {fd : FuncData} {dvs : List V} {kws : List (Str × V)} (G : FunD K "_law_divided" "_law_divided" (defArgs st__law_divided) (defBody st__law_divided) (defScope st__law_divided) dvs kws f fd) : FnOk P w K mg base (L2.CX P w) 6 f fd (["_law_x", "_law_y", "_law_n", "_law_p", "_law_q"] : List Str) (spF K m__law_divided) := by
  have h := fn_ok (P := P) (w := w) (mg := mg) (base := base) (body := b__law_divided) G sc__law_divided (k := 5) (fun cdv A outer s H E hr => by
    have tk := tk_cx (P := P) (w := w) (K := K) (mg := mg) (base := base) (N := (["_law_x", "_law_y", "_law_n", "_law_p", "_law_q", "_law_m"] : List Str)) (qual := "_law_divided") (scope := defScope st__law_divided) (f := f) (cd := cdv) (A := A) (outer := outer) (s := s) (H := H) (E := E)
    have hp := po_cx (P := P) (w := w) (K := K) (mg := mg) (base := base) (N := (["_law_x", "_law_y", "_law_n", "_law_p", "_law_q", "_law_m"] : List Str)) (qual := "_law_divided") (scope := defScope st__law_divided) (f := f) (cd := cdv) (A := A) (outer := outer) (s := s) (H := H) (E := E)
    exact (by exact ss_cons (by exact s_set sc__law_divided.nd (i := 5) rfl (Or.inl rfl) (by exact e_tup (by exact a_cons (by exact e_var rfl (Or.inl rfl)) (by exact a_cons (by exact e_int) a_nil)))) (by exact ss_cons (by exact s_if (by exact t_cmp (Op2.or (o_dne (u64 hr)) (Op2.or (o_neO (mt___eq__ S) (on___eq__ S) (hr.mono (by decide)) tk) (o_neR (mt___eq__ S) (on___eq__ S) (ni___eq__ S) (hr.mono (by decide)) tk))) (by exact e_ixV rfl (Or.inl rfl) (by exact e_int) (fun _ _ => rfl)) (by exact e_int)) (by exact ss_one (by exact s_if (by exact PW.pt (by exact t_or (by exact t_not (by exact t_val (by exact e_call (g__law_floors S) (hr.mono (by decide)) tk rfl (by exact a_cons (by exact e_var rfl (Or.inl rfl)) (by exact a_cons (by exact e_var rfl (Or.inl rfl)) (by exact a_cons (by exact e_var rfl (Or.inl rfl)) (by exact a_cons (by exact e_var rfl (Or.inl rfl)) a_nil))))))) (by exact t_or1 (by exact t_not (by exact t_val (by exact e_call (g__law_is S) (hr.mono (by decide)) tk rfl (by exact a_cons (by exact e_meth (by exact e_var rfl (Or.inl rfl)) (mt_over S) (hr.mono (by decide)) tk (by exact a_cons (by exact e_var rfl (Or.inl rfl)) a_nil)) (by exact a_cons (by exact e_call (g__law_low S) (hr.mono (by decide)) tk rfl (by exact a_cons (by exact e_bin (Op2.or o_mmul (Op2.or (o_left in_mul (by decide +kernel) (mt___mul__ S) (ol_mul S) (fun q _ => vo_bin rfl) (hr.mono (by decide)) tk) (o_right id_mul (by decide +kernel) (mt___rmul__ S) (or_mul S) (vi_bin rfl) (hr.mono (by decide)) tk))) (by exact e_ixV rfl (Or.inl rfl) (by exact e_int) (fun _ _ => rfl)) (by exact e_ixV rfl (Or.inl rfl) (by exact e_int) (fun _ _ => rfl))) (by exact a_cons (by exact e_bin (Op2.or o_mmul (Op2.or (o_left in_mul (by decide +kernel) (mt___mul__ S) (ol_mul S) (fun q _ => vo_bin rfl) (hr.mono (by decide)) tk) (o_right id_mul (by decide +kernel) (mt___rmul__ S) (or_mul S) (vi_bin rfl) (hr.mono (by decide)) tk))) (by exact e_ixV rfl (Or.inl rfl) (by exact e_int) (fun _ _ => rfl)) (by exact e_ixV rfl (Or.inl rfl) (by exact e_int) (fun _ _ => rfl))) a_nil))) a_nil)))))))) (by exact ss_one (by exact s_ret (by exact e_bl))) (by exact ss_nil))) (by exact ss_nil)) (by exact ss_cons (by exact s_if (by exact t_cmp (Op2.or (o_dne (u64 hr)) (Op2.or (o_neO (mt___eq__ S) (on___eq__ S) (hr.mono (by decide)) tk) (o_neR (mt___eq__ S) (on___eq__ S) (ni___eq__ S) (hr.mono (by decide)) tk))) (by exact e_var rfl (Or.inl rfl)) (by exact e_int)) (by exact ss_one (by exact s_if (by exact PW.pt (by exact t_or (by exact t_not (by exact t_val (by exact e_call (g__law_floors S) (hr.mono (by decide)) tk rfl (by exact a_cons (by exact e_var rfl (Or.inl rfl)) (by exact a_cons (by exact e_var rfl (Or.inl rfl)) (by exact a_cons (by exact e_var rfl (Or.inl rfl)) (by exact a_cons (by exact e_var rfl (Or.inl rfl)) a_nil))))))) (by exact t_or1 (by exact t_not (by exact t_val (by exact e_call (g__law_is S) (hr.mono (by decide)) tk rfl (by exact a_cons (by exact e_meth (by exact e_var rfl (Or.inl rfl)) (mt_over S) (hr.mono (by decide)) tk (by exact a_cons (by exact e_var rfl (Or.inl rfl)) a_nil)) (by exact a_cons (by exact e_call (g__law_low S) (hr.mono (by decide)) tk rfl (by exact a_cons (by exact e_ixV rfl (Or.inl rfl) (by exact e_int) (fun _ _ => rfl)) (by exact a_cons (by exact e_bin (Op2.or o_mmul (Op2.or (o_left in_mul (by decide +kernel) (mt___mul__ S) (ol_mul S) (fun q _ => vo_bin rfl) (hr.mono (by decide)) tk) (o_right id_mul (by decide +kernel) (mt___rmul__ S) (or_mul S) (vi_bin rfl) (hr.mono (by decide)) tk))) (by exact e_ixV rfl (Or.inl rfl) (by exact e_int) (fun _ _ => rfl)) (by exact e_var rfl (Or.inl rfl))) a_nil))) a_nil)))))))) (by exact ss_one (by exact s_ret (by exact e_bl))) (by exact ss_nil))) (by exact ss_nil)) (by exact ss_cons (by exact s_if (by exact t_cmp (Op2.or (o_dne (u64 hr)) (Op2.or (o_neO (mt___eq__ S) (on___eq__ S) (hr.mono (by decide)) tk) (o_neR (mt___eq__ S) (on___eq__ S) (ni___eq__ S) (hr.mono (by decide)) tk))) (by exact e_ixV rfl (Or.inl rfl) (by exact e_int) (fun _ _ => rfl)) (by exact e_int)) (by exact ss_one (by exact s_ret (by exact e_call (g__law_floors S) (hr.mono (by decide)) tk rfl (by exact a_cons (by exact e_var rfl (Or.inl rfl)) (by exact a_cons (by exact e_var rfl (Or.inl rfl)) (by exact a_cons (by exact e_var rfl (Or.inl rfl)) (by exact a_cons (by exact e_var rfl (Or.inl rfl)) a_nil))))))) (by exact ss_nil)) (by exact ss_one (by exact s_ret (by exact e_bl))))))))
  exact h
theorem g__law_divided (S : Sy fs fn K mg base) : FnG P w K mg base "_law_divided" 6 m__law_divided [] := by
  obtain ⟨fd, G⟩ := S.c.def_ 40 (d := df__law_divided) rfl
  exact ⟨⟨_, fd, _, [], [], ok__law_divided S G, (He.glo_ok S.ki S.ns (fc_99 S)), G.kp, (FunD.bindsN (ps := (["_law_x", "_law_y", "_law_n", "_law_p", "_law_q"] : List Str)) G fun _ _ _ _ _ _ us hl => match us, hl with | [_, _, _, _, _], _ => rfl), .nil, rp0⟩⟩
noncomputable def b__law_powers : Sx := (sSeq (sSet 2 (cA mLst (aC (cA mTup (aC (c2 (P2.or iPow (opB tb___pow__)) (cV 0) (cC (.int 0))) (aC (cC (.int 0)) aN))) (aC (cA mTup (aC (c2 (P2.or iPow (opB tb___pow__)) (cV 0) (cC (.int 1))) (aC (cC (.int 1)) aN))) (aC (cA mTup (aC (c2 (P2.or iPow (opB tb___pow__)) (cV 0) (cC (.int 2))) (aC (cC (.int 2)) aN))) (aC (cA mTup (aC (c2 (P2.or iPow (opB tb___pow__)) (cV 0) (cC (.int 3))) (aC (cC (.int 3)) aN))) (aC (cA mTup (aC (c2 (P2.or iPow (opB tb___pow__)) (cV 0) (cC (.int 4))) (aC (cC (.int 4)) aN))) (aC (cA mTup (aC (c2 (P2.or iPow (opB tb___pow__)) (cV 0) (cC (.int 5))) (aC (cC (.int 5)) aN))) (aC (cA mTup (aC (c2 (P2.or iPow (opB tb___pow__)) (cV 0) (cC (.int 6))) (aC (cC (.int 6)) aN))) aN))))))))) (sRt (cA bAll (aC (cLc [3, 4] (gTup 2 (gCons (gN 3) (gCons (gN 4) gNil))) tYs (cCall m__law_is [] (aC (cV 3) (aC (cCall m__law_power [] (aC (cV 1) (aC (cV 4) aN))) aN))) (iSeq (cV 2))) aN))))
noncomputable def m__law_powers : Fn := mkFn 2 5 b__law_powers
end
end Fx
namespace Fx
open PySem PySem.Spec PyProof.Rows L2 L2H
section
variable {P : Program} {w : World} {K : Fg} {mg : Str → Option Value} {base : Heap}
theorem ok__law_powers (S : Sy fs fn K mg base) {f : Addr} {fd : FuncData} {dvs : List V} {kws : List (Str × V)} (G : FunD K "_law_powers" "_law_powers" (defArgs st__law_powers) (defBody st__law_powers) (defScope st__law_powers) dvs kws f fd) : FnOk P w K mg base (L2.CX P w) 4 f fd (["_law_x", "_law_p"] : List Str) (spF K m__law_powers) := by
  have h := fn_ok (P := P) (w := w) (mg := mg) (base := base) (body := b__law_powers) G sc__law_powers (k := 3) (fun cdv A outer s H E hr => by
    have tk := tk_cx (P := P) (w := w) (K := K) (mg := mg) (base := base) (N := (["_law_x", "_law_p", "_law_rows", "_law_a", "_law_k"] : List Str)) (qual := "_law_powers") (scope := defScope st__law_powers) (f := f) (cd := cdv) (A := A) (outer := outer) (s := s) (H := H) (E := E)
    have hp := po_cx (P := P) (w := w) (K := K) (mg := mg) (base := base) (N := (["_law_x", "_law_p", "_law_rows", "_law_a", "_law_k"] : List Str)) (qual := "_law_powers") (scope := defScope st__law_powers) (f := f) (cd := cdv) (A := A) (outer := outer) (s := s) (H := H) (E := E)
    exact (by exact ss_cons (by exact s_set sc__law_powers.nd (i := 2) rfl (Or.inl rfl) (by exact e_lst (by exact a_cons (by exact e_tup (by exact a_cons (by exact e_bin (Op2.or o_ipow (o_left in_pow (by decide +kernel) (mt___pow__ S) (ol_pow S) (fun q _ => vo_bin rfl) (hr.mono (by decide)) tk)) (by exact e_var rfl (Or.inl rfl)) (by exact e_int)) (by exact a_cons (by exact e_int) a_nil))) (by exact a_cons (by exact e_tup (by exact a_cons (by exact e_bin (Op2.or o_ipow (o_left in_pow (by decide +kernel) (mt___pow__ S) (ol_pow S) (fun q _ => vo_bin rfl) (hr.mono (by decide)) tk)) (by exact e_var rfl (Or.inl rfl)) (by exact e_int)) (by exact a_cons (by exact e_int) a_nil))) (by exact a_cons (by exact e_tup (by exact a_cons (by exact e_bin (Op2.or o_ipow (o_left in_pow (by decide +kernel) (mt___pow__ S) (ol_pow S) (fun q _ => vo_bin rfl) (hr.mono (by decide)) tk)) (by exact e_var rfl (Or.inl rfl)) (by exact e_int)) (by exact a_cons (by exact e_int) a_nil))) (by exact a_cons (by exact e_tup (by exact a_cons (by exact e_bin (Op2.or o_ipow (o_left in_pow (by decide +kernel) (mt___pow__ S) (ol_pow S) (fun q _ => vo_bin rfl) (hr.mono (by decide)) tk)) (by exact e_var rfl (Or.inl rfl)) (by exact e_int)) (by exact a_cons (by exact e_int) a_nil))) (by exact a_cons (by exact e_tup (by exact a_cons (by exact e_bin (Op2.or o_ipow (o_left in_pow (by decide +kernel) (mt___pow__ S) (ol_pow S) (fun q _ => vo_bin rfl) (hr.mono (by decide)) tk)) (by exact e_var rfl (Or.inl rfl)) (by exact e_int)) (by exact a_cons (by exact e_int) a_nil))) (by exact a_cons (by exact e_tup (by exact a_cons (by exact e_bin (Op2.or o_ipow (o_left in_pow (by decide +kernel) (mt___pow__ S) (ol_pow S) (fun q _ => vo_bin rfl) (hr.mono (by decide)) tk)) (by exact e_var rfl (Or.inl rfl)) (by exact e_int)) (by exact a_cons (by exact e_int) a_nil))) (by exact a_cons (by exact e_tup (by exact a_cons (by exact e_bin (Op2.or o_ipow (o_left in_pow (by decide +kernel) (mt___pow__ S) (ol_pow S) (fun q _ => vo_bin rfl) (hr.mono (by decide)) tk)) (by exact e_var rfl (Or.inl rfl)) (by exact e_int)) (by exact a_cons (by exact e_int) a_nil))) a_nil))))))))) (by exact ss_one (by exact s_ret (by exact e_blt (f_all rfl) rfl (He.free_ok S.ki S.ns (fc_49 S)) PyProof.Rows.Boot.«all» (by exact a_cons (by exact e_lc (own := ([("_law_a", 3), ("_law_k", 4)] : List (Str × Nat))) rfl sc__law_powers.nd (by exact i_seq (by exact e_var rfl (Or.inl rfl))) (show BlkOk (["_law_x", "_law_p", "_law_rows", "_law_a", "_law_k"] : List Str) (defScope st__law_powers) _ _ from ⟨rfl, by decide +kernel, by decide +kernel, by decide +kernel, by decide +kernel⟩) (fun s H C cl fp => (by exact g_tup rfl (by exact g_cons (by exact g_name sc__law_powers.nd rfl (Or.inl rfl)) (by exact g_cons (by exact g_name sc__law_powers.nd rfl (Or.inl rfl)) g_nil)))) (fun s H C cl fp => ts_nil) (fun s H C cl fp => (by exact e_call (g__law_is S) (hr.mono (by decide)) tk0 rfl (by exact a_cons (by exact e_var rfl (Or.inl rfl)) (by exact a_cons (by exact e_call (g__law_power S) (hr.mono (by decide)) tk0 rfl (by exact a_cons (by exact e_var rfl (Or.inr (Or.inl rfl))) (by exact a_cons (by exact e_var rfl (Or.inl rfl)) a_nil))) a_nil))))) a_nil))))))
  exact h
theorem g__law_powers (S : Sy fs fn K mg base) : FnG P w K mg base "_law_powers" 4 m__law_powers [] := by
  obtain ⟨fd, G⟩ := S.c.def_ 44 (d := df__law_powers) rfl
  exact ⟨⟨_, fd, _, [], [], ok__law_powers S G, (He.glo_ok S.ki S.ns (fc_100 S)), G.kp, (FunD.bindsN (ps := (["_law_x", "_law_p"] : List Str)) G fun _ _ _ _ _ _ us hl => match us, hl with | [_, _], _ => rfl), .nil, rp0⟩⟩
noncomputable def b_Frac___abs__ : Sx := (sRt (cMake "Frac" m_Frac___init__ [] (aC (cA bAbs (aC (cFldV "num" ["Frac"] 0) aN)) (aC (cFldV "den" ["Frac"] 0) aN))))
noncomputable def m_Frac___abs__ : Fn := mkFn 1 1 b_Frac___abs__
theorem ok_Frac___abs__ (S : Sy fs fn K mg base) {f : Addr} {fd : FuncData} {dvs : List V} {kws : List (Str × V)} (G : FunD K "__abs__" "Frac.__abs__" (defArgs st_Frac___abs__) (defBody st_Frac___abs__) (defScope st_Frac___abs__) dvs kws f fd) : FnOk P w K mg base (L2.CX P w) 3 f fd (["self"] : List Str) (spF K m_Frac___abs__) := by
  have h := fn_ok (P := P) (w := w) (mg := mg) (base := base) (body := b_Frac___abs__) G sc_Frac___abs__ (k := 2) (fun cdv A outer s H E hr => by
    have tk := tk_cx (P := P) (w := w) (K := K) (mg := mg) (base := base) (N := (["self"] : List Str)) (qual := "Frac.__abs__") (scope := defScope st_Frac___abs__) (f := f) (cd := cdv) (A := A) (outer := outer) (s := s) (H := H) (E := E)
    have hp := po_cx (P := P) (w := w) (K := K) (mg := mg) (base := base) (N := (["self"] : List Str)) (qual := "Frac.__abs__") (scope := defScope st_Frac___abs__) (f := f) (cd := cdv) (A := A) (outer := outer) (s := s) (H := H) (E := E)
    exact (by exact ss_one (by exact s_ret (by exact e_make (gm_Frac_2 S) (hr.mono (by decide)) tk rfl (by exact a_cons (by exact e_blt (f_abs) rfl (He.free_ok S.ki S.ns (fc_95 S)) PyProof.Rows.Boot.«abs» (by exact a_cons (by exact e_fldV rfl (Or.inl rfl) (allC (fdG_ok (fc_0 S) (fc_2 S)) allN)) a_nil)) (by exact a_cons (by exact e_fldV rfl (Or.inl rfl) (allC (fdG_ok (fc_0 S) (fc_1 S)) allN)) a_nil))))))
  exact h
theorem g_Frac___abs__ (S : Sy fs fn K mg base) : MtG P w K mg base "Frac" "__abs__" 3 m_Frac___abs__ [] := by
  obtain ⟨fd, G⟩ := S.c.def_ 46 (d := df_Frac___abs__) rfl
  exact ⟨He.cls_ok (fc_0 S), ⟨_, fd, _, [], [], ok_Frac___abs__ S G, He.meth_ok (fc_101 S), (FunD.bindsN (ps := (["self"] : List Str)) G fun _ _ _ _ _ _ us hl => match us, hl with | [_], _ => rfl), .nil, rp0⟩⟩
noncomputable def tb___abs__ : List (String × Fn) := [("Frac", m_Frac___abs__)]
theorem mt___abs__ (S : Sy fs fn K mg base) : ∀ q ∈ tb___abs__, MtG P w K mg base q.1 "__abs__" 3 q.2 [] := by unfold tb___abs__; exact (allC (p := fun q : String × Fn => MtG P w K mg base q.1 "__abs__" 3 q.2 []) ((g_Frac___abs__ S).up (by decide)) allN)
end
end Fx
namespace Fx
open PySem PySem.Spec PyProof.Rows L2 L2H
section
variable {P : Program} {w : World} {K : Fg} {mg : Str → Option Value} {base : Heap}
noncomputable def b__law_times : Sx := (sRt (cCall m__law_low [] (aC (c2 mMul (cIxV 0 (cC (.int 0))) (cIxV 1 (cC (.int 0)))) (aC (c2 mMul (cIxV 0 (cC (.int 1))) (cIxV 1 (cC (.int 1)))) aN))))
noncomputable def m__law_times : Fn := mkFn 2 2 b__law_times
theorem ok__law_times (S : Sy fs fn K mg base) {f : Addr} {fd : FuncData} {dvs : List V} {kws : List (Str × V)} (G : FunD K "_law_times" "_law_times" (defArgs st__law_times) (defBody st__law_times) (defScope st__law_times) dvs kws f fd) : FnOk P w K mg base (L2.CX P w) 2 f fd (["_law_p", "_law_q"] : List Str) (spF K m__law_times) := by
  have h := fn_ok (P := P) (w := w) (mg := mg) (base := base) (body := b__law_times) G sc__law_times (k := 1) (fun cdv A outer s H E hr => by
    have tk := tk_cx (P := P) (w := w) (K := K) (mg := mg) (base := base) (N := (["_law_p", "_law_q"] : List Str)) (qual := "_law_times") (scope := defScope st__law_times) (f := f) (cd := cdv) (A := A) (outer := outer) (s := s) (H := H) (E := E)
    have hp := po_cx (P := P) (w := w) (K := K) (mg := mg) (base := base) (N := (["_law_p", "_law_q"] : List Str)) (qual := "_law_times") (scope := defScope st__law_times) (f := f) (cd := cdv) (A := A) (outer := outer) (s := s) (H := H) (E := E)
    exact (by exact ss_one (by exact s_ret (by exact e_call (g__law_low S) (hr.mono (by decide)) tk rfl (by exact a_cons (by exact e_bin o_mmul (by exact e_ixV rfl (Or.inl rfl) (by exact e_int) (fun _ _ => rfl)) (by exact e_ixV rfl (Or.inl rfl) (by exact e_int) (fun _ _ => rfl))) (by exact a_cons (by exact e_bin o_mmul (by exact e_ixV rfl (Or.inl rfl) (by exact e_int) (fun _ _ => rfl)) (by exact e_ixV rfl (Or.inl rfl) (by exact e_int) (fun _ _ => rfl))) a_nil))))))
  exact h
theorem g__law_times (S : Sy fs fn K mg base) : FnG P w K mg base "_law_times" 2 m__law_times [] := by
  obtain ⟨fd, G⟩ := S.c.def_ 47 (d := df__law_times) rfl
  exact ⟨⟨_, fd, _, [], [], ok__law_times S G, (He.glo_ok S.ki S.ns (fc_102 S)), G.kp, (FunD.bindsN (ps := (["_law_p", "_law_q"] : List Str)) G fun _ _ _ _ _ _ us hl => match us, hl with | [_, _], _ => rfl), .nil, rp0⟩⟩
noncomputable def b_Frac_of : Sx := (sRt (cCall m_frac_of [] (aC (cV 0) aN)))
noncomputable def m_Frac_of : Fn := mkFn 1 1 b_Frac_of
theorem ok_Frac_of (S : Sy fs fn K mg base) {f : Addr} {fd : FuncData} {dvs : List V} {kws : List (Str × V)} (G : FunD K "of" "Frac.of" (defArgs st_Frac_of) (defBody st_Frac_of) (defScope st_Frac_of) dvs kws f fd) : FnOk P w K mg base (L2.CX P w) 4 f fd (["value"] : List Str) (spF K m_Frac_of) := by
  have h := fn_ok (P := P) (w := w) (mg := mg) (base := base) (body := b_Frac_of) G sc_Frac_of (k := 3) (fun cdv A outer s H E hr => by
    have tk := tk_cx (P := P) (w := w) (K := K) (mg := mg) (base := base) (N := (["value"] : List Str)) (qual := "Frac.of") (scope := defScope st_Frac_of) (f := f) (cd := cdv) (A := A) (outer := outer) (s := s) (H := H) (E := E)
    have hp := po_cx (P := P) (w := w) (K := K) (mg := mg) (base := base) (N := (["value"] : List Str)) (qual := "Frac.of") (scope := defScope st_Frac_of) (f := f) (cd := cdv) (A := A) (outer := outer) (s := s) (H := H) (E := E)
    exact (by exact ss_one (by exact s_ret (by exact e_call (g_frac_of S) (hr.mono (by decide)) tk rfl (by exact a_cons (by exact e_var rfl (Or.inl rfl)) a_nil)))))
  exact h
theorem g_Frac_of (S : Sy fs fn K mg base) : StG P w K mg base "Frac" "of" 4 m_Frac_of [] := by
  obtain ⟨fd, G⟩ := S.c.def_ 48 (d := df_Frac_of) rfl
  have T := stat_ok (fc_103 S)
  have R := (fc_13 S)
  exact ⟨(He.glo_ok S.ki S.ns (fc_10 S)), (He.ba R).1, of_decide_eq_true (He.ba R).2, ⟨_, _, T.2.choose, fd, _, [], [], T.1, T.2.choose_spec, ok_Frac_of S G, G.kp, (FunD.bindsN (ps := (["value"] : List Str)) G fun _ _ _ _ _ _ us hl => match us, hl with | [_], _ => rfl), .nil, rp0⟩⟩
end
end Fx
namespace Fx
open PySem PySem.Spec PyProof.Rows L2 L2H
section
variable {P : Program} {w : World} {K : Fg} {mg : Str → Option Value} {base : Heap}
theorem vi_add (S : Sy fs fn K mg base) : ∀ q ∈ tb___add__, ViaO "add" (inplaceOp .Add) K (He.ga K q.1) := by unfold tb___add__; exact (allC (vo_inp rfl (noInp_ok (fc_104 S)) (noi_obj "add" (by decide +kernel))) allN)
noncomputable def b__law_sums : Sx := (sSeq (sSet 5 (cA mTup (aC (cV 2) (aC (cC (.int 1)) aN)))) (sSeq (sSet 6 (cV 0)) (sSeq (sAug 6 (P2.or iAdd (P2.or (opB tb___add__) (opR tb___radd__))) (cV 1)) (sSeq (sSet 7 (cV 2)) (sSeq (sAug 7 (P2.or iAdd (P2.or (opB tb___add__) (opR tb___radd__))) (cV 0)) (sSeq (sSet 8 (cA mLst (aC (cA mTup (aC (cV 6) (aC (cCall m__law_sum [] (aC (cV 3) (aC (cV 4) (aC (cC (.int 1)) aN)))) aN))) (aC (cA mTup (aC (cV 7) (aC (cCall m__law_sum [] (aC (cV 3) (aC (cV 5) (aC (cC (.int 1)) aN)))) aN))) (aC (cA mTup (aC (cV 0) (aC (cV 3) aN))) (aC (cA mTup (aC (cV 1) (aC (cV 4) aN))) aN)))))) (sSeq (sSet 8 (c2 (P2.or mAdd (P2.or (opB tb___add__) (opR tb___radd__))) (cV 8) (cA mLst (aC (cA mTup (aC (cCall m_Frac_of [] (aC (cV 0) aN)) (aC (cV 3) aN))) (aC (cA mTup (aC (cCall m_Frac_of [] (aC (cV 2) aN)) (aC (cV 5) aN))) (aC (cA mTup (aC (cMake "Frac" m_Frac___init__ [.int 1] (aC (cV 2) aN)) (aC (cV 5) aN))) (aC (cA mTup (aC (cMake "Frac" m_Frac___init__ [.int 0, .int 1] aN) (aC (cA mTup (aC (cC (.int 0)) (aC (cC (.int 1)) aN))) aN))) aN))))))) (sSeq (sSet 8 (c2 (P2.or mAdd (P2.or (opB tb___add__) (opR tb___radd__))) (cV 8) (cA mLst (aC (cA mTup (aC (c2 (P2.or mAdd (P2.or (opB tb___add__) (opR tb___radd__))) (cV 0) (cV 1)) (aC (cCall m__law_sum [] (aC (cV 3) (aC (cV 4) (aC (cC (.int 1)) aN)))) aN))) (aC (cA mTup (aC (c2 (P2.or mAdd (P2.or (opB tb___add__) (opR tb___radd__))) (cV 0) (cV 2)) (aC (cCall m__law_sum [] (aC (cV 3) (aC (cV 5) (aC (cC (.int 1)) aN)))) aN))) (aC (cA mTup (aC (c2 (P2.or mAdd (P2.or (opB tb___add__) (opR tb___radd__))) (cV 2) (cV 0)) (aC (cCall m__law_sum [] (aC (cV 3) (aC (cV 5) (aC (cC (.int 1)) aN)))) aN))) aN)))))) (sSeq (sSet 8 (c2 (P2.or mAdd (P2.or (opB tb___add__) (opR tb___radd__))) (cV 8) (cA mLst (aC (cA mTup (aC (c2 (P2.or iSub (P2.or (opB tb___sub__) (opR tb___rsub__))) (cV 0) (cV 1)) (aC (cCall m__law_sum [] (aC (cV 3) (aC (cV 4) (aC (c1 (P1.or iNeg (opU tb___neg__)) (cC (.int 1))) aN)))) aN))) (aC (cA mTup (aC (c2 (P2.or iSub (P2.or (opB tb___sub__) (opR tb___rsub__))) (cV 0) (cV 2)) (aC (cCall m__law_sum [] (aC (cV 3) (aC (cV 5) (aC (c1 (P1.or iNeg (opU tb___neg__)) (cC (.int 1))) aN)))) aN))) (aC (cA mTup (aC (c2 (P2.or iSub (P2.or (opB tb___sub__) (opR tb___rsub__))) (cV 2) (cV 0)) (aC (cCall m__law_sum [] (aC (cV 5) (aC (cV 3) (aC (c1 (P1.or iNeg (opU tb___neg__)) (cC (.int 1))) aN)))) aN))) aN)))))) (sSeq (sSet 8 (c2 (P2.or mAdd (P2.or (opB tb___add__) (opR tb___radd__))) (cV 8) (cA mLst (aC (cA mTup (aC (c2 (P2.or mMul (P2.or (opB tb___mul__) (opR tb___rmul__))) (cV 0) (cV 1)) (aC (cCall m__law_times [] (aC (cV 3) (aC (cV 4) aN))) aN))) (aC (cA mTup (aC (c2 (P2.or mMul (P2.or (opB tb___mul__) (opR tb___rmul__))) (cV 0) (cV 2)) (aC (cCall m__law_times [] (aC (cV 3) (aC (cV 5) aN))) aN))) (aC (cA mTup (aC (c2 (P2.or mMul (P2.or (opB tb___mul__) (opR tb___rmul__))) (cV 2) (cV 0)) (aC (cCall m__law_times [] (aC (cV 3) (aC (cV 5) aN))) aN))) aN)))))) (sSeq (sSet 8 (c2 (P2.or mAdd (P2.or (opB tb___add__) (opR tb___radd__))) (cV 8) (cA mLst (aC (cA mTup (aC (c1 (P1.or iNeg (opU tb___neg__)) (cV 0)) (aC (cA mTup (aC (c1 (P1.or iNeg (opU tb___neg__)) (cIxV 3 (cC (.int 0)))) (aC (cIxV 3 (cC (.int 1))) aN))) aN))) (aC (cA mTup (aC (cA (PN.or bAbs (opU1 tb___abs__)) (aC (cV 0) aN)) (aC (cA mTup (aC (cA (PN.or bAbs (opU1 tb___abs__)) (aC (cIxV 3 (cC (.int 0))) aN)) (aC (cIxV 3 (cC (.int 1))) aN))) aN))) aN))))) (sRt (cA bAll (aC (cLc [9, 10] (gTup 2 (gCons (gN 9) (gCons (gN 10) gNil))) tYs (cCall m__law_is [] (aC (cV 9) (aC (cV 10) aN))) (iSeq (cV 8))) aN))))))))))))))
noncomputable def m__law_sums : Fn := mkFn 5 11 b__law_sums
theorem ok__law_sums (S : Sy fs fn K mg base) {f : Addr} {fd : FuncData} {dvs : List V} {kws : List (Str × V)} (G : FunD K "_law_sums" "_law_sums" (defArgs st__law_sums) (defBody st__law_sums) (defScope st__law_sums) dvs kws f fd) : FnOk P w K mg base (L2.CX P w) 5 f fd (["_law_x", "_law_y", "_law_n", "_law_p", "_law_q"] : List Str) (spF K m__law_sums) := by
  have h := fn_ok (P := P) (w := w) (mg := mg) (base := base) (body := b__law_sums) G sc__law_sums (k := 4) (fun cdv A outer s H E hr => by
    have tk := tk_cx (P := P) (w := w) (K := K) (mg := mg) (base := base) (N := (["_law_x", "_law_y", "_law_n", "_law_p", "_law_q", "_law_m", "_law_z", "_law_w", "_law_rows", "_law_a", "_law_b"] : List Str)) (qual := "_law_sums") (scope := defScope st__law_sums) (f := f) (cd := cdv) (A := A) (outer := outer) (s := s) (H := H) (E := E)
    have hp := po_cx (P := P) (w := w) (K := K) (mg := mg) (base := base) (N := (["_law_x", "_law_y", "_law_n", "_law_p", "_law_q", "_law_m", "_law_z", "_law_w", "_law_rows", "_law_a", "_law_b"] : List Str)) (qual := "_law_sums") (scope := defScope st__law_sums) (f := f) (cd := cdv) (A := A) (outer := outer) (s := s) (H := H) (E := E)
    exact (by exact ss_cons (by exact s_set sc__law_sums.nd (i := 5) rfl (Or.inl rfl) (by exact e_tup (by exact a_cons (by exact e_var rfl (Or.inl rfl)) (by exact a_cons (by exact e_int) a_nil)))) (by exact ss_cons (by exact s_set sc__law_sums.nd (i := 6) rfl (Or.inl rfl) (by exact e_var rfl (Or.inl rfl))) (by exact ss_cons (by exact s_aug sc__law_sums.nd (i := 6) rfl (Or.inl rfl) (Op2.or o_jadd (Op2.or (o_left in_add (by decide +kernel) (mt___add__ S) (ol_add S) (vi_add S) (hr.mono (by decide)) tk) (o_right id_add (by decide +kernel) (mt___radd__ S) (or_add S) (vi_inp rfl PySem.F.noI_int_add) (hr.mono (by decide)) tk))) (by exact e_var rfl (Or.inl rfl))) (by exact ss_cons (by exact s_set sc__law_sums.nd (i := 7) rfl (Or.inl rfl) (by exact e_var rfl (Or.inl rfl))) (by exact ss_cons (by exact s_aug sc__law_sums.nd (i := 7) rfl (Or.inl rfl) (Op2.or o_jadd (Op2.or (o_left in_add (by decide +kernel) (mt___add__ S) (ol_add S) (vi_add S) (hr.mono (by decide)) tk) (o_right id_add (by decide +kernel) (mt___radd__ S) (or_add S) (vi_inp rfl PySem.F.noI_int_add) (hr.mono (by decide)) tk))) (by exact e_var rfl (Or.inl rfl))) (by exact ss_cons (by exact s_set sc__law_sums.nd (i := 8) rfl (Or.inl rfl) (by exact e_lst (by exact a_cons (by exact e_tup (by exact a_cons (by exact e_var rfl (Or.inl rfl)) (by exact a_cons (by exact e_call (g__law_sum S) (hr.mono (by decide)) tk rfl (by exact a_cons (by exact e_var rfl (Or.inl rfl)) (by exact a_cons (by exact e_var rfl (Or.inl rfl)) (by exact a_cons (by exact e_int) a_nil)))) a_nil))) (by exact a_cons (by exact e_tup (by exact a_cons (by exact e_var rfl (Or.inl rfl)) (by exact a_cons (by exact e_call (g__law_sum S) (hr.mono (by decide)) tk rfl (by exact a_cons (by exact e_var rfl (Or.inl rfl)) (by exact a_cons (by exact e_var rfl (Or.inl rfl)) (by exact a_cons (by exact e_int) a_nil)))) a_nil))) (by exact a_cons (by exact e_tup (by exact a_cons (by exact e_var rfl (Or.inl rfl)) (by exact a_cons (by exact e_var rfl (Or.inl rfl)) a_nil))) (by exact a_cons (by exact e_tup (by exact a_cons (by exact e_var rfl (Or.inl rfl)) (by exact a_cons (by exact e_var rfl (Or.inl rfl)) a_nil))) a_nil)))))) (by exact ss_cons (by exact s_set sc__law_sums.nd (i := 8) rfl (Or.inl rfl) (by exact e_bin (Op2.or o_madd (Op2.or (o_left in_add (by decide +kernel) (mt___add__ S) (ol_add S) (fun q _ => vo_bin rfl) (hr.mono (by decide)) tk) (o_right id_add (by decide +kernel) (mt___radd__ S) (or_add S) (vi_bin rfl) (hr.mono (by decide)) tk))) (by exact e_var rfl (Or.inl rfl)) (by exact e_lst (by exact a_cons (by exact e_tup (by exact a_cons (by exact e_stat (g_Frac_of S) (hr.mono (by decide)) tk rfl (by exact a_cons (by exact e_var rfl (Or.inl rfl)) a_nil)) (by exact a_cons (by exact e_var rfl (Or.inl rfl)) a_nil))) (by exact a_cons (by exact e_tup (by exact a_cons (by exact e_stat (g_Frac_of S) (hr.mono (by decide)) tk rfl (by exact a_cons (by exact e_var rfl (Or.inl rfl)) a_nil)) (by exact a_cons (by exact e_var rfl (Or.inl rfl)) a_nil))) (by exact a_cons (by exact e_tup (by exact a_cons (by exact e_make (gm_Frac_1 S) (hr.mono (by decide)) tk rfl (by exact a_cons (by exact e_var rfl (Or.inl rfl)) a_nil)) (by exact a_cons (by exact e_var rfl (Or.inl rfl)) a_nil))) (by exact a_cons (by exact e_tup (by exact a_cons (by exact e_make0 (gm_Frac_0 S) (hr.mono (by decide)) tk rfl) (by exact a_cons (by exact e_tup (by exact a_cons (by exact e_int) (by exact a_cons (by exact e_int) a_nil))) a_nil))) a_nil))))))) (by exact ss_cons (by exact s_set sc__law_sums.nd (i := 8) rfl (Or.inl rfl) (by exact e_bin (Op2.or o_madd (Op2.or (o_left in_add (by decide +kernel) (mt___add__ S) (ol_add S) (fun q _ => vo_bin rfl) (hr.mono (by decide)) tk) (o_right id_add (by decide +kernel) (mt___radd__ S) (or_add S) (vi_bin rfl) (hr.mono (by decide)) tk))) (by exact e_var rfl (Or.inl rfl)) (by exact e_lst (by exact a_cons (by exact e_tup (by exact a_cons (by exact e_bin (Op2.or o_madd (Op2.or (o_left in_add (by decide +kernel) (mt___add__ S) (ol_add S) (fun q _ => vo_bin rfl) (hr.mono (by decide)) tk) (o_right id_add (by decide +kernel) (mt___radd__ S) (or_add S) (vi_bin rfl) (hr.mono (by decide)) tk))) (by exact e_var rfl (Or.inl rfl)) (by exact e_var rfl (Or.inl rfl))) (by exact a_cons (by exact e_call (g__law_sum S) (hr.mono (by decide)) tk rfl (by exact a_cons (by exact e_var rfl (Or.inl rfl)) (by exact a_cons (by exact e_var rfl (Or.inl rfl)) (by exact a_cons (by exact e_int) a_nil)))) a_nil))) (by exact a_cons (by exact e_tup (by exact a_cons (by exact e_bin (Op2.or o_madd (Op2.or (o_left in_add (by decide +kernel) (mt___add__ S) (ol_add S) (fun q _ => vo_bin rfl) (hr.mono (by decide)) tk) (o_right id_add (by decide +kernel) (mt___radd__ S) (or_add S) (vi_bin rfl) (hr.mono (by decide)) tk))) (by exact e_var rfl (Or.inl rfl)) (by exact e_var rfl (Or.inl rfl))) (by exact a_cons (by exact e_call (g__law_sum S) (hr.mono (by decide)) tk rfl (by exact a_cons (by exact e_var rfl (Or.inl rfl)) (by exact a_cons (by exact e_var rfl (Or.inl rfl)) (by exact a_cons (by exact e_int) a_nil)))) a_nil))) (by exact a_cons (by exact e_tup (by exact a_cons (by exact e_bin (Op2.or o_madd (Op2.or (o_left in_add (by decide +kernel) (mt___add__ S) (ol_add S) (fun q _ => vo_bin rfl) (hr.mono (by decide)) tk) (o_right id_add (by decide +kernel) (mt___radd__ S) (or_add S) (vi_bin rfl) (hr.mono (by decide)) tk))) (by exact e_var rfl (Or.inl rfl)) (by exact e_var rfl (Or.inl rfl))) (by exact a_cons (by exact e_call (g__law_sum S) (hr.mono (by decide)) tk rfl (by exact a_cons (by exact e_var rfl (Or.inl rfl)) (by exact a_cons (by exact e_var rfl (Or.inl rfl)) (by exact a_cons (by exact e_int) a_nil)))) a_nil))) a_nil)))))) (by exact ss_cons (by exact s_set sc__law_sums.nd (i := 8) rfl (Or.inl rfl) (by exact e_bin (Op2.or o_madd (Op2.or (o_left in_add (by decide +kernel) (mt___add__ S) (ol_add S) (fun q _ => vo_bin rfl) (hr.mono (by decide)) tk) (o_right id_add (by decide +kernel) (mt___radd__ S) (or_add S) (vi_bin rfl) (hr.mono (by decide)) tk))) (by exact e_var rfl (Or.inl rfl)) (by exact e_lst (by exact a_cons (by exact e_tup (by exact a_cons (by exact e_bin (Op2.or o_isub (Op2.or (o_left in_sub (by decide +kernel) (mt___sub__ S) (ol_sub S) (fun q _ => vo_bin rfl) (hr.mono (by decide)) tk) (o_right id_sub (by decide +kernel) (mt___rsub__ S) (or_sub S) (vi_bin rfl) (hr.mono (by decide)) tk))) (by exact e_var rfl (Or.inl rfl)) (by exact e_var rfl (Or.inl rfl))) (by exact a_cons (by exact e_call (g__law_sum S) (hr.mono (by decide)) tk rfl (by exact a_cons (by exact e_var rfl (Or.inl rfl)) (by exact a_cons (by exact e_var rfl (Or.inl rfl)) (by exact a_cons (by exact e_un (Un1.or o_ineg (o_negO (mt___neg__ S) (hr.mono (by decide)) tk)) (by exact e_int)) a_nil)))) a_nil))) (by exact a_cons (by exact e_tup (by exact a_cons (by exact e_bin (Op2.or o_isub (Op2.or (o_left in_sub (by decide +kernel) (mt___sub__ S) (ol_sub S) (fun q _ => vo_bin rfl) (hr.mono (by decide)) tk) (o_right id_sub (by decide +kernel) (mt___rsub__ S) (or_sub S) (vi_bin rfl) (hr.mono (by decide)) tk))) (by exact e_var rfl (Or.inl rfl)) (by exact e_var rfl (Or.inl rfl))) (by exact a_cons (by exact e_call (g__law_sum S) (hr.mono (by decide)) tk rfl (by exact a_cons (by exact e_var rfl (Or.inl rfl)) (by exact a_cons (by exact e_var rfl (Or.inl rfl)) (by exact a_cons (by exact e_un (Un1.or o_ineg (o_negO (mt___neg__ S) (hr.mono (by decide)) tk)) (by exact e_int)) a_nil)))) a_nil))) (by exact a_cons (by exact e_tup (by exact a_cons (by exact e_bin (Op2.or o_isub (Op2.or (o_left in_sub (by decide +kernel) (mt___sub__ S) (ol_sub S) (fun q _ => vo_bin rfl) (hr.mono (by decide)) tk) (o_right id_sub (by decide +kernel) (mt___rsub__ S) (or_sub S) (vi_bin rfl) (hr.mono (by decide)) tk))) (by exact e_var rfl (Or.inl rfl)) (by exact e_var rfl (Or.inl rfl))) (by exact a_cons (by exact e_call (g__law_sum S) (hr.mono (by decide)) tk rfl (by exact a_cons (by exact e_var rfl (Or.inl rfl)) (by exact a_cons (by exact e_var rfl (Or.inl rfl)) (by exact a_cons (by exact e_un (Un1.or o_ineg (o_negO (mt___neg__ S) (hr.mono (by decide)) tk)) (by exact e_int)) a_nil)))) a_nil))) a_nil)))))) (by exact ss_cons (by exact s_set sc__law_sums.nd (i := 8) rfl (Or.inl rfl) (by exact e_bin (Op2.or o_madd (Op2.or (o_left in_add (by decide +kernel) (mt___add__ S) (ol_add S) (fun q _ => vo_bin rfl) (hr.mono (by decide)) tk) (o_right id_add (by decide +kernel) (mt___radd__ S) (or_add S) (vi_bin rfl) (hr.mono (by decide)) tk))) (by exact e_var rfl (Or.inl rfl)) (by exact e_lst (by exact a_cons (by exact e_tup (by exact a_cons (by exact e_bin (Op2.or o_mmul (Op2.or (o_left in_mul (by decide +kernel) (mt___mul__ S) (ol_mul S) (fun q _ => vo_bin rfl) (hr.mono (by decide)) tk) (o_right id_mul (by decide +kernel) (mt___rmul__ S) (or_mul S) (vi_bin rfl) (hr.mono (by decide)) tk))) (by exact e_var rfl (Or.inl rfl)) (by exact e_var rfl (Or.inl rfl))) (by exact a_cons (by exact e_call (g__law_times S) (hr.mono (by decide)) tk rfl (by exact a_cons (by exact e_var rfl (Or.inl rfl)) (by exact a_cons (by exact e_var rfl (Or.inl rfl)) a_nil))) a_nil))) (by exact a_cons (by exact e_tup (by exact a_cons (by exact e_bin (Op2.or o_mmul (Op2.or (o_left in_mul (by decide +kernel) (mt___mul__ S) (ol_mul S) (fun q _ => vo_bin rfl) (hr.mono (by decide)) tk) (o_right id_mul (by decide +kernel) (mt___rmul__ S) (or_mul S) (vi_bin rfl) (hr.mono (by decide)) tk))) (by exact e_var rfl (Or.inl rfl)) (by exact e_var rfl (Or.inl rfl))) (by exact a_cons (by exact e_call (g__law_times S) (hr.mono (by decide)) tk rfl (by exact a_cons (by exact e_var rfl (Or.inl rfl)) (by exact a_cons (by exact e_var rfl (Or.inl rfl)) a_nil))) a_nil))) (by exact a_cons (by exact e_tup (by exact a_cons (by exact e_bin (Op2.or o_mmul (Op2.or (o_left in_mul (by decide +kernel) (mt___mul__ S) (ol_mul S) (fun q _ => vo_bin rfl) (hr.mono (by decide)) tk) (o_right id_mul (by decide +kernel) (mt___rmul__ S) (or_mul S) (vi_bin rfl) (hr.mono (by decide)) tk))) (by exact e_var rfl (Or.inl rfl)) (by exact e_var rfl (Or.inl rfl))) (by exact a_cons (by exact e_call (g__law_times S) (hr.mono (by decide)) tk rfl (by exact a_cons (by exact e_var rfl (Or.inl rfl)) (by exact a_cons (by exact e_var rfl (Or.inl rfl)) a_nil))) a_nil))) a_nil)))))) (by exact ss_cons (by exact s_set sc__law_sums.nd (i := 8) rfl (Or.inl rfl) (by exact e_bin (Op2.or o_madd (Op2.or (o_left in_add (by decide +kernel) (mt___add__ S) (ol_add S) (fun q _ => vo_bin rfl) (hr.mono (by decide)) tk) (o_right id_add (by decide +kernel) (mt___radd__ S) (or_add S) (vi_bin rfl) (hr.mono (by decide)) tk))) (by exact e_var rfl (Or.inl rfl)) (by exact e_lst (by exact a_cons (by exact e_tup (by exact a_cons (by exact e_un (Un1.or o_ineg (o_negO (mt___neg__ S) (hr.mono (by decide)) tk)) (by exact e_var rfl (Or.inl rfl))) (by exact a_cons (by exact e_tup (by exact a_cons (by exact e_un (Un1.or o_ineg (o_negO (mt___neg__ S) (hr.mono (by decide)) tk)) (by exact e_ixV rfl (Or.inl rfl) (by exact e_int) (fun _ _ => rfl))) (by exact a_cons (by exact e_ixV rfl (Or.inl rfl) (by exact e_int) (fun _ _ => rfl)) a_nil))) a_nil))) (by exact a_cons (by exact e_tup (by exact a_cons (by exact e_blt (OpN.or f_abs (f_absO (mt___abs__ S) (hr.mono (by decide)) tk)) rfl (He.free_ok S.ki S.ns (fc_95 S)) PyProof.Rows.Boot.«abs» (by exact a_cons (by exact e_var rfl (Or.inl rfl)) a_nil)) (by exact a_cons (by exact e_tup (by exact a_cons (by exact e_blt (OpN.or f_abs (f_absO (mt___abs__ S) (hr.mono (by decide)) tk)) rfl (He.free_ok S.ki S.ns (fc_95 S)) PyProof.Rows.Boot.«abs» (by exact a_cons (by exact e_ixV rfl (Or.inl rfl) (by exact e_int) (fun _ _ => rfl)) a_nil)) (by exact a_cons (by exact e_ixV rfl (Or.inl rfl) (by exact e_int) (fun _ _ => rfl)) a_nil))) a_nil))) a_nil))))) (by exact ss_one (by exact s_ret (by exact e_blt (f_all rfl) rfl (He.free_ok S.ki S.ns (fc_49 S)) PyProof.Rows.Boot.«all» (by exact a_cons (by exact e_lc (own := ([("_law_a", 9), ("_law_b", 10)] : List (Str × Nat))) rfl sc__law_sums.nd (by exact i_seq (by exact e_var rfl (Or.inl rfl))) (show BlkOk (["_law_x", "_law_y", "_law_n", "_law_p", "_law_q", "_law_m", "_law_z", "_law_w", "_law_rows", "_law_a", "_law_b"] : List Str) (defScope st__law_sums) _ _ from ⟨rfl, by decide +kernel, by decide +kernel, by decide +kernel, by decide +kernel⟩) (fun s H C cl fp => (by exact g_tup rfl (by exact g_cons (by exact g_name sc__law_sums.nd rfl (Or.inl rfl)) (by exact g_cons (by exact g_name sc__law_sums.nd rfl (Or.inl rfl)) g_nil)))) (fun s H C cl fp => ts_nil) (fun s H C cl fp => (by exact e_call (g__law_is S) (hr.mono (by decide)) tk0 rfl (by exact a_cons (by exact e_var rfl (Or.inl rfl)) (by exact a_cons (by exact e_var rfl (Or.inl rfl)) a_nil))))) a_nil))))))))))))))))
  exact h
theorem g__law_sums (S : Sy fs fn K mg base) : FnG P w K mg base "_law_sums" 5 m__law_sums [] := by
  obtain ⟨fd, G⟩ := S.c.def_ 45 (d := df__law_sums) rfl
  exact ⟨⟨_, fd, _, [], [], ok__law_sums S G, (He.glo_ok S.ki S.ns (fc_105 S)), G.kp, (FunD.bindsN (ps := (["_law_x", "_law_y", "_law_n", "_law_p", "_law_q"] : List Str)) G fun _ _ _ _ _ _ us hl => match us, hl with | [_, _, _, _, _], _ => rfl), .nil, rp0⟩⟩
noncomputable def b__law_size : Sx := (sSeq (sSet 1 (cCallO m__law_pick [] 0 (aC (cC (.int 4)) aN))) (sSeq (sIf (cB (c2 dEq (cV 1) (cC (.int 1)))) (sRt (cCallO m__law_pick [] 0 (aC (c2 iSub (c2 iPow (cC (.int 10)) (cC (.int 30))) (cC (.int 1))) aN))) sNx) (sSeq (sIf (cB (c2 dEq (cV 1) (cC (.int 2)))) (sRt (c2 iSub (c2 iSub (c2 iPow (cC (.int 10)) (cC (.int 30))) (cC (.int 2))) (cCallO m__law_pick [] 0 (aC (cC (.int 10)) aN)))) sNx) (sSeq (sIf (cB (c2 dEq (cV 1) (cC (.int 3)))) (sRt (c2 mAdd (c2 iSub (cA bInt (aC (c2 mAdd (cC (.str "1")) (c2 mMul (cC (.str "0")) (cCallO m__law_pick [] 0 (aC (cC (.int 30)) aN)))) aN)) (cC (.int 1))) (cCallO m__law_pick [] 0 (aC (cC (.int 2)) aN)))) sNx) (sRt (c2 mIx (cA mLst (aC (cC (.int 3)) (aC (cC (.int 0)) (aC (cC (.int 1)) (aC (cC (.int 2)) (aC (cC (.int 4)) (aC (cC (.int 6)) (aC (cC (.int 9)) (aC (cC (.int 10)) (aC (cC (.int 12)) (aC (cC (.int 60)) aN))))))))))) (cCallO m__law_pick [] 0 (aC (cC (.int 10)) aN))))))))
noncomputable def m__law_size : Fn := mkFn 1 2 b__law_size
theorem ok__law_size (S : Sy fs fn K mg base) {f : Addr} {fd : FuncData} {dvs : List V} {kws : List (Str × V)} (G : FunD K "_law_size" "_law_size" (defArgs st__law_size) (defBody st__law_size) (defScope st__law_size) dvs kws f fd) : FnOk P w K mg base (L2.CX P w) 2 f fd (["_law_pool_here"] : List Str) (spF K m__law_size) := by
  have h := fn_ok (P := P) (w := w) (mg := mg) (base := base) (body := b__law_size) G sc__law_size (k := 1) (fun cdv A outer s H E hr => by
    have tk := tk_cx (P := P) (w := w) (K := K) (mg := mg) (base := base) (N := (["_law_pool_here", "_law_mode"] : List Str)) (qual := "_law_size") (scope := defScope st__law_size) (f := f) (cd := cdv) (A := A) (outer := outer) (s := s) (H := H) (E := E)
    have hp := po_cx (P := P) (w := w) (K := K) (mg := mg) (base := base) (N := (["_law_pool_here", "_law_mode"] : List Str)) (qual := "_law_size") (scope := defScope st__law_size) (f := f) (cd := cdv) (A := A) (outer := outer) (s := s) (H := H) (E := E)
    exact (by exact ss_cons (by exact s_set sc__law_size.nd (i := 1) rfl (Or.inl rfl) (by exact e_callO (g__law_pick S) (hr.mono (by decide)) tk rfl rfl (Or.inl rfl) (by exact a_cons (by exact e_int) a_nil))) (by exact ss_cons (by exact s_if (by exact t_cmp (o_deq (u64 hr)) (by exact e_var rfl (Or.inl rfl)) (by exact e_int)) (by exact ss_one (by exact s_ret (by exact e_callO (g__law_pick S) (hr.mono (by decide)) tk rfl rfl (Or.inl rfl) (by exact a_cons (by exact e_bin o_isub (by exact e_bin o_ipow (by exact e_int) (by exact e_int)) (by exact e_int)) a_nil)))) (by exact ss_nil)) (by exact ss_cons (by exact s_if (by exact t_cmp (o_deq (u64 hr)) (by exact e_var rfl (Or.inl rfl)) (by exact e_int)) (by exact ss_one (by exact s_ret (by exact e_bin o_isub (by exact e_bin o_isub (by exact e_bin o_ipow (by exact e_int) (by exact e_int)) (by exact e_int)) (by exact e_callO (g__law_pick S) (hr.mono (by decide)) tk rfl rfl (Or.inl rfl) (by exact a_cons (by exact e_int) a_nil))))) (by exact ss_nil)) (by exact ss_cons (by exact s_if (by exact t_cmp (o_deq (u64 hr)) (by exact e_var rfl (Or.inl rfl)) (by exact e_int)) (by exact ss_one (by exact s_ret (by exact e_bin o_madd (by exact e_bin o_isub (by exact e_typ (f_int) rfl (He.free_ok S.ki S.ns (fc_7 S)) PyProof.Rows.Boot.«int» (by exact a_cons (by exact e_bin o_madd (by exact e_str) (by exact e_bin o_mmul (by exact e_str) (by exact e_callO (g__law_pick S) (hr.mono (by decide)) tk rfl rfl (Or.inl rfl) (by exact a_cons (by exact e_int) a_nil)))) a_nil)) (by exact e_int)) (by exact e_callO (g__law_pick S) (hr.mono (by decide)) tk rfl rfl (Or.inl rfl) (by exact a_cons (by exact e_int) a_nil))))) (by exact ss_nil)) (by exact ss_one (by exact s_ret (by exact e_ix x_ix (by exact e_lst (by exact a_cons (by exact e_int) (by exact a_cons (by exact e_int) (by exact a_cons (by exact e_int) (by exact a_cons (by exact e_int) (by exact a_cons (by exact e_int) (by exact a_cons (by exact e_int) (by exact a_cons (by exact e_int) (by exact a_cons (by exact e_int) (by exact a_cons (by exact e_int) (by exact a_cons (by exact e_int) a_nil))))))))))) (by exact e_callO (g__law_pick S) (hr.mono (by decide)) tk rfl rfl (Or.inl rfl) (by exact a_cons (by exact e_int) a_nil)) (fun _ _ => rfl)))))))))
  exact h
end
end Fx
namespace Fx
open PySem PySem.Spec PyProof.Rows L2 L2H
section
variable {P : Program} {w : World} {K : Fg} {mg : Str → Option Value} {base : Heap}
theorem g__law_size (S : Sy fs fn K mg base) : FnG P w K mg base "_law_size" 2 m__law_size [] := by
  obtain ⟨fd, G⟩ := S.c.def_ 50 (d := df__law_size) rfl
  exact ⟨⟨_, fd, _, [], [], ok__law_size S G, (He.glo_ok S.ki S.ns (fc_106 S)), G.kp, (FunD.bindsN (ps := (["_law_pool_here"] : List Str)) G fun _ _ _ _ _ _ us hl => match us, hl with | [_], _ => rfl), .nil, rp0⟩⟩
noncomputable def b__law_top : Sx := (sSeq (sIf (cB (c2 dEq (cCallO m__law_pick [] 0 (aC (cC (.int 2)) aN)) (cC (.int 1)))) (sRt (c1 iNeg (cCallO m__law_size [] 0 aN))) sNx) (sRt (cCallO m__law_size [] 0 aN)))
noncomputable def m__law_top : Fn := mkFn 1 1 b__law_top
theorem ok__law_top (S : Sy fs fn K mg base) {f : Addr} {fd : FuncData} {dvs : List V} {kws : List (Str × V)} (G : FunD K "_law_top" "_law_top" (defArgs st__law_top) (defBody st__law_top) (defScope st__law_top) dvs kws f fd) : FnOk P w K mg base (L2.CX P w) 3 f fd (["_law_pool_here"] : List Str) (spF K m__law_top) := by
  have h := fn_ok (P := P) (w := w) (mg := mg) (base := base) (body := b__law_top) G sc__law_top (k := 2) (fun cdv A outer s H E hr => by
    have tk := tk_cx (P := P) (w := w) (K := K) (mg := mg) (base := base) (N := (["_law_pool_here"] : List Str)) (qual := "_law_top") (scope := defScope st__law_top) (f := f) (cd := cdv) (A := A) (outer := outer) (s := s) (H := H) (E := E)
    have hp := po_cx (P := P) (w := w) (K := K) (mg := mg) (base := base) (N := (["_law_pool_here"] : List Str)) (qual := "_law_top") (scope := defScope st__law_top) (f := f) (cd := cdv) (A := A) (outer := outer) (s := s) (H := H) (E := E)
    exact (by exact ss_cons (by exact s_if (by exact t_cmp (o_deq (u64 hr)) (by exact e_callO (g__law_pick S) (hr.mono (by decide)) tk rfl rfl (Or.inl rfl) (by exact a_cons (by exact e_int) a_nil)) (by exact e_int)) (by exact ss_one (by exact s_ret (by exact e_un o_ineg (by exact e_callO (g__law_size S) (hr.mono (by decide)) tk rfl rfl (Or.inl rfl) (by exact a_nil))))) (by exact ss_nil)) (by exact ss_one (by exact s_ret (by exact e_callO (g__law_size S) (hr.mono (by decide)) tk rfl rfl (Or.inl rfl) (by exact a_nil))))))
  exact h
theorem g__law_top (S : Sy fs fn K mg base) : FnG P w K mg base "_law_top" 3 m__law_top [] := by
  obtain ⟨fd, G⟩ := S.c.def_ 49 (d := df__law_top) rfl
  exact ⟨⟨_, fd, _, [], [], ok__law_top S G, (He.glo_ok S.ki S.ns (fc_107 S)), G.kp, (FunD.bindsN (ps := (["_law_pool_here"] : List Str)) G fun _ _ _ _ _ _ us hl => match us, hl with | [_], _ => rfl), .nil, rp0⟩⟩
noncomputable def b__law_pool : Sx := (sSeq (sSet 1 (cA mLst aN)) (sSeq (sFor (gN 2) (sSeq (sEx (cApp 1 (aC (cA bAbs (aC (cA bInt (aC (cV 2) aN)) aN)) aN))) (sIf (cB (c2 (iCmp fun i j => decide (i < j)) (cV 2) (cC (.int 0)))) (sEx (cApp 1 (aC (cC (.int 1)) aN))) sNx)) (iSeq (c3 mSl (cV 0) pNo (pSo (cC (.int 63)))))) (sRt (cA mLst (aC (cV 1) (aC (cC (.int 0)) (aC (cC (.int 0)) (aC (cC (.int 0)) aN))))))))
noncomputable def m__law_pool : Fn := mkFn 1 3 b__law_pool
theorem ok__law_pool (S : Sy fs fn K mg base) {f : Addr} {fd : FuncData} {dvs : List V} {kws : List (Str × V)} (G : FunD K "_law_pool" "_law_pool" (defArgs st__law_pool) (defBody st__law_pool) (defScope st__law_pool) dvs kws f fd) : FnOk P w K mg base (L2.CX P w) 1 f fd (["_law_script"] : List Str) (spF K m__law_pool) := by
  have h := fn_ok (P := P) (w := w) (mg := mg) (base := base) (body := b__law_pool) G sc__law_pool (k := 0) (fun cdv A outer s H E hr => by
    have tk := tk_cx (P := P) (w := w) (K := K) (mg := mg) (base := base) (N := (["_law_script", "_law_cells", "_law_x"] : List Str)) (qual := "_law_pool") (scope := defScope st__law_pool) (f := f) (cd := cdv) (A := A) (outer := outer) (s := s) (H := H) (E := E)
    have hp := po_cx (P := P) (w := w) (K := K) (mg := mg) (base := base) (N := (["_law_script", "_law_cells", "_law_x"] : List Str)) (qual := "_law_pool") (scope := defScope st__law_pool) (f := f) (cd := cdv) (A := A) (outer := outer) (s := s) (H := H) (E := E)
    exact (by exact ss_cons (by exact s_set sc__law_pool.nd (i := 1) rfl (Or.inl rfl) (by exact e_lst (by exact a_nil))) (by exact ss_cons (by exact s_for (vs := [2]) hp rfl (by exact i_seq (by exact e_slice x_slice (by exact e_var rfl (Or.inl rfl)) p_no (p_so (by exact e_int)))) (by exact g_name sc__law_pool.nd rfl (Or.inl rfl)) st_name (by exact ss_cons (by exact s_expr (by exact e_app rfl (Or.inl rfl) (by exact a_cons (by exact e_blt (f_abs) rfl (He.free_ok S.ki S.ns (fc_95 S)) PyProof.Rows.Boot.«abs» (by exact a_cons (by exact e_typ (f_int) rfl (He.free_ok S.ki S.ns (fc_7 S)) PyProof.Rows.Boot.«int» (by exact a_cons (by exact e_var rfl (Or.inl rfl)) a_nil)) a_nil)) a_nil))) (by exact ss_one (by exact s_if (by exact t_cmp o_ilt (by exact e_var rfl (Or.inl rfl)) (by exact e_int)) (by exact ss_one (by exact s_expr (by exact e_app rfl (Or.inl rfl) (by exact a_cons (by exact e_int) a_nil)))) (by exact ss_nil))))) (by exact ss_one (by exact s_ret (by exact e_lst (by exact a_cons (by exact e_var rfl (Or.inl rfl)) (by exact a_cons (by exact e_int) (by exact a_cons (by exact e_int) (by exact a_cons (by exact e_int) a_nil))))))))))
  exact h
end
end Fx
namespace Fx
open PySem PySem.Spec PyProof.Rows L2 L2H
section
variable {P : Program} {w : World} {K : Fg} {mg : Str → Option Value} {base : Heap}
theorem g__law_pool (S : Sy fs fn K mg base) : FnG P w K mg base "_law_pool" 1 m__law_pool [] := by
  obtain ⟨fd, G⟩ := S.c.def_ 51 (d := df__law_pool) rfl
  exact ⟨⟨_, fd, _, [], [], ok__law_pool S G, (He.glo_ok S.ki S.ns (fc_108 S)), G.kp, (FunD.bindsN (ps := (["_law_script"] : List Str)) G fun _ _ _ _ _ _ us hl => match us, hl with | [_], _ => rfl), .nil, rp0⟩⟩
noncomputable def b_law : Sx := (sSeq (sSet 1 (cCall m__law_pool [] (aC (cV 0) aN))) (sSeq (sSet 2 (cCallO m__law_pick [] 1 (aC (cC (.int 8)) aN))) (sSeq (sSet 3 (cCallO m__law_top [] 1 aN)) (sSeq (sSet 4 (c2 (P2.or mAdd (P2.or (opB tb___add__) (opR tb___radd__))) (cC (.int 1)) (cCallO m__law_size [] 1 aN))) (sSeq (sSet 5 (cCallO m__law_top [] 1 aN)) (sSeq (sSet 6 (c2 (P2.or mAdd (P2.or (opB tb___add__) (opR tb___radd__))) (cC (.int 1)) (cCallO m__law_size [] 1 aN))) (sSeq (sSet 7 (cCallO m__law_top [] 1 aN)) (sSeq (sIf (cB (c2 (P2.or (iCmp fun i j => decide (i < j)) (P2.or (opB tb___lt__) (opR tb___gt__))) (cA (PN.or bAbs (opU1 tb___abs__)) (aC (cV 5) aN)) (cC (.int 100)))) (sSet 5 (c2 (P2.or iSub (P2.or (opB tb___sub__) (opR tb___rsub__))) (cV 5) (cC (.int 2)))) sNx) (sSeq (sIf (tOr' (cB (c2 (P2.or dEq (P2.or (opB tb___eq__) (opR tb___eq__))) (cV 2) (cC (.int 1)))) (cB (c2 (P2.or dEq (P2.or (opB tb___eq__) (opR tb___eq__))) (cV 2) (cC (.int 2))))) (sSeq (sSet 5 (c2 mIx (cA mLst (aC (cV 3) (aC (c1 (P1.or iNeg (opU tb___neg__)) (cV 3)) aN))) (c2 (P2.or iSub (P2.or (opB tb___sub__) (opR tb___rsub__))) (cV 2) (cC (.int 1))))) (sSet 6 (cV 4))) sNx) (sSeq (sIf (cB (c2 (P2.or dEq (P2.or (opB tb___eq__) (opR tb___eq__))) (cV 2) (cC (.int 3)))) (sSet 5 (cC (.int 0))) sNx) (sSeq (sIf (cB (c2 (P2.or dEq (P2.or (opB tb___eq__) (opR tb___eq__))) (cV 2) (cC (.int 4)))) (sSet 7 (cC (.int 0))) sNx) (sSeq (sIf (cB (c2 (P2.or dEq (P2.or (opB tb___eq__) (opR tb___eq__))) (cV 2) (cC (.int 5)))) (sSet 7 (c2 (P2.or iFdv (P2.or (opB tb___floordiv__) (opR tb___rfloordiv__))) (cV 3) (cV 4))) sNx) (sSeq (sIf (cB (c2 (P2.or dEq (P2.or (opB tb___eq__) (opR tb___eq__))) (cV 2) (cC (.int 6)))) (sSeq (sSet 5 (cV 7)) (sSet 6 (cC (.int 1)))) sNx) (sSeq (sSet 8 (cC (.int 1))) (sSeq (sIf (tAn (cB (c2 (P2.or (iCmp fun i j => decide (i < j)) (P2.or (opB tb___lt__) (opR tb___gt__))) (cA (PN.or bAbs (opU1 tb___abs__)) (aC (cV 3) aN)) (c2 (P2.or iPow (opB tb___pow__)) (cC (.int 10)) (cC (.int 28))))) (cB (c2 (P2.or (iCmp fun i j => decide (i < j)) (P2.or (opB tb___lt__) (opR tb___gt__))) (cV 4) (c2 (P2.or iPow (opB tb___pow__)) (cC (.int 10)) (cC (.int 28)))))) (sSet 8 (c2 mIx (cA mLst (aC (cC (.int 1)) (aC (c1 (P1.or iNeg (opU tb___neg__)) (cC (.int 1))) (aC (cC (.int 2)) (aC (c1 (P1.or iNeg (opU tb___neg__)) (cC (.int 3))) (aC (cC (.int 6)) (aC (c1 (P1.or iNeg (opU tb___neg__)) (cC (.int 9))) aN))))))) (cCallO m__law_pick [] 1 (aC (cC (.int 6)) aN)))) sNx) (sSeq (sSet 9 (cCall m__law_low [] (aC (cV 3) (aC (cV 4) aN)))) (sSeq (sSet 10 (cCall m__law_low [] (aC (cV 5) (aC (cV 6) aN)))) (sSeq (sSet 11 (cMake "Frac" m_Frac___init__ [] (aC (c2 (P2.or mMul (P2.or (opB tb___mul__) (opR tb___rmul__))) (cV 8) (cV 3)) (aC (c2 (P2.or mMul (P2.or (opB tb___mul__) (opR tb___rmul__))) (cV 8) (cV 4)) aN)))) (sSeq (sSet 12 (cMake "Frac" m_Frac___init__ [] (aC (cV 5) (aC (cV 6) aN)))) (sSeq (sSet 13 (cCall m__law_low [] (aC (c2 (P2.or iSub (P2.or (opB tb___sub__) (opR tb___rsub__))) (cCallO m__law_pick [] 1 (aC (cC (.int 9)) aN)) (cC (.int 4))) (aC (c2 (P2.or mAdd (P2.or (opB tb___add__) (opR tb___radd__))) (cC (.int 1)) (cCallO m__law_pick [] 1 (aC (cC (.int 6)) aN))) aN)))) (sSeq (sIf (tOr' (tNo (cB (cCall m__law_sums [] (aC (cV 11) (aC (cV 12) (aC (cV 7) (aC (cV 9) (aC (cV 10) aN)))))))) (tOr' (tNo (cB (cCall m__law_powers [] (aC (cV 11) (aC (cV 9) aN))))) (tNo (cB (cCall m__law_divided [] (aC (cV 11) (aC (cV 12) (aC (cV 7) (aC (cV 9) (aC (cV 10) aN)))))))))) (sRt (cC (.bl false))) sNx) (sSeq (sIf (tNo (cB (cCall m__law_is [] (aC (c2 (P2.or iPow (opB tb___pow__)) (cMake "Frac" m_Frac___init__ [] (aC (cIxV 13 (cC (.int 0))) (aC (cIxV 13 (cC (.int 1))) aN))) (cC (.int 64))) (aC (cCall m__law_power [] (aC (cV 13) (aC (cC (.int 64)) aN))) aN))))) (sRt (cC (.bl false))) sNx) (sSeq (sIf (tOr' (tNo (cB (cCall m__law_order [] (aC (cV 11) (aC (cV 12) (aC (cV 9) (aC (cV 10) aN))))))) (tOr' (tNo (cB (cCall m__law_order [] (aC (cV 11) (aC (cV 7) (aC (cV 9) (aC (cA mTup (aC (cV 7) (aC (cC (.int 1)) aN))) aN))))))) (tNo (cB (cCall m__law_order [] (aC (cV 7) (aC (cV 11) (aC (cA mTup (aC (cV 7) (aC (cC (.int 1)) aN))) (aC (cV 9) aN))))))))) (sRt (cC (.bl false))) sNx) (sSeq (sIf (tOr' (tNo (cB (cCall m__law_order [] (aC (cV 12) (aC (cV 11) (aC (cV 10) (aC (cV 9) aN))))))) (tOr' (tNo (cB (cCall m__law_order [] (aC (cV 11) (aC (cV 11) (aC (cV 9) (aC (cV 9) aN))))))) (tNo (cB (cCall m__law_order [] (aC (cMake "Frac" m_Frac___init__ [.int 1] (aC (cV 7) aN)) (aC (cV 7) (aC (cA mTup (aC (cV 7) (aC (cC (.int 1)) aN))) (aC (cA mTup (aC (cV 7) (aC (cC (.int 1)) aN))) aN))))))))) (sRt (cC (.bl false))) sNx) (sSeq (sIf (tOr' (cB (c2 (P2.or dNe (P2.or (opN tb___eq__) (opNR tb___eq__))) (cA mTup (aC (cA (PN.or bBool (opBo tb___bool__)) (aC (cV 11) aN)) (aC (cA (PN.or bBool (opBo tb___bool__)) (aC (cV 12) aN)) (aC (cA (PN.or bBool (opBo tb___bool__)) (aC (c1 (P1.or iNeg (opU tb___neg__)) (cV 11)) aN)) aN)))) (cA mTup (aC (c2 (P2.or dNe (P2.or (opN tb___eq__) (opNR tb___eq__))) (cIxV 9 (cC (.int 0))) (cC (.int 0))) (aC (c2 (P2.or dNe (P2.or (opN tb___eq__) (opNR tb___eq__))) (cIxV 10 (cC (.int 0))) (cC (.int 0))) (aC (c2 (P2.or dNe (P2.or (opN tb___eq__) (opNR tb___eq__))) (cIxV 9 (cC (.int 0))) (cC (.int 0))) aN)))))) (tNo (cB (cCall m__law_zeros [] (aC (cV 11) (aC (cV 7) aN)))))) (sRt (cC (.bl false))) sNx) (sSeq (sSet 14 (cCallO m__law_pick [] 1 (aC (cC (.int 16)) aN))) (sSeq (sSet 15 (cCallO m__law_pick [] 1 (aC (c2 (P2.or mAdd (P2.or (opB tb___add__) (opR tb___radd__))) (cC (.int 1)) (cA bLen (aC (cCall m__law_written [] (aC (cV 9) aN)) aN))) aN))) (sSeq (sIf (tOr' (tNo (cB (cCall m__law_texts [] (aC (cV 11) (aC (cV 9) (aC (cV 14) (aC (cV 15) aN))))))) (tOr' (tNo (cB (cCall m__law_int [] (aC (cC (.int 60)) aN)))) (cB (c2 (P2.or dNe (P2.or (opN tb___eq__) (opNR tb___eq__))) (cC (.int 60)) (cC (.int 60)))))) (sRt (cC (.bl false))) sNx) (sRt (cAn (cCall m__law_is [] (aC (cV 11) (aC (cV 9) aN))) (cCall m__law_is [] (aC (cV 12) (aC (cV 10) aN)))))))))))))))))))))))))))))))))
noncomputable def m_law : Fn := mkFn 1 16 b_law
theorem ok_law (S : Sy fs fn K mg base) {f : Addr} {fd : FuncData} {dvs : List V} {kws : List (Str × V)} (G : FunD K "law" "law" (defArgs st_law) (defBody st_law) (defScope st_law) dvs kws f fd) : FnOk P w K mg base (L2.CX P w) 7 f fd (["_law_script"] : List Str) (spF K m_law) := by
  have h := fn_ok (P := P) (w := w) (mg := mg) (base := base) (body := b_law) G sc_law (k := 6) (fun cdv A outer s H E hr => by
    have tk := tk_cx (P := P) (w := w) (K := K) (mg := mg) (base := base) (N := (["_law_script", "_law_pool_here", "_law_case", "_law_a", "_law_b", "_law_c", "_law_d", "_law_n", "_law_s", "_law_p", "_law_q", "_law_x", "_law_y", "_law_few", "_law_mode", "_law_place"] : List Str)) (qual := "law") (scope := defScope st_law) (f := f) (cd := cdv) (A := A) (outer := outer) (s := s) (H := H) (E := E)
    have hp := po_cx (P := P) (w := w) (K := K) (mg := mg) (base := base) (N := (["_law_script", "_law_pool_here", "_law_case", "_law_a", "_law_b", "_law_c", "_law_d", "_law_n", "_law_s", "_law_p", "_law_q", "_law_x", "_law_y", "_law_few", "_law_mode", "_law_place"] : List Str)) (qual := "law") (scope := defScope st_law) (f := f) (cd := cdv) (A := A) (outer := outer) (s := s) (H := H) (E := E)
    exact (by exact ss_cons (by exact s_set sc_law.nd (i := 1) rfl (Or.inl rfl) (by exact e_call (g__law_pool S) (hr.mono (by decide)) tk rfl (by exact a_cons (by exact e_var rfl (Or.inl rfl)) a_nil))) (by exact ss_cons (by exact s_set sc_law.nd (i := 2) rfl (Or.inl rfl) (by exact e_callO (g__law_pick S) (hr.mono (by decide)) tk rfl rfl (Or.inl rfl) (by exact a_cons (by exact e_int) a_nil))) (by exact ss_cons (by exact s_set sc_law.nd (i := 3) rfl (Or.inl rfl) (by exact e_callO (g__law_top S) (hr.mono (by decide)) tk rfl rfl (Or.inl rfl) (by exact a_nil))) (by exact ss_cons (by exact s_set sc_law.nd (i := 4) rfl (Or.inl rfl) (by exact e_bin (Op2.or o_madd (Op2.or (o_left in_add (by decide +kernel) (mt___add__ S) (ol_add S) (fun q _ => vo_bin rfl) (hr.mono (by decide)) tk) (o_right id_add (by decide +kernel) (mt___radd__ S) (or_add S) (vi_bin rfl) (hr.mono (by decide)) tk))) (by exact e_int) (by exact e_callO (g__law_size S) (hr.mono (by decide)) tk rfl rfl (Or.inl rfl) (by exact a_nil)))) (by exact ss_cons (by exact s_set sc_law.nd (i := 5) rfl (Or.inl rfl) (by exact e_callO (g__law_top S) (hr.mono (by decide)) tk rfl rfl (Or.inl rfl) (by exact a_nil))) (by exact ss_cons (by exact s_set sc_law.nd (i := 6) rfl (Or.inl rfl) (by exact e_bin (Op2.or o_madd (Op2.or (o_left in_add (by decide +kernel) (mt___add__ S) (ol_add S) (fun q _ => vo_bin rfl) (hr.mono (by decide)) tk) (o_right id_add (by decide +kernel) (mt___radd__ S) (or_add S) (vi_bin rfl) (hr.mono (by decide)) tk))) (by exact e_int) (by exact e_callO (g__law_size S) (hr.mono (by decide)) tk rfl rfl (Or.inl rfl) (by exact a_nil)))) (by exact ss_cons (by exact s_set sc_law.nd (i := 7) rfl (Or.inl rfl) (by exact e_callO (g__law_top S) (hr.mono (by decide)) tk rfl rfl (Or.inl rfl) (by exact a_nil))) (by exact ss_cons (by exact s_if (by exact t_cmp (Op2.or o_ilt (Op2.or (o_cmpO (fun _ _ => rfl) (by decide +kernel) (mt___lt__ S) (hr.mono (by decide)) tk) (o_cmpR ic_lt (by decide +kernel) (mt___gt__ S) (ni___gt__ S) (hr.mono (by decide)) tk))) (by exact e_blt (OpN.or f_abs (f_absO (mt___abs__ S) (hr.mono (by decide)) tk)) rfl (He.free_ok S.ki S.ns (fc_95 S)) PyProof.Rows.Boot.«abs» (by exact a_cons (by exact e_var rfl (Or.inl rfl)) a_nil)) (by exact e_int)) (by exact ss_one (by exact s_set sc_law.nd (i := 5) rfl (Or.inl rfl) (by exact e_bin (Op2.or o_isub (Op2.or (o_left in_sub (by decide +kernel) (mt___sub__ S) (ol_sub S) (fun q _ => vo_bin rfl) (hr.mono (by decide)) tk) (o_right id_sub (by decide +kernel) (mt___rsub__ S) (or_sub S) (vi_bin rfl) (hr.mono (by decide)) tk))) (by exact e_var rfl (Or.inl rfl)) (by exact e_int)))) (by exact ss_nil)) (by exact ss_cons (by exact s_if (by exact PW.pt (by exact t_or (by exact t_cmp (Op2.or (o_deq (u64 hr)) (Op2.or (o_cmpO (fun _ _ => rfl) (by decide +kernel) (mt___eq__ S) (hr.mono (by decide)) tk) (o_cmpR ic_eq (by decide +kernel) (mt___eq__ S) (ni___eq__ S) (hr.mono (by decide)) tk))) (by exact e_var rfl (Or.inl rfl)) (by exact e_int)) (by exact t_or1 (by exact t_cmp (Op2.or (o_deq (u64 hr)) (Op2.or (o_cmpO (fun _ _ => rfl) (by decide +kernel) (mt___eq__ S) (hr.mono (by decide)) tk) (o_cmpR ic_eq (by decide +kernel) (mt___eq__ S) (ni___eq__ S) (hr.mono (by decide)) tk))) (by exact e_var rfl (Or.inl rfl)) (by exact e_int))))) (by exact ss_cons (by exact s_set sc_law.nd (i := 5) rfl (Or.inl rfl) (by exact e_ix x_ix (by exact e_lst (by exact a_cons (by exact e_var rfl (Or.inl rfl)) (by exact a_cons (by exact e_un (Un1.or o_ineg (o_negO (mt___neg__ S) (hr.mono (by decide)) tk)) (by exact e_var rfl (Or.inl rfl))) a_nil))) (by exact e_bin (Op2.or o_isub (Op2.or (o_left in_sub (by decide +kernel) (mt___sub__ S) (ol_sub S) (fun q _ => vo_bin rfl) (hr.mono (by decide)) tk) (o_right id_sub (by decide +kernel) (mt___rsub__ S) (or_sub S) (vi_bin rfl) (hr.mono (by decide)) tk))) (by exact e_var rfl (Or.inl rfl)) (by exact e_int)) (fun _ _ => rfl))) (by exact ss_one (by exact s_set sc_law.nd (i := 6) rfl (Or.inl rfl) (by exact e_var rfl (Or.inl rfl))))) (by exact ss_nil)) (by exact ss_cons (by exact s_if (by exact t_cmp (Op2.or (o_deq (u64 hr)) (Op2.or (o_cmpO (fun _ _ => rfl) (by decide +kernel) (mt___eq__ S) (hr.mono (by decide)) tk) (o_cmpR ic_eq (by decide +kernel) (mt___eq__ S) (ni___eq__ S) (hr.mono (by decide)) tk))) (by exact e_var rfl (Or.inl rfl)) (by exact e_int)) (by exact ss_one (by exact s_set sc_law.nd (i := 5) rfl (Or.inl rfl) (by exact e_int))) (by exact ss_nil)) (by exact ss_cons (by exact s_if (by exact t_cmp (Op2.or (o_deq (u64 hr)) (Op2.or (o_cmpO (fun _ _ => rfl) (by decide +kernel) (mt___eq__ S) (hr.mono (by decide)) tk) (o_cmpR ic_eq (by decide +kernel) (mt___eq__ S) (ni___eq__ S) (hr.mono (by decide)) tk))) (by exact e_var rfl (Or.inl rfl)) (by exact e_int)) (by exact ss_one (by exact s_set sc_law.nd (i := 7) rfl (Or.inl rfl) (by exact e_int))) (by exact ss_nil)) (by exact ss_cons (by exact s_if (by exact t_cmp (Op2.or (o_deq (u64 hr)) (Op2.or (o_cmpO (fun _ _ => rfl) (by decide +kernel) (mt___eq__ S) (hr.mono (by decide)) tk) (o_cmpR ic_eq (by decide +kernel) (mt___eq__ S) (ni___eq__ S) (hr.mono (by decide)) tk))) (by exact e_var rfl (Or.inl rfl)) (by exact e_int)) (by exact ss_one (by exact s_set sc_law.nd (i := 7) rfl (Or.inl rfl) (by exact e_bin (Op2.or o_ifdv (Op2.or (o_left in_fdv (by decide +kernel) (mt___floordiv__ S) (ol_floordiv S) (fun q _ => vo_bin rfl) (hr.mono (by decide)) tk) (o_right id_fdv (by decide +kernel) (mt___rfloordiv__ S) (or_floordiv S) (vi_bin rfl) (hr.mono (by decide)) tk))) (by exact e_var rfl (Or.inl rfl)) (by exact e_var rfl (Or.inl rfl))))) (by exact ss_nil)) (by exact ss_cons (by exact s_if (by exact t_cmp (Op2.or (o_deq (u64 hr)) (Op2.or (o_cmpO (fun _ _ => rfl) (by decide +kernel) (mt___eq__ S) (hr.mono (by decide)) tk) (o_cmpR ic_eq (by decide +kernel) (mt___eq__ S) (ni___eq__ S) (hr.mono (by decide)) tk))) (by exact e_var rfl (Or.inl rfl)) (by exact e_int)) (by exact ss_cons (by exact s_set sc_law.nd (i := 5) rfl (Or.inl rfl) (by exact e_var rfl (Or.inl rfl))) (by exact ss_one (by exact s_set sc_law.nd (i := 6) rfl (Or.inl rfl) (by exact e_int)))) (by exact ss_nil)) (by exact ss_cons (by exact s_set sc_law.nd (i := 8) rfl (Or.inl rfl) (by exact e_int)) (by exact ss_cons (by exact s_if (by exact PW.pt (by exact t_and (by exact t_cmp (Op2.or o_ilt (Op2.or (o_cmpO (fun _ _ => rfl) (by decide +kernel) (mt___lt__ S) (hr.mono (by decide)) tk) (o_cmpR ic_lt (by decide +kernel) (mt___gt__ S) (ni___gt__ S) (hr.mono (by decide)) tk))) (by exact e_blt (OpN.or f_abs (f_absO (mt___abs__ S) (hr.mono (by decide)) tk)) rfl (He.free_ok S.ki S.ns (fc_95 S)) PyProof.Rows.Boot.«abs» (by exact a_cons (by exact e_var rfl (Or.inl rfl)) a_nil)) (by exact e_bin (Op2.or o_ipow (o_left in_pow (by decide +kernel) (mt___pow__ S) (ol_pow S) (fun q _ => vo_bin rfl) (hr.mono (by decide)) tk)) (by exact e_int) (by exact e_int))) (by exact t_and1 (by exact t_cmp (Op2.or o_ilt (Op2.or (o_cmpO (fun _ _ => rfl) (by decide +kernel) (mt___lt__ S) (hr.mono (by decide)) tk) (o_cmpR ic_lt (by decide +kernel) (mt___gt__ S) (ni___gt__ S) (hr.mono (by decide)) tk))) (by exact e_var rfl (Or.inl rfl)) (by exact e_bin (Op2.or o_ipow (o_left in_pow (by decide +kernel) (mt___pow__ S) (ol_pow S) (fun q _ => vo_bin rfl) (hr.mono (by decide)) tk)) (by exact e_int) (by exact e_int)))))) (by exact ss_one (by exact s_set sc_law.nd (i := 8) rfl (Or.inl rfl) (by exact e_ix x_ix (by exact e_lst (by exact a_cons (by exact e_int) (by exact a_cons (by exact e_un (Un1.or o_ineg (o_negO (mt___neg__ S) (hr.mono (by decide)) tk)) (by exact e_int)) (by exact a_cons (by exact e_int) (by exact a_cons (by exact e_un (Un1.or o_ineg (o_negO (mt___neg__ S) (hr.mono (by decide)) tk)) (by exact e_int)) (by exact a_cons (by exact e_int) (by exact a_cons (by exact e_un (Un1.or o_ineg (o_negO (mt___neg__ S) (hr.mono (by decide)) tk)) (by exact e_int)) a_nil))))))) (by exact e_callO (g__law_pick S) (hr.mono (by decide)) tk rfl rfl (Or.inl rfl) (by exact a_cons (by exact e_int) a_nil)) (fun _ _ => rfl)))) (by exact ss_nil)) (by exact ss_cons (by exact s_set sc_law.nd (i := 9) rfl (Or.inl rfl) (by exact e_call (g__law_low S) (hr.mono (by decide)) tk rfl (by exact a_cons (by exact e_var rfl (Or.inl rfl)) (by exact a_cons (by exact e_var rfl (Or.inl rfl)) a_nil)))) (by exact ss_cons (by exact s_set sc_law.nd (i := 10) rfl (Or.inl rfl) (by exact e_call (g__law_low S) (hr.mono (by decide)) tk rfl (by exact a_cons (by exact e_var rfl (Or.inl rfl)) (by exact a_cons (by exact e_var rfl (Or.inl rfl)) a_nil)))) (by exact ss_cons (by exact s_set sc_law.nd (i := 11) rfl (Or.inl rfl) (by exact e_make (gm_Frac_2 S) (hr.mono (by decide)) tk rfl (by exact a_cons (by exact e_bin (Op2.or o_mmul (Op2.or (o_left in_mul (by decide +kernel) (mt___mul__ S) (ol_mul S) (fun q _ => vo_bin rfl) (hr.mono (by decide)) tk) (o_right id_mul (by decide +kernel) (mt___rmul__ S) (or_mul S) (vi_bin rfl) (hr.mono (by decide)) tk))) (by exact e_var rfl (Or.inl rfl)) (by exact e_var rfl (Or.inl rfl))) (by exact a_cons (by exact e_bin (Op2.or o_mmul (Op2.or (o_left in_mul (by decide +kernel) (mt___mul__ S) (ol_mul S) (fun q _ => vo_bin rfl) (hr.mono (by decide)) tk) (o_right id_mul (by decide +kernel) (mt___rmul__ S) (or_mul S) (vi_bin rfl) (hr.mono (by decide)) tk))) (by exact e_var rfl (Or.inl rfl)) (by exact e_var rfl (Or.inl rfl))) a_nil)))) (by exact ss_cons (by exact s_set sc_law.nd (i := 12) rfl (Or.inl rfl) (by exact e_make (gm_Frac_2 S) (hr.mono (by decide)) tk rfl (by exact a_cons (by exact e_var rfl (Or.inl rfl)) (by exact a_cons (by exact e_var rfl (Or.inl rfl)) a_nil)))) (by exact ss_cons (by exact s_set sc_law.nd (i := 13) rfl (Or.inl rfl) (by exact e_call (g__law_low S) (hr.mono (by decide)) tk rfl (by exact a_cons (by exact e_bin (Op2.or o_isub (Op2.or (o_left in_sub (by decide +kernel) (mt___sub__ S) (ol_sub S) (fun q _ => vo_bin rfl) (hr.mono (by decide)) tk) (o_right id_sub (by decide +kernel) (mt___rsub__ S) (or_sub S) (vi_bin rfl) (hr.mono (by decide)) tk))) (by exact e_callO (g__law_pick S) (hr.mono (by decide)) tk rfl rfl (Or.inl rfl) (by exact a_cons (by exact e_int) a_nil)) (by exact e_int)) (by exact a_cons (by exact e_bin (Op2.or o_madd (Op2.or (o_left in_add (by decide +kernel) (mt___add__ S) (ol_add S) (fun q _ => vo_bin rfl) (hr.mono (by decide)) tk) (o_right id_add (by decide +kernel) (mt___radd__ S) (or_add S) (vi_bin rfl) (hr.mono (by decide)) tk))) (by exact e_int) (by exact e_callO (g__law_pick S) (hr.mono (by decide)) tk rfl rfl (Or.inl rfl) (by exact a_cons (by exact e_int) a_nil))) a_nil)))) (by exact ss_cons (by exact s_if (by exact PW.pt (by exact t_or (by exact t_not (by exact t_val (by exact e_call (g__law_sums S) (hr.mono (by decide)) tk rfl (by exact a_cons (by exact e_var rfl (Or.inl rfl)) (by exact a_cons (by exact e_var rfl (Or.inl rfl)) (by exact a_cons (by exact e_var rfl (Or.inl rfl)) (by exact a_cons (by exact e_var rfl (Or.inl rfl)) (by exact a_cons (by exact e_var rfl (Or.inl rfl)) a_nil)))))))) (by exact t_or (by exact t_not (by exact t_val (by exact e_call (g__law_powers S) (hr.mono (by decide)) tk rfl (by exact a_cons (by exact e_var rfl (Or.inl rfl)) (by exact a_cons (by exact e_var rfl (Or.inl rfl)) a_nil))))) (by exact t_or1 (by exact t_not (by exact t_val (by exact e_call (g__law_divided S) (hr.mono (by decide)) tk rfl (by exact a_cons (by exact e_var rfl (Or.inl rfl)) (by exact a_cons (by exact e_var rfl (Or.inl rfl)) (by exact a_cons (by exact e_var rfl (Or.inl rfl)) (by exact a_cons (by exact e_var rfl (Or.inl rfl)) (by exact a_cons (by exact e_var rfl (Or.inl rfl)) a_nil)))))))))))) (by exact ss_one (by exact s_ret (by exact e_bl))) (by exact ss_nil)) (by exact ss_cons (by exact s_if (by exact t_not (by exact t_val (by exact e_call (g__law_is S) (hr.mono (by decide)) tk rfl (by exact a_cons (by exact e_bin (Op2.or o_ipow (o_left in_pow (by decide +kernel) (mt___pow__ S) (ol_pow S) (fun q _ => vo_bin rfl) (hr.mono (by decide)) tk)) (by exact e_make (gm_Frac_2 S) (hr.mono (by decide)) tk rfl (by exact a_cons (by exact e_ixV rfl (Or.inl rfl) (by exact e_int) (fun _ _ => rfl)) (by exact a_cons (by exact e_ixV rfl (Or.inl rfl) (by exact e_int) (fun _ _ => rfl)) a_nil))) (by exact e_int)) (by exact a_cons (by exact e_call (g__law_power S) (hr.mono (by decide)) tk rfl (by exact a_cons (by exact e_var rfl (Or.inl rfl)) (by exact a_cons (by exact e_int) a_nil))) a_nil))))) (by exact ss_one (by exact s_ret (by exact e_bl))) (by exact ss_nil)) (by exact ss_cons (by exact s_if (by exact PW.pt (by exact t_or (by exact t_not (by exact t_val (by exact e_call (g__law_order S) (hr.mono (by decide)) tk rfl (by exact a_cons (by exact e_var rfl (Or.inl rfl)) (by exact a_cons (by exact e_var rfl (Or.inl rfl)) (by exact a_cons (by exact e_var rfl (Or.inl rfl)) (by exact a_cons (by exact e_var rfl (Or.inl rfl)) a_nil))))))) (by exact t_or (by exact t_not (by exact t_val (by exact e_call (g__law_order S) (hr.mono (by decide)) tk rfl (by exact a_cons (by exact e_var rfl (Or.inl rfl)) (by exact a_cons (by exact e_var rfl (Or.inl rfl)) (by exact a_cons (by exact e_var rfl (Or.inl rfl)) (by exact a_cons (by exact e_tup (by exact a_cons (by exact e_var rfl (Or.inl rfl)) (by exact a_cons (by exact e_int) a_nil))) a_nil))))))) (by exact t_or1 (by exact t_not (by exact t_val (by exact e_call (g__law_order S) (hr.mono (by decide)) tk rfl (by exact a_cons (by exact e_var rfl (Or.inl rfl)) (by exact a_cons (by exact e_var rfl (Or.inl rfl)) (by exact a_cons (by exact e_tup (by exact a_cons (by exact e_var rfl (Or.inl rfl)) (by exact a_cons (by exact e_int) a_nil))) (by exact a_cons (by exact e_var rfl (Or.inl rfl)) a_nil))))))))))) (by exact ss_one (by exact s_ret (by exact e_bl))) (by exact ss_nil)) (by exact ss_cons (by exact s_if (by exact PW.pt (by exact t_or (by exact t_not (by exact t_val (by exact e_call (g__law_order S) (hr.mono (by decide)) tk rfl (by exact a_cons (by exact e_var rfl (Or.inl rfl)) (by exact a_cons (by exact e_var rfl (Or.inl rfl)) (by exact a_cons (by exact e_var rfl (Or.inl rfl)) (by exact a_cons (by exact e_var rfl (Or.inl rfl)) a_nil))))))) (by exact t_or (by exact t_not (by exact t_val (by exact e_call (g__law_order S) (hr.mono (by decide)) tk rfl (by exact a_cons (by exact e_var rfl (Or.inl rfl)) (by exact a_cons (by exact e_var rfl (Or.inl rfl)) (by exact a_cons (by exact e_var rfl (Or.inl rfl)) (by exact a_cons (by exact e_var rfl (Or.inl rfl)) a_nil))))))) (by exact t_or1 (by exact t_not (by exact t_val (by exact e_call (g__law_order S) (hr.mono (by decide)) tk rfl (by exact a_cons (by exact e_make (gm_Frac_1 S) (hr.mono (by decide)) tk rfl (by exact a_cons (by exact e_var rfl (Or.inl rfl)) a_nil)) (by exact a_cons (by exact e_var rfl (Or.inl rfl)) (by exact a_cons (by exact e_tup (by exact a_cons (by exact e_var rfl (Or.inl rfl)) (by exact a_cons (by exact e_int) a_nil))) (by exact a_cons (by exact e_tup (by exact a_cons (by exact e_var rfl (Or.inl rfl)) (by exact a_cons (by exact e_int) a_nil))) a_nil))))))))))) (by exact ss_one (by exact s_ret (by exact e_bl))) (by exact ss_nil)) (by exact ss_cons (by exact s_if (by exact PW.pt (by exact t_or (by exact t_cmp (Op2.or (o_dne (u64 hr)) (Op2.or (o_neO (mt___eq__ S) (on___eq__ S) (hr.mono (by decide)) tk) (o_neR (mt___eq__ S) (on___eq__ S) (ni___eq__ S) (hr.mono (by decide)) tk))) (by exact e_tup (by exact a_cons (by exact e_typ (OpN.or f_bool (f_boolO (mt___bool__ S) (hr.mono (by decide)) tk)) rfl (He.free_ok S.ki S.ns (fc_4 S)) PyProof.Rows.Boot.«bool» (by exact a_cons (by exact e_var rfl (Or.inl rfl)) a_nil)) (by exact a_cons (by exact e_typ (OpN.or f_bool (f_boolO (mt___bool__ S) (hr.mono (by decide)) tk)) rfl (He.free_ok S.ki S.ns (fc_4 S)) PyProof.Rows.Boot.«bool» (by exact a_cons (by exact e_var rfl (Or.inl rfl)) a_nil)) (by exact a_cons (by exact e_typ (OpN.or f_bool (f_boolO (mt___bool__ S) (hr.mono (by decide)) tk)) rfl (He.free_ok S.ki S.ns (fc_4 S)) PyProof.Rows.Boot.«bool» (by exact a_cons (by exact e_un (Un1.or o_ineg (o_negO (mt___neg__ S) (hr.mono (by decide)) tk)) (by exact e_var rfl (Or.inl rfl))) a_nil)) a_nil)))) (by exact e_tup (by exact a_cons (by exact e_cmp (Op2.or (o_dne (u64 hr)) (Op2.or (o_neO (mt___eq__ S) (on___eq__ S) (hr.mono (by decide)) tk) (o_neR (mt___eq__ S) (on___eq__ S) (ni___eq__ S) (hr.mono (by decide)) tk))) (by exact e_ixV rfl (Or.inl rfl) (by exact e_int) (fun _ _ => rfl)) (by exact e_int)) (by exact a_cons (by exact e_cmp (Op2.or (o_dne (u64 hr)) (Op2.or (o_neO (mt___eq__ S) (on___eq__ S) (hr.mono (by decide)) tk) (o_neR (mt___eq__ S) (on___eq__ S) (ni___eq__ S) (hr.mono (by decide)) tk))) (by exact e_ixV rfl (Or.inl rfl) (by exact e_int) (fun _ _ => rfl)) (by exact e_int)) (by exact a_cons (by exact e_cmp (Op2.or (o_dne (u64 hr)) (Op2.or (o_neO (mt___eq__ S) (on___eq__ S) (hr.mono (by decide)) tk) (o_neR (mt___eq__ S) (on___eq__ S) (ni___eq__ S) (hr.mono (by decide)) tk))) (by exact e_ixV rfl (Or.inl rfl) (by exact e_int) (fun _ _ => rfl)) (by exact e_int)) a_nil))))) (by exact t_or1 (by exact t_not (by exact t_val (by exact e_call (g__law_zeros S) (hr.mono (by decide)) tk rfl (by exact a_cons (by exact e_var rfl (Or.inl rfl)) (by exact a_cons (by exact e_var rfl (Or.inl rfl)) a_nil)))))))) (by exact ss_one (by exact s_ret (by exact e_bl))) (by exact ss_nil)) (by exact ss_cons (by exact s_set sc_law.nd (i := 14) rfl (Or.inl rfl) (by exact e_callO (g__law_pick S) (hr.mono (by decide)) tk rfl rfl (Or.inl rfl) (by exact a_cons (by exact e_int) a_nil))) (by exact ss_cons (by exact s_set sc_law.nd (i := 15) rfl (Or.inl rfl) (by exact e_callO (g__law_pick S) (hr.mono (by decide)) tk rfl rfl (Or.inl rfl) (by exact a_cons (by exact e_bin (Op2.or o_madd (Op2.or (o_left in_add (by decide +kernel) (mt___add__ S) (ol_add S) (fun q _ => vo_bin rfl) (hr.mono (by decide)) tk) (o_right id_add (by decide +kernel) (mt___radd__ S) (or_add S) (vi_bin rfl) (hr.mono (by decide)) tk))) (by exact e_int) (by exact e_blt (f_len) rfl (He.free_ok S.ki S.ns (fc_50 S)) PyProof.Rows.Boot.«len» (by exact a_cons (by exact e_call (g__law_written S) (hr.mono (by decide)) tk rfl (by exact a_cons (by exact e_var rfl (Or.inl rfl)) a_nil)) a_nil))) a_nil))) (by exact ss_cons (by exact s_if (by exact PW.pt (by exact t_or (by exact t_not (by exact t_val (by exact e_call (g__law_texts S) (hr.mono (by decide)) tk rfl (by exact a_cons (by exact e_var rfl (Or.inl rfl)) (by exact a_cons (by exact e_var rfl (Or.inl rfl)) (by exact a_cons (by exact e_var rfl (Or.inl rfl)) (by exact a_cons (by exact e_var rfl (Or.inl rfl)) a_nil))))))) (by exact t_or (by exact t_not (by exact t_val (by exact e_call (g__law_int S) (hr.mono (by decide)) tk rfl (by exact a_cons (by exact e_cv (cvI_ok S.ki S.ns (fc_10 S) (fc_13 S) (fc_14 S)) rfl) a_nil)))) (by exact t_or1 (by exact t_cmp (Op2.or (o_dne (u64 hr)) (Op2.or (o_neO (mt___eq__ S) (on___eq__ S) (hr.mono (by decide)) tk) (o_neR (mt___eq__ S) (on___eq__ S) (ni___eq__ S) (hr.mono (by decide)) tk))) (by exact e_cv (cvI_ok S.ki S.ns (fc_10 S) (fc_13 S) (fc_14 S)) rfl) (by exact e_int)))))) (by exact ss_one (by exact s_ret (by exact e_bl))) (by exact ss_nil)) (by exact ss_one (by exact s_ret (by exact e_and (by exact e_call (g__law_is S) (hr.mono (by decide)) tk rfl (by exact a_cons (by exact e_var rfl (Or.inl rfl)) (by exact a_cons (by exact e_var rfl (Or.inl rfl)) a_nil))) (by exact e_one (by exact e_call (g__law_is S) (hr.mono (by decide)) tk rfl (by exact a_cons (by exact e_var rfl (Or.inl rfl)) (by exact a_cons (by exact e_var rfl (Or.inl rfl)) a_nil))))))))))))))))))))))))))))))))))))
  exact h
theorem g_law (S : Sy fs fn K mg base) : FnG P w K mg base "law" 7 m_law [] := by
  obtain ⟨fd, G⟩ := S.c.def_ 0 (d := df_law) rfl
  exact ⟨⟨_, fd, _, [], [], ok_law S G, (He.glo_ok S.ki S.ns (fc_109 S)), G.kp, (FunD.bindsN (ps := (["_law_script"] : List Str)) G fun _ _ _ _ _ _ us hl => match us, hl with | [_], _ => rfl), .nil, rp0⟩⟩
end
end Fx
set_option maxHeartbeats 0
namespace Fx
open PySem PySem.Spec PyProof.Rows L2 L2H
/-! ### the head -/
abbrev Rw : PySem.W.OpenRow := PySem.W.OpenLaw.row PySem.Challenge.rw_rodwebs_k01_fractions
abbrev hk : PySem.W.Hook := hookX 5 fs fn
def ob (s : PySem.W.SharedT) : He.AlD := obsXG 5 fs fn (HandSHeadRun.getT s)
theorem ob_eq (s : PySem.W.SharedT) : ob s = hk.obs s.abs := obsXG_eq (HandSHeadRun.getT_eq s)
def loo : List Str := (["WebError", "DivisionByZero", "BadText", "BadCount", "Mismatch", "DIGITS", "Frac", "_has_digits", "_floored", "frac_of", "_law_pool", "_law_pick", "_law_size", "_law_top", "_law_low", "_law_sum", "_law_times", "_law_power", "_law_int", "_law_is", "_law_sums", "_law_powers", "_law_floors", "_law_divided", "_law_order", "_law_sort", "_law_told", "_law_zeros", "_law_written", "_law_put"] : List Str) ++ (["_law_spoilt", "_law_texts"] : List Str)
theorem run (w : World) : HandSHeadRun.RunEqI Rw (PySem.W.view Rw.prog [0, 36]) hk ob 6000 loo w := by
  unfold HandSHeadRun.RunEqI
  kernel_rfl
end Fx
set_option maxHeartbeats 1000000
namespace Fx
open PySem PySem.Spec PyProof.Rows L2 L2H
/-! ### lowest terms -/
def sg (n d : Int) : Int := if d < 0 then -(Int.gcd n d : Int) else Int.gcd n d
def lo (n d : Int) : Int × Int := (n.fdiv (sg n d), d.fdiv (sg n d))
theorem sg_pos {n d : Int} (h : d ≠ 0) : 0 < (Int.gcd n d : Int) := by
  have := Int.gcd_pos_of_ne_zero_right n h
  omega
theorem fdiv_ex {a b c : Int} (hb : b ≠ 0) (h : a = c * b) : a.fdiv b = c := by
  rw [h]; exact Int.mul_fdiv_cancel c hb
theorem lo_ex {n d : Int} (h : d ≠ 0) : ∃ a b, n = a * sg n d ∧ d = b * sg n d ∧ lo n d = (a, b) ∧ 0 < b ∧ sg n d ≠ 0 ∧ Int.gcd a b = 1 := by
  have hg := sg_pos (n := n) h
  obtain ⟨a, ha⟩ := Int.gcd_dvd_left (a := n) (b := d)
  obtain ⟨b, hb⟩ := Int.gcd_dvd_right (a := n) (b := d)
  have co : Int.gcd a b = 1 := by
    have e : Int.gcd n d = Int.gcd ((Int.gcd n d : Int) * a) ((Int.gcd n d : Int) * b) := by rw [← ha, ← hb]
    rw [Int.gcd_mul_left] at e
    have : (Int.gcd n d : Int).natAbs = Int.gcd n d := Int.natAbs_natCast _
    rw [this] at e
    have hp : 0 < Int.gcd n d := by omega
    exact Nat.eq_of_mul_eq_mul_left hp (by omega)
  unfold lo sg
  by_cases c : d < 0
  · simp only [if_pos c]
    refine ⟨-a, -b, by rw [Int.neg_mul_neg, Int.mul_comm]; exact ha, by rw [Int.neg_mul_neg, Int.mul_comm]; exact hb, ?_, ?_, by omega, ?_⟩
    · rw [fdiv_ex (c := -a) (by omega) (by rw [Int.neg_mul_neg, Int.mul_comm]; exact ha), fdiv_ex (c := -b) (by omega) (by rw [Int.neg_mul_neg, Int.mul_comm]; exact hb)]
    · by_cases hb0 : 0 ≤ b
      · have := Int.mul_nonneg (Int.le_of_lt hg) hb0
        omega
      · omega
    · rw [Int.gcd_neg, Int.neg_gcd]; exact co
  · simp only [if_neg c]
    refine ⟨a, b, by rw [Int.mul_comm]; exact ha, by rw [Int.mul_comm]; exact hb, ?_, ?_, by omega, co⟩
    · rw [fdiv_ex (c := a) (by omega) (by rw [Int.mul_comm]; exact ha), fdiv_ex (c := b) (by omega) (by rw [Int.mul_comm]; exact hb)]
    · by_cases hb0 : b ≤ 0
      · have := Int.mul_nonneg (Int.le_of_lt hg) (show 0 ≤ -b by omega)
        rw [Int.mul_neg] at this
        omega
      · omega
theorem lo_pos {n d : Int} (h : d ≠ 0) : 0 < (lo n d).2 := by
  obtain ⟨a, b, _, _, e, p, _⟩ := lo_ex (n := n) h
  rw [e]; exact p
theorem lo_cop {n d : Int} (h : d ≠ 0) : Int.gcd (lo n d).1 (lo n d).2 = 1 := by
  obtain ⟨a, b, _, _, e, _, _, p⟩ := lo_ex (n := n) h
  rw [e]; exact p
theorem lo_mul {n d : Int} (h : d ≠ 0) : (lo n d).1 * d = n * (lo n d).2 := by
  obtain ⟨a, b, h1, h2, e, _⟩ := lo_ex (n := n) h
  rw [e]
  show a * d = n * b
  generalize sg n d = g at h1 h2
  rw [h1, h2]
  grind
/-- a divisor of a product, prime to one part -/
theorem dvd_cop {a b c : Int} (h : a ∣ b * c) (g : Int.gcd a b = 1) : a ∣ c := by
  rw [← Int.natAbs_dvd_natAbs] at h ⊢
  rw [Int.natAbs_mul] at h
  rw [Int.gcd_eq_natAbs_gcd_natAbs] at g
  exact Nat.Coprime.dvd_of_dvd_mul_left (show Nat.Coprime a.natAbs b.natAbs from g) h
theorem lo_uni {n d a b : Int} (h : d ≠ 0) (hb : 0 < b) (hg : Int.gcd a b = 1) (he : a * d = n * b) : lo n d = (a, b) := by
  have h1 := lo_pos (n := n) h
  have h2 := lo_cop (n := n) h
  have h3 := lo_mul (n := n) h
  generalize lo n d = q at *
  obtain ⟨x, y⟩ := q
  dsimp only at *
  have e : a * y = x * b := by
    have : d * (a * y) = d * (x * b) := by grind
    exact Int.eq_of_mul_eq_mul_left h this
  have d1 : y ∣ b := by
    have : y ∣ x * b := ⟨a, by rw [← e, Int.mul_comm]⟩
    exact dvd_cop this (by rw [Int.gcd_comm]; exact h2)
  have d2 : b ∣ y := by
    have : b ∣ a * y := ⟨x, by rw [e, Int.mul_comm]⟩
    exact dvd_cop this (by rw [Int.gcd_comm]; exact hg)
  have eb : y = b := Int.dvd_antisymm (by omega) (by omega) d1 d2
  subst eb
  have ea : a = x := Int.eq_of_mul_eq_mul_right (by omega) e
  rw [ea]
theorem lo_eq {n d n' d' : Int} (h : d ≠ 0) (h' : d' ≠ 0) (e : n * d' = n' * d) : lo n d = lo n' d' := by
  refine lo_uni h (lo_pos h') (lo_cop h') ?_
  have := lo_mul (n := n') h'
  have : d' * ((lo n' d').1 * d) = d' * (n * (lo n' d').2) := by grind
  exact Int.eq_of_mul_eq_mul_left h' this
theorem lo_self {p : Int × Int} (h : 0 < p.2) (hg : Int.gcd p.1 p.2 = 1) : lo p.1 p.2 = p := lo_uni (by omega) h hg rfl
theorem abs_le_mul {a b : Int} (h : b ≠ 0) : a.natAbs ≤ (a * b).natAbs := by
  rw [Int.natAbs_mul]
  exact Nat.le_mul_of_pos_right _ (by omega)
theorem lo_le {n d : Int} (h : d ≠ 0) : (lo n d).1.natAbs ≤ n.natAbs ∧ (lo n d).2.natAbs ≤ d.natAbs := by
  obtain ⟨a, b, h1, h2, e, _, hs, _⟩ := lo_ex (n := n) h
  rw [e]
  refine ⟨?_, ?_⟩
  · show a.natAbs ≤ n.natAbs
    have := abs_le_mul (a := a) hs
    rw [← h1] at this; exact this
  · show b.natAbs ≤ d.natAbs
    have := abs_le_mul (a := b) hs
    rw [← h2] at this; exact this
theorem fdiv_lo {n d : Int} (h : d ≠ 0) : (lo n d).1.fdiv (lo n d).2 = n.fdiv d := by
  obtain ⟨a, b, h1, h2, e, hb, hs, _⟩ := lo_ex (n := n) h
  rw [e]
  show a.fdiv b = n.fdiv d
  generalize sg n d = g at h1 h2 hs
  rw [h1, h2]
  have key : ∀ g : Int, 0 < g → (a * g).fdiv (b * g) = a.fdiv b := fun g hg => by
    have hm := Int.mul_pos hb hg
    rw [Int.fdiv_eq_ediv_of_nonneg _ (Int.le_of_lt hb), Int.fdiv_eq_ediv_of_nonneg _ (Int.le_of_lt hm), Int.mul_ediv_mul_of_pos_left _ _ hg]
  rcases Int.lt_or_gt_of_ne hs with hg | hg
  · have := key (-g) (by omega)
    rw [← this, Int.mul_neg, Int.mul_neg, Int.neg_fdiv_neg]
  · exact (key g hg).symm
end Fx
namespace Fx
open PySem PySem.Spec PyProof.Rows L2 L2H
/-! ### Fracs as data -/
abbrev fr (p : Int × Int) : D := .ins "Frac" ["num", "den"] [.int p.1, .int p.2]
abbrev fo (p : Int × Int) : Sl := .obj "Frac" ["num", "den"] [.d (.int p.1), .d (.int p.2)]
@[simp] theorem fo_fz (p : Int × Int) : (fo p).fz = fr p := by simp
theorem gcd_lt {n d : Int} (h : d ≠ 0) : Int.gcd n d ≤ d.natAbs := Nat.le_of_dvd (by omega) (by rw [Int.gcd_eq_natAbs_gcd_natAbs]; exact Nat.gcd_dvd_right _ _)
theorem okDiv_gcd {n d : Int} (h : d ≠ 0) (hd : d.natAbs < divb) : okDiv ((Nat.gcd n.natAbs d.natAbs : Nat) : Int) := by
  have h1 := gcd_lt (n := n) h
  rw [Int.gcd_eq_natAbs_gcd_natAbs] at h1
  have h2 : 0 < Nat.gcd n.natAbs d.natAbs := Nat.gcd_pos_of_pos_right _ (by omega)
  exact ⟨by omega, by rw [Int.natAbs_natCast]; omega⟩
theorem init_pos {n d : Int} (h : 0 < d) (hd : d.natAbs < divb) (h1 : 1 < d) : lo n d = (n.fdiv ((Nat.gcd n.natAbs d.natAbs : Nat) : Int), d.fdiv ((Nat.gcd n.natAbs d.natAbs : Nat) : Int)) := by
  unfold lo sg
  rw [if_neg (by omega), Int.gcd_eq_natAbs_gcd_natAbs]
theorem lo_one (n : Int) : lo n 1 = (n, 1) := lo_uni (by omega) (by omega) (by simp) rfl
theorem lo_neg (n d : Int) (h : d ≠ 0) : lo (-n) (-d) = lo n d := lo_eq (by omega) h (by grind)
theorem init0 (n : Int) : m_Frac___init__ [.obj "Frac" [] [], .d (.int n), .d (.int 0)] = .exc "DivisionByZero" [] [] [.obj "Frac" [] [], .d (.int n), .d (.int 0)] := by
  simp [mkFn_ap, m_Frac___init__, b_Frac___init__]
theorem init1 (n d : Int) (h : d ≠ 0) (hd : d.natAbs < divb) : m_Frac___init__ [.obj "Frac" [] [], .d (.int n), .d (.int d)] = .ok (.d .non, [fo (lo n d), .d (.int n), .d (.int d)]) := by
  by_cases c : d < 0
  · have c' : ¬ (d = 0) := h
    by_cases c1 : 1 < -d
    · have e : lo n d = ((-n).fdiv ((Nat.gcd (-n).natAbs (-d).natAbs : Nat) : Int), (-d).fdiv ((Nat.gcd (-n).natAbs (-d).natAbs : Nat) : Int)) := by
        rw [← lo_neg n d h]; exact init_pos (by omega) (by rw [Int.natAbs_neg]; exact hd) c1
      have ok := okDiv_gcd (n := -n) (d := -d) (by omega) (by rw [Int.natAbs_neg]; exact hd)
      rw [e]
      simp only [Int.natAbs_neg] at ok ⊢
      simp [mkFn_ap, m_Frac___init__, b_Frac___init__, h, c, c1, ok]
    · have e : d = -1 := by omega
      subst e
      have : lo n (-1) = (-n, 1) := by rw [← lo_neg n (-1) (by omega)]; simp [lo_one]
      simp [mkFn_ap, m_Frac___init__, b_Frac___init__, this]
  · by_cases c1 : 1 < d
    · have ok := okDiv_gcd (n := n) (d := d) h hd
      rw [init_pos (by omega) hd c1]
      simp [mkFn_ap, m_Frac___init__, b_Frac___init__, h, c, c1, ok]
    · have e : d = 1 := by omega
      subst e
      simp [mkFn_ap, m_Frac___init__, b_Frac___init__, lo_one]
end Fx
namespace Fx
open PySem PySem.Spec PyProof.Rows L2 L2H
/-! ### sizes -/
@[irreducible] def Bn (k : Nat) (i : Int) : Prop := i.natAbs < 2 ^ k
theorem bn_def {k : Nat} {i : Int} : Bn k i ↔ i.natAbs < 2 ^ k := by unfold Bn; exact Iff.rfl
theorem bn_mono {k l : Nat} {i : Int} (h : Bn k i) (hl : k ≤ l) : Bn l i := by
  rw [bn_def] at *
  exact Nat.lt_of_lt_of_le h (Nat.pow_le_pow_right (by decide) hl)
theorem bn_mul {k l : Nat} {i j : Int} (h : Bn k i) (h' : Bn l j) : Bn (k + l) (i * j) := by
  rw [bn_def] at *
  rw [Int.natAbs_mul, Nat.pow_add]
  exact Nat.mul_lt_mul_of_lt_of_lt h h'
theorem bn_add {k : Nat} {i j : Int} (h : Bn k i) (h' : Bn k j) : Bn (k + 1) (i + j) := by
  rw [bn_def] at *
  have := Int.natAbs_add_le i j
  rw [Nat.pow_succ]
  omega
theorem bn_neg {k : Nat} {i : Int} (h : Bn k i) : Bn k (-i) := by
  rw [bn_def] at *
  rw [Int.natAbs_neg]; exact h
theorem bn_sub {k : Nat} {i j : Int} (h : Bn k i) (h' : Bn k j) : Bn (k + 1) (i - j) := by
  rw [Int.sub_eq_add_neg]; exact bn_add h (bn_neg h')
theorem bn_lit {k : Nat} {i : Int} (h : i.natAbs < 2 ^ 60) (hk : 60 ≤ k) : Bn k i := bn_mono (bn_def.mpr h) hk
theorem bn_le {k : Nat} {i j : Int} (h : Bn k j) (hl : i.natAbs ≤ j.natAbs) : Bn k i := by
  rw [bn_def] at *
  omega
theorem ok_mul {k l : Nat} {i j : Int} (h : Bn k i) (h' : Bn l j) (hk : k ≤ 500000) (hl : l ≤ 500000) : okMul i j := by
  have h1 := bn_mono h hk
  have h2 := bn_mono h' hl
  rw [bn_def, ← big_eq] at h1 h2
  exact .inr (.inr ⟨h1, h2⟩)
theorem lt_divb {k : Nat} {i : Int} (h : Bn k i) (hk : k ≤ 9000) : i.natAbs < divb := by
  have := bn_mono h hk
  rw [bn_def, ← divb_eq] at this
  exact this
theorem lt_strb {k : Nat} {i : Int} (h : Bn k i) (hk : k ≤ 1920) : i.natAbs < strb := by
  have := bn_mono h hk
  rw [bn_def, ← strb_eq] at this
  exact this
/-- a Frac's numbers -/
structure Fq (k : Nat) (p : Int × Int) : Prop where
  pos : 0 < p.2
  cop : Int.gcd p.1 p.2 = 1
  b1 : Bn k p.1
  b2 : Bn k p.2
theorem Fq.ne {k : Nat} {p : Int × Int} (h : Fq k p) : p.2 ≠ 0 := by have := h.pos; omega
theorem Fq.mono {k l : Nat} {p : Int × Int} (h : Fq k p) (hl : k ≤ l) : Fq l p := ⟨h.pos, h.cop, bn_mono h.b1 hl, bn_mono h.b2 hl⟩
theorem fq_lo {k : Nat} {n d : Int} (h : d ≠ 0) (h1 : Bn k n) (h2 : Bn k d) : Fq k (lo n d) := ⟨lo_pos h, lo_cop h, bn_le h1 (lo_le h).1, bn_le h2 (lo_le h).2⟩
theorem mul_ne {a b : Int} (h : a ≠ 0) (h' : b ≠ 0) : a * b ≠ 0 := Int.mul_ne_zero h h'

/-! ### what the methods give -/
section
variable {k : Nat} {p q : Int × Int} {n : Int}
theorem mk2 (n d : Int) (h : d ≠ 0) (hd : d.natAbs < divb) (δ : En) : upM (m_Frac___init__ [.obj "Frac" [] [], .d (.int n), .d (.int d)]) δ = .ok (fo (lo n d), δ) := by rw [init1 n d h hd]; rfl
theorem fAdd (hp : Fq 4000 p) (hq : Fq 4000 q) : m_Frac___add__ [.d (fr p), .d (fr q)] = .ok (fo (lo (p.1 * q.2 + q.1 * p.2) (p.2 * q.2)), [.d (fr p), .d (fr q)]) := by
  have h1 := ok_mul hp.b1 hq.b2 (by decide) (by decide)
  have h2 := ok_mul hq.b1 hp.b2 (by decide) (by decide)
  have h3 := ok_mul hp.b2 hq.b2 (by decide) (by decide)
  have h4 := mk2 (p.1 * q.2 + q.1 * p.2) (p.2 * q.2) (mul_ne hp.ne hq.ne) (lt_divb (bn_mul hp.b2 hq.b2) (by decide))
  simp [mkFn_ap, m_Frac___add__, b_Frac___add__, ti_Frac, h1, h2, h3, h4]
end
end Fx
namespace Fx
open PySem PySem.Spec PyProof.Rows L2 L2H
section
variable {p q : Int × Int} {n : Int}

theorem q_add (hp : Fq 4000 p) (hq : Fq 4000 q) : m_Frac___add__ [.d (fr p), .d (fr q)] = .ok (fo (lo (p.1 * q.2 + q.1 * p.2) (p.2 * q.2)), [.d (fr p), .d (fr q)]) := by
  have h1 := ok_mul hp.b1 hq.b2 (by decide) (by decide)
  have h2 := ok_mul hq.b1 hp.b2 (by decide) (by decide)
  have h3 := ok_mul hp.b2 hq.b2 (by decide) (by decide)
  have h4 := mk2 (p.1 * q.2 + q.1 * p.2) (p.2 * q.2) (mul_ne hp.ne hq.ne) (lt_divb (bn_mul hp.b2 hq.b2) (by decide))
  simp [mkFn_ap, m_Frac___add__, b_Frac___add__, ti_Frac, ti_int, h1, h2, h3, h4]
theorem q_addi (hp : Fq 4000 p) (hn : Bn 4000 n) : m_Frac___add__ [.d (fr p), .d (.int n)] = .ok (fo (lo (p.1 + n * p.2) (p.2)), [.d (fr p), .d (.int n)]) := by
  have h1 := ok_mul hn hp.b2 (by decide) (by decide)
  have h4 := mk2 (p.1 + n * p.2) (p.2) (hp.ne) (lt_divb (hp.b2) (by decide))
  simp [mkFn_ap, m_Frac___add__, b_Frac___add__, ti_Frac, ti_int, h1, h4]
theorem q_radd (hp : Fq 4000 p) (hn : Bn 4000 n) : m_Frac___radd__ [.d (fr p), .d (.int n)] = .ok (fo (lo (n * p.2 + p.1) (p.2)), [.d (fr p), .d (.int n)]) := by
  have h1 := ok_mul hn hp.b2 (by decide) (by decide)
  have h4 := mk2 (n * p.2 + p.1) (p.2) (hp.ne) (lt_divb (hp.b2) (by decide))
  simp [mkFn_ap, m_Frac___radd__, b_Frac___radd__, ti_Frac, ti_int, h1, h4]
theorem q_sub (hp : Fq 4000 p) (hq : Fq 4000 q) : m_Frac___sub__ [.d (fr p), .d (fr q)] = .ok (fo (lo (p.1 * q.2 - q.1 * p.2) (p.2 * q.2)), [.d (fr p), .d (fr q)]) := by
  have h1 := ok_mul hp.b1 hq.b2 (by decide) (by decide)
  have h2 := ok_mul hq.b1 hp.b2 (by decide) (by decide)
  have h3 := ok_mul hp.b2 hq.b2 (by decide) (by decide)
  have h4 := mk2 (p.1 * q.2 - q.1 * p.2) (p.2 * q.2) (mul_ne hp.ne hq.ne) (lt_divb (bn_mul hp.b2 hq.b2) (by decide))
  simp [mkFn_ap, m_Frac___sub__, b_Frac___sub__, ti_Frac, ti_int, h1, h2, h3, h4]
theorem q_subi (hp : Fq 4000 p) (hn : Bn 4000 n) : m_Frac___sub__ [.d (fr p), .d (.int n)] = .ok (fo (lo (p.1 - n * p.2) (p.2)), [.d (fr p), .d (.int n)]) := by
  have h1 := ok_mul hn hp.b2 (by decide) (by decide)
  have h4 := mk2 (p.1 - n * p.2) (p.2) (hp.ne) (lt_divb (hp.b2) (by decide))
  simp [mkFn_ap, m_Frac___sub__, b_Frac___sub__, ti_Frac, ti_int, h1, h4]
theorem q_rsub (hp : Fq 4000 p) (hn : Bn 4000 n) : m_Frac___rsub__ [.d (fr p), .d (.int n)] = .ok (fo (lo (n * p.2 - p.1) (p.2)), [.d (fr p), .d (.int n)]) := by
  have h1 := ok_mul hn hp.b2 (by decide) (by decide)
  have h4 := mk2 (n * p.2 - p.1) (p.2) (hp.ne) (lt_divb (hp.b2) (by decide))
  simp [mkFn_ap, m_Frac___rsub__, b_Frac___rsub__, ti_Frac, ti_int, h1, h4]
theorem q_mul (hp : Fq 4000 p) (hq : Fq 4000 q) : m_Frac___mul__ [.d (fr p), .d (fr q)] = .ok (fo (lo (p.1 * q.1) (p.2 * q.2)), [.d (fr p), .d (fr q)]) := by
  have h1 := ok_mul hp.b1 hq.b1 (by decide) (by decide)
  have h3 := ok_mul hp.b2 hq.b2 (by decide) (by decide)
  have h4 := mk2 (p.1 * q.1) (p.2 * q.2) (mul_ne hp.ne hq.ne) (lt_divb (bn_mul hp.b2 hq.b2) (by decide))
  simp [mkFn_ap, m_Frac___mul__, b_Frac___mul__, ti_Frac, ti_int, h1, h3, h4]
theorem q_muli (hp : Fq 4000 p) (hn : Bn 4000 n) : m_Frac___mul__ [.d (fr p), .d (.int n)] = .ok (fo (lo (p.1 * n) (p.2)), [.d (fr p), .d (.int n)]) := by
  have h1 := ok_mul hp.b1 hn (by decide) (by decide)
  have h4 := mk2 (p.1 * n) (p.2) (hp.ne) (lt_divb (hp.b2) (by decide))
  simp [mkFn_ap, m_Frac___mul__, b_Frac___mul__, ti_Frac, ti_int, h1, h4]
theorem q_rmul (hp : Fq 4000 p) (hn : Bn 4000 n) : m_Frac___rmul__ [.d (fr p), .d (.int n)] = .ok (fo (lo (n * p.1) (p.2)), [.d (fr p), .d (.int n)]) := by
  have h1 := ok_mul hn hp.b1 (by decide) (by decide)
  have h4 := mk2 (n * p.1) (p.2) (hp.ne) (lt_divb (hp.b2) (by decide))
  simp [mkFn_ap, m_Frac___rmul__, b_Frac___rmul__, ti_Frac, ti_int, h1, h4]
theorem q_neg (hp : Fq 4000 p) : m_Frac___neg__ [.d (fr p)] = .ok (fo (lo (-p.1) (p.2)), [.d (fr p)]) := by
  have h4 := mk2 (-p.1) (p.2) (hp.ne) (lt_divb (hp.b2) (by decide))
  simp [mkFn_ap, m_Frac___neg__, b_Frac___neg__, ti_Frac, ti_int, h4]
theorem q_abs (hp : Fq 4000 p) : m_Frac___abs__ [.d (fr p)] = .ok (fo (lo ((p.1.natAbs : Int)) (p.2)), [.d (fr p)]) := by
  have h4 := mk2 ((p.1.natAbs : Int)) (p.2) (hp.ne) (lt_divb (hp.b2) (by decide))
  simp [mkFn_ap, m_Frac___abs__, b_Frac___abs__, ti_Frac, ti_int, h4]
theorem q_flo (a b : Int) (h : b ≠ 0) (hb : b.natAbs < divb) : m__floored [.d (.int a), .d (.int b)] = .ok (.d (.int (a.fdiv b)), [.d (.int a), .d (.int b)]) := by
  have ok : okDiv b := ⟨h, hb⟩
  simp [mkFn_ap, m__floored, b__floored, h, ok]
theorem q_flo0 (a : Int) : m__floored [.d (.int a), .d (.int 0)] = .exc "DivisionByZero" [] [] [.d (.int a), .d (.int 0)] := by
  simp [mkFn_ap, m__floored, b__floored]
theorem q_fdv (hp : Fq 4000 p) (hq : Fq 4000 q) (h0 :  q.1 ≠ 0) : m_Frac___floordiv__ [.d (fr p), .d (fr q)] = .ok (.d (.int ((p.1 * q.2).fdiv (p.2 * q.1))), [.d (fr p), .d (fr q)]) := by
  have h1 := ok_mul hp.b1 hq.b2 (by decide) (by decide)
  have h3 := ok_mul hp.b2 hq.b1 (by decide) (by decide)
  have h4 := q_flo (p.1 * q.2) (p.2 * q.1) (mul_ne hp.ne h0) (lt_divb (bn_mul hp.b2 hq.b1) (by decide))
  simp [mkFn_ap, m_Frac___floordiv__, b_Frac___floordiv__, ti_Frac, ti_int, h1, h3, h4]
theorem q_fdvi (hp : Fq 4000 p) (hn : Bn 4000 n) (h0 :  n ≠ 0) : m_Frac___floordiv__ [.d (fr p), .d (.int n)] = .ok (.d (.int ((p.1).fdiv (p.2 * n))), [.d (fr p), .d (.int n)]) := by
  have h3 := ok_mul hp.b2 hn (by decide) (by decide)
  have h4 := q_flo (p.1) (p.2 * n) (mul_ne hp.ne h0) (lt_divb (bn_mul hp.b2 hn) (by decide))
  simp [mkFn_ap, m_Frac___floordiv__, b_Frac___floordiv__, ti_Frac, ti_int, h3, h4]
theorem q_rfdv (hp : Fq 4000 p) (hn : Bn 4000 n) (h0 : p.1 ≠ 0) : m_Frac___rfloordiv__ [.d (fr p), .d (.int n)] = .ok (.d (.int ((n * p.2).fdiv (p.1))), [.d (fr p), .d (.int n)]) := by
  have h3 := ok_mul hn hp.b2 (by decide) (by decide)
  have h4 := q_flo (n * p.2) (p.1) (h0) (lt_divb (hp.b1) (by decide))
  simp [mkFn_ap, m_Frac___rfloordiv__, b_Frac___rfloordiv__, ti_Frac, ti_int, h3, h4]
theorem q_fdv0 (hp : Fq 4000 p) (d : Int) (hd : Bn 4000 d) : m_Frac___floordiv__ [.d (fr p), .d (fr (0, d))] = .exc "DivisionByZero" [] [] [.d (fr p), .d (fr (0, d))] := by
  have h1 := ok_mul hp.b1 hd (by decide) (by decide)
  have h2 := ok_mul hp.b2 (show Bn 4000 0 from bn_lit (by decide) (by decide)) (by decide) (by decide)
  have h4 := q_flo0 (p.1 * d)
  simp [mkFn_ap, m_Frac___floordiv__, b_Frac___floordiv__, ti_Frac, ti_int, h1, h2, h4]
theorem q_fdvi0 (hp : Fq 4000 p) : m_Frac___floordiv__ [.d (fr p), .d (.int 0)] = .exc "DivisionByZero" [] [] [.d (fr p), .d (.int 0)] := by
  have h2 := ok_mul hp.b2 (show Bn 4000 0 from bn_lit (by decide) (by decide)) (by decide) (by decide)
  have h4 := q_flo0 (p.1)
  simp [mkFn_ap, m_Frac___floordiv__, b_Frac___floordiv__, ti_Frac, ti_int, h2, h4]
theorem q_rfdv0 (d n : Int) (hd : Bn 4000 d) (hn : Bn 4000 n) : m_Frac___rfloordiv__ [.d (fr (0, d)), .d (.int n)] = .exc "DivisionByZero" [] [] [.d (fr (0, d)), .d (.int n)] := by
  have h1 := ok_mul hn hd (by decide) (by decide)
  have h4 := q_flo0 (n * d)
  simp [mkFn_ap, m_Frac___rfloordiv__, b_Frac___rfloordiv__, ti_Frac, ti_int, h1, h4]
theorem q_bool : m_Frac___bool__ [.d (fr p)] = .ok (.d (.bl (p.1 != 0)), [.d (fr p)]) := by
  simp [mkFn_ap, m_Frac___bool__, b_Frac___bool__]
theorem q_eq : m_Frac___eq__ [.d (fr p), .d (fr q)] = .ok (.d (.bl (decide (p = q))), [.d (fr p), .d (fr q)]) := by
  obtain ⟨a, b⟩ := p
  obtain ⟨c, d⟩ := q
  by_cases h : a = c <;> by_cases h' : b = d <;> simp [mkFn_ap, m_Frac___eq__, b_Frac___eq__, ti_Frac, ti_int, h, h']
theorem q_eqi : m_Frac___eq__ [.d (fr p), .d (.int n)] = .ok (.d (.bl (decide (p = (n, 1)))), [.d (fr p), .d (.int n)]) := by
  obtain ⟨a, b⟩ := p
  by_cases h : a = n <;> by_cases h' : b = 1 <;> simp [mkFn_ap, m_Frac___eq__, b_Frac___eq__, ti_Frac, ti_int, ti_bool, h, h']
theorem q_lt (hp : Fq 4000 p) (hq : Fq 4000 q) : m_Frac___lt__ [.d (fr p), .d (fr q)] = .ok (.d (.bl (decide (p.1 * q.2 < q.1 * p.2))), [.d (fr p), .d (fr q)]) := by
  have h1 := ok_mul hp.b1 hq.b2 (by decide) (by decide)
  have h2 := ok_mul hq.b1 hp.b2 (by decide) (by decide)
  simp [mkFn_ap, m_Frac___lt__, b_Frac___lt__, ti_Frac, ti_int, h1, h2]
theorem q_lti (hp : Fq 4000 p) (hn : Bn 4000 n) : m_Frac___lt__ [.d (fr p), .d (.int n)] = .ok (.d (.bl (decide (p.1 < n * p.2))), [.d (fr p), .d (.int n)]) := by
  have h1 := ok_mul hn hp.b2 (by decide) (by decide)
  simp [mkFn_ap, m_Frac___lt__, b_Frac___lt__, ti_Frac, ti_int, h1]
theorem q_le (hp : Fq 4000 p) (hq : Fq 4000 q) : m_Frac___le__ [.d (fr p), .d (fr q)] = .ok (.d (.bl (decide (p.1 * q.2 ≤ q.1 * p.2))), [.d (fr p), .d (fr q)]) := by
  have h1 := ok_mul hp.b1 hq.b2 (by decide) (by decide)
  have h2 := ok_mul hq.b1 hp.b2 (by decide) (by decide)
  simp [mkFn_ap, m_Frac___le__, b_Frac___le__, ti_Frac, ti_int, h1, h2]
theorem q_lei (hp : Fq 4000 p) (hn : Bn 4000 n) : m_Frac___le__ [.d (fr p), .d (.int n)] = .ok (.d (.bl (decide (p.1 ≤ n * p.2))), [.d (fr p), .d (.int n)]) := by
  have h1 := ok_mul hn hp.b2 (by decide) (by decide)
  simp [mkFn_ap, m_Frac___le__, b_Frac___le__, ti_Frac, ti_int, h1]
theorem q_gt (hp : Fq 4000 p) (hq : Fq 4000 q) : m_Frac___gt__ [.d (fr p), .d (fr q)] = .ok (.d (.bl (decide (q.1 * p.2 < p.1 * q.2))), [.d (fr p), .d (fr q)]) := by
  have h1 := ok_mul hp.b1 hq.b2 (by decide) (by decide)
  have h2 := ok_mul hq.b1 hp.b2 (by decide) (by decide)
  simp [mkFn_ap, m_Frac___gt__, b_Frac___gt__, ti_Frac, ti_int, h1, h2]
theorem q_gti (hp : Fq 4000 p) (hn : Bn 4000 n) : m_Frac___gt__ [.d (fr p), .d (.int n)] = .ok (.d (.bl (decide (n * p.2 < p.1))), [.d (fr p), .d (.int n)]) := by
  have h1 := ok_mul hn hp.b2 (by decide) (by decide)
  simp [mkFn_ap, m_Frac___gt__, b_Frac___gt__, ti_Frac, ti_int, h1]
theorem q_ge (hp : Fq 4000 p) (hq : Fq 4000 q) : m_Frac___ge__ [.d (fr p), .d (fr q)] = .ok (.d (.bl (decide (q.1 * p.2 ≤ p.1 * q.2))), [.d (fr p), .d (fr q)]) := by
  have h1 := ok_mul hp.b1 hq.b2 (by decide) (by decide)
  have h2 := ok_mul hq.b1 hp.b2 (by decide) (by decide)
  simp [mkFn_ap, m_Frac___ge__, b_Frac___ge__, ti_Frac, ti_int, h1, h2]
theorem q_gei (hp : Fq 4000 p) (hn : Bn 4000 n) : m_Frac___ge__ [.d (fr p), .d (.int n)] = .ok (.d (.bl (decide (n * p.2 ≤ p.1))), [.d (fr p), .d (.int n)]) := by
  have h1 := ok_mul hn hp.b2 (by decide) (by decide)
  simp [mkFn_ap, m_Frac___ge__, b_Frac___ge__, ti_Frac, ti_int, h1]
def wrt (p : Int × Int) : Str := if p.2 = 1 then Str.ofString (toString p.1) else Str.ofString (toString p.1) ++ "/" ++ Str.ofString (toString p.2)
theorem q_of : m_frac_of [.d (fr p)] = .ok (.d (fr p), [.d (fr p)]) := by
  simp [mkFn_ap, m_frac_of, b_frac_of, ti_Frac]
theorem q_ofi (hn : Bn 4000 n) : m_frac_of [.d (.int n)] = .ok (fo (n, 1), [.d (.int n)]) := by
  have h := mk2 n 1 (by decide) (lt_divb (k := 9000) (bn_lit (by decide) (by decide)) (by decide))
  rw [lo_one] at h
  simp [mkFn_ap, m_frac_of, b_frac_of, ti_Frac, h]
theorem q_over (hp : Fq 4000 p) (hq : Fq 4000 q) (h0 : q.1 ≠ 0) : m_Frac_over [.d (fr p), .d (fr q)] = .ok (fo (lo (p.1 * q.2) (p.2 * q.1)), [.d (fr p), .d (fr q)]) := by
  have h1 := ok_mul hp.b1 hq.b2 (by decide) (by decide)
  have h2 := ok_mul hp.b2 hq.b1 (by decide) (by decide)
  have h4 := mk2 (p.1 * q.2) (p.2 * q.1) (mul_ne hp.ne h0) (lt_divb (bn_mul hp.b2 hq.b1) (by decide))
  simp [mkFn_ap, m_Frac_over, b_Frac_over, q_of, h1, h2, h4]
theorem q_over0 (hp : Fq 4000 p) (d : Int) (hd : Bn 4000 d) : m_Frac_over [.d (fr p), .d (fr (0, d))] = .exc "DivisionByZero" [] [] [.d (fr p), .d (fr (0, d))] := by
  have h1 := ok_mul hp.b1 hd (by decide) (by decide)
  have h2 := ok_mul hp.b2 (show Bn 4000 0 from bn_lit (by decide) (by decide)) (by decide) (by decide)
  have h4 := init0 (p.1 * d)
  simp [mkFn_ap, m_Frac_over, b_Frac_over, q_of, h1, h2, h4]
theorem q_overi (hp : Fq 4000 p) (hn : Bn 4000 n) (h0 : n ≠ 0) : m_Frac_over [.d (fr p), .d (.int n)] = .ok (fo (lo p.1 (p.2 * n)), [.d (fr p), .d (.int n)]) := by
  have h2 := ok_mul hp.b2 hn (by decide) (by decide)
  have h4 := mk2 (p.1) (p.2 * n) (mul_ne hp.ne h0) (lt_divb (bn_mul hp.b2 hn) (by decide))
  have h1 := ok_mul hp.b1 (show Bn 4000 1 from bn_lit (by decide) (by decide)) (by decide) (by decide)
  simp [mkFn_ap, m_Frac_over, b_Frac_over, q_ofi hn, h1, h2, h4]
theorem q_overi0 (hp : Fq 4000 p) : m_Frac_over [.d (fr p), .d (.int 0)] = .exc "DivisionByZero" [] [] [.d (fr p), .d (.int 0)] := by
  have h2 := ok_mul hp.b2 (show Bn 4000 0 from bn_lit (by decide) (by decide)) (by decide) (by decide)
  have h4 := init0 (p.1)
  have h1 := ok_mul hp.b1 (show Bn 4000 1 from bn_lit (by decide) (by decide)) (by decide) (by decide)
  simp [mkFn_ap, m_Frac_over, b_Frac_over, q_ofi (show Bn 4000 0 from bn_lit (by decide) (by decide)), h1, h2, h4]
end
end Fx
namespace Fx
open PySem PySem.Spec PyProof.Rows L2 L2H
/-! ### Fracs and pairs, closed -/
def Fr (p : Int × Int) : D := fr p
def FO (p : Int × Int) : Sl := fo p
def T2 (p : Int × Int) : D := .tup [.int p.1, .int p.2]
theorem Fr_eq (p : Int × Int) : Fr p = fr p := (rfl)
theorem FO_eq (p : Int × Int) : FO p = fo p := (rfl)
@[simp] theorem FO_fz (p : Int × Int) : (FO p).fz = Fr p := fo_fz p
theorem t2_plain (p : Int × Int) (n : Nat) : (T2 p).plain (n + 1) = true := (rfl)
theorem t2_py (p : Int × Int) : (T2 p).py = .tuple [.int p.1, .int p.2] := (rfl)
@[simp] theorem t2_eq (p q : Int × Int) : dEq (T2 p) (T2 q) = okS (.bl (decide (p = q))) := by
  rw [dEq_of (t2_plain p 59) (t2_plain q 59), t2_py, t2_py]
  obtain ⟨a, b⟩ := p
  obtain ⟨c, d⟩ := q
  by_cases h : a = c <;> by_cases h' : b = d <;> simp [PyData.eqv, PyData.eqvAll, h, h']
@[simp] theorem t2_fold (a b : Int) : D.tup [.int a, .int b] = T2 (a, b) := (rfl)
@[simp ↓] theorem t2_ix0 (p : Int × Int) : mIx (T2 p) (.int 0) = okS (.int p.1) := (rfl)
@[simp ↓] theorem t2_ix1 (p : Int × Int) : mIx (T2 p) (.int 1) = okS (.int p.2) := (rfl)
theorem atI_n {α : Type} {l : List α} (k : Nat) (h : k < l.length) : atI l (k : Int) = some l[k] := by
  have h1 : ixN l.length (k : Int) = some k := by
    unfold ixN
    simp; omega
  unfold atI
  rw [h1]
  simp [h]
@[simp] theorem atI0 {α : Type} (a : α) (l : List α) : atI (a :: l) 0 = some a := atI_n 0 (by simp)
@[simp] theorem atI1 {α : Type} (a b : α) (l : List α) : atI (a :: b :: l) 1 = some b := atI_n 1 (by simp)
@[simp] theorem atI2 {α : Type} (a b c : α) (l : List α) : atI (a :: b :: c :: l) 2 = some c := atI_n 2 (by simp)
@[simp] theorem atI3 {α : Type} (a b c d : α) (l : List α) : atI (a :: b :: c :: d :: l) 3 = some d := atI_n 3 (by simp)
@[simp] theorem atI4 {α : Type} (a b c d e : α) (l : List α) : atI (a :: b :: c :: d :: e :: l) 4 = some e := atI_n 4 (by simp)
@[simp] theorem atI5 {α : Type} (a b c d e f : α) (l : List α) : atI (a :: b :: c :: d :: e :: f :: l) 5 = some f := atI_n 5 (by simp)
@[simp] theorem atI6 {α : Type} (a b c d e f g : α) (l : List α) : atI (a :: b :: c :: d :: e :: f :: g :: l) 6 = some g := atI_n 6 (by simp)
@[simp] theorem atI7 {α : Type} (a b c d e f g h : α) (l : List α) : atI (a :: b :: c :: d :: e :: f :: g :: h :: l) 7 = some h := atI_n 7 (by simp)
@[simp] theorem atI8 {α : Type} (a b c d e f g h i : α) (l : List α) : atI (a :: b :: c :: d :: e :: f :: g :: h :: i :: l) 8 = some i := atI_n 8 (by simp)
@[simp] theorem atI9 {α : Type} (a b c d e f g h i j : α) (l : List α) : atI (a :: b :: c :: d :: e :: f :: g :: h :: i :: j :: l) 9 = some j := atI_n 9 (by simp)
theorem w_int (n : Int) : m__law_int [.d (.int n)] = .ok (.d (.bl true), [.d (.int n)]) := by
  simp [mkFn_ap, m__law_int, b__law_int, ti_int, ti_bool]
theorem w_is (p q : Int × Int) : m__law_is [.d (Fr p), .d (T2 q)] = .ok (.d (.bl (decide (p = q))), [.d (Fr p), .d (T2 q)]) := by
  simp [mkFn_ap, m__law_is, b__law_is, ti_Frac, Fr, w_int]
/-! ### the law's lowest terms -/
noncomputable def lw_t : Tx := (cB (c2 (iCmp fun i j => decide (j < i)) (cV 3) (cC (.int 0))))
noncomputable def lw_b : Sx := (sSeq (sSet 4 (c2 iMod (cA bInt (aC (cV 2) aN)) (cV 3))) (sSeq (sSet 2 (cV 3)) (sSet 3 (cV 4))))
theorem w_low_wh (x y : D) : ∀ (k a b : Nat), b < k → ∀ z, ∃ z', sWh lw_t lw_b [.par (.d x), .par (.d y), .loc (.d (.int a)), .loc (.d (.int b)), z] = .ok (.nx, [.par (.d x), .par (.d y), .loc (.d (.int (Nat.gcd a b : Nat))), .loc (.d (.int 0)), z'])
  | 0, _, _, h, _ => by omega
  | k + 1, a, b, h, z => by
    by_cases c : 0 < b
    · obtain ⟨z', IH⟩ := w_low_wh x y k b (a % b) (by have := Nat.mod_lt a c; omega) (.loc (.d (.int ((a % b : Nat) : Int))))
      refine ⟨z', ?_⟩
      have e : Nat.gcd b (a % b) = Nat.gcd a b := by rw [Nat.gcd_comm b (a % b), ← Nat.gcd_rec, Nat.gcd_comm]
      rw [e] at IH
      have c' : (b : Int) ≠ 0 := by omega
      have m : Int.fmod (a : Int) (b : Int) = ((a % b : Nat) : Int) := by
        rw [Int.fmod_eq_emod_of_nonneg _ (by omega)]; rfl
      refine sWh_step (δ1 := [.par (.d x), .par (.d y), .loc (.d (.int a)), .loc (.d (.int b)), z]) ?_ ?_ IH (by simp)
      · simp [lw_t, c]
      · simp [lw_b, c', m, Nat.ne_of_gt c]
    · have e : b = 0 := by omega
      subst e
      refine ⟨z, ?_⟩
      rw [Nat.gcd_zero_right]
      exact sWh_done (by simp [lw_t])
theorem w_low (n d : Int) (h : d ≠ 0) (hd : d.natAbs < divb) : m__law_low [.d (.int n), .d (.int d)] = .ok (.d (T2 (lo n d)), [.d (.int n), .d (.int d)]) := by
  obtain ⟨z, hw⟩ := w_low_wh (.int n) (.int d) (d.natAbs + 1) n.natAbs d.natAbs (by omega) .no
  have hg := sg_pos (n := n) h
  have hl := gcd_lt (n := n) h
  have e : ((Nat.gcd n.natAbs d.natAbs : Nat) : Int) = (Int.gcd n d : Int) := by rw [Int.gcd_eq_natAbs_gcd_natAbs]
  rw [e] at hw
  have ok1 : okDiv (Int.gcd n d : Int) := ⟨by omega, by rw [Int.natAbs_natCast]; omega⟩
  have ok2 : okDiv (-(Int.gcd n d : Int)) := ⟨by omega, by rw [Int.natAbs_neg, Int.natAbs_natCast]; omega⟩
  unfold lw_t lw_b at hw
  by_cases c : d < 0
  · simp [mkFn_ap, m__law_low, b__law_low, hw, c, ok2, lo, sg]
  · simp [mkFn_ap, m__law_low, b__law_low, hw, c, ok1, lo, sg]
variable {p q : Int × Int} {n : Int}
theorem w_sum' {k : Nat} (h1 : p.2 ≠ 0) (h2 : q.2 ≠ 0) (b1 : Bn k p.1) (b2 : Bn k p.2) (b3 : Bn k q.1) (b4 : Bn k q.2) (hk : k ≤ 4000) (σ : Int) (hs : Bn k σ) : m__law_sum [.d (T2 p), .d (T2 q), .d (.int σ)] = .ok (.d (T2 (lo (p.1 * q.2 + σ * q.1 * p.2) (p.2 * q.2))), [.d (T2 p), .d (T2 q), .d (.int σ)]) := by
  have hk2 : k ≤ 500000 := by omega
  have h1 := ok_mul b1 b4 hk2 hk2
  have h2 := ok_mul hs b3 hk2 hk2
  have h3 := ok_mul (bn_mul hs b3) b2 (by omega) hk2
  have h4 := ok_mul b2 b4 hk2 hk2
  have h5 := w_low (p.1 * q.2 + σ * q.1 * p.2) (p.2 * q.2) (mul_ne ‹_› ‹_›) (lt_divb (bn_mul b2 b4) (by omega))
  simp [mkFn_ap, m__law_sum, b__law_sum, h1, h2, h3, h4, h5]
theorem w_sum (hp : Fq 4000 p) (hq : Fq 4000 q) (σ : Int) (hs : Bn 4000 σ) : m__law_sum [.d (T2 p), .d (T2 q), .d (.int σ)] = .ok (.d (T2 (lo (p.1 * q.2 + σ * q.1 * p.2) (p.2 * q.2))), [.d (T2 p), .d (T2 q), .d (.int σ)]) := w_sum' hp.ne hq.ne hp.b1 hp.b2 hq.b1 hq.b2 (by decide) σ hs
theorem w_times (hp : Fq 4000 p) (hq : Fq 4000 q) : m__law_times [.d (T2 p), .d (T2 q)] = .ok (.d (T2 (lo (p.1 * q.1) (p.2 * q.2))), [.d (T2 p), .d (T2 q)]) := by
  have h1 := ok_mul hp.b1 hq.b1 (by decide) (by decide)
  have h4 := ok_mul hp.b2 hq.b2 (by decide) (by decide)
  have h5 := w_low (p.1 * q.1) (p.2 * q.2) (mul_ne hp.ne hq.ne) (lt_divb (bn_mul hp.b2 hq.b2) (by decide))
  simp [mkFn_ap, m__law_times, b__law_times, h1, h4, h5]
end Fx
namespace Fx
open PySem PySem.Spec PyProof.Rows L2 L2H
/-! ### operators on Fracs and ints -/
section
variable {p q : Int × Int} {n : Int} {f : P2} {m : Fn} {r : Sl} {ss : List Sl} {tb : List (String × Fn)} {c : String} {ns : List String} {xs : List D}
theorem ofFn_ok {l : List D} (h : m (l.map Sl.d) = .ok (r, ss)) : ofFn m l = .ok r := by unfold ofFn; rw [h]
theorem ofFn_exc {l : List D} (h : m (l.map Sl.d) = .exc c ns xs ss) : ofFn m l = .exc c ns xs () := by unfold ofFn; rw [h]
theorem opB_ff : opB [("Frac", m)] (Fr p) (Fr q) = ofFn m [Fr p, Fr q] := by simp [opB, Fr, mOf]
theorem opB_fi : opB [("Frac", m)] (Fr p) (.int n) = ofFn m [Fr p, .int n] := by simp [opB, Fr, mOf]
theorem opB_if : opB tb (.int n) (Fr p) = .stk := (rfl)
theorem opR_if : opR [("Frac", m)] (.int n) (Fr p) = ofFn m [Fr p, .int n] := by simp [opR, Fr, mOf]
theorem or_ff (h0 : f (Fr p) (Fr q) = .stk) (h : m [.d (Fr p), .d (Fr q)] = .ok (r, ss)) : P2.or f (P2.or (opB [("Frac", m)]) (opR tb)) (Fr p) (Fr q) = .ok r := by
  rw [P2.or_stk h0]
  exact p2or_ok _ _ _ _ _ (by rw [opB_ff]; exact ofFn_ok h)
theorem or_fi (h0 : f (Fr p) (.int n) = .stk) (h : m [.d (Fr p), .d (.int n)] = .ok (r, ss)) : P2.or f (P2.or (opB [("Frac", m)]) (opR tb)) (Fr p) (.int n) = .ok r := by
  rw [P2.or_stk h0]
  exact p2or_ok _ _ _ _ _ (by rw [opB_fi]; exact ofFn_ok h)
theorem or_if (h0 : f (.int n) (Fr p) = .stk) (h : m [.d (Fr p), .d (.int n)] = .ok (r, ss)) : P2.or f (P2.or (opB tb) (opR [("Frac", m)])) (.int n) (Fr p) = .ok r := by
  rw [P2.or_stk h0, P2.or_stk opB_if, opR_if]
  exact ofFn_ok h
theorem p2or_exc (f g : P2) (d e : D) (h : f d e = .exc c ns xs ()) : P2.or f g d e = .exc c ns xs () := by unfold P2.or; rw [h]
theorem or_ffx (h0 : f (Fr p) (Fr q) = .stk) (h : m [.d (Fr p), .d (Fr q)] = .exc c ns xs ss) : P2.or f (P2.or (opB [("Frac", m)]) (opR tb)) (Fr p) (Fr q) = .exc c ns xs () := by
  rw [P2.or_stk h0]
  exact p2or_exc _ _ _ _ (by rw [opB_ff]; exact ofFn_exc h)
theorem or_fix (h0 : f (Fr p) (.int n) = .stk) (h : m [.d (Fr p), .d (.int n)] = .exc c ns xs ss) : P2.or f (P2.or (opB [("Frac", m)]) (opR tb)) (Fr p) (.int n) = .exc c ns xs () := by
  rw [P2.or_stk h0]
  exact p2or_exc _ _ _ _ (by rw [opB_fi]; exact ofFn_exc h)
theorem or_ifx (h0 : f (.int n) (Fr p) = .stk) (h : m [.d (Fr p), .d (.int n)] = .exc c ns xs ss) : P2.or f (P2.or (opB tb) (opR [("Frac", m)])) (.int n) (Fr p) = .exc c ns xs () := by
  rw [P2.or_stk h0, P2.or_stk opB_if, opR_if]
  exact ofFn_exc h
theorem orN_ff (h0 : f (Fr p) (Fr q) = .stk) {b : Bool} (h : m [.d (Fr p), .d (Fr q)] = .ok (.d (.bl b), ss)) : P2.or f (P2.or (opN [("Frac", m)]) (opNR tb)) (Fr p) (Fr q) = okS (.bl (!b)) := by
  rw [P2.or_stk h0]
  refine p2or_ok _ _ _ _ _ ?_
  unfold opN
  rw [opB_ff, ofFn_ok h]
  rfl
theorem orN_fi (h0 : f (Fr p) (.int n) = .stk) {b : Bool} (h : m [.d (Fr p), .d (.int n)] = .ok (.d (.bl b), ss)) : P2.or f (P2.or (opN [("Frac", m)]) (opNR tb)) (Fr p) (.int n) = okS (.bl (!b)) := by
  rw [P2.or_stk h0]
  refine p2or_ok _ _ _ _ _ ?_
  unfold opN
  rw [opB_fi, ofFn_ok h]
  rfl
theorem orN_if (h0 : f (.int n) (Fr p) = .stk) {b : Bool} (h : m [.d (Fr p), .d (.int n)] = .ok (.d (.bl b), ss)) : P2.or f (P2.or (opN tb) (opNR [("Frac", m)])) (.int n) (Fr p) = okS (.bl (!b)) := by
  rw [P2.or_stk h0, P2.or_stk (show opN tb (.int n) (Fr p) = .stk by unfold opN; rw [opB_if])]
  unfold opNR
  rw [opR_if, ofFn_ok h]
theorem dEq_f (d : D) : dEq (Fr p) d = .stk := by unfold dEq; simp [Fr, D.plain]
theorem dEq_if : dEq (.int n) (Fr p) = .stk := by unfold dEq; simp [Fr, D.plain]
theorem dNe_f (d : D) : dNe (Fr p) d = .stk := by unfold dNe; simp [Fr, D.plain]
theorem dNe_if : dNe (.int n) (Fr p) = .stk := by unfold dNe; simp [Fr, D.plain]
theorem fq_int (h : Bn 4000 n) : Fq 4000 (n, 1) := ⟨by simp, by simp, h, bn_lit (i := 1) (by decide) (by decide)⟩
@[simp ↓] theorem isi_Fr {δ : En} : k1 (mIsi ti_Frac_int) (.d (Fr p), δ) = .ok (.d (.bl true), δ) := (rfl)

theorem o_add_ff (hp : Fq 4000 p) (hq : Fq 4000 q) : P2.or mAdd (P2.or (opB tb___add__) (opR tb___radd__)) (Fr p) (Fr q) = .ok (FO (lo (p.1 * q.2 + q.1 * p.2) (p.2 * q.2))) := or_ff rfl (q_add hp hq)
theorem o_add_fi (hp : Fq 4000 p) (hn : Bn 4000 n) : P2.or mAdd (P2.or (opB tb___add__) (opR tb___radd__)) (Fr p) (.int n) = .ok (FO (lo (p.1 + n * p.2) p.2)) := or_fi rfl (q_addi hp hn)
theorem o_add_if (hp : Fq 4000 p) (hn : Bn 4000 n) : P2.or mAdd (P2.or (opB tb___add__) (opR tb___radd__)) (.int n) (Fr p) = .ok (FO (lo (p.1 + n * p.2) p.2)) := or_if rfl ((by rw [Int.add_comm]; exact q_radd hp hn))
theorem o_aug_ff (hp : Fq 4000 p) (hq : Fq 4000 q) : P2.or iAdd (P2.or (opB tb___add__) (opR tb___radd__)) (Fr p) (Fr q) = .ok (FO (lo (p.1 * q.2 + q.1 * p.2) (p.2 * q.2))) := or_ff rfl (q_add hp hq)
theorem o_aug_fi (hp : Fq 4000 p) (hn : Bn 4000 n) : P2.or iAdd (P2.or (opB tb___add__) (opR tb___radd__)) (Fr p) (.int n) = .ok (FO (lo (p.1 + n * p.2) p.2)) := or_fi rfl (q_addi hp hn)
theorem o_aug_if (hp : Fq 4000 p) (hn : Bn 4000 n) : P2.or iAdd (P2.or (opB tb___add__) (opR tb___radd__)) (.int n) (Fr p) = .ok (FO (lo (p.1 + n * p.2) p.2)) := or_if rfl ((by rw [Int.add_comm]; exact q_radd hp hn))
theorem o_sub_ff (hp : Fq 4000 p) (hq : Fq 4000 q) : P2.or iSub (P2.or (opB tb___sub__) (opR tb___rsub__)) (Fr p) (Fr q) = .ok (FO (lo (p.1 * q.2 - q.1 * p.2) (p.2 * q.2))) := or_ff rfl (q_sub hp hq)
theorem o_sub_fi (hp : Fq 4000 p) (hn : Bn 4000 n) : P2.or iSub (P2.or (opB tb___sub__) (opR tb___rsub__)) (Fr p) (.int n) = .ok (FO (lo (p.1 - n * p.2) p.2)) := or_fi rfl (q_subi hp hn)
theorem o_sub_if (hp : Fq 4000 p) (hn : Bn 4000 n) : P2.or iSub (P2.or (opB tb___sub__) (opR tb___rsub__)) (.int n) (Fr p) = .ok (FO (lo (n * p.2 - p.1) p.2)) := or_if rfl (q_rsub hp hn)
theorem o_mul_ff (hp : Fq 4000 p) (hq : Fq 4000 q) : P2.or mMul (P2.or (opB tb___mul__) (opR tb___rmul__)) (Fr p) (Fr q) = .ok (FO (lo (p.1 * q.1) (p.2 * q.2))) := or_ff rfl (q_mul hp hq)
theorem o_mul_fi (hp : Fq 4000 p) (hn : Bn 4000 n) : P2.or mMul (P2.or (opB tb___mul__) (opR tb___rmul__)) (Fr p) (.int n) = .ok (FO (lo (p.1 * n) p.2)) := or_fi rfl (q_muli hp hn)
theorem o_mul_if (hp : Fq 4000 p) (hn : Bn 4000 n) : P2.or mMul (P2.or (opB tb___mul__) (opR tb___rmul__)) (.int n) (Fr p) = .ok (FO (lo (p.1 * n) p.2)) := or_if rfl ((by rw [Int.mul_comm]; exact q_rmul hp hn))
@[simp] theorem o_add_ii (g : P2) (a b : Int) : P2.or mAdd g (.int a) (.int b) = okS (.int (a + b)) := (rfl)
@[simp] theorem o_add_ss (g : P2) (a b : Str) (h : mAdd (.str a) (.str b) = okS (.str (a ++ b))) : P2.or mAdd g (.str a) (.str b) = okS (.str (a ++ b)) := p2or_ok _ _ _ _ _ h
@[simp] theorem o_sub_ii (g : P2) (a b : Int) : P2.or iSub g (.int a) (.int b) = okS (.int (a - b)) := (rfl)
@[simp] theorem o_mul_ii (g : P2) (a b : Int) (h : okMul a b) : P2.or mMul g (.int a) (.int b) = okS (.int (a * b)) := p2or_ok _ _ _ _ _ (mMul_int a b h)
@[simp] theorem o_eq_ii (g : P2) (a b : Int) : P2.or dEq g (.int a) (.int b) = okS (.bl (decide (a = b))) := p2or_ok _ _ _ _ _ (dEq_int a b)
@[simp] theorem o_ne_ii (g : P2) (a b : Int) : P2.or dNe g (.int a) (.int b) = okS (.bl (!decide (a = b))) := p2or_ok _ _ _ _ _ (dNe_int a b)
@[simp] theorem o_cmp_ii (g : P2) (c : Int → Int → Bool) (a b : Int) : P2.or (iCmp c) g (.int a) (.int b) = okS (.bl (c a b)) := (rfl)
@[simp] theorem o_fdv_ii (g : P2) (a b : Int) (h : okDiv b) : P2.or iFdv g (.int a) (.int b) = okS (.int (a.fdiv b)) := p2or_ok _ _ _ _ _ (by simp [h])
@[simp] theorem o_neg_i (g : P1) (a : Int) : P1.or iNeg g (.int a) = okS (.int (-a)) := (rfl)
@[simp] theorem o_abs_i (g : PN) (a : Int) : PN.or bAbs g [.int a] = okS (.int a.natAbs) := (rfl)
theorem o_fdv_ff (hp : Fq 4000 p) (hq : Fq 4000 q) (h : q.1 ≠ 0) : P2.or iFdv (P2.or (opB tb___floordiv__) (opR tb___rfloordiv__)) (Fr p) (Fr q) = okS (.int ((p.1 * q.2).fdiv (p.2 * q.1))) := or_ff rfl (q_fdv hp hq h)
theorem o_fdv_fi (hp : Fq 4000 p) (hn : Bn 4000 n) (h : n ≠ 0) : P2.or iFdv (P2.or (opB tb___floordiv__) (opR tb___rfloordiv__)) (Fr p) (.int n) = okS (.int (p.1.fdiv (p.2 * n))) := or_fi rfl (q_fdvi hp hn h)
theorem o_fdv_if (hp : Fq 4000 p) (hn : Bn 4000 n) (h : p.1 ≠ 0) : P2.or iFdv (P2.or (opB tb___floordiv__) (opR tb___rfloordiv__)) (.int n) (Fr p) = okS (.int ((n * p.2).fdiv p.1)) := or_if rfl (q_rfdv hp hn h)
theorem o_fdv_ff0 (hp : Fq 4000 p) (d : Int) (hd : Bn 4000 d) : P2.or iFdv (P2.or (opB tb___floordiv__) (opR tb___rfloordiv__)) (Fr p) (Fr (0, d)) = .exc "DivisionByZero" [] [] () := or_ffx rfl (q_fdv0 hp d hd)
theorem o_fdv_fi0 (hp : Fq 4000 p) : P2.or iFdv (P2.or (opB tb___floordiv__) (opR tb___rfloordiv__)) (Fr p) (.int 0) = .exc "DivisionByZero" [] [] () := or_fix rfl (q_fdvi0 hp)
theorem o_fdv_if0 (hn : Bn 4000 n) (d : Int) (hd : Bn 4000 d) : P2.or iFdv (P2.or (opB tb___floordiv__) (opR tb___rfloordiv__)) (.int n) (Fr (0, d)) = .exc "DivisionByZero" [] [] () := or_ifx rfl (q_rfdv0 d n hd hn)
theorem o_lt_ff (hp : Fq 4000 p) (hq : Fq 4000 q) : P2.or (iCmp fun i j => decide (i < j)) (P2.or (opB tb___lt__) (opR tb___gt__)) (Fr p) (Fr q) = okS (.bl (decide (p.1 * q.2 < q.1 * p.2))) := or_ff rfl (q_lt hp hq)
theorem o_lt_fi (hp : Fq 4000 p) (hn : Bn 4000 n) : P2.or (iCmp fun i j => decide (i < j)) (P2.or (opB tb___lt__) (opR tb___gt__)) (Fr p) (.int n) = okS (.bl (decide (p.1 < n * p.2))) := or_fi rfl (q_lti hp hn)
theorem o_lt_if (hp : Fq 4000 p) (hn : Bn 4000 n) : P2.or (iCmp fun i j => decide (i < j)) (P2.or (opB tb___lt__) (opR tb___gt__)) (.int n) (Fr p) = okS (.bl (decide (n * p.2 < p.1))) := or_if rfl (q_gti hp hn)
theorem o_le_ff (hp : Fq 4000 p) (hq : Fq 4000 q) : P2.or (iCmp fun i j => decide (i ≤ j)) (P2.or (opB tb___le__) (opR tb___ge__)) (Fr p) (Fr q) = okS (.bl (decide (p.1 * q.2 ≤ q.1 * p.2))) := or_ff rfl (q_le hp hq)
theorem o_le_fi (hp : Fq 4000 p) (hn : Bn 4000 n) : P2.or (iCmp fun i j => decide (i ≤ j)) (P2.or (opB tb___le__) (opR tb___ge__)) (Fr p) (.int n) = okS (.bl (decide (p.1 ≤ n * p.2))) := or_fi rfl (q_lei hp hn)
theorem o_le_if (hp : Fq 4000 p) (hn : Bn 4000 n) : P2.or (iCmp fun i j => decide (i ≤ j)) (P2.or (opB tb___le__) (opR tb___ge__)) (.int n) (Fr p) = okS (.bl (decide (n * p.2 ≤ p.1))) := or_if rfl (q_gei hp hn)
theorem o_gt_ff (hp : Fq 4000 p) (hq : Fq 4000 q) : P2.or (iCmp fun i j => decide (j < i)) (P2.or (opB tb___gt__) (opR tb___lt__)) (Fr p) (Fr q) = okS (.bl (decide (q.1 * p.2 < p.1 * q.2))) := or_ff rfl (q_gt hp hq)
theorem o_gt_fi (hp : Fq 4000 p) (hn : Bn 4000 n) : P2.or (iCmp fun i j => decide (j < i)) (P2.or (opB tb___gt__) (opR tb___lt__)) (Fr p) (.int n) = okS (.bl (decide (n * p.2 < p.1))) := or_fi rfl (q_gti hp hn)
theorem o_gt_if (hp : Fq 4000 p) (hn : Bn 4000 n) : P2.or (iCmp fun i j => decide (j < i)) (P2.or (opB tb___gt__) (opR tb___lt__)) (.int n) (Fr p) = okS (.bl (decide (p.1 < n * p.2))) := or_if rfl (q_lti hp hn)
theorem o_ge_ff (hp : Fq 4000 p) (hq : Fq 4000 q) : P2.or (iCmp fun i j => decide (j ≤ i)) (P2.or (opB tb___ge__) (opR tb___le__)) (Fr p) (Fr q) = okS (.bl (decide (q.1 * p.2 ≤ p.1 * q.2))) := or_ff rfl (q_ge hp hq)
theorem o_ge_fi (hp : Fq 4000 p) (hn : Bn 4000 n) : P2.or (iCmp fun i j => decide (j ≤ i)) (P2.or (opB tb___ge__) (opR tb___le__)) (Fr p) (.int n) = okS (.bl (decide (n * p.2 ≤ p.1))) := or_fi rfl (q_gei hp hn)
theorem o_ge_if (hp : Fq 4000 p) (hn : Bn 4000 n) : P2.or (iCmp fun i j => decide (j ≤ i)) (P2.or (opB tb___ge__) (opR tb___le__)) (.int n) (Fr p) = okS (.bl (decide (p.1 ≤ n * p.2))) := or_if rfl (q_lei hp hn)
theorem o_eq_ff : P2.or dEq (P2.or (opB tb___eq__) (opR tb___eq__)) (Fr p) (Fr q) = okS (.bl (decide (p = q))) := or_ff (dEq_f _) q_eq
theorem o_eq_fi : P2.or dEq (P2.or (opB tb___eq__) (opR tb___eq__)) (Fr p) (.int n) = okS (.bl (decide (p = (n, 1)))) := or_fi (dEq_f _) q_eqi
theorem o_eq_if : P2.or dEq (P2.or (opB tb___eq__) (opR tb___eq__)) (.int n) (Fr p) = okS (.bl (decide (p = (n, 1)))) := or_if dEq_if q_eqi
theorem o_ne_ff : P2.or dNe (P2.or (opN tb___eq__) (opNR tb___eq__)) (Fr p) (Fr q) = okS (.bl (!decide (p = q))) := orN_ff (dNe_f _) q_eq
theorem o_ne_fi : P2.or dNe (P2.or (opN tb___eq__) (opNR tb___eq__)) (Fr p) (.int n) = okS (.bl (!decide (p = (n, 1)))) := orN_fi (dNe_f _) q_eqi
theorem o_ne_if : P2.or dNe (P2.or (opN tb___eq__) (opNR tb___eq__)) (.int n) (Fr p) = okS (.bl (!decide (p = (n, 1)))) := orN_if dNe_if q_eqi
theorem o_neg_f (hp : Fq 4000 p) : P1.or iNeg (opU tb___neg__) (Fr p) = .ok (FO (lo (-p.1) p.2)) := by
  have h := q_neg hp
  show (P1.or iNeg (opU [("Frac", m_Frac___neg__)])) (fr p) = _
  unfold P1.or
  simp [opU, mOf, ofFn, h, FO]
theorem o_abs_f (hp : Fq 4000 p) : PN.or bAbs (opU1 tb___abs__) [Fr p] = .ok (FO (lo p.1.natAbs p.2)) := by
  have h := q_abs hp
  show (PN.or bAbs (opU1 [("Frac", m_Frac___abs__)])) [fr p] = _
  unfold PN.or
  simp [opU1, opU, mOf, ofFn, h, FO]
theorem o_bool_f : PN.or bBool (opBo tb___bool__) [Fr p] = okS (.bl (p.1 != 0)) := by
  have h := q_bool (p := p)
  show (PN.or bBool (opBo [("Frac", m_Frac___bool__)])) [fr p] = _
  unfold PN.or
  simp [opBo, opU, mOf, ofFn, h, boR]
theorem q_mod (hp : Fq 4000 p) (hq : Fq 4000 q) (h0 : q.1 ≠ 0) (hf : Bn 2000 ((p.1 * q.2).fdiv (p.2 * q.1))) (hp' : Fq 1000 p) (hq' : Fq 1000 q) : m_Frac___mod__ [.d (Fr p), .d (Fr q)] = .ok (FO (lo (p.1 * q.2 - q.1 * ((p.1 * q.2).fdiv (p.2 * q.1)) * p.2) (p.2 * q.2)), [.d (Fr p), .d (Fr q)]) := by
  have h1 := o_fdv_ff hp hq h0
  have hfd := bn_mono hf (show 2000 ≤ 4000 by decide)
  have h2 := o_mul_fi hq hfd
  have hz : Fq 4000 (lo (q.1 * ((p.1 * q.2).fdiv (p.2 * q.1))) q.2) := (fq_lo hq.ne (bn_mul hq'.b1 hf) (bn_mono hq'.b2 (by decide))).mono (by decide)
  have h3 := o_sub_ff hp hz
  have e : lo (p.1 * (lo (q.1 * ((p.1 * q.2).fdiv (p.2 * q.1))) q.2).2 - (lo (q.1 * ((p.1 * q.2).fdiv (p.2 * q.1))) q.2).1 * p.2) (p.2 * (lo (q.1 * ((p.1 * q.2).fdiv (p.2 * q.1))) q.2).2) = lo (p.1 * q.2 - q.1 * ((p.1 * q.2).fdiv (p.2 * q.1)) * p.2) (p.2 * q.2) := by
    have w := lo_mul (n := q.1 * ((p.1 * q.2).fdiv (p.2 * q.1))) hq.ne
    refine lo_eq (mul_ne hp.ne hz.ne) (mul_ne hp.ne hq.ne) ?_
    generalize (p.1 * q.2).fdiv (p.2 * q.1) = k at *
    generalize lo (q.1 * k) q.2 = z at *
    grind
  rw [e] at h3
  simp [mkFn_ap, m_Frac___mod__, b_Frac___mod__, h1, h2, h3]
theorem q_modi (hp : Fq 4000 p) (hn : Bn 4000 n) (h0 : n ≠ 0) (hf : Bn 2000 (p.1.fdiv (p.2 * n))) (hn' : Bn 1000 n) : m_Frac___mod__ [.d (Fr p), .d (.int n)] = .ok (FO (lo (p.1 - n * (p.1.fdiv (p.2 * n)) * p.2) p.2), [.d (Fr p), .d (.int n)]) := by
  have h1 := o_fdv_fi hp hn h0
  have hfd := bn_mono hf (show 2000 ≤ 4000 by decide)
  have h2 := ok_mul hn hfd (by decide) (by decide)
  have h3 := o_sub_fi hp (bn_mono (bn_mul hn' hf) (show 1000 + 2000 ≤ 4000 by decide))
  simp [mkFn_ap, m_Frac___mod__, b_Frac___mod__, ti_Frac_int, h1, h2, h3]
theorem q_rmod (hp : Fq 4000 p) (hn : Bn 4000 n) (h0 : p.1 ≠ 0) (hf : Bn 2000 ((n * p.2).fdiv p.1)) (hp' : Fq 1000 p) : m_Frac___rmod__ [.d (Fr p), .d (.int n)] = .ok (FO (lo (n * p.2 - p.1 * ((n * p.2).fdiv p.1)) p.2), [.d (Fr p), .d (.int n)]) := by
  have h1 := o_fdv_if hp hn h0
  have hfd := bn_mono hf (show 2000 ≤ 4000 by decide)
  have h2 := o_mul_fi hp hfd
  have hz : Fq 4000 (lo (p.1 * ((n * p.2).fdiv p.1)) p.2) := (fq_lo hp.ne (bn_mul hp'.b1 hf) (bn_mono hp'.b2 (by decide))).mono (by decide)
  have h3 := o_sub_if hz hn
  have e : lo (n * (lo (p.1 * ((n * p.2).fdiv p.1)) p.2).2 - (lo (p.1 * ((n * p.2).fdiv p.1)) p.2).1) (lo (p.1 * ((n * p.2).fdiv p.1)) p.2).2 = lo (n * p.2 - p.1 * ((n * p.2).fdiv p.1)) p.2 := by
    have w := lo_mul (n := p.1 * ((n * p.2).fdiv p.1)) hp.ne
    refine lo_eq hz.ne hp.ne ?_
    generalize (n * p.2).fdiv p.1 = k at *
    generalize lo (p.1 * k) p.2 = z at *
    grind
  rw [e] at h3
  simp [mkFn_ap, m_Frac___rmod__, b_Frac___rmod__, ti_int, h1, h2, h3]
theorem q_mod0 (hp : Fq 4000 p) (d : Int) (hd : Bn 4000 d) : m_Frac___mod__ [.d (Fr p), .d (Fr (0, d))] = .exc "DivisionByZero" [] [] [.d (Fr p), .d (Fr (0, d))] := by
  have h1 := o_fdv_ff0 hp d hd
  simp [mkFn_ap, m_Frac___mod__, b_Frac___mod__, h1]
theorem q_modi0 (hp : Fq 4000 p) : m_Frac___mod__ [.d (Fr p), .d (.int 0)] = .exc "DivisionByZero" [] [] [.d (Fr p), .d (.int 0)] := by
  have h1 := o_fdv_fi0 hp
  simp [mkFn_ap, m_Frac___mod__, b_Frac___mod__, ti_Frac_int, h1]
theorem q_rmod0 (hn : Bn 4000 n) (d : Int) (hd : Bn 4000 d) : m_Frac___rmod__ [.d (Fr (0, d)), .d (.int n)] = .exc "DivisionByZero" [] [] [.d (Fr (0, d)), .d (.int n)] := by
  have h1 := o_fdv_if0 hn d hd
  simp [mkFn_ap, m_Frac___rmod__, b_Frac___rmod__, ti_int, h1]
theorem o_mod_ff (hp : Fq 4000 p) (hq : Fq 4000 q) (h0 : q.1 ≠ 0) (hf : Bn 2000 ((p.1 * q.2).fdiv (p.2 * q.1))) (hp' : Fq 1000 p) (hq' : Fq 1000 q) : P2.or iMod (P2.or (opB tb___mod__) (opR tb___rmod__)) (Fr p) (Fr q) = .ok (FO (lo (p.1 * q.2 - q.1 * ((p.1 * q.2).fdiv (p.2 * q.1)) * p.2) (p.2 * q.2))) := or_ff rfl (q_mod hp hq h0 hf hp' hq')
theorem o_mod_fi (hp : Fq 4000 p) (hn : Bn 4000 n) (h0 : n ≠ 0) (hf : Bn 2000 (p.1.fdiv (p.2 * n))) (hn' : Bn 1000 n) : P2.or iMod (P2.or (opB tb___mod__) (opR tb___rmod__)) (Fr p) (.int n) = .ok (FO (lo (p.1 - n * (p.1.fdiv (p.2 * n)) * p.2) p.2)) := or_fi rfl (q_modi hp hn h0 hf hn')
theorem o_mod_if (hp : Fq 4000 p) (hn : Bn 4000 n) (h0 : p.1 ≠ 0) (hf : Bn 2000 ((n * p.2).fdiv p.1)) (hp' : Fq 1000 p) : P2.or iMod (P2.or (opB tb___mod__) (opR tb___rmod__)) (.int n) (Fr p) = .ok (FO (lo (n * p.2 - p.1 * ((n * p.2).fdiv p.1)) p.2)) := or_if rfl (q_rmod hp hn h0 hf hp')
theorem o_mod_ff0 (hp : Fq 4000 p) (d : Int) (hd : Bn 4000 d) : P2.or iMod (P2.or (opB tb___mod__) (opR tb___rmod__)) (Fr p) (Fr (0, d)) = .exc "DivisionByZero" [] [] () := or_ffx rfl (q_mod0 hp d hd)
theorem o_mod_fi0 (hp : Fq 4000 p) : P2.or iMod (P2.or (opB tb___mod__) (opR tb___rmod__)) (Fr p) (.int 0) = .exc "DivisionByZero" [] [] () := or_fix rfl (q_modi0 hp)
theorem o_mod_if0 (hn : Bn 4000 n) (d : Int) (hd : Bn 4000 d) : P2.or iMod (P2.or (opB tb___mod__) (opR tb___rmod__)) (.int n) (Fr (0, d)) = .exc "DivisionByZero" [] [] () := or_ifx rfl (q_rmod0 hn d hd)
end
end Fx
namespace Fx
open PySem PySem.Spec PyProof.Rows L2 L2H
/-! ### all of a list of pairs -/
def oneL (vs : List Nat) (g : Gx) (t : Tx) (e : Ex) (x : D) (δ : En) : R En (D × En) := (g x δ).bind fun p => match p.1 with
  | .nx => (t p.2).bind fun q => if q.1 = true then (e q.2).bind fun r => .ok (r.1.fz, wipeN vs r.2) else .stk
  | _ => .stk
def oneK (vs : List Nat) (t : Tx) (e : Ex) : Fl × En → R En (D × En) := fun p => match p.1 with
  | .nx => (t p.2).bind fun q => if q.1 = true then (e q.2).bind fun r => .ok (r.1.fz, wipeN vs r.2) else .stk
  | _ => .stk
def oneE (vs : List Nat) : Sl × En → R En (D × En) := fun r => .ok (r.1.fz, wipeN vs r.2)
theorem oneL_ap (vs : List Nat) (g : Gx) (t : Tx) (e : Ex) (x : D) (δ : En) : oneL vs g t e x δ = (g x δ).bind (oneK vs t e) := (rfl)
@[simp] theorem oneK_ap (vs : List Nat) (e : Ex) (δ : En) : oneK vs tYs e (.nx, δ) = (e δ).bind (oneE vs) := (rfl)
@[simp] theorem oneE_ap (vs : List Nat) (s : Sl) (δ : En) : oneE vs (s, δ) = .ok (s.fz, wipeN vs δ) := (rfl)
theorem lcL_map {vs : List Nat} {g : Gx} {t : Tx} {e : Ex} {f : D → D} {δ : En} : ∀ (xs acc : List D), (∀ x ∈ xs, oneL vs g t e x δ = .ok (f x, δ)) → acc.length + xs.length ≤ 16777216 → lcL vs g t e xs acc δ = .ok (acc ++ xs.map f, δ)
  | [], acc, _, _ => by simp [lcL]
  | x :: xs, acc, h, hl => by
    have h1 := h x List.mem_cons_self
    unfold oneL at h1
    simp only [List.length_cons] at hl
    have IH := lcL_map xs (acc ++ [f x]) (fun y hy => h y (List.mem_cons_of_mem _ hy)) (by simp; omega)
    unfold lcL
    cases hg : g x δ with
    | ok p =>
      rw [hg] at h1
      obtain ⟨fl, δ1⟩ := p
      cases fl with
      | nx =>
        simp only [bind_ok] at h1 ⊢
        cases ht : t δ1 with
        | ok q =>
          rw [ht] at h1
          obtain ⟨b, δ2⟩ := q
          cases b with
          | true =>
            simp only [bind_ok, if_true] at h1 ⊢
            cases he : e δ2 with
            | ok r =>
              rw [he] at h1
              simp only [bind_ok, R.ok.injEq, Prod.mk.injEq] at h1 ⊢
              rw [h1.1, h1.2, if_pos (by omega), IH]
              simp
            | exc c ns xs z => rw [he] at h1; cases h1
            | stk => rw [he] at h1; cases h1
          | false => simp at h1
        | exc c ns xs z => rw [ht] at h1; cases h1
        | stk => rw [ht] at h1; cases h1
      | _ => cases h1
    | exc c ns xs z => rw [hg] at h1; cases h1
    | stk => rw [hg] at h1; cases h1
theorem lcL_yes {vs : List Nat} {g : Gx} {t : Tx} {e : Ex} {δ : En} (xs : List D) (h : ∀ x ∈ xs, oneL vs g t e x δ = .ok (.bl true, δ)) (hl : xs.length ≤ 16777216) : lcL vs g t e xs [] δ = .ok (xs.map fun _ => .bl true, δ) := by
  have := lcL_map (f := fun _ => D.bl true) xs [] h (by simpa using hl)
  simpa using this
variable {p q : Int × Int} {n : Int}
theorem one_is (a b c d e f g h k : Slot) : oneL [9, 10] (gTup 2 (gCons (gN 9) (gCons (gN 10) gNil))) tYs (cCall m__law_is [] (aC (cV 9) (aC (cV 10) aN))) (.tup [Fr p, T2 p]) [a, b, c, d, e, f, g, h, k, .no, .no] = .ok (.bl true, [a, b, c, d, e, f, g, h, k, .no, .no]) := by
  simp [oneL_ap, w_is, wipeN]
theorem o_add_ll (g : P2) (a b : List D) (h : (a ++ b).length ≤ 16777216) : P2.or mAdd g (.lst a) (.lst b) = .ok (.lst ((a ++ b).map Sl.d)) := p2or_ok _ _ _ _ _ (p2or_stk _ _ _ _ rfl |>.trans (p2or_stk _ _ _ _ rfl |>.trans (p2or_ok _ _ _ _ _ (if_pos h))))
theorem q_of2 : m_Frac_of [.d (Fr p)] = .ok (.d (Fr p), [.d (Fr p)]) := by
  have h : m_frac_of [.d (Fr p)] = .ok (.d (Fr p), [.d (Fr p)]) := q_of
  simp [mkFn_ap, m_Frac_of, b_Frac_of, h]
theorem q_of2i (hn : Bn 4000 n) : m_Frac_of [.d (.int n)] = .ok (FO (n, 1), [.d (.int n)]) := by
  have h : m_frac_of [.d (.int n)] = .ok (FO (n, 1), [.d (.int n)]) := q_ofi hn
  simp [mkFn_ap, m_Frac_of, b_Frac_of, h]
theorem mk3 (n d : Int) (h : d ≠ 0) (hd : d.natAbs < divb) (δ : En) : upM (m_Frac___init__ [.obj "Frac" [] [], .d (.int n), .d (.int d)]) δ = .ok (FO (lo n d), δ) := mk2 n d h hd δ
theorem mk1 (n : Int) (δ : En) : upM (m_Frac___init__ [.obj "Frac" [] [], .d (.int n), .d (.int 1)]) δ = .ok (FO (n, 1), δ) := by
  rw [mk3 n 1 (by decide) (lt_divb (k := 9000) (bn_lit (by decide) (by decide)) (by decide)), lo_one]
theorem lo_fst (hp : Fq 4000 p) : lo (-p.1) p.2 = (-p.1, p.2) := lo_self (p := (-p.1, p.2)) hp.pos (by show Int.gcd (-p.1) p.2 = 1; rw [Int.neg_gcd]; exact hp.cop)
theorem lo_abs (hp : Fq 4000 p) : lo (p.1.natAbs : Int) p.2 = ((p.1.natAbs : Int), p.2) := lo_self (p := ((p.1.natAbs : Int), p.2)) hp.pos (by show Int.gcd (p.1.natAbs : Int) p.2 = 1; rw [← hp.cop]; simp [Int.gcd])
theorem t2_one (p : Int × Int) : T2 (p.1, p.2) = T2 p := rfl
theorem b_one : Bn 4000 1 := bn_lit (by decide) (by decide)
theorem b_mone : Bn 4000 (-1) := bn_lit (by decide) (by decide)
theorem w_sums (hp : Fq 4000 p) (hq : Fq 4000 q) (hn : Bn 4000 n) : m__law_sums [.d (Fr p), .d (Fr q), .d (.int n), .d (T2 p), .d (T2 q)] = .ok (.d (.bl true), [.d (Fr p), .d (Fr q), .d (.int n), .d (T2 p), .d (T2 q)]) := by
  have hm := fq_int hn
  have a1 := o_add_ff hp hq
  have a2 := o_add_fi hp hn
  have a3 := o_add_if hp hn
  have a4 := o_aug_ff hp hq
  have a5 := o_aug_if hp hn
  have a6 := o_sub_ff hp hq
  have a7 := o_sub_fi hp hn
  have a8 := o_sub_if hp hn
  have a9 := o_mul_ff hp hq
  have a10 := o_mul_fi hp hn
  have a11 := o_mul_if hp hn
  have a12 := o_neg_f hp
  have a13 := o_abs_f hp
  rw [lo_fst hp] at a12
  rw [lo_abs hp] at a13
  have s1 := w_sum hp hq 1 b_one
  have s2 := w_sum hp hm 1 b_one
  have s3 := w_sum hp hq (-1) b_mone
  have s4 := w_sum hp hm (-1) b_mone
  have s5 := w_sum hm hp (-1) b_mone
  have s6 := w_times hp hq
  have s7 := w_times hp hm
  have m1 := mk1 n
  have m2 := mk1 0
  have m3 := q_of2 (p := p)
  have m4 := q_of2i hn
  simp [mkFn_ap, m__law_sums, b__law_sums, a1, a2, a3, a4, a5, a6, a7, a8, a9, a10, a11, a12, a13, s1, s2, s3, s4, s5, s6, s7, m1, m2, m3, m4, o_add_ll, wipeN, Int.neg_mul, ← Int.sub_eq_add_neg]
  rw [lcL_yes _ (by simp [one_is]) (by simp)]
  simp [wipeN]
end Fx
namespace Fx
open PySem PySem.Spec PyProof.Rows L2 L2H
variable {p q : Int × Int} {n : Int}
/-! ### powers -/
theorem bn_pow {c : Nat} {i : Int} (h : Bn c i) : ∀ k : Nat, Bn (c * k + 1) (i ^ k)
  | 0 => by rw [bn_def]; simp
  | k + 1 => by
    rw [Int.pow_succ]
    exact bn_mono (bn_mul (bn_pow h k) h) (by rw [Nat.mul_succ]; omega)
noncomputable def pw_b (i : Nat) (e1 e2 : Ex) : Sx := (sSeq (sSet 2 (c2 mMul (cV 2) e1)) (sSet 3 (c2 mMul (cV 3) e2)))
theorem pw_for {e1 e2 : Ex} (s0 s1 : Slot) (hp : Fq 120 p) (h1 : ∀ a b c, e1 [s0, s1, a, b, c] = .ok (.d (.int p.1), [s0, s1, a, b, c])) (h2 : ∀ a b c, e2 [s0, s1, a, b, c] = .ok (.d (.int p.2), [s0, s1, a, b, c])) :
    ∀ (l : List D) (j : Nat) (z : Slot), j + l.length ≤ 64 → ∃ z', forL (gN 4) (pw_b 4 e1 e2) l [s0, s1, .loc (.d (.int (p.1 ^ j))), .loc (.d (.int (p.2 ^ j))), z] = .ok (.nx, [s0, s1, .loc (.d (.int (p.1 ^ (j + l.length)))), .loc (.d (.int (p.2 ^ (j + l.length)))), z'])
  | [], j, z, _ => ⟨z, by simp⟩
  | d :: l, j, z, hl => by
    simp only [List.length_cons] at hl
    have b1 := bn_mono (bn_pow hp.b1 j) (show 120 * j + 1 ≤ 10000 by omega)
    have b2 := bn_mono (bn_pow hp.b2 j) (show 120 * j + 1 ≤ 10000 by omega)
    have k1 := ok_mul b1 hp.b1 (by decide) (by decide)
    have k2 := ok_mul b2 hp.b2 (by decide) (by decide)
    obtain ⟨z', IH⟩ := pw_for s0 s1 hp h1 h2 l (j + 1) (.loc (.d d)) (by omega)
    refine ⟨z', ?_⟩
    rw [Int.pow_succ, Int.pow_succ, show j + 1 + l.length = j + (d :: l).length by simp; omega] at IH
    rw [forL_cons]
    generalize j + (d :: l).length = J at IH ⊢
    simp [pw_b, k1, k2, h1, h2]
    simp only [pw_b] at IH
    rw [IH]
theorem gcd_pow {a b : Int} (h : Int.gcd a b = 1) (k : Nat) : Int.gcd (a ^ k) (b ^ k) = 1 := by
  rw [Int.gcd_eq_natAbs_gcd_natAbs] at h ⊢
  rw [Int.natAbs_pow, Int.natAbs_pow]
  exact Nat.Coprime.pow k k (show Nat.Coprime a.natAbs b.natAbs from h)
theorem pos_pow {b : Int} (h : 0 < b) (k : Nat) : 0 < b ^ k := Int.pow_pos h
theorem rng_len (k : Nat) : (rng 0 k).length = k := by simp
theorem q_pow (hp : Fq 120 p) (k : Nat) (hk : k ≤ 64) : m_Frac___pow__ [.d (Fr p), .d (.int k)] = .ok (FO (p.1 ^ k, p.2 ^ k), [.d (Fr p), .d (.int k)]) := by
  obtain ⟨z, hf⟩ := pw_for (e1 := cFldV "num" ["Frac"] 0) (e2 := cFldV "den" ["Frac"] 0) (.par (.d (Fr p))) (.par (.d (.int k))) hp (by intro a b c; simp [Fr]) (by intro a b c; simp [Fr]) (rng 0 k) 0 .no (by rw [rng_len]; omega)
  rw [rng_len] at hf
  simp only [Int.pow_zero, Nat.zero_add, pw_b] at hf
  have c1 : (0 : Int) ≤ k := by omega
  have c2 : (k : Int) ≤ 64 := by omega
  have c3 : -4611686018427387904 ≤ (k : Int) ∧ (k : Int) < 4611686018427387904 := by omega
  have hi := mk3 (p.1 ^ k) (p.2 ^ k) (by have := pos_pow hp.pos k; omega) (lt_divb (bn_mono (bn_pow hp.b2 k) (show 120 * k + 1 ≤ 9000 by omega)) (by decide))
  rw [lo_self (p := (p.1 ^ k, p.2 ^ k)) (pos_pow hp.pos k) (gcd_pow hp.cop k)] at hi
  simp only [rng, Int.zero_add] at hf
  simp [mkFn_ap, m_Frac___pow__, b_Frac___pow__, c1, c2, c3, hf, hi, kCh2_b]
theorem o_pow_f (hp : Fq 120 p) (k : Nat) (hk : k ≤ 64) : P2.or iPow (opB tb___pow__) (Fr p) (.int k) = .ok (FO (p.1 ^ k, p.2 ^ k)) := by
  have h := q_pow hp k hk
  rw [P2.or_stk rfl]
  show opB [("Frac", m_Frac___pow__)] _ _ = _
  rw [opB_fi]
  exact ofFn_ok h
theorem w_power (hp : Fq 120 p) (k : Nat) (hk : k ≤ 64) : m__law_power [.d (T2 p), .d (.int k)] = .ok (.d (T2 (p.1 ^ k, p.2 ^ k)), [.d (T2 p), .d (.int k)]) := by
  obtain ⟨z, hf⟩ := pw_for (e1 := cIxV 0 (cC (.int 0))) (e2 := cIxV 0 (cC (.int 1))) (.par (.d (T2 p))) (.par (.d (.int k))) hp (by intro a b c; simp) (by intro a b c; simp) (rng 0 k) 0 .no (by rw [rng_len]; omega)
  rw [rng_len] at hf
  simp only [Int.pow_zero, Nat.zero_add, pw_b] at hf
  have c3 : -4611686018427387904 ≤ (k : Int) ∧ (k : Int) < 4611686018427387904 := by omega
  simp only [rng, Int.zero_add] at hf
  simp [mkFn_ap, m__law_power, b__law_power, c3, hf]
theorem one_pw (hp : Fq 120 p) (k : Nat) (hk : k ≤ 64) (a c : Slot) : oneL [3, 4] (gTup 2 (gCons (gN 3) (gCons (gN 4) gNil))) tYs (cCall m__law_is [] (aC (cV 3) (aC (cCall m__law_power [] (aC (cV 1) (aC (cV 4) aN))) aN))) (.tup [Fr (p.1 ^ k, p.2 ^ k), .int k]) [a, .par (.d (T2 p)), c, .no, .no] = .ok (.bl true, [a, .par (.d (T2 p)), c, .no, .no]) := by
  have h := w_power hp k hk
  simp [oneL_ap, w_is, wipeN, h]
theorem w_powers (hp : Fq 120 p) : m__law_powers [.d (Fr p), .d (T2 p)] = .ok (.d (.bl true), [.d (Fr p), .d (T2 p)]) := by
  have h0 : P2.or iPow (opB tb___pow__) (Fr p) (.int 0) = .ok (FO (p.1 ^ 0, p.2 ^ 0)) := o_pow_f hp 0 (by decide)
  have o0 := one_pw hp 0 (by decide)
  rw [show ((0 : Nat) : Int) = 0 from rfl] at o0
  have h1 : P2.or iPow (opB tb___pow__) (Fr p) (.int 1) = .ok (FO (p.1 ^ 1, p.2 ^ 1)) := o_pow_f hp 1 (by decide)
  have o1 := one_pw hp 1 (by decide)
  rw [show ((1 : Nat) : Int) = 1 from rfl] at o1
  have h2 : P2.or iPow (opB tb___pow__) (Fr p) (.int 2) = .ok (FO (p.1 ^ 2, p.2 ^ 2)) := o_pow_f hp 2 (by decide)
  have o2 := one_pw hp 2 (by decide)
  rw [show ((2 : Nat) : Int) = 2 from rfl] at o2
  have h3 : P2.or iPow (opB tb___pow__) (Fr p) (.int 3) = .ok (FO (p.1 ^ 3, p.2 ^ 3)) := o_pow_f hp 3 (by decide)
  have o3 := one_pw hp 3 (by decide)
  rw [show ((3 : Nat) : Int) = 3 from rfl] at o3
  have h4 : P2.or iPow (opB tb___pow__) (Fr p) (.int 4) = .ok (FO (p.1 ^ 4, p.2 ^ 4)) := o_pow_f hp 4 (by decide)
  have o4 := one_pw hp 4 (by decide)
  rw [show ((4 : Nat) : Int) = 4 from rfl] at o4
  have h5 : P2.or iPow (opB tb___pow__) (Fr p) (.int 5) = .ok (FO (p.1 ^ 5, p.2 ^ 5)) := o_pow_f hp 5 (by decide)
  have o5 := one_pw hp 5 (by decide)
  rw [show ((5 : Nat) : Int) = 5 from rfl] at o5
  have h6 : P2.or iPow (opB tb___pow__) (Fr p) (.int 6) = .ok (FO (p.1 ^ 6, p.2 ^ 6)) := o_pow_f hp 6 (by decide)
  have o6 := one_pw hp 6 (by decide)
  rw [show ((6 : Nat) : Int) = 6 from rfl] at o6
  simp only [Int.pow_zero] at h0 o0
  simp [mkFn_ap, m__law_powers, b__law_powers, h0, h1, h2, h3, h4, h5, h6]
  rw [lcL_yes _ (by simp [o0, o1, o2, o3, o4, o5, o6]) (by simp)]
  simp [wipeN]
end Fx
namespace Fx
open PySem PySem.Spec PyProof.Rows L2 L2H
variable {p q : Int × Int} {n : Int}
/-! ### floors and rests -/
theorem bn_fdiv {k : Nat} {a b : Int} (h : Bn k a) : Bn k (a.fdiv b) := bn_le h (Int.natAbs_fdiv_le_natAbs a b)
theorem w_floors {d e : D} {p q : Int × Int} (p2 : p.2 ≠ 0) (q1 : q.1 ≠ 0) (q2 : q.2 ≠ 0) (b1 : Bn 200 p.1) (b2 : Bn 200 p.2) (b3 : Bn 200 q.1) (b4 : Bn 200 q.2)
    (h1 : P2.or iFdv (P2.or (opB tb___floordiv__) (opR tb___rfloordiv__)) d e = okS (.int ((p.1 * q.2).fdiv (p.2 * q.1))))
    (h2 : P2.or iMod (P2.or (opB tb___mod__) (opR tb___rmod__)) d e = .ok (FO (lo (p.1 * q.2 - q.1 * ((p.1 * q.2).fdiv (p.2 * q.1)) * p.2) (p.2 * q.2)))) :
    m__law_floors [.d d, .d e, .d (T2 p), .d (T2 q)] = .ok (.d (.bl true), [.d d, .d e, .d (T2 p), .d (T2 q)]) := by
  have k1 := ok_mul b1 b4 (by decide) (by decide)
  have k2 := ok_mul b2 b3 (by decide) (by decide)
  have nz := mul_ne p2 q1
  have l1 := w_low (p.1 * q.2) (p.2 * q.1) nz (lt_divb (bn_mul b2 b3) (by decide))
  have ok : okDiv (lo (p.1 * q.2) (p.2 * q.1)).2 := ⟨by have := lo_pos (n := p.1 * q.2) nz; omega, lt_divb (bn_le (bn_mul b2 b3) (lo_le nz).2) (by decide)⟩
  have fe := fdiv_lo (n := p.1 * q.2) nz
  have bf : Bn 400 ((p.1 * q.2).fdiv (p.2 * q.1)) := bn_fdiv (bn_mul b1 b4)
  have k3 := ok_mul b3 bf (by decide) (by decide)
  have s1 := w_sum' (p := p) (q := (q.1 * ((p.1 * q.2).fdiv (p.2 * q.1)), q.2)) (k := 4000) p2 q2 (bn_mono b1 (by decide)) (bn_mono b2 (by decide)) (bn_mono (bn_mul b3 bf) (by decide)) (bn_mono b4 (by decide)) (by decide) (-1) b_mone
  simp only [Int.neg_mul, Int.one_mul, ← Int.sub_eq_add_neg] at s1
  have wi := w_int ((p.1 * q.2).fdiv (p.2 * q.1))
  simp [mkFn_ap, m__law_floors, b__law_floors, k1, k2, l1, ok, fe, k3, s1, wi, h1, h2, w_is]
theorem w_fl_ff (hp : Fq 200 p) (hq : Fq 200 q) (h0 : q.1 ≠ 0) : m__law_floors [.d (Fr p), .d (Fr q), .d (T2 p), .d (T2 q)] = .ok (.d (.bl true), [.d (Fr p), .d (Fr q), .d (T2 p), .d (T2 q)]) :=
  w_floors hp.ne h0 hq.ne hp.b1 hp.b2 hq.b1 hq.b2 (o_fdv_ff (hp.mono (by decide)) (hq.mono (by decide)) h0) (o_mod_ff (hp.mono (by decide)) (hq.mono (by decide)) h0 (bn_mono (bn_fdiv (bn_mul hp.b1 hq.b2)) (by decide)) (hp.mono (by decide)) (hq.mono (by decide)))
theorem w_fl_fi (hp : Fq 200 p) (hn : Bn 200 n) (h0 : n ≠ 0) : m__law_floors [.d (Fr p), .d (.int n), .d (T2 p), .d (T2 (n, 1))] = .ok (.d (.bl true), [.d (Fr p), .d (.int n), .d (T2 p), .d (T2 (n, 1))]) := by
  refine w_floors (q := (n, 1)) hp.ne h0 (by simp) hp.b1 hp.b2 hn (bn_lit (i := 1) (by decide) (by decide)) ?_ ?_
  · have := o_fdv_fi (hp.mono (by decide)) (bn_mono hn (by decide)) h0
    simpa using this
  · have := o_mod_fi (hp.mono (by decide)) (bn_mono hn (by decide)) h0 (bn_mono (bn_fdiv hp.b1) (by decide)) (bn_mono hn (by decide))
    simpa using this
theorem w_fl_if (hp : Fq 200 p) (hn : Bn 200 n) (h0 : p.1 ≠ 0) : m__law_floors [.d (.int n), .d (Fr p), .d (T2 (n, 1)), .d (T2 p)] = .ok (.d (.bl true), [.d (.int n), .d (Fr p), .d (T2 (n, 1)), .d (T2 p)]) := by
  refine w_floors (p := (n, 1)) (q := p) (by simp) h0 hp.ne hn (bn_lit (i := 1) (by decide) (by decide)) hp.b1 hp.b2 ?_ ?_
  · have := o_fdv_if (hp.mono (by decide)) (bn_mono hn (by decide)) h0
    simpa using this
  · have := o_mod_if (hp.mono (by decide)) (bn_mono hn (by decide)) h0 (bn_mono (bn_fdiv (bn_mul hn hp.b2)) (by decide)) (hp.mono (by decide))
    simpa using this
theorem over_rcv (n : String) (tb : List (String × Fn)) : rcv "over" [("Frac", m_Frac_over)] (.d (Fr p)) = some m_Frac_over := by simp [rcv, Fr]
theorem q_over2 (hp : Fq 4000 p) (hq : Fq 4000 q) (h0 : q.1 ≠ 0) : m_Frac_over [.d (Fr p), .d (Fr q)] = .ok (FO (lo (p.1 * q.2) (p.2 * q.1)), [.d (Fr p), .d (Fr q)]) := q_over hp hq h0
theorem q_over2i (hp : Fq 4000 p) (hn : Bn 4000 n) (h0 : n ≠ 0) : m_Frac_over [.d (Fr p), .d (.int n)] = .ok (FO (lo p.1 (p.2 * n)), [.d (Fr p), .d (.int n)]) := q_overi hp hn h0
theorem w_divided (hp : Fq 200 p) (hq : Fq 200 q) (hn : Bn 200 n) : m__law_divided [.d (Fr p), .d (Fr q), .d (.int n), .d (T2 p), .d (T2 q)] = .ok (.d (.bl true), [.d (Fr p), .d (Fr q), .d (.int n), .d (T2 p), .d (T2 q)]) := by
  have hp4 := hp.mono (show 200 ≤ 4000 by decide)
  have hq4 := hq.mono (show 200 ≤ 4000 by decide)
  have hn4 := bn_mono hn (show 200 ≤ 4000 by decide)
  have r : ∀ (x : Ax) (δ : En), kmt "over" tb_over [] x (.d (Fr p), δ) = (x δ).bind (kmt' m_Frac_over (Fr p) []) := fun x δ => kmt_ap (over_rcv "over" tb_over)
  have k1 := ok_mul hp.b1 hq.b2 (by decide) (by decide)
  have k2 := ok_mul hp.b2 hq.b1 (by decide) (by decide)
  have k3 := ok_mul hp.b2 hn (by decide) (by decide)
  have f1 : ¬ q.1 = 0 → _ := fun h => w_fl_ff hp hq h
  have f2 : ¬ n = 0 → _ := fun h => w_fl_fi hp hn h
  have f3 : ¬ p.1 = 0 → _ := fun h => w_fl_if hp hn h
  have f4 : ¬ q.1 = 0 → _ := fun h => q_over2 hp4 hq4 h
  have f5 : ¬ n = 0 → _ := fun h => q_over2i hp4 hn4 h
  have f6 : ¬ q.1 = 0 → _ := fun h => w_low (p.1 * q.2) (p.2 * q.1) (mul_ne hp.ne h) (lt_divb (bn_mul hp.b2 hq.b1) (by decide))
  have f7 : ¬ n = 0 → _ := fun h => w_low p.1 (p.2 * n) (mul_ne hp.ne h) (lt_divb (bn_mul hp.b2 hn) (by decide))
  have dd : ∀ i : Int, decide (i = 0) = true ∨ ¬ i = 0 := fun i => by
    by_cases h : i = 0
    · exact .inl (by simp [h])
    · exact .inr h
  rcases dd q.1 with c1 | c1 <;> rcases dd n with c2 | c2 <;> rcases dd p.1 with c3 | c3 <;> simp [mkFn_ap, m__law_divided, b__law_divided, r, k1, k2, k3, f1, f2, f3, f4, f5, f6, f7, c1, c2, c3, w_is]
/-! ### order -/
theorem bls4 (g : P2) (a b c d : Bool) : P2.or dEq g (.lst [.bl a, .bl b, .bl c, .bl d]) (.lst [.bl a, .bl b, .bl c, .bl d]) = okS (.bl true) := by
  refine p2or_ok _ _ _ _ _ ?_
  rw [dEq_of (by simp [D.plain]) (by simp [D.plain])]
  cases a <;> cases b <;> cases c <;> cases d <;> rfl
theorem bls2 (g : P2) (a b : Bool) : P2.or dEq g (.lst [.bl a, .bl b]) (.lst [.bl a, .bl b]) = okS (.bl true) := by
  refine p2or_ok _ _ _ _ _ ?_
  rw [dEq_of (by simp [D.plain]) (by simp [D.plain])]
  cases a <;> cases b <;> rfl
theorem fq_eq {k l : Nat} (hp : Fq k p) (hq : Fq l q) : p = q ↔ p.1 * q.2 - q.1 * p.2 = 0 := by
  constructor
  · intro h
    rw [h]; omega
  · intro h
    rw [← lo_self hp.pos hp.cop, ← lo_self hq.pos hq.cop]
    exact lo_eq hp.ne hq.ne (by omega)
theorem w_order {d e : D} {p q : Int × Int} (hp : Fq 4000 p) (hq : Fq 4000 q)
    (h1 : P2.or (iCmp fun i j => decide (i < j)) (P2.or (opB tb___lt__) (opR tb___gt__)) d e = okS (.bl (decide (p.1 * q.2 < q.1 * p.2))))
    (h2 : P2.or (iCmp fun i j => decide (i ≤ j)) (P2.or (opB tb___le__) (opR tb___ge__)) d e = okS (.bl (decide (p.1 * q.2 ≤ q.1 * p.2))))
    (h3 : P2.or (iCmp fun i j => decide (j < i)) (P2.or (opB tb___gt__) (opR tb___lt__)) d e = okS (.bl (decide (q.1 * p.2 < p.1 * q.2))))
    (h4 : P2.or (iCmp fun i j => decide (j ≤ i)) (P2.or (opB tb___ge__) (opR tb___le__)) d e = okS (.bl (decide (q.1 * p.2 ≤ p.1 * q.2))))
    (h5 : P2.or dEq (P2.or (opB tb___eq__) (opR tb___eq__)) d e = okS (.bl (decide (p = q))))
    (h6 : P2.or dNe (P2.or (opN tb___eq__) (opNR tb___eq__)) d e = okS (.bl (!decide (p = q)))) :
    m__law_order [.d d, .d e, .d (T2 p), .d (T2 q)] = .ok (.d (.bl true), [.d d, .d e, .d (T2 p), .d (T2 q)]) := by
  have k1 := ok_mul hp.b1 hq.b2 (by decide) (by decide)
  have k2 := ok_mul hq.b1 hp.b2 (by decide) (by decide)
  have e5 := fq_eq hp hq
  have e1 : decide (p.1 * q.2 < q.1 * p.2) = decide (p.1 * q.2 - q.1 * p.2 < 0) := by apply decide_eq_decide.mpr; omega
  have e2 : decide (p.1 * q.2 ≤ q.1 * p.2) = decide (p.1 * q.2 - q.1 * p.2 ≤ 0) := by apply decide_eq_decide.mpr; omega
  have e3 : decide (q.1 * p.2 < p.1 * q.2) = decide (0 < p.1 * q.2 - q.1 * p.2) := by apply decide_eq_decide.mpr; omega
  have e4 : decide (q.1 * p.2 ≤ p.1 * q.2) = decide (0 ≤ p.1 * q.2 - q.1 * p.2) := by apply decide_eq_decide.mpr; omega
  have e6 : decide (p = q) = decide (p.1 * q.2 - q.1 * p.2 = 0) := by apply decide_eq_decide.mpr; exact e5
  rw [e1] at h1
  rw [e2] at h2
  rw [e3] at h3
  rw [e4] at h4
  rw [e6] at h5 h6
  generalize hc : p.1 * q.2 - q.1 * p.2 = c at *
  simp [mkFn_ap, m__law_order, b__law_order, k1, k2, h1, h2, h3, h4, h5, h6, ti_bool, bls4, bls2, hc]
end Fx
namespace Fx
open PySem PySem.Spec PyProof.Rows L2 L2H
variable {p q : Int × Int} {n : Int}
theorem dec_comm {α : Type} [DecidableEq α] (a b : α) : decide (a = b) = decide (b = a) := by apply decide_eq_decide.mpr; exact eq_comm
theorem w_or_ff (hp : Fq 4000 p) (hq : Fq 4000 q) : m__law_order [.d (Fr p), .d (Fr q), .d (T2 p), .d (T2 q)] = .ok (.d (.bl true), [.d (Fr p), .d (Fr q), .d (T2 p), .d (T2 q)]) :=
  w_order hp hq (o_lt_ff hp hq) (o_le_ff hp hq) (o_gt_ff hp hq) (o_ge_ff hp hq) o_eq_ff o_ne_ff
theorem w_or_fi (hp : Fq 4000 p) (hn : Bn 4000 n) : m__law_order [.d (Fr p), .d (.int n), .d (T2 p), .d (T2 (n, 1))] = .ok (.d (.bl true), [.d (Fr p), .d (.int n), .d (T2 p), .d (T2 (n, 1))]) := by
  refine w_order (q := (n, 1)) hp (fq_int hn) ?_ ?_ ?_ ?_ o_eq_fi o_ne_fi
  · simp only [Int.mul_one]; exact o_lt_fi hp hn
  · simp only [Int.mul_one]; exact o_le_fi hp hn
  · simp only [Int.mul_one]; exact o_gt_fi hp hn
  · simp only [Int.mul_one]; exact o_ge_fi hp hn
theorem w_or_if (hp : Fq 4000 p) (hn : Bn 4000 n) : m__law_order [.d (.int n), .d (Fr p), .d (T2 (n, 1)), .d (T2 p)] = .ok (.d (.bl true), [.d (.int n), .d (Fr p), .d (T2 (n, 1)), .d (T2 p)]) := by
  refine w_order (p := (n, 1)) (q := p) (fq_int hn) hp ?_ ?_ ?_ ?_ ?_ ?_
  · simp only [Int.mul_one]; exact o_lt_if hp hn
  · simp only [Int.mul_one]; exact o_le_if hp hn
  · simp only [Int.mul_one]; exact o_gt_if hp hn
  · simp only [Int.mul_one]; exact o_ge_if hp hn
  · rw [dec_comm]; exact o_eq_if
  · rw [dec_comm]; exact o_ne_if
/-! ### errors -/
abbrev dz : D := .tup [.str "zero", .lst [.bl true, .bl false, .bl false, .bl false], .str ""]
abbrev bt (x : Str) : D := .tup [.str "text", .lst [.bl false, .bl true, .bl false, .bl false], .str x]
theorem w_sort0 : m__law_sort [.d (.err "DivisionByZero" [] [])] = .ok (.lst [.d (.bl true), .d (.bl false), .d (.bl false), .d (.bl false)], [.d (.err "DivisionByZero" [] [])]) := by
  simp [mkFn_ap, m__law_sort, b__law_sort, ti_WebError, ti_ValueError, ti_DivisionByZero, ti_BadText, ti_BadCount, ti_Mismatch]
theorem w_sort1 (x : Str) : m__law_sort [.d (.err "BadText" ["text"] [.str x])] = .ok (.lst [.d (.bl false), .d (.bl true), .d (.bl false), .d (.bl false)], [.d (.err "BadText" ["text"] [.str x])]) := by
  simp [mkFn_ap, m__law_sort, b__law_sort, ti_WebError, ti_ValueError, ti_DivisionByZero, ti_BadText, ti_BadCount, ti_Mismatch]
theorem w_told0 (a : Int) : m__law_told [.d (.int 0), .d (.int a), .d (.int 0)] = .ok (.d dz, [.d (.int 0), .d (.int a), .d (.int 0)]) := by
  have h := init0 a
  simp [mkFn_ap, m__law_told, b__law_told, h, tx_DivisionByZero, bOf, w_sort0]
theorem w_told1 {d e : D} (h : P2.or iFdv (P2.or (opB tb___floordiv__) (opR tb___rfloordiv__)) d e = .exc "DivisionByZero" [] [] ()) : m__law_told [.d (.int 1), .d d, .d e] = .ok (.d dz, [.d (.int 1), .d d, .d e]) := by
  simp [mkFn_ap, m__law_told, b__law_told, h, tx_DivisionByZero, bOf, w_sort0]
theorem w_told2 {d e : D} (h : P2.or iMod (P2.or (opB tb___mod__) (opR tb___rmod__)) d e = .exc "DivisionByZero" [] [] ()) : m__law_told [.d (.int 2), .d d, .d e] = .ok (.d dz, [.d (.int 2), .d d, .d e]) := by
  simp [mkFn_ap, m__law_told, b__law_told, h, tx_DivisionByZero, bOf, w_sort0]
theorem w_told3 {e : D} (h : m_Frac_over [.d (Fr p), .d e] = .exc "DivisionByZero" [] [] [.d (Fr p), .d e]) : m__law_told [.d (.int 3), .d (Fr p), .d e] = .ok (.d dz, [.d (.int 3), .d (Fr p), .d e]) := by
  have r : ∀ (x : Ax) (δ : En), kmt "over" tb_over [] x (.d (Fr p), δ) = (x δ).bind (kmt' m_Frac_over (Fr p) []) := fun x δ => kmt_ap (over_rcv "over" tb_over)
  simp [mkFn_ap, m__law_told, b__law_told, h, tx_DivisionByZero, bOf, w_sort0, r]
theorem w_told4 {x : Str} (h : m_Frac_read [.d (.str x)] = .exc "BadText" ["text"] [.str x] [.d (.str x)]) : m__law_told [.d (.int 4), .d (.str x), .d (.int 0)] = .ok (.d (bt x), [.d (.int 4), .d (.str x), .d (.int 0)]) := by
  simp [mkFn_ap, m__law_told, b__law_told, h, tx_DivisionByZero, tx_BadText, bOf, w_sort1]
theorem dz_eq : dEq dz dz = okS (.bl true) := by
  rw [dEq_of (by decide +kernel) (by decide +kernel)]
  have : PyData.eqv dz.py dz.py = true := by decide +kernel
  rw [this]
theorem wz_one {w e f : D} (h : m__law_told [.d w, .d e, .d f] = .ok (.d dz, [.d w, .d e, .d f])) (a b c x : Slot) : oneL [5, 6, 7] (gTup 3 (gCons (gN 5) (gCons (gN 6) (gCons (gN 7) gNil)))) tYs (c2 dEq (cCall m__law_told [] (aC (cV 5) (aC (cV 6) (aC (cV 7) aN)))) (cV 4)) (.tup [w, e, f]) [a, b, c, x, .loc (.d dz), .no, .no, .no] = .ok (.bl true, [a, b, c, x, .loc (.d dz), .no, .no, .no]) := by
  simp [oneL_ap, wipeN, h, dz_eq]
theorem o_add_l2 (a b : List D) (h : (a ++ b).length ≤ 16777216) : mAdd (.lst a) (.lst b) = .ok (.lst ((a ++ b).map Sl.d)) := (p2or_stk _ _ _ _ rfl |>.trans (p2or_stk _ _ _ _ rfl |>.trans (p2or_ok _ _ _ _ _ (if_pos h))))
theorem lcL_zero {e : Ex} (xs : List D) (a b c x : Slot) (h : ∀ y ∈ xs, oneL [5, 6, 7] (gTup 3 (gCons (gN 5) (gCons (gN 6) (gCons (gN 7) gNil)))) tYs e y [a, b, c, x, .loc (.d dz), .no, .no, .no] = .ok (.bl true, [a, b, c, x, .loc (.d dz), .no, .no, .no])) (hl : xs.length ≤ 100) : lcL [5, 6, 7] (gTup 3 (gCons (gN 5) (gCons (gN 6) (gCons (gN 7) gNil)))) tYs e xs [] [a, b, c, x, .loc (.d dz), .no, .no, .no] = .ok (xs.map fun _ => .bl true, [a, b, c, x, .loc (.d dz), .no, .no, .no]) := lcL_yes xs h (by omega)
theorem w_zeros (hp : Fq 4000 p) (hn : Bn 4000 n) : m__law_zeros [.d (Fr p), .d (.int n)] = .ok (.d (.bl true), [.d (Fr p), .d (.int n)]) := by
  have m2 := mk1 0
  have b1 : Bn 4000 1 := b_one
  have t0 := w_told0 n
  have t1 := w_told0 0
  have t2 := w_told1 (o_fdv_ff0 hp 1 b1)
  have t3 := w_told1 (o_fdv_fi0 hp)
  have t4 := w_told1 (o_fdv_if0 hn 1 b1)
  have t5 := w_told2 (o_mod_ff0 hp 1 b1)
  have t6 := w_told2 (o_mod_fi0 hp)
  have t7 := w_told2 (o_mod_if0 hn 1 b1)
  have t8 := w_told3 (p := p) (e := Fr (0, 1)) (q_over0 hp 1 b1)
  have t9 := w_told3 (q_overi0 hp)
  have e0 := wz_one t0
  have e1 := wz_one t1
  have e2 := wz_one t2
  have e3 := wz_one t3
  have e4 := wz_one t4
  have e5 := wz_one t5
  have e6 := wz_one t6
  have e7 := wz_one t7
  have e8 := wz_one t8
  have e9 := wz_one t9
  simp [mkFn_ap, m__law_zeros, b__law_zeros, m2, o_add_l2]
  rw [lcL_zero _ _ _ _ _ (by simp [e0, e1, e2, e3, e4, e5, e6, e7, e8, e9]) (by simp)]
  simp [wipeN]
end Fx
namespace Fx
open PySem PySem.Spec PyProof.Rows L2 L2H SX
/-! ### texts as lists of signs -/
theorem c_slash : ("/" : Str) = S [47] := by rfl
theorem c_minus : ("-" : Str) = S [45] := by rfl
theorem c_digs : ("0123456789" : Str) = S [48, 49, 50, 51, 52, 53, 54, 55, 56, 57] := by rfl
def inumL (i : Int) : List Nat := if i < 0 then 45 :: TL.numL i.natAbs else TL.numL i.natAbs
theorem inum_S (i : Int) : Str.ofString (toString i) = S (inumL i) := by
  unfold inumL
  by_cases c : i < 0
  · rw [if_pos c]
    obtain ⟨m, rfl⟩ : ∃ m : Nat, i = -((m + 1 : Nat) : Int) := ⟨i.natAbs - 1, by omega⟩
    apply TL.ext_tl
    have h := TL.tl_num (m + 1)
    rw [TL.tl_ofString] at h ⊢
    have e : toString (-((m + 1 : Nat) : Int)) = "-" ++ toString ((m + 1 : Nat) : Int) := by rfl
    rw [e, String.toList_append, List.map_append, h]
    have : (-((m + 1 : Nat) : Int)).natAbs = m + 1 := by omega
    rw [this]
    rfl
  · rw [if_neg c]
    obtain ⟨m, rfl⟩ : ∃ m : Nat, i = (m : Int) := ⟨i.natAbs, by omega⟩
    rw [num_S]; rfl
def wL (p : Int × Int) : List Nat := if p.2 = 1 then inumL p.1 else inumL p.1 ++ 47 :: inumL p.2
theorem wrt_S (p : Int × Int) : wrt p = S (wL p) := by
  unfold wrt wL
  by_cases c : p.2 = 1
  · rw [if_pos c, if_pos c, inum_S]
  · rw [if_neg c, if_neg c, inum_S, inum_S, c_slash, S_cat, S_cat]
    simp
def dg (c : Nat) : Bool := decide (48 ≤ c) && decide (c ≤ 57)
def hd (l : List Nat) : Bool := decide (0 < l.length) && decide (l.length ≤ 60) && l.all dg
def unm : List Nat → List Nat
  | 45 :: r => r
  | l => l
theorem unm_ne {l : List Nat} (h : l.head? ≠ some 45) : unm l = l := by
  unfold unm
  split
  · exact absurd rfl h
  · rfl
theorem rpre (l : List Nat) : Txt.removeprefix (S l) "-" = S (unm l) := by
  rw [c_minus, PySem.StrLaws.removeprefix_eq]
  cases l with
  | nil => rfl
  | cons c r =>
    by_cases h : c = 45
    · subst h
      simp [Str.length, PySem.Builtin.Str.subAt, unm, S]
    · rw [unm_ne (by simp [h])]
      rw [if_neg]
      simp [Str.length, PySem.Builtin.Str.subAt, S, h]
end Fx
namespace Fx
open PySem PySem.Spec PyProof.Rows L2 L2H SX
/-! ### what read makes of a text -/
def fD : D → D
  | .str x => .bl (x.cps.toList.all dg)
  | d => d
theorem sgs_S (l : List Nat) : sgs (S l) = l.map fun c => D.str ⟨#[c]⟩ := by simp [sgs, S]
theorem one_dg (a : Slot) (c : Nat) : oneL [1] (gN 1) tYs (c2 sIn (cV 1) (cC (.str "0123456789"))) (.str ⟨#[c]⟩) [a, .no] = .ok (fD (.str ⟨#[c]⟩), [a, .no]) := by
  have e : decide (c = 48 ∨ c = 49 ∨ c = 50 ∨ c = 51 ∨ c = 52 ∨ c = 53 ∨ c = 54 ∨ c = 55 ∨ c = 56 ∨ c = 57) = dg c := by
    unfold dg
    rw [← Bool.decide_and]
    apply decide_eq_decide.mpr
    omega
  rw [c_digs]
  simp [oneL_ap, wipeN, fD, S, e]
theorem lc_dg (a : Slot) (l : List Nat) (hl : l.length ≤ 16777216) : lcL [1] (gN 1) tYs (c2 sIn (cV 1) (cC (.str "0123456789"))) (sgs (S l)) [] [a, .no] = .ok ((l.map dg).map D.bl, [a, .no]) := by
  have h := lcL_map (vs := [1]) (g := gN 1) (t := tYs) (e := c2 sIn (cV 1) (cC (.str "0123456789"))) (f := fD) (δ := [a, .no]) (sgs (S l)) [] (by
    intro x hx
    rw [sgs_S] at hx
    obtain ⟨c, _, rfl⟩ := List.mem_map.mp hx
    exact one_dg a c) (by rw [sgs_S]; simpa using hl)
  rw [h, sgs_S]
  simp [fD, Function.comp_def]
theorem blc (l : List Nat) : blsD (fzL (l.map (Sl.d ∘ D.bl ∘ dg))) = some (l.map dg) := by
  induction l with
  | nil => rfl
  | cons c l ih => simp [ih]
theorem all_id (l : List Nat) : (l.map dg).all id = l.all dg := by simp [List.all_map, Function.comp_def]
theorem w_dig (l : List Nat) (hl : l.length ≤ 16777216) : m__has_digits [.d (.str (S l))] = .ok (.d (.bl (hd l)), [.d (.str (S l))]) := by
  have e := lc_dg (.par (.d (.str (S l)))) l hl
  have a := all_id l
  by_cases c1 : 0 < l.length
  · by_cases c2 : l.length ≤ 60
    · have c3 : (l.length : Int) ≤ 60 := by omega
      simp [mkFn_ap, m__has_digits, b__has_digits, S_len, hl, c1, c2, c3, e, a, hd, kCh2_b, blc]
    · have c3 : ¬ (l.length : Int) ≤ 60 := by omega
      simp [mkFn_ap, m__has_digits, b__has_digits, S_len, hl, c1, c2, c3, e, a, hd, kCh2_b, blc]
  · simp [mkFn_ap, m__has_digits, b__has_digits, S_len, hl, c1, e, a, hd, kCh2_b]
/-- a text's Frac, if it is one's written form -/
def ival (t : List Nat) : Int := match t with
  | 45 :: r => -((NumText.digitsVal r : Nat) : Int)
  | r => ((NumText.digitsVal r : Nat) : Int)
def finL (l t : List Nat) (d : Nat) : Option (Int × Int) := if wL (lo (ival t) d) = l then some (lo (ival t) d) else none
def rdL (l : List Nat) : Option (Int × Int) := match TL.par [47] [] l with
  | none => if hd (unm l) = true then finL l l 1 else none
  | some (t, b) => if hd (unm t) = true ∧ hd b = true then (if NumText.digitsVal b = 0 then none else finL l t (NumText.digitsVal b)) else none
theorem ival_ne {l : List Nat} (h : l.head? ≠ some 45) : ival l = ((NumText.digitsVal l : Nat) : Int) := by
  unfold ival
  split
  · exact absurd rfl h
  · rfl
theorem hd_dig {l : List Nat} (h : hd l = true) : NumText.AllDigits l ∧ l ≠ [] ∧ l.length ≤ 60 := by
  unfold hd at h
  simp only [Bool.and_eq_true, decide_eq_true_eq, List.all_eq_true] at h
  refine ⟨fun c hc => ?_, ?_, h.1.2⟩
  · have := h.2 c hc
    unfold dg at this
    simpa using this
  · intro e
    rw [e] at h
    simp at h
theorem int_hd {l : List Nat} (h : hd l = true) : intText? (S l) = some ((NumText.digitsVal l : Nat) : Int) := by
  obtain ⟨h1, h2, h3⟩ := hd_dig h
  exact intText_digits (x := S l) h1 h2 (by rw [S_len]; omega)
theorem int_unm {l : List Nat} (h : hd (unm l) = true) : intText? (S l) = some (ival l) := by
  by_cases c : l.head? = some 45
  · obtain ⟨r, rfl⟩ : ∃ r, l = 45 :: r := by
      cases l with
      | nil => simp at c
      | cons a r => simp at c; exact ⟨r, by rw [c]⟩
    obtain ⟨h1, h2, h3⟩ := hd_dig h
    exact intText_neg (x := S (45 :: r)) rfl h1 h2 (by rw [S_len]; simp [unm] at h3 ⊢; omega)
  · rw [unm_ne c] at h
    rw [ival_ne c]
    exact int_hd h
theorem val_lt : ∀ {l : List Nat}, NumText.AllDigits l → ∀ a : Nat, l.foldl (fun acc c => acc * 10 + (c - 48)) a < (a + 1) * 10 ^ l.length
  | [], _, a => by simp
  | c :: l, h, a => by
    have hc := h.head
    have := val_lt h.tail (a * 10 + (c - 48))
    simp only [List.foldl_cons, List.length_cons]
    refine Nat.lt_of_lt_of_le this ?_
    rw [Nat.pow_succ]
    have : a * 10 + (c - 48) + 1 ≤ (a + 1) * 10 := by omega
    calc (a * 10 + (c - 48) + 1) * 10 ^ l.length ≤ ((a + 1) * 10) * 10 ^ l.length := Nat.mul_le_mul_right _ this
      _ = (a + 1) * (10 ^ l.length * 10) := by rw [Nat.mul_assoc, Nat.mul_comm 10]
theorem hd_lt {l : List Nat} (h : hd l = true) : NumText.digitsVal l < 10 ^ 60 := by
  obtain ⟨h1, _, h3⟩ := hd_dig h
  have := val_lt h1 0
  simp only [Nat.zero_add, Nat.one_mul] at this
  exact Nat.lt_of_lt_of_le this (Nat.pow_le_pow_right (by decide) h3)
theorem bn_ten {i : Int} (h : i.natAbs < 10 ^ 60) : Bn 200 i := by
  rw [bn_def]
  exact Nat.lt_trans h (by decide +kernel)
theorem ival_lt {l : List Nat} (h : hd (unm l) = true) : (ival l).natAbs < 10 ^ 60 := by
  by_cases c : l.head? = some 45
  · obtain ⟨r, rfl⟩ : ∃ r, l = 45 :: r := by
      cases l with
      | nil => simp at c
      | cons a r => simp at c; exact ⟨r, by rw [c]⟩
    have := hd_lt h
    simpa [ival, unm] using this
  · rw [unm_ne c] at h
    rw [ival_ne c]
    have := hd_lt h
    simpa using this
/-! ### str -/
theorem unm_len (l : List Nat) : (unm l).length ≤ l.length := by
  unfold unm
  split <;> simp
theorem inumL_len {k : Nat} (hk : 0 < k) {i : Int} (h : i.natAbs < 10 ^ k) : (inumL i).length ≤ k + 1 := by
  have := TL.numL_len hk h
  unfold inumL
  split
  · simp; omega
  · omega
theorem lt_ten {i : Int} (h : Bn 1000 i) : i.natAbs < 10 ^ 400 := by
  rw [bn_def] at h
  exact Nat.lt_trans h (by decide +kernel)
theorem inum_R (i : Int) : Str.ofString i.repr = S (inumL i) := inum_S i
variable {p : Int × Int}
theorem q_str (hp : Fq 1000 p) : m_Frac___str__ [.d (Fr p)] = .ok (.d (.str (S (wL p))), [.d (Fr p)]) := by
  have h1 := lt_strb hp.b1 (by decide)
  have h2 := lt_strb hp.b2 (by decide)
  have s1 := inum_R p.1
  have s2 := inum_R p.2
  have l1 := inumL_len (by decide) (lt_ten hp.b1)
  have l2 := inumL_len (by decide) (lt_ten hp.b2)
  have l3 : (inumL p.1).length ≤ 16777216 := by omega
  have l4 : (inumL p.1).length + 1 ≤ 16777216 := by omega
  have l5 : (inumL p.1).length + 1 + (inumL p.2).length ≤ 16777216 := by omega
  by_cases c : p.2 = 1
  · simp [mkFn_ap, m_Frac___str__, b_Frac___str__, Fr, c, h1, s1, wL]
  · simp [mkFn_ap, m_Frac___str__, b_Frac___str__, Fr, c, h1, h2, s1, s2, wL, c_slash, S_cat, S_len, l3, l4, l5, Str.empty]
theorem o_str_f (hp : Fq 1000 p) : PN.or bStr (opSt tb___str__) [Fr p] = okS (.str (S (wL p))) := by
  have h := q_str hp
  show (PN.or bStr (opSt [("Frac", m_Frac___str__)])) [fr p] = _
  have h' : m_Frac___str__ [.d (fr p)] = .ok (.d (.str (S (wL p))), [.d (fr p)]) := h
  unfold PN.or
  simp [opSt, opU, mOf, ofFn, h', stR]
theorem s_eq (g : P2) (a b : List Nat) (ha : PyData.strOk (S a) = true) (hb : PyData.strOk (S b) = true) : P2.or dEq g (.str (S a)) (.str (S b)) = okS (.bl (decide (a = b))) := by
  refine p2or_ok _ _ _ _ _ ?_
  rw [dEq_of (by simpa [D.plain] using ha) (by simpa [D.plain] using hb)]
  simp [D.py, PyData.eqv, S_beq_eq]
theorem s_ne (g : P2) (a b : List Nat) (ha : PyData.strOk (S a) = true) (hb : PyData.strOk (S b) = true) : P2.or dNe g (.str (S a)) (.str (S b)) = okS (.bl (!decide (a = b))) := by
  refine p2or_ok _ _ _ _ _ ?_
  rw [dNe_of (by simpa [D.plain] using ha) (by simpa [D.plain] using hb)]
  simp [D.py, PyData.eqv, S_beq_eq]
/-- signs below 1114112 -/
def okc (l : List Nat) : Prop := ∀ c ∈ l, c < 1114112
theorem okc_ok {l : List Nat} (h : okc l) : PyData.strOk (S l) = true := by
  unfold PyData.strOk
  simp only [S]
  rw [← Array.all_toList]
  unfold okc at h
  simpa using h
theorem numL_ok (n : Nat) : okc (TL.numL n) := fun c hc => by have := TL.numL_digits n c hc; omega
theorem inumL_ok (i : Int) : okc (inumL i) := by
  unfold inumL
  split
  · intro c hc
    rcases List.mem_cons.mp hc with e | e
    · omega
    · exact numL_ok _ c e
  · exact numL_ok _
theorem wL_ok (p : Int × Int) : okc (wL p) := by
  unfold wL
  split
  · exact inumL_ok _
  · intro c hc
    rcases List.mem_append.mp hc with e | e
    · exact inumL_ok _ c e
    · rcases List.mem_cons.mp e with e | e
      · omega
      · exact inumL_ok _ c e
theorem par_ex {l t b : List Nat} (h : TL.par [47] [] l = some (t, b)) : l = t ++ 47 :: b ∧ 47 ∉ t := by
  by_cases c : 47 ∈ l
  · obtain ⟨x, y, e, hx⟩ := List.eq_append_cons_of_mem c
    have := TL.par_part1 (S := []) (rest := y) (acc := []) hx
    rw [show x ++ ([47] ++ y) = l by rw [e]; rfl] at this
    rw [this] at h
    simp only [List.nil_append, Option.some.injEq, Prod.mk.injEq] at h
    rw [← h.1, ← h.2]
    exact ⟨e, hx⟩
  · rw [TL.par_none1 c] at h
    cases h
theorem par_len {l t b : List Nat} (h : TL.par [47] [] l = some (t, b)) : t.length + b.length + 1 = l.length := by
  rw [(par_ex h).1]
  simp
  omega
theorem q_read (l : List Nat) (hl : l.length ≤ 500) (hc : okc l) : m_Frac_read [.d (.str (S l))] = match rdL l with
    | some q => .ok (.d (Fr q), [.d (.str (S l))])
    | none => .exc "BadText" ["text"] [.str (S l)] [.d (.str (S l))] := by
  have e0 := okc_ok hc
  have l0 : l.length ≤ 16777216 := by omega
  have z1 : PyData.strOk (S [47]) = true := by decide +kernel
  have z2 : PyData.strOk (S []) = true := by decide +kernel
  have z3 : Str.empty = S [] := (rfl)
  have tail : ∀ (t : List Nat) (d : Nat), hd (unm t) = true → d ≠ 0 → d < 10 ^ 60 → (∀ δ, upM (m_Frac___init__ [.obj "Frac" [] [], .d (.int (ival t)), .d (.int d)]) δ = .ok (FO (lo (ival t) d), δ)) ∧
      PN.or bStr (opSt tb___str__) [Fr (lo (ival t) d)] = okS (.str (S (wL (lo (ival t) d)))) ∧ P2.or dNe (P2.or (opN tb___eq__) (opNR tb___eq__)) (.str (S (wL (lo (ival t) d)))) (.str (S l)) = okS (.bl (!decide (wL (lo (ival t) d) = l))) := by
    intro t d h h0 hd
    have b1 := bn_ten (ival_lt h)
    have b2 : Bn 200 (d : Int) := bn_ten (by simpa using hd)
    have h0' : (d : Int) ≠ 0 := by omega
    exact ⟨mk3 _ _ h0' (lt_divb b2 (by decide)), o_str_f ((fq_lo h0' b1 b2).mono (by decide)), s_ne _ _ _ (okc_ok (wL_ok _)) e0⟩
  unfold rdL
  cases hp : TL.par [47] [] l with
  | none =>
    have pp := SX.partition_none (b := [47]) (by decide) hp
    have r1 := rpre l
    rw [c_minus] at r1
    have r2 := w_dig (unm l) (by have := unm_len l; omega)
    have f1 := s_eq (P2.or (opB tb___eq__) (opR tb___eq__)) [] [47] z2 z1
    by_cases c : hd (unm l) = true
    · have i1 := int_unm c
      obtain ⟨m1, t1, t2⟩ := tail l 1 c (by decide) (by decide)
      have l6 : l.length ≤ 640 := by omega
      by_cases w : wL (lo (ival l) 1) = l
      · rw [Int.natCast_one, w] at t2
        simp at m1 t1 t2
        simp [mkFn_ap, m_Frac_read, b_Frac_read, c_slash, c_minus, pp, r1, r2, S_len, l0, l6, f1, c, i1, m1, t1, t2, w, finL]
      · simp at m1 t1 t2
        simp [mkFn_ap, m_Frac_read, b_Frac_read, c_slash, c_minus, pp, r1, r2, S_len, l0, l6, f1, c, i1, m1, t1, t2, w, finL]
    · simp [mkFn_ap, m_Frac_read, b_Frac_read, c_slash, c_minus, pp, r1, r2, S_len, l0, f1, c]
  | some tb =>
    obtain ⟨t, b⟩ := tb
    have pp := SX.partition_some (b := [47]) (by decide) hp
    have lt := par_len hp
    have r1 := rpre t
    rw [c_minus] at r1
    have r2 := w_dig (unm t) (by have := unm_len t; omega)
    have r3 := w_dig b (by omega)
    have f1 := s_eq (P2.or (opB tb___eq__) (opR tb___eq__)) [47] [47] z1 z1
    have lt0 : t.length ≤ 16777216 := by omega
    by_cases c : hd (unm t) = true
    · by_cases c2 : hd b = true
      · have i1 := int_unm c
        have i2 := int_hd c2
        have l6 : t.length ≤ 640 := by omega
        have l7 : b.length ≤ 640 := by omega
        by_cases v : NumText.digitsVal b = 0
        · simp [mkFn_ap, m_Frac_read, b_Frac_read, c_slash, c_minus, pp, r1, r2, r3, S_len, l0, lt0, l6, l7, f1, c, c2, i1, i2, v]
        · obtain ⟨m1, t1, t2⟩ := tail t (NumText.digitsVal b) c v (hd_lt c2)
          by_cases w : wL (lo (ival t) (NumText.digitsVal b)) = l
          · rw [w] at t2
            simp at m1 t1 t2
            simp [mkFn_ap, m_Frac_read, b_Frac_read, c_slash, c_minus, pp, r1, r2, r3, S_len, l0, lt0, l6, l7, f1, c, c2, i1, i2, v, m1, t1, t2, w, finL]
          · simp at m1 t1 t2
            simp [mkFn_ap, m_Frac_read, b_Frac_read, c_slash, c_minus, pp, r1, r2, r3, S_len, l0, lt0, l6, l7, f1, c, c2, i1, i2, v, m1, t1, t2, w, finL]
      · simp [mkFn_ap, m_Frac_read, b_Frac_read, c_slash, c_minus, pp, r1, r2, r3, S_len, l0, lt0, f1, c, c2]
    · simp [mkFn_ap, m_Frac_read, b_Frac_read, c_slash, c_minus, pp, r1, r2, r3, S_len, l0, lt0, f1, c]
end Fx
namespace Fx
open PySem PySem.Spec PyProof.Rows L2 L2H SX
/-! ### which texts are written forms -/
theorem numL_zero : TL.numL 0 = [48] := TL.numL_lt (n := 0) (by decide)
theorem numL_head : ∀ {n : Nat}, 0 < n → ∃ c r, TL.numL n = c :: r ∧ 49 ≤ c ∧ c ≤ 57 := fun {n} => by
  induction n using Nat.strongRecOn with
  | ind n ih =>
    intro h
    by_cases c : n < 10
    · exact ⟨48 + n, [], TL.numL_lt c, by omega, by omega⟩
    · obtain ⟨d, r, e, h1, h2⟩ := ih (n / 10) (by omega) (by omega)
      exact ⟨d, r ++ [48 + n % 10], by rw [TL.numL_step (by omega), e]; rfl, h1, h2⟩
theorem numL_last (n : Nat) : ∃ u c, TL.numL n = u ++ [c] ∧ 48 ≤ c ∧ c ≤ 57 := by
  have h := TL.numL_ne n
  refine ⟨(TL.numL n).dropLast, (TL.numL n).getLast h, (List.dropLast_concat_getLast h).symm, ?_⟩
  exact TL.numL_digits n _ (List.getLast_mem h)
theorem numL_cons (n : Nat) : ∃ c r, TL.numL n = c :: r ∧ 48 ≤ c ∧ c ≤ 57 := by
  rcases Nat.eq_zero_or_pos n with h | h
  · exact ⟨48, [], by rw [h, numL_zero], by decide, by decide⟩
  · obtain ⟨c, r, e, h1, h2⟩ := numL_head h
    exact ⟨c, r, e, by omega, h2⟩
theorem inumL_neg {i : Int} (h : i < 0) : inumL i = 45 :: TL.numL i.natAbs := if_pos h
theorem inumL_pos {i : Int} (h : 0 ≤ i) : inumL i = TL.numL i.natAbs := if_neg (by omega)
theorem inumL_char {i : Int} : ∀ c ∈ inumL i, c = 45 ∨ (48 ≤ c ∧ c ≤ 57) := by
  unfold inumL
  split
  · intro c hc
    rcases List.mem_cons.mp hc with e | e
    · exact .inl e
    · exact .inr (TL.numL_digits _ c e)
  · intro c hc
    exact .inr (TL.numL_digits _ c hc)
theorem inumL_47 (i : Int) : 47 ∉ inumL i := fun h => by
  have := inumL_char 47 h
  omega
theorem inumL_ne (i : Int) : inumL i ≠ [] := by
  unfold inumL
  split
  · simp
  · exact TL.numL_ne _
theorem inumL_last (i : Int) : ∃ u c, inumL i = u ++ [c] ∧ 48 ≤ c ∧ c ≤ 57 := by
  obtain ⟨u, c, e, h⟩ := numL_last i.natAbs
  unfold inumL
  split
  · exact ⟨45 :: u, c, by rw [e]; rfl, h⟩
  · exact ⟨u, c, e, h⟩
theorem unm_num (i : Int) : unm (inumL i) = TL.numL i.natAbs := by
  by_cases c : i < 0
  · rw [inumL_neg c]; rfl
  · rw [inumL_pos (by omega)]
    obtain ⟨d, r, e, h1, h2⟩ := numL_cons i.natAbs
    exact unm_ne (by rw [e]; simp; omega)
theorem ival_num (i : Int) : ival (inumL i) = i := by
  by_cases c : i < 0
  · rw [inumL_neg c]
    show -((NumText.digitsVal (TL.numL i.natAbs) : Nat) : Int) = i
    rw [TL.numL_val]; omega
  · rw [inumL_pos (by omega)]
    obtain ⟨d, r, e, h1, h2⟩ := numL_cons i.natAbs
    rw [ival_ne (by rw [e]; simp; omega), TL.numL_val]
    omega
theorem inumL_inj {i j : Int} (h : inumL i = inumL j) : i = j := by
  rw [← ival_num i, ← ival_num j, h]
theorem hd_num {n : Nat} (h : n < 10 ^ 60) : hd (TL.numL n) = true := by
  have h1 := TL.numL_len (k := 60) (by decide) h
  have h2 := TL.numL_ne n
  have h3 := TL.numL_digits n
  unfold hd
  have : 0 < (TL.numL n).length := List.length_pos_iff.mpr h2
  simp only [Bool.and_eq_true, decide_eq_true_eq, List.all_eq_true]
  refine ⟨⟨this, h1⟩, fun c hc => ?_⟩
  have := h3 c hc
  simp [dg, this]
theorem par_at47 {u v : List Nat} (h : 47 ∉ u) : TL.par [47] [] (u ++ 47 :: v) = some (u, v) := TL.par_part1 (S := []) (rest := v) (acc := []) h
theorem rd_good {p : Int × Int} (h1 : 0 < p.2) (h2 : Int.gcd p.1 p.2 = 1) (h3 : p.1.natAbs < 10 ^ 60) (h4 : p.2.natAbs < 10 ^ 60) : rdL (wL p) = some p := by
  unfold rdL
  have hu : hd (unm (inumL p.1)) = true := by rw [unm_num]; exact hd_num h3
  by_cases c : p.2 = 1
  · have e : wL p = inumL p.1 := if_pos c
    rw [e, TL.par_none1 (inumL_47 p.1)]
    have el : lo p.1 ((1 : Nat) : Int) = p := by
      rw [show ((1 : Nat) : Int) = 1 from rfl, lo_one]
      exact Prod.ext rfl c.symm
    simp only [if_pos hu, finL, ival_num, el, e, if_true]
  · have e : wL p = inumL p.1 ++ 47 :: inumL p.2 := if_neg c
    have en : inumL p.2 = TL.numL p.2.natAbs := inumL_pos (by omega)
    have hb : hd (inumL p.2) = true := by rw [en]; exact hd_num h4
    have v : NumText.digitsVal (inumL p.2) = p.2.natAbs := by rw [en, TL.numL_val]
    have ev : ((p.2.natAbs : Nat) : Int) = p.2 := by omega
    have el : lo p.1 p.2 = p := lo_self h1 h2
    rw [e, par_at47 (inumL_47 p.1)]
    simp only [hu, hb, and_self, if_true, v, finL, ival_num, ev, el, e, if_neg (show ¬ p.2.natAbs = 0 by omega)]
theorem fin_some {l t : List Nat} {d : Nat} {q : Int × Int} (hd0 : d ≠ 0) (h : finL l t d = some q) : wL q = l ∧ 0 < q.2 ∧ Int.gcd q.1 q.2 = 1 := by
  unfold finL at h
  split at h
  · rename_i e
    simp only [Option.some.injEq] at h
    rw [← h]
    exact ⟨e, lo_pos (by omega), lo_cop (by omega)⟩
  · cases h
theorem rd_some {l : List Nat} {q : Int × Int} (h : rdL l = some q) : wL q = l ∧ 0 < q.2 ∧ Int.gcd q.1 q.2 = 1 := by
  unfold rdL at h
  split at h
  · split at h
    · exact fin_some (by decide) h
    · cases h
  · split at h
    · split at h
      · cases h
      · exact fin_some ‹_› h
    · cases h
theorem rd_none {l : List Nat} (h : ∀ q : Int × Int, 0 < q.2 → Int.gcd q.1 q.2 = 1 → wL q ≠ l) : rdL l = none := by
  cases e : rdL l with
  | none => rfl
  | some q =>
    obtain ⟨h1, h2, h3⟩ := rd_some e
    exact absurd h1 (h q h2 h3)
/-! ### spoilt texts -/
theorem wL_char {q : Int × Int} : ∀ c ∈ wL q, c = 45 ∨ c = 47 ∨ (48 ≤ c ∧ c ≤ 57) := by
  unfold wL
  split
  · intro c hc
    have := inumL_char c hc
    omega
  · intro c hc
    rcases List.mem_append.mp hc with e | e
    · have := inumL_char c e
      omega
    · rcases List.mem_cons.mp e with e | e
      · omega
      · have := inumL_char c e
        omega
theorem rd_char {l : List Nat} {c : Nat} (hc : c ∈ l) (h : ¬ (c = 45 ∨ c = 47 ∨ (48 ≤ c ∧ c ≤ 57))) : rdL l = none := rd_none fun q _ _ e => h (wL_char c (by rw [e]; exact hc))
theorem wL_sep {q : Int × Int} {u v : List Nat} (h : wL q = u ++ 47 :: v) (hu : 47 ∉ u) : q.2 ≠ 1 ∧ inumL q.1 = u ∧ inumL q.2 = v := by
  by_cases c : q.2 = 1
  · have e : wL q = inumL q.1 := if_pos c
    rw [e] at h
    exact absurd (by rw [h]; simp) (inumL_47 q.1)
  · have e : wL q = inumL q.1 ++ 47 :: inumL q.2 := if_neg c
    rw [e] at h
    have h1 := par_at47 (v := inumL q.2) (inumL_47 q.1)
    rw [h, par_at47 hu] at h1
    simp only [Option.some.injEq, Prod.mk.injEq] at h1
    exact ⟨c, h1.1.symm, h1.2.symm⟩
theorem rd_sep {u v : List Nat} (hu : 47 ∉ u) (h : ∀ q : Int × Int, 0 < q.2 → Int.gcd q.1 q.2 = 1 → q.2 ≠ 1 → inumL q.1 = u → inumL q.2 = v → False) : rdL (u ++ 47 :: v) = none := rd_none fun q h1 h2 e => by
  obtain ⟨a, b, c⟩ := wL_sep e hu
  exact h q h1 h2 a b c
theorem wL_last (q : Int × Int) : ∃ u c, wL q = u ++ [c] ∧ 48 ≤ c ∧ c ≤ 57 := by
  by_cases c : q.2 = 1
  · have e : wL q = inumL q.1 := if_pos c
    rw [e]; exact inumL_last q.1
  · have e : wL q = inumL q.1 ++ 47 :: inumL q.2 := if_neg c
    obtain ⟨u, d, e2, h⟩ := inumL_last q.2
    exact ⟨inumL q.1 ++ 47 :: u, d, by rw [e, e2]; simp, h⟩
theorem rd_last {l : List Nat} {c : Nat} (h : ¬ (48 ≤ c ∧ c ≤ 57)) : rdL (l ++ [c]) = none := rd_none fun q _ _ e => by
  obtain ⟨u, d, e2, h2⟩ := wL_last q
  rw [e2] at e
  have := (List.append_inj' e rfl).2
  simp only [List.cons.injEq, and_true] at this
  rw [this] at h2
  exact h h2
theorem inumL_pos_head {i : Int} (h : 0 < i) : ∃ c r, inumL i = c :: r ∧ 49 ≤ c ∧ c ≤ 57 := by
  rw [inumL_pos (by omega)]
  exact numL_head (by omega)
theorem wL_app (q : Int × Int) : ∃ r, wL q = inumL q.1 ++ r ∧ (q.2 = 1 → r = []) := by
  by_cases c : q.2 = 1
  · exact ⟨[], by simp [wL, c], fun _ => rfl⟩
  · exact ⟨_, if_neg c, fun h => absurd h c⟩
theorem wL_ne (q : Int × Int) : wL q ≠ [] := by
  obtain ⟨r, e, _⟩ := wL_app q
  rw [e]
  intro h
  exact inumL_ne q.1 (List.append_eq_nil_iff.mp h).1
theorem cop_zero {q : Int × Int} (h1 : 0 < q.2) (h2 : Int.gcd q.1 q.2 = 1) (h : q.1 = 0) : q.2 = 1 := by
  rw [h, Int.gcd_zero_left] at h2
  omega
section
variable {p : Int × Int}
theorem sp0 : rdL (48 :: wL p) = none := rd_none fun q h1 h2 e => by
  obtain ⟨r, er, hr⟩ := wL_app q
  rw [er] at e
  rcases Int.lt_trichotomy q.1 0 with c | c | c
  · rw [inumL_neg c] at e
    simp at e
  · have := hr (cop_zero h1 h2 c)
    rw [this, c, inumL_pos (by decide)] at e
    simp only [Int.natAbs_zero, numL_zero, List.append_nil, List.cons.injEq, true_and] at e
    exact wL_ne p e.symm
  · obtain ⟨d, r', e2, h3, _⟩ := inumL_pos_head c
    rw [e2] at e
    simp at e
    omega
theorem sp1a (h : p.2 = 1) : rdL (wL p ++ [47, 49]) = none := by
  have e : wL p = inumL p.1 := if_pos h
  rw [e]
  refine rd_sep (inumL_47 _) fun q _ _ h1 _ h2 => h1 ?_
  exact inumL_inj (h2.trans (by decide +kernel))
theorem sp1b (i : Int) (l : List Nat) : rdL (inumL i ++ 47 :: 48 :: l) = none := by
  refine rd_sep (inumL_47 _) fun q h1 _ _ _ h2 => ?_
  obtain ⟨d, r, e, h3, _⟩ := inumL_pos_head h1
  rw [e] at h2
  simp at h2
  omega
theorem sp4 (l : List Nat) : rdL (47 :: l) = none := rd_sep (u := []) (by simp) fun q _ _ _ h _ => inumL_ne q.1 h
theorem sp6 (a b : Int) : rdL (inumL (2 * a) ++ 47 :: inumL (2 * b)) = none := by
  refine rd_sep (inumL_47 _) fun q h1 h2 _ h3 h4 => ?_
  have e1 := inumL_inj h3
  have e2 := inumL_inj h4
  rw [e1, e2, Int.gcd_mul_left] at h2
  have : (2 : Int).natAbs = 2 := rfl
  rw [this] at h2
  omega
theorem sp7 (h1 : 0 < p.2) (h2 : Int.gcd p.1 p.2 = 1) (h : p.1 ≤ 0) : rdL (45 :: wL p) = none := rd_none fun q h3 h4 e => by
  obtain ⟨r, er, hr⟩ := wL_app q
  rw [er] at e
  by_cases c : q.1 < 0
  · rw [inumL_neg c] at e
    simp only [List.cons_append, List.cons.injEq, true_and] at e
    obtain ⟨d, r', e2, h5, h6⟩ := numL_head (n := q.1.natAbs) (by omega)
    rw [e2] at e
    obtain ⟨r2, er2, hr2⟩ := wL_app p
    rw [er2] at e
    by_cases c2 : p.1 < 0
    · rw [inumL_neg c2] at e
      simp at e
      omega
    · have c3 : p.1 = 0 := by omega
      rw [c3, inumL_pos (by decide)] at e
      simp only [Int.natAbs_zero, numL_zero, List.cons_append, List.cons.injEq] at e
      omega
  · rw [inumL_pos (by omega)] at e
    obtain ⟨d, r', e2, h5, h6⟩ := numL_cons q.1.natAbs
    rw [e2] at e
    simp at e
    omega
theorem sp9 (i : Int) (l : List Nat) : rdL (inumL i ++ 47 :: 45 :: l) = none := by
  refine rd_sep (inumL_47 _) fun q h1 _ _ _ h2 => ?_
  obtain ⟨d, r, e, h3, _⟩ := inumL_pos_head h1
  rw [e] at h2
  simp at h2
  omega
end
theorem rd_closed1 : rdL (List.replicate 60 57) = some (10 ^ 60 - 1, 1) := by decide +kernel
theorem rd_closed2 : rdL (45 :: List.replicate 60 57 ++ 47 :: 49 :: List.replicate 59 48) = some (-(10 ^ 60 - 1), 10 ^ 59) := by decide +kernel
theorem rd_closed3 : rdL (49 :: 47 :: List.replicate 60 57) = some (1, 10 ^ 60 - 1) := by decide +kernel
theorem rd_closed4 : rdL (49 :: List.replicate 60 48) = none := by decide +kernel
end Fx
namespace Fx
open PySem PySem.Spec PyProof.Rows L2 L2H SX
variable {p : Int × Int}
/-! ### the law's texts -/
theorem x_add (a b : List Nat) (h : a.length + b.length ≤ 16777216) : mAdd (.str (S a)) (.str (S b)) = okS (.str (S (a ++ b))) := by
  refine p2or_stk _ _ _ _ rfl |>.trans (p2or_ok _ _ _ _ _ ?_)
  simp [S_len, h, S_cat]
theorem x_add2 (g : P2) (a b : List Nat) (h : a.length + b.length ≤ 16777216) : P2.or mAdd g (.str (S a)) (.str (S b)) = okS (.str (S (a ++ b))) := p2or_ok _ _ _ _ _ (x_add a b h)
theorem k_one : ("1" : Str) = S [49] := (rfl)
theorem k_zero : ("0" : Str) = S [48] := (rfl)
theorem k_s1 : ("/1" : Str) = S [47, 49] := (rfl)
theorem k_s0 : ("/0" : Str) = S [47, 48] := (rfl)
theorem k_sm : ("/-" : Str) = S [47, 45] := (rfl)
theorem k_plus : ("+" : Str) = S [43] := (rfl)
theorem k_nl : ("\n" : Str) = S [10] := (rfl)
theorem k_sp : (" " : Str) = S [32] := (rfl)
theorem k_us : ("_" : Str) = S [95] := (rfl)
theorem k_a : ("a" : Str) = S [97] := (rfl)
theorem k_dot : ("." : Str) = S [46] := (rfl)
theorem inumL_le (h : p.1.natAbs < 10 ^ 60) : (inumL p.1).length ≤ 61 := inumL_len (by decide) h
theorem w_written (h1 : p.1.natAbs < 10 ^ 60) (h2 : p.2.natAbs < 10 ^ 60) : m__law_written [.d (T2 p)] = .ok (.d (.str (S (wL p))), [.d (T2 p)]) := by
  have b1 := lt_strb (bn_ten h1) (by decide)
  have b2 := lt_strb (bn_ten h2) (by decide)
  have s1 := inum_R p.1
  have s2 := inum_R p.2
  have l1 := inumL_len (by decide) h1
  have l2 := inumL_len (by decide) h2
  have l3 : (inumL p.1).length + 1 ≤ 16777216 := by omega
  have l4 : (inumL p.1).length + 1 + (inumL p.2).length ≤ 16777216 := by omega
  have l5 : (inumL p.1 ++ [47]).length + (inumL p.2).length ≤ 16777216 := by simp; omega
  by_cases c : p.2 = 1
  · simp [mkFn_ap, m__law_written, b__law_written, c, b1, s1, wL]
  · have a1 := x_add (inumL p.1) [47] (by simp; omega)
    have a2 := x_add (inumL p.1 ++ [47]) (inumL p.2) l5
    simp at a2
    simp [mkFn_ap, m__law_written, b__law_written, c, b1, b2, s1, s2, wL, c_slash, a1, a2]
theorem w_put (l : List Nat) (k : Nat) (c : Nat) (hl : l.length ≤ 400) : m__law_put [.d (.str (S l)), .d (.int k), .d (.str (S [c]))] = .ok (.d (.str (S (l.take k ++ c :: l.drop k))), [.d (.str (S l)), .d (.int k), .d (.str (S [c]))]) := by
  have h0 : l.length ≤ 16777216 := by omega
  have e1 : cutS (S l) none (some (k : Int)) = S (l.take k) := by rw [C8.cutS_slice, slice_to (by omega)]; simp
  have e2 : cutS (S l) (some (k : Int)) none = S (l.drop k) := by rw [C8.cutS_slice, slice_from (by omega)]; simp
  have a1 := x_add (l.take k) [c] (by simp; omega)
  have a2 := x_add (l.take k ++ [c]) (l.drop k) (by simp; omega)
  simp at a2
  simp [mkFn_ap, m__law_put, b__law_put, e1, e2, a1, a2, S_len, h0]
end Fx
namespace Fx
open PySem PySem.Spec PyProof.Rows L2 L2H SX
variable {p : Int × Int}
theorem okc_app {a b : List Nat} (h : okc a) (h' : okc b) : okc (a ++ b) := fun c hc => by
  rcases List.mem_append.mp hc with e | e
  · exact h c e
  · exact h' c e
theorem okc_cons {a : Nat} {b : List Nat} (h : a < 1114112) (h' : okc b) : okc (a :: b) := fun c hc => by
  rcases List.mem_cons.mp hc with e | e
  · omega
  · exact h' c e
theorem okc_nil : okc [] := fun c hc => by cases hc
theorem okc_take {l : List Nat} (h : okc l) (k : Nat) : okc (l.take k) := fun c hc => h c (List.mem_of_mem_take hc)
theorem okc_drop {l : List Nat} (h : okc l) (k : Nat) : okc (l.drop k) := fun c hc => h c (List.mem_of_mem_drop hc)
theorem bn_t61 {i : Int} (h : i.natAbs < 10 ^ 61) : Bn 210 i := by
  rw [bn_def]
  exact Nat.lt_trans h (by decide +kernel)
/-- a text that read refuses -/
structure Bad (l : List Nat) : Prop where
  rd : rdL l = none
  len : l.length ≤ 500
  ok : okc l
theorem wL_len (h1 : p.1.natAbs < 10 ^ 60) (h2 : p.2.natAbs < 10 ^ 60) : (wL p).length ≤ 130 := by
  have l1 := inumL_len (by decide) h1
  have l2 := inumL_len (by decide) h2
  unfold wL
  split
  · omega
  · simp; omega
theorem w_spoilt (h0 : 0 < p.2) (hg : Int.gcd p.1 p.2 = 1) (h1 : p.1.natAbs < 10 ^ 60) (h2 : p.2.natAbs < 10 ^ 60) (m k : Nat) (hm : m < 16) :
    ∃ l, Bad l ∧ m__law_spoilt [.d (T2 p), .d (.int m), .d (.int k)] = .ok (.d (.str (S l)), [.d (T2 p), .d (.int m), .d (.int k)]) := by
  have w := w_written h1 h2
  have b1 := lt_strb (bn_ten h1) (by decide)
  have b2 := lt_strb (bn_ten h2) (by decide)
  have s1 := inum_R p.1
  have s2 := inum_R p.2
  have l0 := wL_len h1 h2
  have l1 := inumL_len (by decide) h1
  have l2 := inumL_len (by decide) h2
  have k0 := wL_ok p
  have k1 := inumL_ok p.1
  have k2 := inumL_ok p.2
  match m, hm with
  | 0, _ =>
    refine ⟨48 :: wL p, ⟨sp0, by simp; omega, okc_cons (by decide) k0⟩, ?_⟩
    have a1 := x_add [48] (wL p) (by simp; omega)
    simp [mkFn_ap, m__law_spoilt, b__law_spoilt, w, b1, s1, k_zero, a1]
  | 1, _ =>
    by_cases c : p.2 = 1
    · refine ⟨wL p ++ [47, 49], ⟨sp1a c, by simp; omega, okc_app k0 (okc_cons (by decide) (okc_cons (by decide) okc_nil))⟩, ?_⟩
      have a1 := x_add (wL p) [47, 49] (by simp; omega)
      simp [mkFn_ap, m__law_spoilt, b__law_spoilt, w, b1, s1, k_s1, a1, c]
    · refine ⟨inumL p.1 ++ 47 :: 48 :: inumL p.2, ⟨sp1b _ _, by simp; omega, okc_app k1 (okc_cons (by decide) (okc_cons (by decide) k2))⟩, ?_⟩
      have a1 := x_add (inumL p.1) [47, 48] (by simp; omega)
      have a2 := x_add (inumL p.1 ++ [47, 48]) (inumL p.2) (by simp; omega)
      simp at a2
      simp [mkFn_ap, m__law_spoilt, b__law_spoilt, w, b1, s1, k_s0, a1, a2, c, b2, s2]
  | 2, _ =>
    refine ⟨43 :: wL p, ⟨rd_char (c := 43) (by simp) (by decide), by simp; omega, okc_cons (by decide) k0⟩, ?_⟩
    have a1 := x_add [43] (wL p) (by simp; omega)
    simp [mkFn_ap, m__law_spoilt, b__law_spoilt, w, b1, s1, k_plus, a1]
  | 3, _ =>
    refine ⟨wL p ++ [10], ⟨rd_last (by decide), by simp; omega, okc_app k0 (okc_cons (by decide) okc_nil)⟩, ?_⟩
    have a1 := x_add (wL p) [10] (by simp; omega)
    simp [mkFn_ap, m__law_spoilt, b__law_spoilt, w, b1, s1, k_nl, a1]
  | 4, _ =>
    refine ⟨47 :: wL p, ⟨sp4 _, by simp; omega, okc_cons (by decide) k0⟩, ?_⟩
    have a1 := x_add [47] (wL p) (by simp; omega)
    simp [mkFn_ap, m__law_spoilt, b__law_spoilt, w, b1, s1, c_slash, a1]
  | 5, _ =>
    refine ⟨wL p ++ [47], ⟨rd_last (by decide), by simp; omega, okc_app k0 (okc_cons (by decide) okc_nil)⟩, ?_⟩
    have a1 := x_add (wL p) [47] (by simp; omega)
    simp [mkFn_ap, m__law_spoilt, b__law_spoilt, w, b1, s1, c_slash, a1]
  | 6, _ =>
    have d1 : (2 * p.1).natAbs < 10 ^ 61 := by rw [Int.natAbs_mul]; show 2 * p.1.natAbs < 10 ^ 61; omega
    have d2 : (2 * p.2).natAbs < 10 ^ 61 := by rw [Int.natAbs_mul]; show 2 * p.2.natAbs < 10 ^ 61; omega
    have m1 := inumL_len (by decide) d1
    have m2 := inumL_len (by decide) d2
    have f1 := lt_strb (bn_t61 d1) (by decide)
    have f2 := lt_strb (bn_t61 d2) (by decide)
    have g1 := inum_R (2 * p.1)
    have g2 := inum_R (2 * p.2)
    have u1 := ok_mul (bn_lit (i := 2) (k := 60) (by decide) (by decide)) (bn_ten h1) (by decide) (by decide)
    have u2 := ok_mul (bn_lit (i := 2) (k := 60) (by decide) (by decide)) (bn_ten h2) (by decide) (by decide)
    refine ⟨inumL (2 * p.1) ++ 47 :: inumL (2 * p.2), ⟨sp6 _ _, by simp; omega, okc_app (inumL_ok _) (okc_cons (by decide) (inumL_ok _))⟩, ?_⟩
    have a1 := x_add (inumL (2 * p.1)) [47] (by simp; omega)
    have a2 := x_add (inumL (2 * p.1) ++ [47]) (inumL (2 * p.2)) (by simp; omega)
    simp at a2
    simp [mkFn_ap, m__law_spoilt, b__law_spoilt, w, b1, s1, c_slash, a1, a2, f1, f2, g1, g2, u1, u2]
  | 7, _ =>
    by_cases c : p.1 ≤ 0
    · refine ⟨45 :: wL p, ⟨sp7 h0 hg c, by simp; omega, okc_cons (by decide) k0⟩, ?_⟩
      have a1 := x_add [45] (wL p) (by simp; omega)
      simp [mkFn_ap, m__law_spoilt, b__law_spoilt, w, b1, s1, c_minus, a1, c]
    · refine ⟨wL p ++ [45], ⟨rd_last (by decide), by simp; omega, okc_app k0 (okc_cons (by decide) okc_nil)⟩, ?_⟩
      have a1 := x_add (wL p) [45] (by simp; omega)
      simp [mkFn_ap, m__law_spoilt, b__law_spoilt, w, b1, s1, c_minus, a1, c]
  | 8, _ =>
    refine ⟨inumL p.1 ++ [47, 48], ⟨sp1b _ [], by simp; omega, okc_app k1 (okc_cons (by decide) (okc_cons (by decide) okc_nil))⟩, ?_⟩
    have a1 := x_add (inumL p.1) [47, 48] (by simp; omega)
    simp [mkFn_ap, m__law_spoilt, b__law_spoilt, w, b1, s1, k_s0, a1]
  | 9, _ =>
    refine ⟨inumL p.1 ++ 47 :: 45 :: inumL p.2, ⟨sp9 _ _, by simp; omega, okc_app k1 (okc_cons (by decide) (okc_cons (by decide) k2))⟩, ?_⟩
    have a1 := x_add (inumL p.1) [47, 45] (by simp; omega)
    have a2 := x_add (inumL p.1 ++ [47, 45]) (inumL p.2) (by simp; omega)
    simp at a2
    simp [mkFn_ap, m__law_spoilt, b__law_spoilt, w, b1, s1, k_sm, a1, a2, b2, s2]
  | 10, _ =>
    refine ⟨(wL p).take k ++ 32 :: (wL p).drop k, ⟨rd_char (c := 32) (by simp) (by decide), by simp; omega, okc_app (okc_take k0 k) (okc_cons (by decide) (okc_drop k0 k))⟩, ?_⟩
    have a1 := w_put (wL p) k 32 (by omega)
    simp [mkFn_ap, m__law_spoilt, b__law_spoilt, w, b1, s1, k_sp, k_us, k_a, k_dot, k_plus, k_nl, a1]
  | 11, _ =>
    refine ⟨(wL p).take k ++ 95 :: (wL p).drop k, ⟨rd_char (c := 95) (by simp) (by decide), by simp; omega, okc_app (okc_take k0 k) (okc_cons (by decide) (okc_drop k0 k))⟩, ?_⟩
    have a1 := w_put (wL p) k 95 (by omega)
    simp [mkFn_ap, m__law_spoilt, b__law_spoilt, w, b1, s1, k_sp, k_us, k_a, k_dot, k_plus, k_nl, a1]
  | 12, _ =>
    refine ⟨(wL p).take k ++ 97 :: (wL p).drop k, ⟨rd_char (c := 97) (by simp) (by decide), by simp; omega, okc_app (okc_take k0 k) (okc_cons (by decide) (okc_drop k0 k))⟩, ?_⟩
    have a1 := w_put (wL p) k 97 (by omega)
    simp [mkFn_ap, m__law_spoilt, b__law_spoilt, w, b1, s1, k_sp, k_us, k_a, k_dot, k_plus, k_nl, a1]
  | 13, _ =>
    refine ⟨(wL p).take k ++ 46 :: (wL p).drop k, ⟨rd_char (c := 46) (by simp) (by decide), by simp; omega, okc_app (okc_take k0 k) (okc_cons (by decide) (okc_drop k0 k))⟩, ?_⟩
    have a1 := w_put (wL p) k 46 (by omega)
    simp [mkFn_ap, m__law_spoilt, b__law_spoilt, w, b1, s1, k_sp, k_us, k_a, k_dot, k_plus, k_nl, a1]
  | 14, _ =>
    refine ⟨(wL p).take k ++ 43 :: (wL p).drop k, ⟨rd_char (c := 43) (by simp) (by decide), by simp; omega, okc_app (okc_take k0 k) (okc_cons (by decide) (okc_drop k0 k))⟩, ?_⟩
    have a1 := w_put (wL p) k 43 (by omega)
    simp [mkFn_ap, m__law_spoilt, b__law_spoilt, w, b1, s1, k_sp, k_us, k_a, k_dot, k_plus, k_nl, a1]
  | 15, _ =>
    refine ⟨(wL p).take k ++ 10 :: (wL p).drop k, ⟨rd_char (c := 10) (by simp) (by decide), by simp; omega, okc_app (okc_take k0 k) (okc_cons (by decide) (okc_drop k0 k))⟩, ?_⟩
    have a1 := w_put (wL p) k 10 (by omega)
    simp [mkFn_ap, m__law_spoilt, b__law_spoilt, w, b1, s1, k_sp, k_us, k_a, k_dot, k_plus, k_nl, a1]
  | n + 16, h => omega
end Fx
namespace Fx
open PySem PySem.Spec PyProof.Rows L2 L2H SX
variable {p : Int × Int}
/-! ### the texts of the law -/
def N9 : List Nat := List.replicate 60 57
def Z59 : List Nat := List.replicate 59 48
def Z60 : List Nat := List.replicate 60 48
theorem rp9 : repS (S [57]) 60 = S N9 := by decide +kernel
theorem rp59 : repS (S [48]) 59 = S Z59 := by decide +kernel
theorem rp60 : repS (S [48]) 60 = S Z60 := by decide +kernel
theorem mul_s (g : P2) (c k : Nat) (l : List Nat) (h : repS (S [c]) k = S l) (hk : k ≤ 100) : P2.or mMul g (.str (S [c])) (.int k) = okS (.str (S l)) := by
  refine p2or_ok _ _ _ _ _ (p2or_stk _ _ _ _ rfl |>.trans (p2or_ok _ _ _ _ _ ?_))
  have h1 : (S [c]).length * ((k : Int)).toNat ≤ 16777216 ∧ -4611686018427387904 ≤ (k : Int) ∧ (k : Int) < 4611686018427387904 := by
    rw [S_len]; simp; omega
  unfold sMul
  simp only
  rw [if_pos h1]
  simp [h]
theorem pow_i (g : P2) (a : Int) (k : Nat) (v : Int) (h : a ^ k = v) (hk : k ≤ 100) (ha : a.natAbs < 18446744073709551616) : P2.or iPow g (.int a) (.int k) = okS (.int v) := by
  refine p2or_ok _ _ _ _ _ ?_
  unfold iPow
  simp only
  rw [if_pos ⟨by omega, by omega, ha⟩]
  simp [h]
theorem ln9 : N9.length = 60 := by decide +kernel
theorem lz59 : Z59.length = 59 := by decide +kernel
theorem lz60 : Z60.length = 60 := by decide +kernel
theorem ok9 : okc N9 := by
  intro c hc
  unfold N9 at hc
  have := (List.mem_replicate.mp hc).2
  omega
theorem okz59 : okc Z59 := by
  intro c hc
  unfold Z59 at hc
  have := (List.mem_replicate.mp hc).2
  omega
theorem okz60 : okc Z60 := by
  intro c hc
  unfold Z60 at hc
  have := (List.mem_replicate.mp hc).2
  omega
theorem k_nine : ("9" : Str) = S [57] := (rfl)
theorem k_o : ("1/" : Str) = S [49, 47] := (rfl)
theorem k_e : ("" : Str) = S [] := (rfl)
theorem read_good (l : List Nat) (q : Int × Int) (h : rdL l = some q) (hl : l.length ≤ 500) (hc : okc l) : m_Frac_read [.d (.str (S l))] = .ok (.d (Fr q), [.d (.str (S l))]) := by
  rw [q_read l hl hc, h]
theorem one_good (l : List Nat) (q : Int × Int) (h : rdL l = some q) (hl : l.length ≤ 500) (hc : okc l) (a b c d e f g i k m : Slot) : oneL [10, 11] (gTup 2 (gCons (gN 10) (gCons (gN 11) gNil))) tYs (cCall m__law_is [] (aC (cCall m_Frac_read [] (aC (cV 10) aN)) (aC (cV 11) aN))) (.tup [.str (S l), T2 q]) [a, b, c, d, e, f, g, i, k, m, .no, .no] = .ok (.bl true, [a, b, c, d, e, f, g, i, k, m, .no, .no]) := by
  have r := read_good l q h hl hc
  simp [oneL_ap, wipeN, r, w_is]
theorem bt_eq (g : P2) (l : List Nat) (hc : okc l) : P2.or dEq g (.tup [.str "text", .lst [.bl false, .bl true, .bl false, .bl false], .str (S l)]) (.tup [.str "text", .lst [.bl false, .bl true, .bl false, .bl false], .str (S l)]) = okS (.bl true) := by
  refine p2or_ok _ _ _ _ _ ?_
  have h1 : PyData.strOk "text" = true := by decide +kernel
  have h2 := okc_ok hc
  rw [dEq_of (by simp [D.plain, h1, h2]) (by simp [D.plain, h1, h2])]
  simp [D.py, PyData.eqv, PyData.eqvAll]
theorem one_bad (l : List Nat) (h : Bad l) (a b c d e f g i k m o : Slot) : oneL [10] (gN 10) tYs (c2 (P2.or dEq (P2.or (opB tb___eq__) (opR tb___eq__))) (cCall m__law_told [] (aC (cC (.int 4)) (aC (cV 10) (aC (cC (.int 0)) aN)))) (cA mTup (aC (cC (.str "text")) (aC (cA mLst (aC (cC (.bl false)) (aC (cC (.bl true)) (aC (cC (.bl false)) (aC (cC (.bl false)) aN))))) (aC (cV 10) aN))))) (.str (S l)) [a, b, c, d, e, f, g, i, k, m, .no, o] = .ok (.bl true, [a, b, c, d, e, f, g, i, k, m, .no, o]) := by
  have r : m_Frac_read [.d (.str (S l))] = .exc "BadText" ["text"] [.str (S l)] [.d (.str (S l))] := by rw [q_read l h.len h.ok, h.rd]
  have t := w_told4 r
  have b := bt_eq (P2.or (opB tb___eq__) (opR tb___eq__)) l h.ok
  simp [oneL_ap, wipeN, t, b]
theorem k_24 : ("2/4" : Str) = S [50, 47, 52] := (rfl)
theorem k_31 : ("3/1" : Str) = S [51, 47, 49] := (rfl)
theorem k_m0 : ("-0" : Str) = S [45, 48] := (rfl)
theorem k_p1 : ("+1" : Str) = S [43, 49] := (rfl)
theorem k_01 : ("01" : Str) = S [48, 49] := (rfl)
theorem k_10 : ("1/0" : Str) = S [49, 47, 48] := (rfl)
theorem k_1m2 : ("1/-2" : Str) = S [49, 47, 45, 50] := (rfl)
theorem k_b1 : (" 1" : Str) = S [32, 49] := (rfl)
theorem k_1b : ("1 " : Str) = S [49, 32] := (rfl)
theorem k_112 : ("1//2" : Str) = S [49, 47, 47, 50] := (rfl)
theorem k_123 : ("1/2/3" : Str) = S [49, 47, 50, 47, 51] := (rfl)
theorem okc_dec {l : List Nat} (h : l.all (fun c => decide (c < 1114112)) = true) : okc l := fun c hc => by
  have := List.all_eq_true.mp h c hc
  simpa using this
theorem bad_of {l : List Nat} (h : (decide (rdL l = none) && decide (l.length ≤ 500) && l.all (fun c => decide (c < 1114112))) = true) : Bad l := by
  simp only [Bool.and_eq_true, decide_eq_true_eq] at h
  exact ⟨h.1.1, h.1.2, okc_dec h.2⟩
theorem bd0 : Bad [] := bad_of (by decide +kernel)
theorem bd1 : Bad [45] := bad_of (by decide +kernel)
theorem bd2 : Bad (49 :: Z60) := bad_of (by decide +kernel)
theorem bd3 : Bad (45 :: (N9 ++ [49])) := bad_of (by decide +kernel)
theorem bd4 : Bad (49 :: 47 :: (N9 ++ [49])) := bad_of (by decide +kernel)
theorem bd5 : Bad [50, 47, 52] := bad_of (by decide +kernel)
theorem bd6 : Bad [51, 47, 49] := bad_of (by decide +kernel)
theorem bd7 : Bad [45, 48] := bad_of (by decide +kernel)
theorem bd8 : Bad [43, 49] := bad_of (by decide +kernel)
theorem bd9 : Bad [48, 49] := bad_of (by decide +kernel)
theorem bd10 : Bad [49, 47, 48] := bad_of (by decide +kernel)
theorem bd11 : Bad [49, 47, 45, 50] := bad_of (by decide +kernel)
theorem bd12 : Bad [32, 49] := bad_of (by decide +kernel)
theorem bd13 : Bad [49, 32] := bad_of (by decide +kernel)
theorem bd14 : Bad [49, 47, 47, 50] := bad_of (by decide +kernel)
theorem bd15 : Bad [49, 47, 50, 47, 51] := bad_of (by decide +kernel)
theorem gd1 : rdL N9 = some (999999999999999999999999999999999999999999999999999999999999, 1) := by decide +kernel
theorem gd2 : rdL (45 :: (N9 ++ 47 :: 49 :: Z59)) = some (-999999999999999999999999999999999999999999999999999999999999, 100000000000000000000000000000000000000000000000000000000000) := by decide +kernel
theorem gd3 : rdL (49 :: 47 :: N9) = some (1, 999999999999999999999999999999999999999999999999999999999999) := by decide +kernel
theorem w_texts (h0 : 0 < p.2) (hg : Int.gcd p.1 p.2 = 1) (h1 : p.1.natAbs < 10 ^ 60) (h2 : p.2.natAbs < 10 ^ 60) (m k : Nat) (hm : m < 16) :
    m__law_texts [.d (Fr p), .d (T2 p), .d (.int m), .d (.int k)] = .ok (.d (.bl true), [.d (Fr p), .d (T2 p), .d (.int m), .d (.int k)]) := by
  obtain ⟨l, hb, hs⟩ := w_spoilt h0 hg h1 h2 m k hm
  have w := w_written h1 h2
  have fp : Fq 1000 p := ⟨h0, hg, bn_mono (bn_ten h1) (by decide), bn_mono (bn_ten h2) (by decide)⟩
  have st := o_str_f fp
  have e1 := s_ne (P2.or (opN tb___eq__) (opNR tb___eq__)) (wL p) (wL p) (okc_ok (wL_ok p)) (okc_ok (wL_ok p))
  have r1 := read_good (wL p) p (rd_good h0 hg h1 h2) (by have := wL_len h1 h2; omega) (wL_ok p)
  have n9 : ∀ g, P2.or mMul g (.str (S [57])) (.int 60) = okS (.str (S N9)) := fun g => mul_s g 57 60 N9 rp9 (by decide)
  have z5 : ∀ g, P2.or mMul g (.str (S [48])) (.int 59) = okS (.str (S Z59)) := fun g => mul_s g 48 59 Z59 rp59 (by decide)
  have z6 : ∀ g, P2.or mMul g (.str (S [48])) (.int 60) = okS (.str (S Z60)) := fun g => mul_s g 48 60 Z60 rp60 (by decide)
  have l9 := ln9
  have l5 := lz59
  have l6 := lz60
  have a1 : ∀ g, P2.or mAdd g (.str (S [45])) (.str (S N9)) = okS (.str (S (45 :: N9))) := fun g => x_add2 g [45] N9 (by simp [l9])
  have a2 : ∀ g, P2.or mAdd g (.str (S (45 :: N9))) (.str (S [47, 49])) = okS (.str (S (45 :: (N9 ++ [47, 49])))) := fun g => x_add2 g (45 :: N9) [47, 49] (by simp [l9])
  have a3 : ∀ g, P2.or mAdd g (.str (S (45 :: (N9 ++ [47, 49])))) (.str (S Z59)) = okS (.str (S (45 :: (N9 ++ 47 :: 49 :: Z59)))) := fun g => by
    have := x_add2 g (45 :: (N9 ++ [47, 49])) Z59 (by simp [l9, l5])
    simpa using this
  have a4 : ∀ g, P2.or mAdd g (.str (S [49, 47])) (.str (S N9)) = okS (.str (S (49 :: 47 :: N9))) := fun g => x_add2 g [49, 47] N9 (by simp [l9])
  have a5 : ∀ g, P2.or mAdd g (.str (S [49])) (.str (S Z60)) = okS (.str (S (49 :: Z60))) := fun g => x_add2 g [49] Z60 (by simp [l6])
  have a6 : ∀ g, P2.or mAdd g (.str (S (45 :: N9))) (.str (S [49])) = okS (.str (S (45 :: (N9 ++ [49])))) := fun g => x_add2 g (45 :: N9) [49] (by simp [l9])
  have a7 : ∀ g, P2.or mAdd g (.str (S (49 :: 47 :: N9))) (.str (S [49])) = okS (.str (S (49 :: 47 :: (N9 ++ [49])))) := fun g => x_add2 g (49 :: 47 :: N9) [49] (by simp [l9])
  have g1 := one_good N9 _ gd1 (by simp [l9]) ok9
  have g2 := one_good _ _ gd2 (by simp [l9, l5]) (okc_cons (by decide) (okc_app ok9 (okc_cons (by decide) (okc_cons (by decide) okz59))))
  have g3 := one_good _ _ gd3 (by simp [l9]) (okc_cons (by decide) (okc_cons (by decide) ok9))

  have b0 := one_bad _ bd0
  have b1 := one_bad _ bd1
  have b2 := one_bad _ bd2
  have b3 := one_bad _ bd3
  have b4 := one_bad _ bd4
  have b5 := one_bad _ bd5
  have b6 := one_bad _ bd6
  have b7 := one_bad _ bd7
  have b8 := one_bad _ bd8
  have b9 := one_bad _ bd9
  have b10 := one_bad _ bd10
  have b11 := one_bad _ bd11
  have b12 := one_bad _ bd12
  have b13 := one_bad _ bd13
  have b14 := one_bad _ bd14
  have b15 := one_bad _ bd15
  simp [mkFn_ap, m__law_texts, b__law_texts, w, st, e1, r1, w_is, ti_str, k_nine, n9, k_s1, k_zero, z5, z6, a1, a2, a3, a4, a5, a6, a7, k_o, k_one, k_e, c_minus, hs]
  rw [lcL_yes _ (by simp [g1, g2, g3]) (by simp)]
  simp [wipeN, hs, n9, k_s1, k_zero, z5, z6, a1, a2, a3, a4, a5, a6, a7, o_add_ll, k_24, k_31, k_m0, k_p1, k_01, k_10, k_1m2, k_b1, k_1b, k_112, k_123]
  rw [lcL_yes _ (by simp [one_bad _ hb, b0, b1, b2, b3, b4, b5, b6, b7, b8, b9, b10, b11, b12, b13, b14, b15]) (by simp)]
  simp [wipeN]
end Fx
namespace Fx
open PySem PySem.Spec PyProof.Rows L2 L2H SX
/-! ### drawing -/
def ci (n : Nat) : D := .int n
def Pl (cs : List Nat) (i c k : Nat) : Sl := .lst [.d (.lst (cs.map ci)), .d (.int i), .d (.int c), .d (.int k)]
def PI (s : Sl) : Prop := ∃ cs i c k, s = Pl cs i c k ∧ i ≤ cs.length ∧ cs.length ≤ 200
theorem ix_cs (cs : List Nat) (i : Nat) (h : i < cs.length) : atI (cs.map ci) (i : Int) = some (.int cs[i]) := by
  rw [atI_n i (show i < (cs.map ci).length by simpa using h)]
  simp [ci]
theorem ixN_n (n k : Nat) (h : k < n) : ixN n (k : Int) = some k := by
  unfold ixN
  simp
  omega
@[simp] theorem ixN40 : ixN 4 0 = some 0 := ixN_n 4 0 (by decide)
@[simp] theorem ixN41 : ixN 4 1 = some 1 := ixN_n 4 1 (by decide)
@[simp] theorem ixN42 : ixN 4 2 = some 2 := ixN_n 4 2 (by decide)
@[simp] theorem ixN43 : ixN 4 3 = some 3 := ixN_n 4 3 (by decide)
theorem fmod_nat (a b : Nat) : Int.fmod (a : Int) (b : Int) = ((a % b : Nat) : Int) := by
  rw [Int.fmod_eq_emod_of_nonneg _ (by omega)]; rfl
theorem fdiv_nat (a b : Nat) : Int.fdiv (a : Int) (b : Int) = ((a / b : Nat) : Int) := by
  rw [Int.fdiv_eq_ediv_of_nonneg _ (by omega)]; rfl
theorem w_pick {s : Sl} (h : PI s) (m : Nat) (hm : 0 < m) (hb : Bn 9000 (m : Int)) : ∃ (v : Nat) (s' : Sl), v < m ∧ PI s' ∧ m__law_pick [s, .d (.int m)] = .ok (.d (.int v), [s', .d (.int m)]) := by
  obtain ⟨cs, i, c, k, rfl, hi, hl⟩ := h
  have m0 : (m : Int) ≠ 0 := by omega
  have m0' : ¬ m = 0 := by omega
  have ok : okDiv (m : Int) := ⟨m0, lt_divb hb (by decide)⟩
  have hl2 : cs.length ≤ 16777216 := by omega
  by_cases g : c = 0 ∨ k = 60
  · by_cases e : i = cs.length
    · refine ⟨0, Pl cs i c k, hm, ⟨cs, i, c, k, rfl, hi, hl⟩, ?_⟩
      rcases g with g | g
      · simp [mkFn_ap, m__law_pick, b__law_pick, Pl, g, e, hl2]
      · by_cases g1 : c = 0
        · simp [mkFn_ap, m__law_pick, b__law_pick, Pl, g1, e, hl2]
        · have g3 : (k : Int) = 60 := by omega
          simp [mkFn_ap, m__law_pick, b__law_pick, Pl, g1, g3, e, hl2]
    · have lt : i < cs.length := by omega
      refine ⟨cs[i] % m, Pl cs (i + 1) (cs[i] / m) 1, Nat.mod_lt _ hm, ⟨cs, i + 1, _, _, rfl, by omega, hl⟩, ?_⟩
      have ix := ix_cs cs i lt
      have e' : ¬ (i : Int) = (cs.length : Int) := by omega
      by_cases g1 : c = 0
      · simp [mkFn_ap, m__law_pick, b__law_pick, Pl, g1, e, e', hl2, ix, m0, m0', ok, fmod_nat, fdiv_nat]
      · have g3 : (k : Int) = 60 := by omega
        simp [mkFn_ap, m__law_pick, b__law_pick, Pl, g1, g3, e, e', hl2, ix, m0, m0', ok, fmod_nat, fdiv_nat]
  · refine ⟨c % m, Pl cs i (c / m) (k + 1), Nat.mod_lt _ hm, ⟨cs, i, _, _, rfl, hi, hl⟩, ?_⟩
    have g1 : ¬ c = 0 := fun z => g (.inl z)
    have g2 : ¬ k = 60 := fun z => g (.inr z)
    have g3 : ¬ (k : Int) = 60 := by omega
    simp [mkFn_ap, m__law_pick, b__law_pick, Pl, g1, g2, g3, m0, m0', ok, fmod_nat, fdiv_nat]
theorem bn_30 {m : Nat} (h : m < 10 ^ 60) : Bn 9000 (m : Int) := bn_mono (bn_ten (by simpa using h)) (by decide)
theorem bn_sm {m : Nat} (h : m < 2 ^ 60) : Bn 9000 (m : Int) := bn_lit (by simpa using h) (by decide)
theorem pi_back {s : Sl} (h : PI s) (t : Sl) (δ : En) : backS [s] (.par t :: δ) = some [t] := by
  obtain ⟨cs, i, c, k, rfl, _⟩ := h
  rfl
theorem ten_val : ∀ k, k < 30 → NumText.digitsVal (49 :: List.replicate k 48) = 10 ^ k := by decide +kernel
theorem ten_rep : ∀ k, k < 30 → repS (S [48]) k = S (List.replicate k 48) := by decide +kernel
theorem ten_le : ∀ k, k < 30 → 1 ≤ 10 ^ k ∧ 10 ^ k ≤ 10 ^ 29 := by decide +kernel
theorem ten_int (k : Nat) (hk : k < 30) : intText? (S (49 :: List.replicate k 48)) = some ((10 ^ k : Nat) : Int) := by
  have h : NumText.AllDigits (49 :: List.replicate k 48) := by
    intro c hc
    rcases List.mem_cons.mp hc with e | e
    · omega
    · have := (List.mem_replicate.mp e).2
      omega
  have := intText_digits (x := S (49 :: List.replicate k 48)) h (by simp [S]) (by rw [S_len]; simp; omega)
  rw [this]
  show some ((NumText.digitsVal (49 :: List.replicate k 48) : Nat) : Int) = _
  rw [ten_val k hk]
theorem mul_s' (k : Nat) (hk : k < 30) : mMul (.str (S [48])) (.int k) = okS (.str (S (List.replicate k 48))) := by
  refine p2or_stk _ _ _ _ rfl |>.trans (p2or_ok _ _ _ _ _ ?_)
  have h1 : (S [48]).length * ((k : Int)).toNat ≤ 16777216 ∧ -4611686018427387904 ≤ (k : Int) ∧ (k : Int) < 4611686018427387904 := by
    rw [S_len]; simp; omega
  unfold sMul
  simp only
  rw [if_pos h1]
  simp [ten_rep k hk]
theorem w_size {s : Sl} (h : PI s) : ∃ (v : Nat) (s' : Sl), v ≤ 10 ^ 30 - 2 ∧ PI s' ∧ m__law_size [s] = .ok (.d (.int v), [s']) := by
  obtain ⟨v, s1, hv, h1, e1⟩ := w_pick h 4 (by decide) (bn_sm (by decide))
  have e1' : m__law_pick [s, .d (.int 4)] = .ok (.d (.int v), [s1, .d (.int 4)]) := e1
  have hb := pi_back h
  match v, hv with
  | 0, _ =>
    obtain ⟨u, s2, hu, h2, e2⟩ := w_pick h1 10 (by decide) (bn_sm (by decide))
    have e2' : m__law_pick [s1, .d (.int 10)] = .ok (.d (.int u), [s2, .d (.int 10)]) := e2
    match u, hu with
    | 0, _ => exact ⟨3, s2, by decide, h2, by simp at e1' e2'; simp [mkFn_ap, m__law_size, b__law_size, e1', e2', hb]⟩
    | 1, _ => exact ⟨0, s2, by decide, h2, by simp at e1' e2'; simp [mkFn_ap, m__law_size, b__law_size, e1', e2', hb]⟩
    | 2, _ => exact ⟨1, s2, by decide, h2, by simp at e1' e2'; simp [mkFn_ap, m__law_size, b__law_size, e1', e2', hb]⟩
    | 3, _ => exact ⟨2, s2, by decide, h2, by simp at e1' e2'; simp [mkFn_ap, m__law_size, b__law_size, e1', e2', hb]⟩
    | 4, _ => exact ⟨4, s2, by decide, h2, by simp at e1' e2'; simp [mkFn_ap, m__law_size, b__law_size, e1', e2', hb]⟩
    | 5, _ => exact ⟨6, s2, by decide, h2, by simp at e1' e2'; simp [mkFn_ap, m__law_size, b__law_size, e1', e2', hb]⟩
    | 6, _ => exact ⟨9, s2, by decide, h2, by simp at e1' e2'; simp [mkFn_ap, m__law_size, b__law_size, e1', e2', hb]⟩
    | 7, _ => exact ⟨10, s2, by decide, h2, by simp at e1' e2'; simp [mkFn_ap, m__law_size, b__law_size, e1', e2', hb]⟩
    | 8, _ => exact ⟨12, s2, by decide, h2, by simp at e1' e2'; simp [mkFn_ap, m__law_size, b__law_size, e1', e2', hb]⟩
    | 9, _ => exact ⟨60, s2, by decide, h2, by simp at e1' e2'; simp [mkFn_ap, m__law_size, b__law_size, e1', e2', hb]⟩
    | n + 10, h => omega
  | 1, _ =>
    obtain ⟨u, s2, hu, h2, e2⟩ := w_pick h1 (10 ^ 30 - 1) (by decide) (bn_30 (by decide))
    have e2' : m__law_pick [s1, .d (.int 999999999999999999999999999999)] = .ok (.d (.int u), [s2, .d (.int 999999999999999999999999999999)]) := e2
    exact ⟨u, s2, by omega, h2, by simp at e1'; simp [mkFn_ap, m__law_size, b__law_size, e1', e2', hb]⟩
  | 2, _ =>
    obtain ⟨u, s2, hu, h2, e2⟩ := w_pick h1 10 (by decide) (bn_sm (by decide))
    have e2' : m__law_pick [s1, .d (.int 10)] = .ok (.d (.int u), [s2, .d (.int 10)]) := e2
    have ev : ((10 ^ 30 - 2 - u : Nat) : Int) = 999999999999999999999999999998 - u := by omega
    exact ⟨10 ^ 30 - 2 - u, s2, by omega, h2, by rw [ev]; simp at e1'; simp [mkFn_ap, m__law_size, b__law_size, e1', e2', hb]⟩
  | 3, _ =>
    obtain ⟨u, s2, hu, h2, e2⟩ := w_pick h1 30 (by decide) (bn_sm (by decide))
    have e2' : m__law_pick [s1, .d (.int 30)] = .ok (.d (.int u), [s2, .d (.int 30)]) := e2
    obtain ⟨t, s3, ht, h3, e3⟩ := w_pick h2 2 (by decide) (bn_sm (by decide))
    have e3' : m__law_pick [s2, .d (.int 2)] = .ok (.d (.int t), [s3, .d (.int 2)]) := e3
    have ti := ten_int u hu
    have ms := mul_s' u hu
    have a1 := x_add [49] (List.replicate u 48) (by simp; omega)
    simp only [List.singleton_append] at a1
    obtain ⟨tl, tl2⟩ := ten_le u hu
    generalize 10 ^ u = w at ti tl tl2
    have ev : ((w - 1 + t : Nat) : Int) = (w : Int) - 1 + t := by omega
    have hl : u + 1 ≤ 640 := by omega
    exact ⟨w - 1 + t, s3, by omega, h3, by rw [ev]; simp at e1'; simp [mkFn_ap, m__law_size, b__law_size, e1', e2', e3', hb, k_one, k_zero, ms, a1, ti, S_len, hl]⟩
  | n + 4, h => omega
theorem w_top {s : Sl} (h : PI s) : ∃ (v : Int) (s' : Sl), v.natAbs ≤ 10 ^ 30 - 2 ∧ PI s' ∧ m__law_top [s] = .ok (.d (.int v), [s']) := by
  obtain ⟨v, s1, hv, h1, e1⟩ := w_pick h 2 (by decide) (bn_sm (by decide))
  have e1' : m__law_pick [s, .d (.int 2)] = .ok (.d (.int v), [s1, .d (.int 2)]) := e1
  have hb := pi_back h
  obtain ⟨u, s2, hu, h2, e2⟩ := w_size h1
  match v, hv with
  | 0, _ => exact ⟨u, s2, by simpa using hu, h2, by simp at e1'; simp [mkFn_ap, m__law_top, b__law_top, e1', e2, hb]⟩
  | 1, _ => exact ⟨-u, s2, by simpa using hu, h2, by simp at e1'; simp [mkFn_ap, m__law_top, b__law_top, e1', e2, hb]⟩
  | n + 2, h => omega
end Fx
namespace Fx
open PySem PySem.Spec PyProof.Rows L2 L2H SX
def sci (n : Nat) : Sl := .d (ci n)
noncomputable def pl_b : Sx := (sSeq (sEx (cApp 1 (aC (cA bAbs (aC (cA bInt (aC (cV 2) aN)) aN)) aN))) (sIf (cB (c2 (iCmp fun i j => decide (i < j)) (cV 2) (cC (.int 0)))) (sEx (cApp 1 (aC (cC (.int 1)) aN))) sNx))
theorem pool_for (a : Slot) : ∀ (ns : List Int) (cs : List Nat) (z : Slot), cs.length + 2 * ns.length ≤ 200 → ∃ (cs' : List Nat) (z' : Slot), cs'.length ≤ cs.length + 2 * ns.length ∧
    forL (gN 2) pl_b (ns.map D.int) [a, .loc (.lst (cs.map sci)), z] = .ok (.nx, [a, .loc (.lst (cs'.map sci)), z'])
  | [], cs, z, _ => ⟨cs, z, by simp, by simp⟩
  | n :: ns, cs, z, hl => by
    simp only [List.length_cons] at hl
    have l1 : cs.length < 16777216 := by omega
    have l2 : cs.length + 1 < 16777216 := by omega
    by_cases c : n < 0
    · obtain ⟨cs', z', h1, h2⟩ := pool_for a ns (cs ++ [n.natAbs, 1]) (.loc (.d (.int n))) (by simp; omega)
      refine ⟨cs', z', by simp at h1 ⊢; omega, ?_⟩
      rw [List.map_cons, forL_cons]
      simp only [pl_b] at h2 ⊢
      simp [sci, ci] at h2
      simp [c, l1, l2, sci, ci, h2]
    · obtain ⟨cs', z', h1, h2⟩ := pool_for a ns (cs ++ [n.natAbs]) (.loc (.d (.int n))) (by simp; omega)
      refine ⟨cs', z', by simp at h1 ⊢; omega, ?_⟩
      rw [List.map_cons, forL_cons]
      simp only [pl_b] at h2 ⊢
      simp [sci, ci] at h2
      simp [c, l1, l2, sci, ci, h2]
theorem cut63 (xs : List D) (h : xs.length ≤ 63) : cutD xs none (some 63) = xs := by
  unfold cutD
  rw [show (some 63 : Option Int) = some ((63 : Nat) : Int) from rfl, HT.sIx_none, HT.sIx_nat, List.drop_zero, Nat.sub_zero]
  exact List.take_of_length_le (by omega)
theorem fzL_dd : ∀ xs : List D, fzL (xs.map Sl.d) = xs
  | [] => rfl
  | x :: xs => by simp [fzL_dd xs]
theorem fzL_sci : ∀ cs : List Nat, fzL (cs.map sci) = cs.map ci
  | [] => rfl
  | x :: xs => by simp [fzL_sci xs, sci]
theorem w_pool (ns : List Int) (h : ns.length ≤ 63) : ∃ s', PI s' ∧ m__law_pool [.d (.rl (ns.map D.int))] = .ok (s', [.d (.rl (ns.map D.int))]) := by
  obtain ⟨cs, z, hl, hf⟩ := pool_for (.par (.d (.rl (ns.map D.int)))) ns [] .no (by simp; omega)
  have c := cut63 (ns.map D.int) (by simpa using h)
  have l1 : ns.length ≤ 16777216 := by omega
  have l2 : (ns.map D.int).length ≤ 16777216 := by simpa using l1
  have fz := fzL_dd (ns.map D.int)
  refine ⟨Pl cs 0 0 0, ⟨cs, 0, 0, 0, rfl, by omega, by simp at hl; omega⟩, ?_⟩
  simp only [pl_b] at hf
  have fs := fzL_sci cs
  generalize ns.map D.int = L at *
  simp at hf
  simp [mkFn_ap, m__law_pool, b__law_pool, c, l2, fz, hf, fs, Pl]
end Fx
namespace Fx
open PySem PySem.Spec PyProof.Rows L2 L2H SX
/-! ### the law, in parts -/

noncomputable def law_t14 : Sx := (sSeq (sIf (tOr' (tNo (cB (cCall m__law_sums [] (aC (cV 11) (aC (cV 12) (aC (cV 7) (aC (cV 9) (aC (cV 10) aN)))))))) (tOr' (tNo (cB (cCall m__law_powers [] (aC (cV 11) (aC (cV 9) aN))))) (tNo (cB (cCall m__law_divided [] (aC (cV 11) (aC (cV 12) (aC (cV 7) (aC (cV 9) (aC (cV 10) aN)))))))))) (sRt (cC (.bl false))) sNx) (sSeq (sIf (tNo (cB (cCall m__law_is [] (aC (c2 (P2.or iPow (opB tb___pow__)) (cMake "Frac" m_Frac___init__ [] (aC (cIxV 13 (cC (.int 0))) (aC (cIxV 13 (cC (.int 1))) aN))) (cC (.int 64))) (aC (cCall m__law_power [] (aC (cV 13) (aC (cC (.int 64)) aN))) aN))))) (sRt (cC (.bl false))) sNx) (sSeq (sIf (tOr' (tNo (cB (cCall m__law_order [] (aC (cV 11) (aC (cV 12) (aC (cV 9) (aC (cV 10) aN))))))) (tOr' (tNo (cB (cCall m__law_order [] (aC (cV 11) (aC (cV 7) (aC (cV 9) (aC (cA mTup (aC (cV 7) (aC (cC (.int 1)) aN))) aN))))))) (tNo (cB (cCall m__law_order [] (aC (cV 7) (aC (cV 11) (aC (cA mTup (aC (cV 7) (aC (cC (.int 1)) aN))) (aC (cV 9) aN))))))))) (sRt (cC (.bl false))) sNx) (sSeq (sIf (tOr' (tNo (cB (cCall m__law_order [] (aC (cV 12) (aC (cV 11) (aC (cV 10) (aC (cV 9) aN))))))) (tOr' (tNo (cB (cCall m__law_order [] (aC (cV 11) (aC (cV 11) (aC (cV 9) (aC (cV 9) aN))))))) (tNo (cB (cCall m__law_order [] (aC (cMake "Frac" m_Frac___init__ [.int 1] (aC (cV 7) aN)) (aC (cV 7) (aC (cA mTup (aC (cV 7) (aC (cC (.int 1)) aN))) (aC (cA mTup (aC (cV 7) (aC (cC (.int 1)) aN))) aN))))))))) (sRt (cC (.bl false))) sNx) (sSeq (sIf (tOr' (cB (c2 (P2.or dNe (P2.or (opN tb___eq__) (opNR tb___eq__))) (cA mTup (aC (cA (PN.or bBool (opBo tb___bool__)) (aC (cV 11) aN)) (aC (cA (PN.or bBool (opBo tb___bool__)) (aC (cV 12) aN)) (aC (cA (PN.or bBool (opBo tb___bool__)) (aC (c1 (P1.or iNeg (opU tb___neg__)) (cV 11)) aN)) aN)))) (cA mTup (aC (c2 (P2.or dNe (P2.or (opN tb___eq__) (opNR tb___eq__))) (cIxV 9 (cC (.int 0))) (cC (.int 0))) (aC (c2 (P2.or dNe (P2.or (opN tb___eq__) (opNR tb___eq__))) (cIxV 10 (cC (.int 0))) (cC (.int 0))) (aC (c2 (P2.or dNe (P2.or (opN tb___eq__) (opNR tb___eq__))) (cIxV 9 (cC (.int 0))) (cC (.int 0))) aN)))))) (tNo (cB (cCall m__law_zeros [] (aC (cV 11) (aC (cV 7) aN)))))) (sRt (cC (.bl false))) sNx) (sSeq (sSet 14 (cCallO m__law_pick [] 1 (aC (cC (.int 16)) aN))) (sSeq (sSet 15 (cCallO m__law_pick [] 1 (aC (c2 (P2.or mAdd (P2.or (opB tb___add__) (opR tb___radd__))) (cC (.int 1)) (cA bLen (aC (cCall m__law_written [] (aC (cV 9) aN)) aN))) aN))) (sSeq (sIf (tOr' (tNo (cB (cCall m__law_texts [] (aC (cV 11) (aC (cV 9) (aC (cV 14) (aC (cV 15) aN))))))) (tOr' (tNo (cB (cCall m__law_int [] (aC (cC (.int 60)) aN)))) (cB (c2 (P2.or dNe (P2.or (opN tb___eq__) (opNR tb___eq__))) (cC (.int 60)) (cC (.int 60)))))) (sRt (cC (.bl false))) sNx) (sRt (cAn (cCall m__law_is [] (aC (cV 11) (aC (cV 9) aN))) (cCall m__law_is [] (aC (cV 12) (aC (cV 10) aN)))))))))))))
noncomputable def law_t9 : Sx := (sSeq (sSet 9 (cCall m__law_low [] (aC (cV 3) (aC (cV 4) aN)))) (sSeq (sSet 10 (cCall m__law_low [] (aC (cV 5) (aC (cV 6) aN)))) (sSeq (sSet 11 (cMake "Frac" m_Frac___init__ [] (aC (c2 (P2.or mMul (P2.or (opB tb___mul__) (opR tb___rmul__))) (cV 8) (cV 3)) (aC (c2 (P2.or mMul (P2.or (opB tb___mul__) (opR tb___rmul__))) (cV 8) (cV 4)) aN)))) (sSeq (sSet 12 (cMake "Frac" m_Frac___init__ [] (aC (cV 5) (aC (cV 6) aN)))) (sSeq (sSet 13 (cCall m__law_low [] (aC (c2 (P2.or iSub (P2.or (opB tb___sub__) (opR tb___rsub__))) (cCallO m__law_pick [] 1 (aC (cC (.int 9)) aN)) (cC (.int 4))) (aC (c2 (P2.or mAdd (P2.or (opB tb___add__) (opR tb___radd__))) (cC (.int 1)) (cCallO m__law_pick [] 1 (aC (cC (.int 6)) aN))) aN)))) law_t14)))))
noncomputable def law_t8 : Sx := (sSeq (sSet 8 (cC (.int 1))) (sSeq (sIf (tAn (cB (c2 (P2.or (iCmp fun i j => decide (i < j)) (P2.or (opB tb___lt__) (opR tb___gt__))) (cA (PN.or bAbs (opU1 tb___abs__)) (aC (cV 3) aN)) (c2 (P2.or iPow (opB tb___pow__)) (cC (.int 10)) (cC (.int 28))))) (cB (c2 (P2.or (iCmp fun i j => decide (i < j)) (P2.or (opB tb___lt__) (opR tb___gt__))) (cV 4) (c2 (P2.or iPow (opB tb___pow__)) (cC (.int 10)) (cC (.int 28)))))) (sSet 8 (c2 mIx (cA mLst (aC (cC (.int 1)) (aC (c1 (P1.or iNeg (opU tb___neg__)) (cC (.int 1))) (aC (cC (.int 2)) (aC (c1 (P1.or iNeg (opU tb___neg__)) (cC (.int 3))) (aC (cC (.int 6)) (aC (c1 (P1.or iNeg (opU tb___neg__)) (cC (.int 9))) aN))))))) (cCallO m__law_pick [] 1 (aC (cC (.int 6)) aN)))) sNx) law_t9))
theorem b_law_eq : b_law = (sSeq (sSet 1 (cCall m__law_pool [] (aC (cV 0) aN))) (sSeq (sSet 2 (cCallO m__law_pick [] 1 (aC (cC (.int 8)) aN))) (sSeq (sSet 3 (cCallO m__law_top [] 1 aN)) (sSeq (sSet 4 (c2 (P2.or mAdd (P2.or (opB tb___add__) (opR tb___radd__))) (cC (.int 1)) (cCallO m__law_size [] 1 aN))) (sSeq (sSet 5 (cCallO m__law_top [] 1 aN)) (sSeq (sSet 6 (c2 (P2.or mAdd (P2.or (opB tb___add__) (opR tb___radd__))) (cC (.int 1)) (cCallO m__law_size [] 1 aN))) (sSeq (sSet 7 (cCallO m__law_top [] 1 aN)) (sSeq (sIf (cB (c2 (P2.or (iCmp fun i j => decide (i < j)) (P2.or (opB tb___lt__) (opR tb___gt__))) (cA (PN.or bAbs (opU1 tb___abs__)) (aC (cV 5) aN)) (cC (.int 100)))) (sSet 5 (c2 (P2.or iSub (P2.or (opB tb___sub__) (opR tb___rsub__))) (cV 5) (cC (.int 2)))) sNx) (sSeq (sIf (tOr' (cB (c2 (P2.or dEq (P2.or (opB tb___eq__) (opR tb___eq__))) (cV 2) (cC (.int 1)))) (cB (c2 (P2.or dEq (P2.or (opB tb___eq__) (opR tb___eq__))) (cV 2) (cC (.int 2))))) (sSeq (sSet 5 (c2 mIx (cA mLst (aC (cV 3) (aC (c1 (P1.or iNeg (opU tb___neg__)) (cV 3)) aN))) (c2 (P2.or iSub (P2.or (opB tb___sub__) (opR tb___rsub__))) (cV 2) (cC (.int 1))))) (sSet 6 (cV 4))) sNx) (sSeq (sIf (cB (c2 (P2.or dEq (P2.or (opB tb___eq__) (opR tb___eq__))) (cV 2) (cC (.int 3)))) (sSet 5 (cC (.int 0))) sNx) (sSeq (sIf (cB (c2 (P2.or dEq (P2.or (opB tb___eq__) (opR tb___eq__))) (cV 2) (cC (.int 4)))) (sSet 7 (cC (.int 0))) sNx) (sSeq (sIf (cB (c2 (P2.or dEq (P2.or (opB tb___eq__) (opR tb___eq__))) (cV 2) (cC (.int 5)))) (sSet 7 (c2 (P2.or iFdv (P2.or (opB tb___floordiv__) (opR tb___rfloordiv__))) (cV 3) (cV 4))) sNx) (sSeq (sIf (cB (c2 (P2.or dEq (P2.or (opB tb___eq__) (opR tb___eq__))) (cV 2) (cC (.int 6)))) (sSeq (sSet 5 (cV 7)) (sSet 6 (cC (.int 1)))) sNx) law_t8))))))))))))) := rfl
theorem law_t8_eq : law_t8 = (sSeq (sSet 8 (cC (.int 1))) (sSeq (sIf (tAn (cB (c2 (P2.or (iCmp fun i j => decide (i < j)) (P2.or (opB tb___lt__) (opR tb___gt__))) (cA (PN.or bAbs (opU1 tb___abs__)) (aC (cV 3) aN)) (c2 (P2.or iPow (opB tb___pow__)) (cC (.int 10)) (cC (.int 28))))) (cB (c2 (P2.or (iCmp fun i j => decide (i < j)) (P2.or (opB tb___lt__) (opR tb___gt__))) (cV 4) (c2 (P2.or iPow (opB tb___pow__)) (cC (.int 10)) (cC (.int 28)))))) (sSet 8 (c2 mIx (cA mLst (aC (cC (.int 1)) (aC (c1 (P1.or iNeg (opU tb___neg__)) (cC (.int 1))) (aC (cC (.int 2)) (aC (c1 (P1.or iNeg (opU tb___neg__)) (cC (.int 3))) (aC (cC (.int 6)) (aC (c1 (P1.or iNeg (opU tb___neg__)) (cC (.int 9))) aN))))))) (cCallO m__law_pick [] 1 (aC (cC (.int 6)) aN)))) sNx) law_t9)) := rfl
theorem law_t9_eq : law_t9 = (sSeq (sSet 9 (cCall m__law_low [] (aC (cV 3) (aC (cV 4) aN)))) (sSeq (sSet 10 (cCall m__law_low [] (aC (cV 5) (aC (cV 6) aN)))) (sSeq (sSet 11 (cMake "Frac" m_Frac___init__ [] (aC (c2 (P2.or mMul (P2.or (opB tb___mul__) (opR tb___rmul__))) (cV 8) (cV 3)) (aC (c2 (P2.or mMul (P2.or (opB tb___mul__) (opR tb___rmul__))) (cV 8) (cV 4)) aN)))) (sSeq (sSet 12 (cMake "Frac" m_Frac___init__ [] (aC (cV 5) (aC (cV 6) aN)))) (sSeq (sSet 13 (cCall m__law_low [] (aC (c2 (P2.or iSub (P2.or (opB tb___sub__) (opR tb___rsub__))) (cCallO m__law_pick [] 1 (aC (cC (.int 9)) aN)) (cC (.int 4))) (aC (c2 (P2.or mAdd (P2.or (opB tb___add__) (opR tb___radd__))) (cC (.int 1)) (cCallO m__law_pick [] 1 (aC (cC (.int 6)) aN))) aN)))) law_t14))))) := rfl
theorem o_bool_g {p : Int × Int} : PN.or bBool (opBo tb___bool__) [Fr p] = okS (.bl (!decide (p.1 = 0))) := by
  rw [o_bool_f]
  congr 3
theorem bl3 (g : P2) (a b c : Bool) : P2.or dNe g (.tup [.bl a, .bl b, .bl c]) (.tup [.bl a, .bl b, .bl c]) = okS (.bl false) := by
  refine p2or_ok _ _ _ _ _ ?_
  rw [dNe_of (by simp [D.plain]) (by simp [D.plain])]
  cases a <;> cases b <;> cases c <;> rfl
end Fx
namespace Fx
open PySem PySem.Spec PyProof.Rows L2 L2H SX
theorem bn_lt {k : Nat} {i : Int} (m : Nat) (h : i.natAbs ≤ m) (hm : (decide (m < 2 ^ k)) = true) : Bn k i := by
  rw [bn_def]
  exact Nat.lt_of_le_of_lt h (of_decide_eq_true hm)
theorem law_t14_ok {p q f : Int × Int} {n : Int} {s : Sl} (h : PI s) (hp : Fq 120 p) (hq : Fq 120 q) (hf : Fq 120 f) (hn : Bn 120 n) (p1 : p.1.natAbs < 10 ^ 60) (p2 : p.2.natAbs < 10 ^ 60) (a0 a2 a3 a4 a5 a6 a8 : Slot) :
    ∃ δ', law_t14 [a0, .loc s, a2, a3, a4, a5, a6, .loc (.d (.int n)), a8, .loc (.d (T2 p)), .loc (.d (T2 q)), .loc (FO p), .loc (FO q), .loc (.d (T2 f)), .no, .no] = .ok (.rt (.d (.bl true)), a0 :: δ') := by
  have hp2 := hp.mono (show 120 ≤ 200 by decide)
  have hq2 := hq.mono (show 120 ≤ 200 by decide)
  have hn2 := bn_mono hn (show 120 ≤ 200 by decide)
  have hp4 := hp.mono (show 120 ≤ 4000 by decide)
  have hq4 := hq.mono (show 120 ≤ 4000 by decide)
  have hn4 := bn_mono hn (show 120 ≤ 4000 by decide)
  have r1 := w_sums hp4 hq4 hn4
  have r2 := w_powers hp
  have r3 := w_divided hp2 hq2 hn2
  have m1 := mk3 f.1 f.2 hf.ne (lt_divb hf.b2 (by decide))
  rw [lo_self hf.pos hf.cop] at m1
  have r4 : P2.or iPow (opB tb___pow__) (Fr f) (.int 64) = .ok (FO (f.1 ^ 64, f.2 ^ 64)) := o_pow_f hf 64 (by decide)
  have r5 : m__law_power [.d (T2 f), .d (.int 64)] = .ok (.d (T2 (f.1 ^ 64, f.2 ^ 64)), [.d (T2 f), .d (.int 64)]) := w_power hf 64 (by decide)
  have r6 := w_or_ff hp4 hq4
  have r7 := w_or_fi hp4 hn4
  have r8 := w_or_if hp4 hn4
  have r9 := w_or_ff hq4 hp4
  have r10 := w_or_ff hp4 hp4
  have r11 := w_or_fi (fq_int hn4) hn4
  have m2 := mk1 n
  have r12 := o_neg_f hp4
  rw [lo_fst hp4] at r12
  have r13 := w_zeros hp4 hn4
  obtain ⟨m, s1, hm, h1, e1⟩ := w_pick h 16 (by decide) (bn_sm (by decide))
  have e1' : m__law_pick [s, .d (.int 16)] = .ok (.d (.int m), [s1, .d (.int 16)]) := e1
  have wl := wL_len p1 p2
  obtain ⟨k, s2, hk, h2, e2⟩ := w_pick h1 (1 + (wL p).length) (by omega) (bn_sm (by omega))
  have r14 := w_written p1 p2
  have r15 := w_texts hp.pos hp.cop p1 p2 m k hm
  have wl2 : (wL p).length ≤ 16777216 := by omega
  simp only [Int.natCast_add, Int.natCast_one] at e2
  have r16 := w_int 60
  simp [law_t14, r1, r2, r3, m1, r4, r5, w_is, r6, r7, r8, r9, r10, r11, m2, r12, r13, e1', e2, r14, S_len, r15, wl2, r16, o_bool_g, bl3]
end Fx
namespace Fx
open PySem PySem.Spec PyProof.Rows L2 L2H SX
theorem fq_lo30 {a b : Int} (ha : a.natAbs ≤ 10 ^ 30) (hb : 0 < b) (hb2 : b ≤ 10 ^ 30) : Fq 120 (lo a b) := fq_lo (by omega) (bn_lt (10 ^ 30) ha (by decide +kernel)) (bn_lt (10 ^ 30) (by omega) (by decide +kernel))
theorem law_t9_ok {s : Sl} (h : PI s) {a b c d n v : Int} (ha : a.natAbs ≤ 10 ^ 30) (hb : 0 < b) (hb2 : b ≤ 10 ^ 30) (hc : c.natAbs ≤ 10 ^ 30) (hd : 0 < d) (hd2 : d ≤ 10 ^ 30) (hn : n.natAbs ≤ 10 ^ 30) (hv : v ≠ 0) (hv2 : v.natAbs ≤ 9) (a0 a2 : Slot) :
    ∃ δ', law_t9 [a0, .loc s, a2, .loc (.d (.int a)), .loc (.d (.int b)), .loc (.d (.int c)), .loc (.d (.int d)), .loc (.d (.int n)), .loc (.d (.int v)), .no, .no, .no, .no, .no, .no, .no] = .ok (.rt (.d (.bl true)), a0 :: δ') := by
  have fp := fq_lo30 ha hb hb2
  have fq := fq_lo30 hc hd hd2
  have Bb : Bn 120 b := bn_lt (10 ^ 30) (by omega) (by decide +kernel)
  have Bd : Bn 120 d := bn_lt (10 ^ 30) (by omega) (by decide +kernel)
  have Ba : Bn 120 a := bn_lt (10 ^ 30) ha (by decide +kernel)
  have Bv : Bn 60 v := bn_lt 9 hv2 (by decide)
  have Bnn : Bn 120 n := bn_lt (10 ^ 30) hn (by decide +kernel)
  have b0 : b ≠ 0 := by omega
  have d0 : d ≠ 0 := by omega
  have l1 := w_low a b b0 (lt_divb Bb (by decide))
  have l2 := w_low c d d0 (lt_divb Bd (by decide))
  have k1 := ok_mul Bv Ba (by decide) (by decide)
  have k2 := ok_mul Bv Bb (by decide) (by decide)
  have m1 := mk3 (v * a) (v * b) (mul_ne hv b0) (lt_divb (bn_mul Bv Bb) (by decide))
  rw [lo_eq (mul_ne hv b0) b0 (by grind : v * a * b = a * (v * b))] at m1
  have m2 := mk3 c d d0 (lt_divb Bd (by decide))
  obtain ⟨u, s1, hu, h1, e1⟩ := w_pick h 9 (by decide) (bn_sm (by decide))
  have e1' : m__law_pick [s, .d (.int 9)] = .ok (.d (.int u), [s1, .d (.int 9)]) := e1
  obtain ⟨t, s2, ht, h2, e2⟩ := w_pick h1 6 (by decide) (bn_sm (by decide))
  have e2' : m__law_pick [s1, .d (.int 6)] = .ok (.d (.int t), [s2, .d (.int 6)]) := e2
  have Bu : Bn 120 ((u : Int) - 4) := bn_lt 100 (by omega) (by decide)
  have Bt : Bn 120 (1 + (t : Int)) := bn_lt 100 (by omega) (by decide)
  have t0 : (1 + (t : Int)) ≠ 0 := by omega
  have l3 := w_low ((u : Int) - 4) (1 + t) t0 (lt_divb Bt (by decide))
  have ff : Fq 120 (lo ((u : Int) - 4) (1 + t)) := fq_lo t0 Bu Bt
  have p1 : (lo a b).1.natAbs < 10 ^ 60 := by have := (lo_le (n := a) b0).1; omega
  have p2 : (lo a b).2.natAbs < 10 ^ 60 := by have := (lo_le (n := a) b0).2; omega
  obtain ⟨δ', hT⟩ := law_t14_ok h2 fp fq ff Bnn p1 p2 a0 a2 (.loc (.d (.int a))) (.loc (.d (.int b))) (.loc (.d (.int c))) (.loc (.d (.int d))) (.loc (.d (.int v)))
  simp [law_t9_eq, l1, l2, k1, k2, m1, m2, e1', e2', l3, hT]
theorem law_t8_ok {s : Sl} (h : PI s) {a b c d n : Int} (ha : a.natAbs ≤ 10 ^ 30) (hb : 0 < b) (hb2 : b ≤ 10 ^ 30) (hc : c.natAbs ≤ 10 ^ 30) (hd : 0 < d) (hd2 : d ≤ 10 ^ 30) (hn : n.natAbs ≤ 10 ^ 30) (a0 a2 : Slot) :
    ∃ δ', law_t8 [a0, .loc s, a2, .loc (.d (.int a)), .loc (.d (.int b)), .loc (.d (.int c)), .loc (.d (.int d)), .loc (.d (.int n)), .no, .no, .no, .no, .no, .no, .no, .no] = .ok (.rt (.d (.bl true)), a0 :: δ') := by
  by_cases c1 : (a.natAbs : Int) < 10000000000000000000000000000
  · by_cases c2 : b < 10000000000000000000000000000
    · obtain ⟨u, s1, hu, h1, e1⟩ := w_pick h 6 (by decide) (bn_sm (by decide))
      have e1' : m__law_pick [s, .d (.int 6)] = .ok (.d (.int u), [s1, .d (.int 6)]) := e1
      match u, hu with
      | 0, _ =>
        obtain ⟨δ', hT⟩ := law_t9_ok h1 ha hb hb2 hc hd hd2 hn (v := 1) (by decide) (by decide) a0 a2
        simp at e1'
        simp [law_t8_eq, c1, c2, e1', hT]
      | 1, _ =>
        obtain ⟨δ', hT⟩ := law_t9_ok h1 ha hb hb2 hc hd hd2 hn (v := -1) (by decide) (by decide) a0 a2
        simp at e1'
        simp [law_t8_eq, c1, c2, e1', hT]
      | 2, _ =>
        obtain ⟨δ', hT⟩ := law_t9_ok h1 ha hb hb2 hc hd hd2 hn (v := 2) (by decide) (by decide) a0 a2
        simp at e1'
        simp [law_t8_eq, c1, c2, e1', hT]
      | 3, _ =>
        obtain ⟨δ', hT⟩ := law_t9_ok h1 ha hb hb2 hc hd hd2 hn (v := -3) (by decide) (by decide) a0 a2
        simp at e1'
        simp [law_t8_eq, c1, c2, e1', hT]
      | 4, _ =>
        obtain ⟨δ', hT⟩ := law_t9_ok h1 ha hb hb2 hc hd hd2 hn (v := 6) (by decide) (by decide) a0 a2
        simp at e1'
        simp [law_t8_eq, c1, c2, e1', hT]
      | 5, _ =>
        obtain ⟨δ', hT⟩ := law_t9_ok h1 ha hb hb2 hc hd hd2 hn (v := -9) (by decide) (by decide) a0 a2
        simp at e1'
        simp [law_t8_eq, c1, c2, e1', hT]
      | k + 6, z => omega
    · obtain ⟨δ', hT⟩ := law_t9_ok h ha hb hb2 hc hd hd2 hn (v := 1) (by decide) (by decide) a0 a2
      simp [law_t8_eq, c1, c2, hT]
  · obtain ⟨δ', hT⟩ := law_t9_ok h ha hb hb2 hc hd hd2 hn (v := 1) (by decide) (by decide) a0 a2
    simp [law_t8_eq, c1, hT]
end Fx
namespace Fx
open PySem PySem.Spec PyProof.Rows L2 L2H SX
theorem law_ok (ns : List Int) (h : ns.length ≤ 63) : m_law [.d (.rl (ns.map D.int))] = .ok (.d (.bl true), [.d (.rl (ns.map D.int))]) := by
  obtain ⟨s0, h0, e0⟩ := w_pool ns h
  generalize ns.map D.int = L at e0 ⊢
  obtain ⟨k, s1, hk, h1, e1⟩ := w_pick h0 8 (by decide) (bn_sm (by decide))
  have e1' : m__law_pick [s0, .d (.int 8)] = .ok (.d (.int k), [s1, .d (.int 8)]) := e1
  obtain ⟨a, s2, ha, h2, e2⟩ := w_top h1
  obtain ⟨b, s3, hb, h3, e3⟩ := w_size h2
  obtain ⟨c, s4, hc, h4, e4⟩ := w_top h3
  obtain ⟨d, s5, hd, h5, e5⟩ := w_size h4
  obtain ⟨n, s6, hn, h6, e6⟩ := w_top h5
  have main : ∀ (k' c' d' n' : Int), c'.natAbs ≤ 10 ^ 30 → 0 < d' → d' ≤ 10 ^ 30 → n'.natAbs ≤ 10 ^ 30 → ∃ δ', law_t8 [.par (.d (.rl L)), .loc s6, .loc (.d (.int k')), .loc (.d (.int a)), .loc (.d (.int (1 + b))), .loc (.d (.int c')), .loc (.d (.int d')), .loc (.d (.int n')), .no, .no, .no, .no, .no, .no, .no, .no] = .ok (.rt (.d (.bl true)), .par (.d (.rl L)) :: δ') := fun k' c' d' n' g1 g2 g3 g4 => law_t8_ok h6 (by omega) (by omega) (by omega) g1 g2 g3 g4 _ _
  have dv : okDiv (1 + (b : Int)) := ⟨by omega, lt_divb (bn_lt (k := 120) (10 ^ 30) (by omega) (by decide +kernel)) (by decide)⟩
  have fd := Int.natAbs_fdiv_le_natAbs a (1 + (b : Int))
  match k, hk with
  | 0, _ =>
    simp at e1'
    by_cases g : (c.natAbs : Int) < 100
    · obtain ⟨δ', hT⟩ := main 0 (c - 2) (1 + d) (n) (by omega) (by omega) (by omega) (by omega)
      simp [mkFn_ap, m_law, b_law_eq, e0, e1', e2, e3, e4, e5, e6, g, dv, hT]
    · obtain ⟨δ', hT⟩ := main 0 (c) (1 + d) (n) (by omega) (by omega) (by omega) (by omega)
      simp [mkFn_ap, m_law, b_law_eq, e0, e1', e2, e3, e4, e5, e6, g, dv, hT]
  | 1, _ =>
    simp at e1'
    by_cases g : (c.natAbs : Int) < 100
    · obtain ⟨δ', hT⟩ := main 1 (a) (1 + b) (n) (by omega) (by omega) (by omega) (by omega)
      simp [mkFn_ap, m_law, b_law_eq, e0, e1', e2, e3, e4, e5, e6, g, dv, hT]
    · obtain ⟨δ', hT⟩ := main 1 (a) (1 + b) (n) (by omega) (by omega) (by omega) (by omega)
      simp [mkFn_ap, m_law, b_law_eq, e0, e1', e2, e3, e4, e5, e6, g, dv, hT]
  | 2, _ =>
    simp at e1'
    by_cases g : (c.natAbs : Int) < 100
    · obtain ⟨δ', hT⟩ := main 2 (-a) (1 + b) (n) (by omega) (by omega) (by omega) (by omega)
      simp [mkFn_ap, m_law, b_law_eq, e0, e1', e2, e3, e4, e5, e6, g, dv, hT]
    · obtain ⟨δ', hT⟩ := main 2 (-a) (1 + b) (n) (by omega) (by omega) (by omega) (by omega)
      simp [mkFn_ap, m_law, b_law_eq, e0, e1', e2, e3, e4, e5, e6, g, dv, hT]
  | 3, _ =>
    simp at e1'
    by_cases g : (c.natAbs : Int) < 100
    · obtain ⟨δ', hT⟩ := main 3 (0) (1 + d) (n) (by omega) (by omega) (by omega) (by omega)
      simp [mkFn_ap, m_law, b_law_eq, e0, e1', e2, e3, e4, e5, e6, g, dv, hT]
    · obtain ⟨δ', hT⟩ := main 3 (0) (1 + d) (n) (by omega) (by omega) (by omega) (by omega)
      simp [mkFn_ap, m_law, b_law_eq, e0, e1', e2, e3, e4, e5, e6, g, dv, hT]
  | 4, _ =>
    simp at e1'
    by_cases g : (c.natAbs : Int) < 100
    · obtain ⟨δ', hT⟩ := main 4 (c - 2) (1 + d) (0) (by omega) (by omega) (by omega) (by omega)
      simp [mkFn_ap, m_law, b_law_eq, e0, e1', e2, e3, e4, e5, e6, g, dv, hT]
    · obtain ⟨δ', hT⟩ := main 4 (c) (1 + d) (0) (by omega) (by omega) (by omega) (by omega)
      simp [mkFn_ap, m_law, b_law_eq, e0, e1', e2, e3, e4, e5, e6, g, dv, hT]
  | 5, _ =>
    simp at e1'
    by_cases g : (c.natAbs : Int) < 100
    · obtain ⟨δ', hT⟩ := main 5 (c - 2) (1 + d) (a.fdiv (1 + b)) (by omega) (by omega) (by omega) (by omega)
      simp [mkFn_ap, m_law, b_law_eq, e0, e1', e2, e3, e4, e5, e6, g, dv, hT]
    · obtain ⟨δ', hT⟩ := main 5 (c) (1 + d) (a.fdiv (1 + b)) (by omega) (by omega) (by omega) (by omega)
      simp [mkFn_ap, m_law, b_law_eq, e0, e1', e2, e3, e4, e5, e6, g, dv, hT]
  | 6, _ =>
    simp at e1'
    by_cases g : (c.natAbs : Int) < 100
    · obtain ⟨δ', hT⟩ := main 6 (n) (1) (n) (by omega) (by omega) (by omega) (by omega)
      simp [mkFn_ap, m_law, b_law_eq, e0, e1', e2, e3, e4, e5, e6, g, dv, hT]
    · obtain ⟨δ', hT⟩ := main 6 (n) (1) (n) (by omega) (by omega) (by omega) (by omega)
      simp [mkFn_ap, m_law, b_law_eq, e0, e1', e2, e3, e4, e5, e6, g, dv, hT]
  | 7, _ =>
    simp at e1'
    by_cases g : (c.natAbs : Int) < 100
    · obtain ⟨δ', hT⟩ := main 7 (c - 2) (1 + d) (n) (by omega) (by omega) (by omega) (by omega)
      simp [mkFn_ap, m_law, b_law_eq, e0, e1', e2, e3, e4, e5, e6, g, dv, hT]
    · obtain ⟨δ', hT⟩ := main 7 (c) (1 + d) (n) (by omega) (by omega) (by omega) (by omega)
      simp [mkFn_ap, m_law, b_law_eq, e0, e1', e2, e3, e4, e5, e6, g, dv, hT]
  | j + 8, z => omega
end Fx
set_option maxHeartbeats 0
namespace Fx
open PySem PySem.Spec PyProof.Rows L2 L2H
/-! ### the end -/
theorem rpl_int {K : Fg} {F : Hp} : ∀ ns : List Int, RpL K F (ns.map V.int) (ns.map D.int)
  | [] => RpL.nil
  | n :: ns => RpL.cons (by simp only [Rp]) (rpl_int ns)
/-- the law's call: a mirror that gives True of each script -/
theorem sp_end {K : Fg} {m : Fn} (hm : ∀ ns : List Int, ns.length ≤ 63 → ∃ ss, m [.d (.rl (ns.map D.int))] = .ok (.d (.bl true), ss)) (H : Hp) (a : Addr) (ns : List Int) (hl : ns.length ≤ 63) (hS : SqL K H a (ns.map V.int)) : spF K m [.ref a] H (fun v _ => v = .bl true) fun _ _ _ => False := by
  have r : RpL K H [V.ref a] [D.rl (ns.map D.int)] := RpL.cons (by simp only [Rp]; exact ⟨a, _, rfl, hS, rpl_int ns⟩) RpL.nil
  refine ⟨H, [.d (.rl (ns.map D.int))], _, _, EOk.args r (fun _ _ z => z), ?_⟩
  obtain ⟨ss, e⟩ := hm ns hl
  rw [e]
  intro v H' F' fp' f _ hA _ _ _
  have := hA.2
  simpa only [Rp] using this
theorem cx_no {P : Program} {w : World} {H : Hp} {s : Shared} {e : Value} {s' : Shared} (z : L2.CX P w [] H s (fun _ _ _ => False) e s') : False := by
  obtain ⟨_, _, _, _, _, _, _, _, _, _, _, _, f⟩ := z
  exact f
theorem w_end {l : PySem.W.OpenLaw} {k : Nat} {v : Program} {no : List Str} {A : (Str → Option Value) → Heap → Prop} {B : World → Heap → Prop} {dr : DefRec} {y : Str} {m : Fn}
    (h63 : l.most = some 63) (h0 : dr.params.defaults = []) (room : Room k callerA)
    (hm : ∀ ns : List Int, ns.length ≤ 63 → ∃ ss, m [.d (.rl (ns.map D.int))] = .ok (.d (.bl true), ss))
    (F : ∀ (w : World) (g : Str → Option Value) (at_ : Addr) (heap : Heap), B w heap → heap.Ns mainGlobals g → g dr.name = some (.ref at_) →
      ∃ (K : Fg) (fd : FuncData), K.In heap ∧ (∀ (t : Shared) (u : Value), BindsTo t fd ⟨[u], []⟩ [(y, u)]) ∧
        ∀ low : Heap, K.In low → low.Ns mainGlobals g → FnOk l.prog w K g low (L2.CX l.prog w) k at_ fd [y] (spF K m)) :
    PySem.W.WalkO v no A B l.row.toRowW dr [] (fun f us => PySem.call f us) := by
  refine Att.attach_call h63 h0 fun w _ s₁ g _ at_ _ _ _ _ a us ns G Y _ _ _ hg _ ii len gg => ?_
  obtain ⟨K, fd, KX, hb, hF⟩ := F w g at_ _ Y G.T.g hg
  refine law_call KX G.T.g G.T.b G.T.builtins G.T.nolimit gg ‹_› ii (Nat.le_trans len (by decide)) room hF hb (fun H _ hS => ?_) fun _ _ _ z => cx_no z
  exact sp_end hm H a ns len hS
theorem pr_eq : (PySem.Challenge.rw_rodwebs_k01_fractions).prog = PySem.Challenge.pw_rodwebs_k01_fractions := rfl
end Fx
open PySem PySem.W PySem.Calls PyProof.Rows
theorem PySem.Challenge.cw_rodwebs_k01_fractions_holds : PySem.Challenge.rw_rodwebs_k01_fractions.Holds := by
  w_on; o_law
  refine HandSHeadRun.head_imp (r := OpenLaw.row PySem.Challenge.rw_rodwebs_k01_fractions) (q := view (OpenLaw.row PySem.Challenge.rw_rodwebs_k01_fractions).prog [0, 36]) (H := Fx.hk) (ob := Fx.ob) (M := 6000) (loose := Fx.loo) (d := HandSHeadRun.topDef (OpenLaw.row PySem.Challenge.rw_rodwebs_k01_fractions).prog 36) (kwd := []) Fx.ob_eq Fx.run
    (by kernel_rfl) (by kernel_rfl) (by kernel_rfl) (by rfl) (by first | assumption | decide +kernel) (by decide +kernel) ⟨rfl, rfl, rfl, rfl, rfl, by decide +kernel⟩ ?hw ?hc
  case hw => w_witness2
  case hc =>
    refine Fx.w_end (l := PySem.Challenge.rw_rodwebs_k01_fractions) (k := 7) (y := "_law_script") (m := Fx.m_law) rfl (by kernel_rfl) ⟨rfl, by decide, by decide⟩ (fun ns h => ⟨_, Fx.law_ok ns h⟩) fun w g at_ heap Y G hg => ?_
    obtain ⟨K, KX, c⟩ := Y
    have S : Fx.Sy Fx.fs Fx.fn K g heap := ⟨KX, G, c⟩
    have en : (HandSHeadRun.topDef (OpenLaw.row PySem.Challenge.rw_rodwebs_k01_fractions).prog 36).name = ("law" : PySem.Str) := by kernel_rfl
    rw [en] at hg
    obtain ⟨fd, D⟩ := S.c.def_ 0 (d := Fx.df_law) rfl
    have e := hg.symm.trans (He.glo_ok KX G (Fx.fc_109 S))
    cases e
    have b := L2.FunD.bindsA (ps := (["_law_script"] : List Str)) D fun _ _ _ _ _ _ us hl => match us, hl with | [_], _ => rfl
    exact ⟨K, fd, KX, fun t u => b t [u] rfl, fun low h1 h2 => Fx.ok_law ⟨h1, h2, c⟩ D⟩
