import PyProof.Rows.All
import Wide.All
import OpenK.AllK
import Wide.FinOn
import HandS.ForMost
import HandS.ForExc
import HandS.Wide
import HandS.IsInst
import PySem.Challenge.RW_swapmart_k10_led_down
set_option Elab.async false
set_option linter.all false
set_option maxRecDepth 100000
set_option maxHeartbeats 4000000
/-! Plain data for values; trees whose lists are one's own; the state of a def by slots. -/
namespace M
open PySem L2
/-- a value with all that hangs on it; scr: the script as it was handed in -/
inductive D where
  | non | bl (b : Bool) | int (i : Int) | str (x : Str) | lst (xs : List D) | tup (xs : List D) | scr (ns : List Int)
/-- a tree whose lst and tup knots are nobody else's; sh: a value that is never changed again -/
inductive O where
  | sh (d : D) | lst (xs : List O) | tup (xs : List O)
mutual
def O.er : O → D
  | .sh d => d
  | .lst xs => .lst (erL xs)
  | .tup xs => .tup (erL xs)
def erL : List O → List D
  | [] => []
  | o :: os => o.er :: erL os
end
theorem erL_map : ∀ os : List O, erL os = os.map O.er
  | [] => rfl
  | o :: os => by rw [erL, erL_map os]; rfl
mutual
inductive Rp (K : PySem.W.Frag) (S : Hp) : V → D → Prop
  | non : Rp K S .non .non
  | bl (b : Bool) : Rp K S (.bl b) (.bl b)
  | int (i : Int) : Rp K S (.int i) (.int i)
  | str (x : Str) : Rp K S (.str x) (.str x)
  | lst {a : Addr} {vs : List V} {ds : List D} : S a = some (.lst vs) → RpL K S vs ds → Rp K S (.ref a) (.lst ds)
  | tup {a : Addr} {vs : List V} {ds : List D} : S a = some (.tup vs) → RpL K S vs ds → Rp K S (.ref a) (.tup ds)
  | scr {a : Addr} {ns : List Int} : SqL K S a (ns.map V.int) → Rp K S (.ref a) (.scr ns)
inductive RpL (K : PySem.W.Frag) (S : Hp) : List V → List D → Prop
  | nil : RpL K S [] []
  | cons {v : V} {vs : List V} {d : D} {ds : List D} : Rp K S v d → RpL K S vs ds → RpL K S (v :: vs) (d :: ds)
end
mutual
inductive Ow (K : PySem.W.Frag) (S H : Hp) : V → O → List Addr → Prop
  | sh {v : V} {d : D} : Rp K S v d → Ow K S H v (.sh d) []
  | lst {a : Addr} {vs : List V} {os : List O} {f : List Addr} : H a = some (.lst vs) → OwL K S H vs os f → Ow K S H (.ref a) (.lst os) (a :: f)
  | tup {a : Addr} {vs : List V} {os : List O} {f : List Addr} : H a = some (.tup vs) → OwL K S H vs os f → Ow K S H (.ref a) (.tup os) (a :: f)
inductive OwL (K : PySem.W.Frag) (S H : Hp) : List V → List O → List Addr → Prop
  | nil : OwL K S H [] [] []
  | cons {v : V} {vs : List V} {o : O} {os : List O} {f g : List Addr} : Ow K S H v o f → OwL K S H vs os g → OwL K S H (v :: vs) (o :: os) (f ++ g)
end
section
variable {K : PySem.W.Frag} {S S' H H' : Hp}
mutual
theorem Rp.mono (e : Same S S') : ∀ {v : V} {d : D}, Rp K S v d → Rp K S' v d
  | _, _, .non => .non
  | _, _, .bl b => .bl b
  | _, _, .int i => .int i
  | _, _, .str x => .str x
  | _, _, .lst h r => .lst (e _ _ h) (RpL.mono e r)
  | _, _, .tup h r => .tup (e _ _ h) (RpL.mono e r)
  | _, _, .scr h => .scr (e.seq h)
theorem RpL.mono (e : Same S S') : ∀ {vs : List V} {ds : List D}, RpL K S vs ds → RpL K S' vs ds
  | _, _, .nil => .nil
  | _, _, .cons h r => .cons (Rp.mono e h) (RpL.mono e r)
end
theorem RpL.length : ∀ {vs : List V} {ds : List D}, RpL K S vs ds → vs.length = ds.length
  | _, _, .nil => rfl
  | _, _, .cons _ r => by rw [List.length_cons, List.length_cons, r.length]
theorem RpL.get : ∀ {vs : List V} {ds : List D} {i : Nat} {d : D}, RpL K S vs ds → ds[i]? = some d → ∃ v, vs[i]? = some v ∧ Rp K S v d
  | _, _, _, _, .nil, e => by simp at e
  | _, _, 0, _, .cons h _, e => by simp at e; subst e; exact ⟨_, rfl, h⟩
  | _, _, i + 1, _, .cons _ r, e => by
    obtain ⟨v, h1, h2⟩ := r.get (i := i) (by simpa using e)
    exact ⟨v, by simpa using h1, h2⟩
theorem RpL.get' : ∀ {vs : List V} {ds : List D} {i : Nat} {v : V}, RpL K S vs ds → vs[i]? = some v → ∃ d, ds[i]? = some d ∧ Rp K S v d
  | _, _, _, _, .nil, e => by simp at e
  | _, _, 0, _, .cons h _, e => by simp at e; subst e; exact ⟨_, rfl, h⟩
  | _, _, i + 1, _, .cons _ r, e => by
    obtain ⟨v, h1, h2⟩ := r.get' (i := i) (by simpa using e)
    exact ⟨v, by simpa using h1, h2⟩
theorem RpL.append : ∀ {vs ws : List V} {ds es : List D}, RpL K S vs ds → RpL K S ws es → RpL K S (vs ++ ws) (ds ++ es)
  | _, _, _, _, .nil, s => s
  | _, _, _, _, .cons h r, s => .cons h (r.append s)
theorem RpL.take : ∀ {vs : List V} {ds : List D} (n : Nat), RpL K S vs ds → RpL K S (vs.take n) (ds.take n)
  | _, _, 0, _ => .nil
  | _, _, _ + 1, .nil => .nil
  | _, _, n + 1, .cons h r => .cons h (r.take n)
theorem RpL.drop : ∀ {vs : List V} {ds : List D} (n : Nat), RpL K S vs ds → RpL K S (vs.drop n) (ds.drop n)
  | _, _, 0, r => r
  | _, _, _ + 1, .nil => .nil
  | _, _, n + 1, .cons _ r => r.drop n
theorem RpL.ints : ∀ (ns : List Int), RpL K S (ns.map V.int) (ns.map D.int)
  | [] => .nil
  | n :: ns => .cons (.int n) (RpL.ints ns)
theorem RpL.bools : ∀ (ns : List Bool), RpL K S (ns.map V.bl) (ns.map D.bl)
  | [] => .nil
  | n :: ns => .cons (.bl n) (RpL.bools ns)
theorem RpL.of_ints : ∀ {ns : List Int} {vs : List V}, RpL K S vs (ns.map D.int) → vs = ns.map V.int
  | [], _, .nil => rfl
  | n :: ns, _, .cons h r => by
    cases h
    rw [RpL.of_ints r]
    rfl
theorem RpL.of_bools : ∀ {ns : List Bool} {vs : List V}, RpL K S vs (ns.map D.bl) → vs = ns.map V.bl
  | [], _, .nil => rfl
  | n :: ns, _, .cons h r => by
    cases h
    rw [RpL.of_bools r]
    rfl
mutual
theorem Ow.mono (e : Same S S') : ∀ {v : V} {o : O} {f : List Addr}, Ow K S H v o f → (∀ b ∈ f, H' b = H b) → Ow K S' H' v o f
  | _, _, _, .sh r, _ => .sh (r.mono e)
  | _, _, _, .lst (a := a) h r, k => .lst ((k a (List.mem_cons_self)).trans h) (OwL.mono e r fun b hb => k b (List.mem_cons_of_mem _ hb))
  | _, _, _, .tup (a := a) h r, k => .tup ((k a (List.mem_cons_self)).trans h) (OwL.mono e r fun b hb => k b (List.mem_cons_of_mem _ hb))
theorem OwL.mono (e : Same S S') : ∀ {vs : List V} {os : List O} {f : List Addr}, OwL K S H vs os f → (∀ b ∈ f, H' b = H b) → OwL K S' H' vs os f
  | _, _, _, .nil, _ => .nil
  | _, _, _, .cons h r, k => .cons (Ow.mono e h fun b hb => k b (List.mem_append_left _ hb)) (OwL.mono e r fun b hb => k b (List.mem_append_right _ hb))
end
mutual
theorem Ow.there : ∀ {v : V} {o : O} {f : List Addr}, Ow K S H v o f → ∀ b ∈ f, H b ≠ none
  | _, _, _, .sh r, b, hb => by cases hb
  | _, _, _, .lst h r, b, hb => by
    rcases List.mem_cons.mp hb with rfl | hb
    · rw [h]; simp
    · exact OwL.there r b hb
  | _, _, _, .tup h r, b, hb => by
    rcases List.mem_cons.mp hb with rfl | hb
    · rw [h]; simp
    · exact OwL.there r b hb
theorem OwL.there : ∀ {vs : List V} {os : List O} {f : List Addr}, OwL K S H vs os f → ∀ b ∈ f, H b ≠ none
  | _, _, _, .nil, b, hb => by cases hb
  | _, _, _, .cons h r, b, hb => by
    rcases List.mem_append.mp hb with hb | hb
    · exact Ow.there h b hb
    · exact OwL.there r b hb
end
mutual
theorem Ow.rp {T : Hp} (e : Same S T) : ∀ {v : V} {o : O} {f : List Addr}, Ow K S H v o f → (∀ b ∈ f, T b = H b) → Rp K T v o.er
  | _, _, _, .sh r, _ => r.mono e
  | _, _, _, .lst (a := a) h r, k => .lst ((k a (List.mem_cons_self)).trans h) (OwL.rp e r fun b hb => k b (List.mem_cons_of_mem _ hb))
  | _, _, _, .tup (a := a) h r, k => .tup ((k a (List.mem_cons_self)).trans h) (OwL.rp e r fun b hb => k b (List.mem_cons_of_mem _ hb))
theorem OwL.rp {T : Hp} (e : Same S T) : ∀ {vs : List V} {os : List O} {f : List Addr}, OwL K S H vs os f → (∀ b ∈ f, T b = H b) → RpL K T vs (erL os)
  | _, _, _, .nil, _ => .nil
  | _, _, _, .cons h r, k => .cons (Ow.rp e h fun b hb => k b (List.mem_append_left _ hb)) (OwL.rp e r fun b hb => k b (List.mem_append_right _ hb))
end
theorem OwL.length : ∀ {vs : List V} {os : List O} {f : List Addr}, OwL K S H vs os f → vs.length = os.length
  | _, _, _, .nil => rfl
  | _, _, _, .cons _ r => by rw [List.length_cons, List.length_cons, r.length]
theorem OwL.append : ∀ {vs ws : List V} {os ps : List O} {f g : List Addr}, OwL K S H vs os f → OwL K S H ws ps g → OwL K S H (vs ++ ws) (os ++ ps) (f ++ g)
  | _, _, _, _, _, _, .nil, s => s
  | _, _, _, _, _, _, .cons h r, s => by
    rw [List.append_assoc]
    exact .cons h (r.append s)
theorem OwL.shs : ∀ {vs : List V} {ds : List D}, RpL K S vs ds → OwL K S H vs (ds.map O.sh) []
  | _, _, .nil => .nil
  | _, _, .cons h r => by
    have := OwL.cons (.sh h) (OwL.shs r)
    simpa using this
theorem OwL.get : ∀ {vs : List V} {os : List O} {f : List Addr} {i : Nat} {o : O}, OwL K S H vs os f → os[i]? = some o → ∃ v f1 g f2, vs[i]? = some v ∧ f = f1 ++ g ++ f2 ∧ Ow K S H v o g ∧
    ∀ (S' H' : Hp) (v' : V) (o' : O) (g' : List Addr), Same S S' → (∀ b ∈ f1 ++ f2, H' b = H b) → Ow K S' H' v' o' g' → OwL K S' H' (vs.set i v') (os.set i o') (f1 ++ g' ++ f2)
  | _, _, _, _, _, .nil, e => by simp at e
  | _, _, _, 0, _, .cons (f := f) (g := g) h r, e => by
    simp at e; subst e
    refine ⟨_, [], f, g, rfl, by simp, h, fun S' H' v' o' g' e k w => ?_⟩
    have := OwL.cons w (OwL.mono e r fun b hb => k b (by simpa using hb))
    simpa using this
  | _, _, _, i + 1, _, .cons (f := f) (g := g) h r, e => by
    obtain ⟨v, f1, g1, f2, h1, h2, h3, h4⟩ := r.get (i := i) (by simpa using e)
    refine ⟨v, f ++ f1, g1, f2, by simpa using h1, by rw [h2]; simp, h3, fun S' H' v' o' g' e k w => ?_⟩
    have q := h4 S' H' v' o' g' e (fun b hb => k b (by simp only [List.mem_append] at hb ⊢; rcases hb with z | z; exact .inl (.inr z); exact .inr z)) w
    have := OwL.cons (Ow.mono e h fun b hb => k b (by simp only [List.mem_append]; exact .inl (.inl hb))) q
    simpa [List.append_assoc] using this
/-- a new address in a heap -/
theorem same_upd {H : Hp} {p : Addr} {o : HO} (h : H p = none) : Same H (upd H p o) := fun b u e => by
  rw [upd_ne (ne_of_none e h)]; exact e
theorem upd_keep {H : Hp} {p b : Addr} {o : HO} (h : H p = none) (hb : H b ≠ none) : upd H p o b = H b := upd_ne fun e => hb (e ▸ h)
/-- S with what H has at f -/
def frz (f : List Addr) (S H : Hp) : Hp := fun b => if b ∈ f then H b else S b
theorem frz_in {f : List Addr} {S H : Hp} {b : Addr} (h : b ∈ f) : frz f S H b = H b := if_pos h
theorem frz_out {f : List Addr} {S H : Hp} {b : Addr} (h : b ∉ f) : frz f S H b = S b := if_neg h
theorem frz_same {f : List Addr} {S H : Hp} (h : ∀ b ∈ f, S b = none) : Same S (frz f S H) := fun b o e => by
  by_cases hb : b ∈ f
  · rw [h b hb] at e; cases e
  · rw [frz_out hb]; exact e
theorem frz_low {f : List Addr} {S H : Hp} (e : Same S H) : Same (frz f S H) H := fun b o h => by
  by_cases hb : b ∈ f
  · rw [frz_in hb] at h; exact h
  · rw [frz_out hb] at h; exact e b o h
theorem frz_mono {f : List Addr} {S T H : Hp} (e : Same S T) : Same (frz f S H) (frz f T H) := fun b o h => by
  by_cases hb : b ∈ f
  · rw [frz_in hb] at h ⊢; exact h
  · rw [frz_out hb] at h ⊢; exact e b o h
/-- the slots -/
inductive OwSt (K : PySem.W.Frag) (S H : Hp) : St → List (Option O) → List Addr → Prop
  | nil : OwSt K S H [] [] []
  | none {v : Option V} {σ : St} {st : List (Option O)} {f : List Addr} : OwSt K S H σ st f → OwSt K S H (v :: σ) (none :: st) f
  | some {v : V} {o : O} {σ : St} {st : List (Option O)} {f g : List Addr} : Ow K S H v o f → OwSt K S H σ st g → OwSt K S H (some v :: σ) (some o :: st) (f ++ g)
theorem OwSt.mono (e : Same S S') : ∀ {σ : St} {st : List (Option O)} {f : List Addr}, OwSt K S H σ st f → (∀ b ∈ f, H' b = H b) → OwSt K S' H' σ st f
  | _, _, _, .nil, _ => .nil
  | _, _, _, .none r, k => .none (r.mono e k)
  | _, _, _, .some h r, k => .some (h.mono e fun b hb => k b (List.mem_append_left _ hb)) (r.mono e fun b hb => k b (List.mem_append_right _ hb))
theorem OwSt.there : ∀ {σ : St} {st : List (Option O)} {f : List Addr}, OwSt K S H σ st f → ∀ b ∈ f, H b ≠ Option.none
  | _, _, _, .nil, b, hb => by cases hb
  | _, _, _, .none r, b, hb => r.there b hb
  | _, _, _, .some h r, b, hb => by
    rcases List.mem_append.mp hb with hb | hb
    · exact h.there b hb
    · exact r.there b hb
theorem OwSt.length : ∀ {σ : St} {st : List (Option O)} {f : List Addr}, OwSt K S H σ st f → σ.length = st.length
  | _, _, _, .nil => rfl
  | _, _, _, .none r => by rw [List.length_cons, List.length_cons, r.length]
  | _, _, _, .some _ r => by rw [List.length_cons, List.length_cons, r.length]
theorem OwSt.get : ∀ {σ : St} {st : List (Option O)} {f : List Addr} {i : Nat} {o : O}, OwSt K S H σ st f → st[i]? = Option.some (Option.some o) → ∃ v f1 g f2, σ[i]? = Option.some (Option.some v) ∧ f = f1 ++ g ++ f2 ∧ Ow K S H v o g ∧
    (∀ (S' H' : Hp) (v' : V) (o' : O) (g' : List Addr), Same S S' → (∀ b ∈ f1 ++ f2, H' b = H b) → Ow K S' H' v' o' g' → OwSt K S' H' (σ.set i (Option.some v')) (st.set i (Option.some o')) (f1 ++ g' ++ f2)) ∧
    ∀ (S' H' : Hp) (v' : Option V), Same S S' → (∀ b ∈ f1 ++ f2, H' b = H b) → OwSt K S' H' (σ.set i v') (st.set i Option.none) (f1 ++ f2)
  | _, _, _, _, _, .nil, e => by simp at e
  | _, _, _, 0, _, .none r, e => by simp at e
  | _, _, _, i + 1, _, .none (v := w) r, e => by
    obtain ⟨v, f1, g1, f2, h1, h2, h3, h4, h5⟩ := r.get (i := i) (by simpa using e)
    exact ⟨v, f1, g1, f2, by simpa using h1, h2, h3, fun S' H' v' o' g' e k w' => .none (h4 S' H' v' o' g' e k w'), fun S' H' v' e k => .none (h5 S' H' v' e k)⟩
  | _, _, _, 0, _, .some (f := f) (g := g) h r, e => by
    simp at e; subst e
    refine ⟨_, [], f, g, rfl, by simp, h, fun S' H' v' o' g' e k w => ?_, fun S' H' v' e k => ?_⟩
    · have := OwSt.some w (r.mono e fun b hb => k b (by simpa using hb))
      simpa using this
    · have := OwSt.none (v := v') (r.mono e fun b hb => k b (by simpa using hb))
      simpa using this
  | _, _, _, i + 1, _, .some (f := f) (g := g) h r, e => by
    obtain ⟨v, f1, g1, f2, h1, h2, h3, h4, h5⟩ := r.get (i := i) (by simpa using e)
    refine ⟨v, f ++ f1, g1, f2, by simpa using h1, by rw [h2]; simp, h3, fun S' H' v' o' g' e k w => ?_, fun S' H' v' e k => ?_⟩
    · have q := h4 S' H' v' o' g' e (fun b hb => k b (by simp only [List.mem_append] at hb ⊢; rcases hb with z | z; exact .inl (.inr z); exact .inr z)) w
      have := OwSt.some (h.mono e fun b hb => k b (by simp only [List.mem_append]; exact .inl (.inl hb))) q
      simpa [List.append_assoc] using this
    · have q := h5 S' H' v' e (fun b hb => k b (by simp only [List.mem_append] at hb ⊢; rcases hb with z | z; exact .inl (.inr z); exact .inr z))
      have := OwSt.some (h.mono e fun b hb => k b (by simp only [List.mem_append]; exact .inl (.inl hb))) q
      simpa [List.append_assoc] using this
/-- a slot is filled anew -/
theorem OwSt.set : ∀ {σ : St} {st : List (Option O)} {f : List Addr} {i : Nat}, OwSt K S H σ st f → i < st.length → ∃ f1 g f2, f = f1 ++ g ++ f2 ∧
    (∀ (S' H' : Hp) (v' : V) (o' : O) (g' : List Addr), Same S S' → (∀ b ∈ f1 ++ f2, H' b = H b) → Ow K S' H' v' o' g' → OwSt K S' H' (σ.set i (Option.some v')) (st.set i (Option.some o')) (f1 ++ g' ++ f2)) ∧
    ∀ (S' H' : Hp) (v' : Option V), Same S S' → (∀ b ∈ f1 ++ f2, H' b = H b) → OwSt K S' H' (σ.set i v') (st.set i Option.none) (f1 ++ f2)
  | _, _, _, _, .nil, e => by simp at e
  | _, _, _, 0, .none (f := f) r, e => by
    refine ⟨[], [], f, by simp, fun S' H' v' o' g' e k w => ?_, fun S' H' v' e k => ?_⟩
    · have := OwSt.some w (r.mono e fun b hb => k b (by simpa using hb))
      simpa using this
    · have := OwSt.none (v := v') (r.mono e fun b hb => k b (by simpa using hb))
      simpa using this
  | _, _, _, i + 1, .none r, e => by
    obtain ⟨f1, g1, f2, h2, h4, h5⟩ := r.set (i := i) (by simpa using e)
    exact ⟨f1, g1, f2, h2, fun S' H' v' o' g' e k w' => .none (h4 S' H' v' o' g' e k w'), fun S' H' v' e k => .none (h5 S' H' v' e k)⟩
  | _, _, _, 0, .some (f := f) (g := g) h r, e => by
    refine ⟨[], f, g, by simp, fun S' H' v' o' g' e k w => ?_, fun S' H' v' e k => ?_⟩
    · have := OwSt.some w (r.mono e fun b hb => k b (by simpa using hb))
      simpa using this
    · have := OwSt.none (v := v') (r.mono e fun b hb => k b (by simpa using hb))
      simpa using this
  | _, _, _, i + 1, .some (f := f) (g := g) h r, e => by
    obtain ⟨f1, g1, f2, h2, h4, h5⟩ := r.set (i := i) (by simpa using e)
    refine ⟨f ++ f1, g1, f2, by rw [h2]; simp, fun S' H' v' o' g' e k w => ?_, fun S' H' v' e k => ?_⟩
    · have q := h4 S' H' v' o' g' e (fun b hb => k b (by simp only [List.mem_append] at hb ⊢; rcases hb with z | z; exact .inl (.inr z); exact .inr z)) w
      have := OwSt.some (h.mono e fun b hb => k b (by simp only [List.mem_append]; exact .inl (.inl hb))) q
      simpa [List.append_assoc] using this
    · have q := h5 S' H' v' e (fun b hb => k b (by simp only [List.mem_append] at hb ⊢; rcases hb with z | z; exact .inl (.inr z); exact .inr z))
      have := OwSt.some (h.mono e fun b hb => k b (by simp only [List.mem_append]; exact .inl (.inl hb))) q
      simpa [List.append_assoc] using this
end
/-- S: what is read and stays; T: what is left alone; the slots' own trees stand outside T -/
structure RS (K : PySem.W.Frag) (S T : Hp) (st : List (Option O)) (σ : St) (H : Hp) : Prop where
  lo : Same S T
  th : Same T H
  own : ∃ f, OwSt K S H σ st f ∧ f.Nodup ∧ ∀ b ∈ f, T b = none
theorem RS.sh {K S T st σ H} (r : RS K S T st σ H) : Same S H := r.lo.trans r.th
/-- behind an expression: what is new is read, or left alone -/
structure Ext (S T H S' T' : Hp) : Prop where
  s : Same S S'
  t : Same T T'
  old : ∀ b, H b ≠ none → S' b = S b ∧ T' b = T b
theorem Ext.refl {S T H : Hp} : Ext S T H S T := ⟨Same.refl _, Same.refl _, fun _ _ => ⟨rfl, rfl⟩⟩
theorem Ext.trans {S T H S1 T1 H1 S2 T2 : Hp} (a : Ext S T H S1 T1) (h : Same H H1) (b : Ext S1 T1 H1 S2 T2) : Ext S T H S2 T2 :=
  ⟨a.s.trans b.s, a.t.trans b.t, fun c hc => by
    have h1 : H1 c ≠ none := by
      cases e : H c with
      | none => exact absurd e hc
      | some o => rw [h c o e]; simp
    obtain ⟨p, q⟩ := a.old c hc
    obtain ⟨p', q'⟩ := b.old c h1
    exact ⟨p'.trans p, q'.trans q⟩⟩
/-- behind a statement -/
structure Ex3 (S T S' T' : Hp) : Prop where
  s : Same S S'
  t : Same T T'
  old : ∀ b, T b ≠ none → S' b = S b
theorem Ex3.refl {S T : Hp} : Ex3 S T S T := ⟨Same.refl _, Same.refl _, fun _ _ => rfl⟩
theorem Ex3.trans {S T S1 T1 S2 T2 : Hp} (a : Ex3 S T S1 T1) (b : Ex3 S1 T1 S2 T2) : Ex3 S T S2 T2 :=
  ⟨a.s.trans b.s, a.t.trans b.t, fun c hc => by
    have h1 : T1 c ≠ none := by
      cases e : T c with
      | none => exact absurd e hc
      | some o => rw [a.t c o e]; simp
    exact (b.old c h1).trans (a.old c hc)⟩
theorem Ext.ex3 {S T H S' T' : Hp} (a : Ext S T H S' T') (h : Same T H) : Ex3 S T S' T' := ⟨a.s, a.t, fun b hb => by
  cases e : T b with
  | none => exact absurd e hb
  | some o => exact (a.old b (by rw [h b o e]; simp)).1⟩
theorem RS.mono {K S T st σ H H'} (r : RS K S T st σ H) (h : Same H H') : RS K S T st σ H' := by
  obtain ⟨f, w, nd, k⟩ := r.own
  refine ⟨r.lo, r.th.trans h, f, w.mono (Same.refl _) fun b hb => ?_, nd, k⟩
  have := w.there b hb
  cases e : H b with
  | none => exact absurd e this
  | some o => exact h b o e
theorem RS.ext {K S T st σ H S' T' H'} (r : RS K S T st σ H) (h : Same H H') (x : Ext S T H S' T') (st' : Same S' T') (th' : Same T' H') : RS K S' T' st σ H' := by
  obtain ⟨f, w, nd, k⟩ := r.own
  refine ⟨st', th', f, w.mono x.s fun b hb => ?_, nd, fun b hb => ?_⟩
  · have := w.there b hb
    cases e : H b with
    | none => exact absurd e this
    | some o => exact h b o e
  · rw [(x.old b (w.there b hb)).2]; exact k b hb
theorem same_ne {H H' : Hp} (h : Same H H') {b : Addr} (e : H b ≠ none) : H' b = H b := by
  cases q : H b with
  | none => exact absurd q e
  | some o => exact h b o q
/-- a slot takes a new tree -/
theorem RS.set {K S T st σ H} {i : Nat} {v : V} {o : O} {g : List Addr} (r : RS K S T st σ H) (hi : i < st.length) (w : Ow K S H v o g) (nd : g.Nodup) (hg : ∀ b ∈ g, T b = none)
    (dj : ∀ f, OwSt K S H σ st f → ∀ b ∈ g, b ∉ f) : RS K S T (st.set i (some o)) (σ.set i (some v)) H := by
  obtain ⟨f, ws, ndf, k⟩ := r.own
  obtain ⟨f1, g0, f2, e, h4, h5⟩ := ws.set hi
  have d := dj f ws
  subst e
  refine ⟨r.lo, r.th, f1 ++ g ++ f2, h4 S H v o g (Same.refl _) (fun _ _ => rfl) w, ?_, fun b hb => ?_⟩
  · simp only [List.nodup_append, List.mem_append] at ndf d ⊢
    obtain ⟨⟨n1, n2, n3⟩, n4, n5⟩ := ndf
    refine ⟨⟨n1, nd, fun a ha b hb e => d b hb (e ▸ .inl (.inl ha))⟩, n4, fun a ha b hb e => ?_⟩
    rcases ha with ha | ha
    · exact n5 a (.inl ha) b hb e
    · exact d a ha (e ▸ .inr hb)
  · simp only [List.mem_append] at hb k
    rcases hb with (hb | hb) | hb
    · exact k b (.inl (.inl hb))
    · exact hg b hb
    · exact k b (.inr hb)
theorem RS.setSh {K S T st σ H} {i : Nat} {v : V} {d : D} (r : RS K S T st σ H) (hi : i < st.length) (w : Rp K S v d) : RS K S T (st.set i (some (.sh d))) (σ.set i (some v)) H :=
  r.set hi (.sh w) .nil (fun b hb => by cases hb) fun _ _ b hb => by cases hb
/-- fresh addresses are in no slot -/
theorem OwSt.fresh {K : PySem.W.Frag} {S H H' : Hp} {σ : St} {st : List (Option O)} {f g : List Addr} (w : OwSt K S H' σ st f) (h : ∀ b ∈ g, H b = Option.none) (k : ∀ b ∈ f, H b ≠ Option.none) : ∀ b ∈ g, b ∉ f := fun b hb hf => k b hf (h b hb)
end M

/-! What an expression, a test, a statement is worth over the slots; the judgements. -/
namespace M
open PySem L2
/-- a value, an own error by its class's name, or nothing is told -/
inductive Rs (α : Type) where
  | ok (a : α) | ex (c : Str) | bad
def Rs.bind {α β : Type} : Rs α → (α → Rs β) → Rs β
  | .ok a, f => f a
  | .ex c, _ => .ex c
  | .bad, _ => .bad
instance : Monad Rs where
  pure := .ok
  bind := Rs.bind
theorem ok_bind {α β : Type} (a : α) (f : α → Rs β) : (Rs.ok a >>= f) = f a := rfl
theorem ex_bind {α β : Type} (c : Str) (f : α → Rs β) : ((Rs.ex c : Rs α) >>= f) = .ex c := rfl
theorem bad_bind {α β : Type} (f : α → Rs β) : ((Rs.bad : Rs α) >>= f) = .bad := rfl
abbrev Sl := List (Option O)
inductive Fl where
  | nx (st : Sl) | rt (o : O) | bk (st : Sl) | ct (st : Sl) | ex (c : Str) | bad
def Fl.thn : Fl → (Sl → Fl) → Fl
  | .nx st, f => f st
  | r, _ => r
abbrev Cl := Str → Addr
section
variable (K : PySem.W.Frag) (cl : Cl) (W : WX)
def PV (σ : St) (H : Hp) (r : Rs D) (Q : VK) : Prop := match r with
  | .ok d => ∀ v H', Same H H' → Rp K H' v d → Q v H'
  | .ex c => ∀ H', Same H H' → W (.ref (cl c)) none σ H'
  | .bad => False
def PVs (σ : St) (H : Hp) (r : Rs (List D)) (Q : List V → Hp → Prop) : Prop := match r with
  | .ok ds => ∀ vs H', Same H H' → RpL K H' vs ds → Q vs H'
  | .ex c => ∀ H', Same H H' → W (.ref (cl c)) none σ H'
  | .bad => False
def PB (σ : St) (H : Hp) (r : Rs Bool) (Q : Bool → Hp → Prop) : Prop := match r with
  | .ok b => ∀ H', Same H H' → Q b H'
  | .ex c => ∀ H', Same H H' → W (.ref (cl c)) none σ H'
  | .bad => False
def PP (S T : Hp) (σ : St) (H : Hp) (r : Rs D) (Q : VK) : Prop := match r with
  | .ok d => ∀ v S' T' H', Same H H' → Ext S T H S' T' → Same S' T' → Same T' H' → Rp K S' v d → Q v H'
  | .ex c => ∀ H', Same H H' → W (.ref (cl c)) none σ H'
  | .bad => False
def PPs (S T : Hp) (σ : St) (H : Hp) (r : Rs (List D)) (Q : List V → Hp → Prop) : Prop := match r with
  | .ok ds => ∀ vs S' T' H', Same H H' → Ext S T H S' T' → Same S' T' → Same T' H' → RpL K S' vs ds → Q vs H'
  | .ex c => ∀ H', Same H H' → W (.ref (cl c)) none σ H'
  | .bad => False
def PF (S T : Hp) (σ : St) (H : Hp) (r : Rs O) (Q : VK) : Prop := match r with
  | .ok o => ∀ v S' T' H' g, Same H H' → Ext S T H S' T' → Same S' T' → Same T' H' → Ow K S' H' v o g → g.Nodup → (∀ b ∈ g, T' b = none ∧ H b = none) → Q v H'
  | .ex c => ∀ H', Same H H' → W (.ref (cl c)) none σ H'
  | .bad => False
def PFs (S T : Hp) (σ : St) (H : Hp) (r : Rs (List O)) (Q : List V → Hp → Prop) : Prop := match r with
  | .ok os => ∀ vs S' T' H' g, Same H H' → Ext S T H S' T' → Same S' T' → Same T' H' → OwL K S' H' vs os g → g.Nodup → (∀ b ∈ g, T' b = none ∧ H b = none) → Q vs H'
  | .ex c => ∀ H', Same H H' → W (.ref (cl c)) none σ H'
  | .bad => False
def PSt (S T : Hp) (r : Fl) (E : Ends) : Prop := match r with
  | .nx st => ∀ S' T' σ H, Ex3 S T S' T' → RS K S' T' st σ H → E.nx σ H
  | .bk st => ∀ S' T' σ H, Ex3 S T S' T' → RS K S' T' st σ H → E.bk σ H
  | .ct st => ∀ S' T' σ H, Ex3 S T S' T' → RS K S' T' st σ H → E.ct σ H
  | .rt o => ∀ v S' T' H g, Ex3 S T S' T' → Same S' T' → Same T' H → Ow K S' H v o g → g.Nodup → (∀ b ∈ g, T' b = none) → E.rt v H
  | .ex c => ∀ σ T' H, Same T T' → Same T' H → W (.ref (cl c)) none σ H
  | .bad => False
end
section
variable (K : PySem.W.Frag) (W : WX) (cl : Cl)
/-- R t: t is the reading of the expression (R := PE X e), or of a statement around it -/
structure EV (R : TE → Prop) (f : Sl → Rs D) : Prop where
  ex : ∃ t, R t ∧ ∀ S T st σ H Q, RS K S T st σ H → PV K cl W σ H (f st) Q → t σ H Q
structure EVs (R : TA → Prop) (f : Sl → Rs (List D)) : Prop where
  ex : ∃ t, R t ∧ ∀ S T st σ H Q, RS K S T st σ H → PVs K cl W σ H (f st) Q → t σ H Q
structure ET (R : TT → Prop) (f : Sl → Rs Bool) : Prop where
  ex : ∃ t, R t ∧ ∀ S T st σ H Q, RS K S T st σ H → PB cl W σ H (f st) Q → t σ H Q
structure EP (R : TE → Prop) (f : Sl → Rs D) : Prop where
  ex : ∃ t, R t ∧ ∀ S T st σ H Q, RS K S T st σ H → PP K cl W S T σ H (f st) Q → t σ H Q
structure EPs (R : TA → Prop) (f : Sl → Rs (List D)) : Prop where
  ex : ∃ t, R t ∧ ∀ S T st σ H Q, RS K S T st σ H → PPs K cl W S T σ H (f st) Q → t σ H Q
structure EF (R : TE → Prop) (f : Sl → Rs O) : Prop where
  ex : ∃ t, R t ∧ ∀ S T st σ H Q, RS K S T st σ H → PF K cl W S T σ H (f st) Q → t σ H Q
structure EFs (R : TA → Prop) (f : Sl → Rs (List O)) : Prop where
  ex : ∃ t, R t ∧ ∀ S T st σ H Q, RS K S T st σ H → PFs K cl W S T σ H (f st) Q → t σ H Q
end
/-! over a family of contexts (a comprehension's block stands in many) -/
section
variable {ι : Type} (X : ι → Cx)
abbrev PEf (e : Expr) : TE → Prop := fun t => ∀ z, PE (X z) e t
abbrev PTf (e : Expr) : TT → Prop := fun t => ∀ z, PT (X z) e t
abbrev PWf (e : Expr) : TT → Prop := fun t => ∀ z, PW (X z) e t
abbrev PAf (es : List Expr) : TA → Prop := fun t => ∀ z, PA (X z) es t
abbrev POf (e : Option Expr) : TO → Prop := fun t => ∀ z, PO (X z) e t
abbrev PGf (e : Expr) : TG → Prop := fun t => ∀ z, PG (X z) e t
abbrev PGsf (es : List Expr) : TGs → Prop := fun t => ∀ z, PGs (X z) es t
abbrev PIf (tg e : Expr) : TI → Prop := fun t => ∀ z, PI (X z) tg e t
abbrev PTsf (es : List Expr) : TT → Prop := fun t => ∀ z, PTs (X z) es t
abbrev PSf (s : Stmt) : TS → Prop := fun t => ∀ z, PS (X z) s t
abbrev PSsf (s : List Stmt) : TS → Prop := fun t => ∀ z, PSs (X z) s t
end
section
variable (K : PySem.W.Frag) (W : WX) (cl : Cl)
structure SJ (R : TS → Prop) (f : Sl → Fl) : Prop where
  ex : ∃ t, R t ∧ ∀ S T st σ H E, RS K S T st σ H → PSt K cl W S T (f st) E → t E σ H
end
section
variable {X : Cx} {W : WX} {cl : Cl} {K : PySem.W.Frag}
theorem PSt.mono {S T S' T' : Hp} {r : Fl} {E : Ends} (x : Ex3 S T S' T') (h : PSt K cl W S T r E) : PSt K cl W S' T' r E := by
  cases r with
  | nx st => exact fun S2 T2 σ H y => h S2 T2 σ H (x.trans y)
  | bk st => exact fun S2 T2 σ H y => h S2 T2 σ H (x.trans y)
  | ct st => exact fun S2 T2 σ H y => h S2 T2 σ H (x.trans y)
  | rt o => exact fun v S2 T2 H g y => h v S2 T2 H g (x.trans y)
  | ex c => exact fun σ T2 H y => h σ T2 H (x.t.trans y)
  | bad => exact h
theorem PV.mono {σ : St} {H H' : Hp} {r : Rs D} {Q : VK} (x : Same H H') (h : PV K cl W σ H r Q) : PV K cl W σ H' r Q := by
  cases r with
  | ok d => exact fun v H2 y => h v H2 (x.trans y)
  | ex c => exact fun H2 y => h H2 (x.trans y)
  | bad => exact h
/-! ### what an expression is worth, taken so or so -/
def prim : D → Bool
  | .non | .bl _ | .int _ | .str _ => true
  | _ => false
def asPrim (r : Rs D) : Rs D := r.bind fun d => if prim d then .ok d else .bad
theorem Rp.prim {S S' : Hp} {v : V} {d : D} (h : Rp K S v d) (p : prim d = true) : Rp K S' v d := by
  cases h with
  | non => exact .non
  | bl b => exact .bl b
  | int i => exact .int i
  | str x => exact .str x
  | lst _ _ => cases p
  | tup _ _ => cases p
  | scr _ => cases p
/-- a number, a truth, a text, None may be kept -/
theorem EV.prm {R : TE → Prop} {f : Sl → Rs D} (h : EV K W cl R f) : EP K W cl R fun st => asPrim (f st) := by
  obtain ⟨t, pt, k⟩ := h.ex
  refine ⟨t, pt, fun S T st σ H Q r q => k S T st σ H Q r ?_⟩
  show PV _ _ _ _ _ _ _
  have q : PP K cl W S T σ H (asPrim (f st)) Q := q
  revert q
  cases f st with
  | bad => exact fun q => q
  | ex c => exact fun q => q
  | ok d =>
    intro q v H' hs rp
    have e1 : asPrim (.ok d) = if prim d = true then .ok d else .bad := rfl
    rw [e1] at q
    by_cases p : prim d = true
    · rw [if_pos p] at q
      exact q v S T H' hs .refl r.lo (r.th.trans hs) (rp.prim p)
    · rw [if_neg p] at q
      exact q.elim
/-- what stays may be looked at -/
theorem EP.v {R : TE → Prop} {f : Sl → Rs D} (h : EP K W cl R f) : EV K W cl R f := by
  obtain ⟨t, pt, k⟩ := h.ex
  refine ⟨t, pt, fun S T st σ H Q r q => k S T st σ H Q r ?_⟩
  revert q
  cases f st with
  | bad => exact fun q => q
  | ex c => exact fun q => q
  | ok d => exact fun q v S' T' H' hs _ h1 h2 rp => q v H' hs (rp.mono (h1.trans h2))
theorem EPs.v {R : TA → Prop} {f : Sl → Rs (List D)} (h : EPs K W cl R f) : EVs K W cl R f := by
  obtain ⟨t, pt, k⟩ := h.ex
  refine ⟨t, pt, fun S T st σ H Q r q => k S T st σ H Q r ?_⟩
  revert q
  cases f st with
  | bad => exact fun q => q
  | ex c => exact fun q => q
  | ok d => exact fun q v S' T' H' hs _ h1 h2 rp => q v H' hs (rp.mono (h1.trans h2))
/-- what stays is a tree without own knots -/
def mapRs {α β : Type} (g : α → β) : Rs α → Rs β
  | .ok a => .ok (g a)
  | .ex c => .ex c
  | .bad => .bad
theorem EP.f {R : TE → Prop} {f : Sl → Rs D} (h : EP K W cl R f) : EF K W cl R fun st => mapRs O.sh (f st) := by
  obtain ⟨t, pt, k⟩ := h.ex
  refine ⟨t, pt, fun S T st σ H Q r q => k S T st σ H Q r ?_⟩
  have q : PF K cl W S T σ H (mapRs O.sh (f st)) Q := q
  revert q
  cases f st with
  | bad => exact fun q => q
  | ex c => exact fun q => q
  | ok d => exact fun q v S' T' H' hs x h1 h2 rp => q v S' T' H' [] hs x h1 h2 (.sh rp) .nil fun b hb => by cases hb
/-- a new tree, frozen -/
theorem frz_ext {S T H S' T' H' : Hp} {g : List Addr} (x : Ext S T H S' T') (hn : ∀ b ∈ g, T' b = none ∧ H b = none) (h1 : Same S' T') (h2 : Same T' H') :
    Ext S T H (frz g S' H') (frz g T' H') ∧ Same (frz g S' H') (frz g T' H') ∧ Same (frz g T' H') H' := by
  have hs : ∀ b ∈ g, S' b = none := fun b hb => by
    cases e : S' b with
    | none => rfl
    | some o => have := h1 b o e; rw [(hn b hb).1] at this; cases this
  refine ⟨⟨x.s.trans (frz_same hs), x.t.trans (frz_same fun b hb => (hn b hb).1), fun b hb => ?_⟩, frz_mono h1, frz_low h2⟩
  have hg : b ∉ g := fun z => hb (hn b z).2
  rw [frz_out hg, frz_out hg]
  exact x.old b hb
theorem EF.p {R : TE → Prop} {f : Sl → Rs O} (h : EF K W cl R f) : EP K W cl R fun st => mapRs O.er (f st) := by
  obtain ⟨t, pt, k⟩ := h.ex
  refine ⟨t, pt, fun S T st σ H Q r q => k S T st σ H Q r ?_⟩
  have q : PP K cl W S T σ H (mapRs O.er (f st)) Q := q
  revert q
  cases f st with
  | bad => exact fun q => q
  | ex c => exact fun q => q
  | ok o =>
    intro q v S' T' H' g hs x h1 h2 w nd hn
    obtain ⟨x2, a, b⟩ := frz_ext x hn h1 h2
    refine q v _ _ H' hs x2 a b (w.rp (frz_same fun b hb => ?_) fun b hb => frz_in hb)
    cases e : S' b with
    | none => rfl
    | some o => have := h1 b o e; rw [(hn b hb).1] at this; cases this
/-! ### statements, one behind the other -/
variable {ι : Type} {Y : ι → Cx}
theorem s_nil : SJ K W cl (PSsf Y []) Fl.nx := ⟨_, fun _ => pss_nil, fun S T st σ H E r q => q S T σ H .refl r⟩
theorem s_cons {s : Stmt} {ss : List Stmt} {f g : Sl → Fl} (h : SJ K W cl (PSf Y s) f) (k : SJ K W cl (PSsf Y ss) g) : SJ K W cl (PSsf Y (s :: ss)) fun st => (f st).thn g := by
  obtain ⟨t, pt, a⟩ := h.ex
  obtain ⟨u, pu, b⟩ := k.ex
  refine ⟨_, fun z => pss_cons (pt z) (pu z), fun S T st σ H E r q => a S T st σ H _ r ?_⟩
  revert q
  show PSt _ _ _ _ _ ((f st).thn g) _ → _
  cases f st with
  | nx st' => exact fun q S' T' σ' H' x r' => b S' T' st' σ' H' E r' (q.mono x)
  | rt o => exact fun q => q
  | bk st' => exact fun q => q
  | ct st' => exact fun q => q
  | ex c => exact fun q => q
  | bad => exact fun q => q
theorem s_one {s : Stmt} {f : Sl → Fl} (h : SJ K W cl (PSf Y s) f) : SJ K W cl (PSsf Y [s]) f := by
  obtain ⟨t, pt, a⟩ := h.ex
  exact ⟨_, fun z => pss_one (pt z), a⟩
end
end M

/-! Expressions. -/
namespace M
open PySem L2
def ofO {α : Type} : Option α → Rs α
  | some a => .ok a
  | none => .bad
theorem ofO_ok {α : Type} {o : Option α} {a : α} (h : ofO o = .ok a) : o = some a := by
  cases o with
  | none => cases h
  | some b => cases h; rfl
def getV (i : Nat) (st : Sl) : Rs D := match st[i]? with
  | some (some o) => .ok o.er
  | _ => .bad
/-- a slot that holds what stays -/
def getP (i : Nat) (st : Sl) : Rs D := match st[i]? with
  | some (some (.sh d)) => .ok d
  | _ => .bad
/-! values -/
def addD : D → D → Option D
  | .int i, .int j => some (.int (i + j))
  | .str x, .str y => if x.length + y.length ≤ sizeLine then some (.str (x ++ y)) else none
  | _, _ => none
def subD : D → D → Option D
  | .int i, .int j => some (.int (i - j))
  | _, _ => none
def mulOk (i j : Int) : Bool := !(decide (Builtin.Int.intBits i > shortFactorBits) && decide (Builtin.Int.intBits j > shortFactorBits) && Builtin.Int.intTooBig (Builtin.Int.intBits i + Builtin.Int.intBits j))
def mulD : D → D → Option D
  | .int i, .int j => if mulOk i j = true then some (.int (i * j)) else none
  | _, _ => none
def divOk (i j : Int) : Bool := decide (j ≠ 0) && !Builtin.divisionGoesByPylong i j
def fdivD : D → D → Option D
  | .int i, .int j => if divOk i j = true then some (.int (i.fdiv j)) else none
  | _, _ => none
def modD : D → D → Option D
  | .int i, .int j => if j ≠ 0 then some (.int (i.fmod j)) else none
  | _, _ => none
def powOk (i j : Int) : Bool := decide (0 ≤ j) && decide (j ≤ 1000000) && decide (i.natAbs < 2 ^ 64)
def powD : D → D → Option D
  | .int i, .int j => if powOk i j = true then some (.int (i ^ j.toNat)) else none
  | _, _ => none
def cmpD (p : Int → Int → Bool) : D → D → Option D
  | .int i, .int j => some (.bl (p i j))
  | _, _ => none
def ltD : D → D → Option D := cmpD fun i j => decide (i < j)
def leD : D → D → Option D := cmpD fun i j => decide (i ≤ j)
def gtD : D → D → Option D := cmpD fun i j => decide (j < i)
def geD : D → D → Option D := cmpD fun i j => decide (j ≤ i)
def isND : D → D → Option D
  | .non, .non => some (.bl true)
  | .bl _, .non | .int _, .non | .str _, .non | .lst _, .non | .tup _, .non | .scr _, .non => some (.bl false)
  | _, _ => none
def notND (a b : D) : Option D := match isND a b with
  | some (.bl k) => some (.bl (!k))
  | _ => none
mutual
def D.py : D → PyData
  | .non => .none
  | .bl b => .bool b
  | .int i => .int i
  | .str x => .str x
  | .lst xs => .list (pyL xs)
  | .tup xs => .tuple (pyL xs)
  | .scr ns => .list (ns.map .int)
def pyL : List D → List PyData
  | [] => []
  | d :: ds => d.py :: pyL ds
end
def eqB (a b : D) : Bool := PyData.eqv a.py b.py
def eqOk (a b : D) : Bool := SeqAt.shaped a.py && SeqAt.shaped b.py
def eqD (a b : D) : Option D := if eqOk a b = true then some (.bl (eqB a b)) else none
def neD (a b : D) : Option D := if eqOk a b = true then some (.bl (!eqB a b)) else none
def ixD : D → D → Option D
  | .lst ds, .int i => atI ds i
  | .tup ds, .int i => atI ds i
  | .scr ns, .int i => (atI ns i).map .int
  | _, _ => none
def negD : D → Option D
  | .int i => some (.int (-i))
  | _ => none
def lenD : D → Option D
  | .lst ds => some (.int ds.length)
  | .tup ds => some (.int ds.length)
  | .scr ns => some (.int ns.length)
  | .str x => if x.length ≤ sizeLine then some (.int x.length) else none
  | _ => none
def absD : D → Option D
  | .int i => some (.int (if i < 0 then -i else i))
  | _ => none
def intD : D → Option D
  | .int i => some (.int i)
  | .bl k => some (.int (if k then 1 else 0))
  | _ => none
def max2D : D → D → Option D
  | .int i, .int j => some (.int (if j > i then j else i))
  | _, _ => none
def min2D : D → D → Option D
  | .int i, .int j => some (.int (if j < i then j else i))
  | _, _ => none
def intsD : List D → Option (List Int)
  | [] => some []
  | .int i :: r => (intsD r).map (i :: ·)
  | _ => none
def boolsD : List D → Option (List Bool)
  | [] => some []
  | .bl i :: r => (boolsD r).map (i :: ·)
  | _ => none
def elems : D → Option (List D)
  | .lst ds => some ds
  | .scr ns => some (ns.map .int)
  | _ => none
def sumD (d : D) : Option D := (elems d).bind fun ds => (intsD ds).map fun ns => .int ns.sum
def allD (d : D) : Option D := (elems d).bind fun ds => (boolsD ds).map fun ns => .bl (ns.all id)
def anyD (d : D) : Option D := (elems d).bind fun ds => (boolsD ds).map fun ns => .bl (ns.any id)
def cutL {α : Type} (xs : List α) (lo hi : Option Int) : List α := (xs.drop (HT.sIx xs.length 0 lo)).take (HT.sIx xs.length xs.length hi - HT.sIx xs.length 0 lo)
theorem intsD_eq : ∀ {ds : List D} {ns : List Int}, intsD ds = some ns → ds = ns.map .int
  | [], ns, h => by cases h; rfl
  | .int i :: r, ns, h => by
    cases e : intsD r with
    | none => simp [intsD, e] at h
    | some ms =>
      simp [intsD, e] at h
      subst h
      rw [intsD_eq e]
      rfl
  | .non :: r, ns, h => by simp [intsD] at h
  | .bl _ :: r, ns, h => by simp [intsD] at h
  | .str _ :: r, ns, h => by simp [intsD] at h
  | .lst _ :: r, ns, h => by simp [intsD] at h
  | .tup _ :: r, ns, h => by simp [intsD] at h
  | .scr _ :: r, ns, h => by simp [intsD] at h
theorem boolsD_eq : ∀ {ds : List D} {ns : List Bool}, boolsD ds = some ns → ds = ns.map .bl
  | [], ns, h => by cases h; rfl
  | .bl i :: r, ns, h => by
    cases e : boolsD r with
    | none => simp [boolsD, e] at h
    | some ms =>
      simp [boolsD, e] at h
      subst h
      rw [boolsD_eq e]
      rfl
  | .non :: r, ns, h => by simp [boolsD] at h
  | .int _ :: r, ns, h => by simp [boolsD] at h
  | .str _ :: r, ns, h => by simp [boolsD] at h
  | .lst _ :: r, ns, h => by simp [boolsD] at h
  | .tup _ :: r, ns, h => by simp [boolsD] at h
  | .scr _ :: r, ns, h => by simp [boolsD] at h
section
variable {K : PySem.W.Frag} {S H : Hp}
/-- a list of values is a list of data -/
theorem Rp.seqL {v : V} {d : D} {ds : List D} (h : Rp K S v d) (e : elems d = some ds) : ∃ a vs, v = .ref a ∧ SqL K S a vs ∧ RpL K S vs ds := by
  cases h with
  | lst h r => cases e; exact ⟨_, _, rfl, SqL.of h, r⟩
  | scr h => cases e; exact ⟨_, _, rfl, h, .ints _⟩
  | non => cases e
  | bl _ => cases e
  | int _ => cases e
  | str _ => cases e
  | tup _ _ => cases e
mutual
theorem Rp.dp : ∀ {v : V} {d : D}, Rp K S v d → Dp K S v d.py
  | _, _, .non => .non
  | _, _, .bl b => .bl b
  | _, _, .int i => .int i
  | _, _, .str x => .str x
  | _, _, .lst h r => .lst (SqL.of h) (RpL.dp r)
  | _, _, .tup h r => .tup (SqT.of h) (RpL.dp r)
  | _, _, .scr h => .lst h (dpInts _)
theorem RpL.dp : ∀ {vs : List V} {ds : List D}, RpL K S vs ds → DpAll K S vs (pyL ds)
  | _, _, .nil => .nil
  | _, _, .cons h r => .cons (Rp.dp h) (RpL.dp r)
theorem dpInts : ∀ ns : List Int, DpAll K S (ns.map V.int) (ns.map PyData.int)
  | [] => .nil
  | n :: ns => .cons (.int n) (dpInts ns)
end
end
section
variable {ι : Type} {X : ι → Cx} {W : WX} {cl : Cl} {K : PySem.W.Frag}
/-! ### names, constants -/
theorem v_nm {e : Expr} {i : Nat} (h : PEf X e (tVar i)) : EV K W cl (PEf X e) (getV i) := by
  refine ⟨_, h, fun S T st σ H Q r q => ?_⟩
  have q : PV K cl W σ H (getV i st) Q := q
  unfold getV at q
  revert q
  cases e : st[i]? with
  | none => exact fun q => q.elim
  | some z =>
    cases z with
    | none => exact fun q => q.elim
    | some o =>
      intro q
      obtain ⟨f, w, nd, k⟩ := r.own
      obtain ⟨v, f1, g, f2, h1, h2, h3, _⟩ := w.get e
      exact ⟨v, h1, q v H (Same.refl _) (h3.rp r.sh fun _ _ => rfl)⟩
theorem p_nm {e : Expr} {i : Nat} (h : PEf X e (tVar i)) : EP K W cl (PEf X e) (getP i) := by
  refine ⟨_, h, fun S T st σ H Q r q => ?_⟩
  have q : PP K cl W S T σ H (getP i st) Q := q
  unfold getP at q
  revert q
  cases e : st[i]? with
  | none => exact fun q => q.elim
  | some z =>
    cases z with
    | none => exact fun q => q.elim
    | some o =>
      cases o with
      | lst _ => exact fun q => q.elim
      | tup _ => exact fun q => q.elim
      | sh d =>
        intro q
        obtain ⟨f, w, nd, k⟩ := r.own
        obtain ⟨v, f1, g, f2, h1, h2, h3, _⟩ := w.get e
        cases h3 with
        | sh rp => exact ⟨v, h1, q v S T H (Same.refl _) .refl r.lo r.th rp⟩
theorem v_c {e : Expr} {v : V} {d : D} (h : PEf X e (tC v)) (hd : ∀ H, Rp K H v d) : EV K W cl (PEf X e) fun _ => .ok d :=
  ⟨_, h, fun S T st σ H Q r q => q v H (Same.refl _) (hd H)⟩
theorem v_int {i : Int} {j pos} : EV K W cl (PEf X (.Constant (.int i) j pos)) fun _ => .ok (.int i) := v_c (fun _ => pe_int) fun _ => .int i
theorem v_bl {b : Bool} {j pos} : EV K W cl (PEf X (.Constant (.bool b) j pos)) fun _ => .ok (.bl b) := v_c (fun _ => pe_bl) fun _ => .bl b
theorem v_non {j pos} : EV K W cl (PEf X (.Constant .none j pos)) fun _ => .ok .non := v_c (fun _ => pe_non) fun _ => .non
theorem v_str {x : Str} {j pos} : EV K W cl (PEf X (.Constant (.str x) j pos)) fun _ => .ok (.str x) := v_c (fun _ => pe_str) fun _ => .str x
theorem p_c {e : Expr} {v : V} {d : D} (h : PEf X e (tC v)) (hd : ∀ H, Rp K H v d) : EP K W cl (PEf X e) fun _ => .ok d :=
  ⟨_, h, fun S T st σ H Q r q => q v S T H (Same.refl _) .refl r.lo r.th (hd S)⟩
theorem p_int {i : Int} {j pos} : EP K W cl (PEf X (.Constant (.int i) j pos)) fun _ => .ok (.int i) := p_c (fun _ => pe_int) fun _ => .int i
theorem p_bl {b : Bool} {j pos} : EP K W cl (PEf X (.Constant (.bool b) j pos)) fun _ => .ok (.bl b) := p_c (fun _ => pe_bl) fun _ => .bl b
theorem p_non {j pos} : EP K W cl (PEf X (.Constant .none j pos)) fun _ => .ok .non := p_c (fun _ => pe_non) fun _ => .non
theorem p_str {x : Str} {j pos} : EP K W cl (PEf X (.Constant (.str x) j pos)) fun _ => .ok (.str x) := p_c (fun _ => pe_str) fun _ => .str x
/-! ### operators -/
/-- a rule by values does what g tells -/
def Op2 (K : PySem.W.Frag) (r : R2) (g : D → D → Option D) : Prop := ∀ (H : Hp) (v w : V) (d e z : D) (Q : VK), Rp K H v d → Rp K H w e → g d e = some z → (∀ v' H', Same H H' → Rp K H' v' z → Q v' H') → r v w H Q
def bin2 (g : D → D → Option D) (a b : Rs D) : Rs D := a.bind fun x => b.bind fun y => ofO (g x y)
theorem op2_run {ta tb : TE} {r : R2} {g : D → D → Option D} {fa fb : Sl → Rs D} (hg : Op2 K r g)
    (ka : ∀ S T st σ H Q, RS K S T st σ H → PV K cl W σ H (fa st) Q → ta σ H Q) (kb : ∀ S T st σ H Q, RS K S T st σ H → PV K cl W σ H (fb st) Q → tb σ H Q)
    {S T st σ H Q} (rs : RS K S T st σ H) (q : PV K cl W σ H (bin2 g (fa st) (fb st)) Q) : tOp r ta tb σ H Q := by
  refine ka S T st σ H _ rs ?_
  revert q
  cases fa st with
  | bad => exact fun q => q
  | ex c => exact fun q => q
  | ok d =>
    intro q v H1 h1 r1
    refine kb S T st σ H1 _ (rs.mono h1) ?_
    revert q
    cases fb st with
    | bad => exact fun q => q
    | ex c => exact fun q H2 h2 => q H2 (h1.trans h2)
    | ok e =>
      intro q w H2 h2 r2
      cases ez : g d e with
      | none =>
        have q' : PV K cl W σ H (ofO (g d e)) Q := q
        rw [ez] at q'
        exact q'.elim
      | some z =>
        have q' : PV K cl W σ H (ofO (g d e)) Q := q
        rw [ez] at q'
        exact hg H2 v w d e z Q (r1.mono h2) r2 ez fun v' H3 h3 r3 => q' v' H3 ((h1.trans h2).trans h3) r3
theorem v_op {a b : Expr} {op : Operator} {pos : Pos} {r : R2} {g : D → D → Option D} {fa fb : Sl → Rs D} (ho : ∀ z, OpR (X z) (binaryOp op) r) (hg : Op2 K r g) (ha : EV K W cl (PEf X a) fa) (hb : EV K W cl (PEf X b) fb) :
    EV K W cl (PEf X (.BinOp a op b pos)) fun st => bin2 g (fa st) (fb st) := by
  obtain ⟨ta, pa, ka⟩ := ha.ex
  obtain ⟨tb, pb, kb⟩ := hb.ex
  exact ⟨_, fun z => pe_op (ho z) (pa z) (pb z), fun S T st σ H Q rs q => op2_run hg ka kb rs q⟩
theorem v_cmp {a b : Expr} {op : CmpOp} {pos : Pos} {r : R2} {g : D → D → Option D} {fa fb : Sl → Rs D} (ho : ∀ z, OpR (X z) (compareOp op) r) (hg : Op2 K r g) (hm : behindInMarks op b = false) (ha : EV K W cl (PEf X a) fa) (hb : EV K W cl (PEf X b) fb) :
    EV K W cl (PEf X (.Compare a [op] [b] pos)) fun st => bin2 g (fa st) (fb st) := by
  obtain ⟨ta, pa, ka⟩ := ha.ex
  obtain ⟨tb, pb, kb⟩ := hb.ex
  exact ⟨_, fun z => pe_cmpR (ho z) (pa z) (pb z) hm, fun S T st σ H Q rs q => op2_run hg ka kb rs q⟩
def asB (r : Rs D) : Rs Bool := r.bind fun d => match d with
  | .bl k => .ok k
  | _ => .bad
/-- a truth, as a test -/
theorem t_val {e : Expr} {f : Sl → Rs D} (h : EV K W cl (PEf X e) f) (he : ∀ z whole, isTrue e (X z).env whole = (do let v ← whole; standAt e.pos; holding [v] (truthy v)) := by intro _ _; rfl) : ET K W cl (PTf X e) fun st => asB (f st) := by
  obtain ⟨t, p, k⟩ := h.ex
  refine ⟨_, fun z => pt_val (p z) (he z), fun S T st σ H Q r q => k S T st σ H _ r ?_⟩
  have q : PB cl W σ H (asB (f st)) Q := q
  revert q
  cases f st with
  | bad => exact fun q => q
  | ex c => exact fun q => q
  | ok d =>
    intro q v H1 h1 rp
    cases rp with
    | bl b => exact ⟨b, rfl, q H1 h1⟩
    | non => exact q.elim
    | int _ => exact q.elim
    | str _ => exact q.elim
    | lst _ _ => exact q.elim
    | tup _ _ => exact q.elim
    | scr _ => exact q.elim
theorem t_cmp {a b : Expr} {op : CmpOp} {pos : Pos} {r : R2} {g : D → D → Option D} {fa fb : Sl → Rs D} (ho : ∀ z, OpR (X z) (compareOp op) r) (hg : Op2 K r g) (hm : behindInMarks op b = false) (ha : EV K W cl (PEf X a) fa) (hb : EV K W cl (PEf X b) fb) :
    ET K W cl (PTf X (.Compare a [op] [b] pos)) fun st => asB (bin2 g (fa st) (fb st)) := by
  obtain ⟨ta, pa, ka⟩ := ha.ex
  obtain ⟨tb, pb, kb⟩ := hb.ex
  refine ⟨_, fun z => pt_cmpR (ho z) (pa z) (pb z) hm, fun S T st σ H Q rs q => op2_run (Q := fun x H' => ∃ k, x = .bl k ∧ Q k H') hg ka kb rs ?_⟩
  have q : PB cl W σ H (asB (bin2 g (fa st) (fb st))) Q := q
  revert q
  cases bin2 g (fa st) (fb st) with
  | bad => exact fun q => q
  | ex c => exact fun q => q
  | ok d =>
    intro q v H1 h1 rp
    cases rp with
    | bl b => exact ⟨b, rfl, q H1 h1⟩
    | non => exact q.elim
    | int _ => exact q.elim
    | str _ => exact q.elim
    | lst _ _ => exact q.elim
    | tup _ _ => exact q.elim
    | scr _ => exact q.elim
def notT (r : Rs Bool) : Rs Bool := r.bind fun b => .ok (!b)
def andT (a b : Rs Bool) : Rs Bool := a.bind fun x => if x = true then b else .ok false
def orT (a b : Rs Bool) : Rs Bool := a.bind fun x => if x = true then .ok true else b
theorem t_not {a : Expr} {pos : Pos} {f : Sl → Rs Bool} (h : ET K W cl (PTf X a) f) : ET K W cl (PTf X (.UnaryOp .Not a pos)) fun st => notT (f st) := by
  obtain ⟨t, p, k⟩ := h.ex
  refine ⟨_, fun z => pt_not (p z), fun S T st σ H Q r q => k S T st σ H _ r ?_⟩
  have q : PB cl W σ H (notT (f st)) Q := q
  revert q
  cases f st with
  | bad => exact fun q => q
  | ex c => exact fun q => q
  | ok d => exact fun q H1 h1 => q H1 h1
theorem PB.mono {σ : St} {H H' : Hp} {r : Rs Bool} {Q : Bool → Hp → Prop} (x : Same H H') (h : PB cl W σ H r Q) : PB cl W σ H' r Q := by
  cases r with
  | ok d => exact fun H2 y => h H2 (x.trans y)
  | ex c => exact fun H2 y => h H2 (x.trans y)
  | bad => exact h
theorem w_and1 {a : Expr} {pos : Pos} {f : Sl → Rs Bool} (h : ET K W cl (PTf X a) f) : ET K W cl (PWf X (.BoolOp .And [a] pos)) f := by
  obtain ⟨t, p, k⟩ := h.ex
  exact ⟨_, fun z => pw_and1 (p z), k⟩
theorem w_or1 {a : Expr} {pos : Pos} {f : Sl → Rs Bool} (h : ET K W cl (PTf X a) f) : ET K W cl (PWf X (.BoolOp .Or [a] pos)) f := by
  obtain ⟨t, p, k⟩ := h.ex
  exact ⟨_, fun z => pw_or1 (p z), k⟩
theorem w_and {a b : Expr} {rest : List Expr} {pos : Pos} {f g : Sl → Rs Bool} (h : ET K W cl (PTf X a) f) (h2 : ET K W cl (PWf X (.BoolOp .And (b :: rest) pos)) g) :
    ET K W cl (PWf X (.BoolOp .And (a :: b :: rest) pos)) fun st => andT (f st) (g st) := by
  obtain ⟨t, p, k⟩ := h.ex
  obtain ⟨u, pu, ku⟩ := h2.ex
  refine ⟨_, fun z => pw_and (p z) (pu z), fun S T st σ H Q r q => k S T st σ H _ r ?_⟩
  have q : PB cl W σ H (andT (f st) (g st)) Q := q
  revert q
  cases f st with
  | bad => exact fun q => q
  | ex c => exact fun q => q
  | ok d =>
    cases d with
    | false => exact fun q H1 h1 => iteF (q H1 h1)
    | true => exact fun q H1 h1 => iteT (ku S T st σ H1 Q (r.mono h1) (PB.mono (r := g st) h1 q))
theorem w_or {a b : Expr} {rest : List Expr} {pos : Pos} {f g : Sl → Rs Bool} (h : ET K W cl (PTf X a) f) (h2 : ET K W cl (PWf X (.BoolOp .Or (b :: rest) pos)) g) :
    ET K W cl (PWf X (.BoolOp .Or (a :: b :: rest) pos)) fun st => orT (f st) (g st) := by
  obtain ⟨t, p, k⟩ := h.ex
  obtain ⟨u, pu, ku⟩ := h2.ex
  refine ⟨_, fun z => pw_or (p z) (pu z), fun S T st σ H Q r q => k S T st σ H _ r ?_⟩
  have q : PB cl W σ H (orT (f st) (g st)) Q := q
  revert q
  cases f st with
  | bad => exact fun q => q
  | ex c => exact fun q => q
  | ok d =>
    cases d with
    | true => exact fun q H1 h1 => iteT (q H1 h1)
    | false => exact fun q H1 h1 => iteF (ku S T st σ H1 Q (r.mono h1) (PB.mono (r := g st) h1 q))
theorem t_w {e : Expr} {f : Sl → Rs Bool} (h : ET K W cl (PWf X e) f) : ET K W cl (PTf X e) f := by
  obtain ⟨t, p, k⟩ := h.ex
  exact ⟨_, fun z => (p z).pt, k⟩
/-- truths joined, as a value -/
def andV (a b : Rs D) : Rs D := a.bind fun x => match x with
  | .bl true => b
  | .bl false => .ok (.bl false)
  | _ => .bad
def orV (a b : Rs D) : Rs D := a.bind fun x => match x with
  | .bl false => b
  | .bl true => .ok (.bl true)
  | _ => .bad
def notV (a : Rs D) : Rs D := a.bind fun x => match x with
  | .bl b => .ok (.bl (!b))
  | _ => .bad
theorem v_one {a : Expr} {op : BoolOp} {pos : Pos} {f : Sl → Rs D} (h : EV K W cl (PEf X a) f) : EV K W cl (PEf X (.BoolOp op [a] pos)) f := by
  obtain ⟨t, p, k⟩ := h.ex
  exact ⟨_, fun z => pe_one (p z), k⟩
theorem v_and {a b : Expr} {rest : List Expr} {pos : Pos} {f g : Sl → Rs D} (h : EV K W cl (PEf X a) f) (h2 : EV K W cl (PEf X (.BoolOp .And (b :: rest) pos)) g) :
    EV K W cl (PEf X (.BoolOp .And (a :: b :: rest) pos)) fun st => andV (f st) (g st) := by
  obtain ⟨t, p, k⟩ := h.ex
  obtain ⟨u, pu, ku⟩ := h2.ex
  refine ⟨_, fun z => pe_and (p z) (pu z), fun S T st σ H Q r q => k S T st σ H _ r ?_⟩
  have q : PV K cl W σ H (andV (f st) (g st)) Q := q
  revert q
  cases f st with
  | bad => exact fun q => q
  | ex c => exact fun q => q
  | ok d =>
    intro q v H1 h1 rp
    cases rp with
    | bl b =>
      refine ⟨b, rfl, ?_⟩
      cases b with
      | false => exact iteF (q _ H1 h1 (.bl false))
      | true => exact iteT (ku S T st σ H1 Q (r.mono h1) (PV.mono (r := g st) h1 q))
    | non => exact q.elim
    | int _ => exact q.elim
    | str _ => exact q.elim
    | lst _ _ => exact q.elim
    | tup _ _ => exact q.elim
    | scr _ => exact q.elim
theorem v_or {a b : Expr} {rest : List Expr} {pos : Pos} {f g : Sl → Rs D} (h : EV K W cl (PEf X a) f) (h2 : EV K W cl (PEf X (.BoolOp .Or (b :: rest) pos)) g) :
    EV K W cl (PEf X (.BoolOp .Or (a :: b :: rest) pos)) fun st => orV (f st) (g st) := by
  obtain ⟨t, p, k⟩ := h.ex
  obtain ⟨u, pu, ku⟩ := h2.ex
  refine ⟨_, fun z => pe_or (p z) (pu z), fun S T st σ H Q r q => k S T st σ H _ r ?_⟩
  have q : PV K cl W σ H (orV (f st) (g st)) Q := q
  revert q
  cases f st with
  | bad => exact fun q => q
  | ex c => exact fun q => q
  | ok d =>
    intro q v H1 h1 rp
    cases rp with
    | bl b =>
      refine ⟨b, rfl, ?_⟩
      cases b with
      | true => exact iteT (q _ H1 h1 (.bl true))
      | false => exact iteF (ku S T st σ H1 Q (r.mono h1) (PV.mono (r := g st) h1 q))
    | non => exact q.elim
    | int _ => exact q.elim
    | str _ => exact q.elim
    | lst _ _ => exact q.elim
    | tup _ _ => exact q.elim
    | scr _ => exact q.elim
theorem v_not {a : Expr} {pos : Pos} {f : Sl → Rs D} (h : EV K W cl (PEf X a) f) : EV K W cl (PEf X (.UnaryOp .Not a pos)) fun st => notV (f st) := by
  obtain ⟨t, p, k⟩ := h.ex
  refine ⟨_, fun z => pe_not (p z), fun S T st σ H Q r q => k S T st σ H _ r ?_⟩
  have q : PV K cl W σ H (notV (f st)) Q := q
  revert q
  cases f st with
  | bad => exact fun q => q
  | ex c => exact fun q => q
  | ok d =>
    intro q v H1 h1 rp
    cases rp with
    | bl b => exact ⟨b, rfl, q _ H1 h1 (.bl _)⟩
    | non => exact q.elim
    | int _ => exact q.elim
    | str _ => exact q.elim
    | lst _ _ => exact q.elim
    | tup _ _ => exact q.elim
    | scr _ => exact q.elim
/-! ### the operators' rules -/
theorem op_mulX {X : Cx} : OpR X (binaryOp .Mult) (rI (fun i j => mulOk i j = true) fun i j => .int (i * j)) := opI fun i j _ _ _ _ _ hc q => PyProof.Rows.mul_int q (by
  unfold IntMulOk
  intro z
  unfold mulOk at hc
  rw [z] at hc
  cases hc)
theorem op_fdivX {X : Cx} : OpR X (binaryOp .FloorDiv) (rI (fun i j => divOk i j = true) fun i j => .int (i.fdiv j)) := opI fun i j _ _ _ _ _ hc q => by
  unfold divOk at hc
  rw [Bool.and_eq_true] at hc
  exact PyProof.Rows.floordiv_int (of_decide_eq_true hc.1) q (.inl (by simpa using hc.2))
theorem o2I {C : Int → Int → Prop} {g : D → D → Option D} {h : Int → Int → V} {hd : Int → Int → D} (hh : ∀ i j H, Rp K H (h i j) (hd i j)) (e : ∀ i j z, g (.int i) (.int j) = some z → C i j ∧ z = hd i j) (no : ∀ d d2 z, g d d2 = some z → (∃ i, d = .int i) ∧ ∃ j, d2 = .int j) : Op2 K (rI C h) g := by
  intro H v w d d2 z Q r1 r2 ez q
  obtain ⟨⟨i, rfl⟩, ⟨j, rfl⟩⟩ := no _ _ _ ez
  cases r1
  cases r2
  obtain ⟨c, rfl⟩ := e i j z ez
  exact ⟨i, j, rfl, rfl, c, q _ _ (Same.refl _) (hh _ _ _)⟩
theorem o2I0 {g : D → D → Option D} {h : Int → Int → V} {hd : Int → Int → D} (hh : ∀ i j H, Rp K H (h i j) (hd i j)) (e : ∀ i j z, g (.int i) (.int j) = some z → z = hd i j) (no : ∀ d d2 z, g d d2 = some z → (∃ i, d = .int i) ∧ ∃ j, d2 = .int j) : Op2 K (rI0 h) g := by
  intro H v w d d2 z Q r1 r2 ez q
  obtain ⟨⟨i, rfl⟩, ⟨j, rfl⟩⟩ := no _ _ _ ez
  cases r1
  cases r2
  obtain rfl := e i j z ez
  exact ⟨i, j, rfl, rfl, q _ _ (Same.refl _) (hh _ _ _)⟩
theorem o_sub : Op2 K (rI0 fun i j => .int (i - j)) subD := o2I0 (hd := fun i j => .int (i - j)) (fun i j H => .int _) (fun i j z h => by cases h; rfl) fun d d2 z h => by cases d <;> cases d2 <;> first | exact ⟨⟨_, rfl⟩, ⟨_, rfl⟩⟩ | cases h
theorem o_add : Op2 K (fun v w H Q => rI0 (fun i j => .int (i + j)) v w H Q ∨ ∃ i j, v = .str i ∧ w = .str j ∧ i.length + j.length ≤ sizeLine ∧ Q (.str (i ++ j)) H) addD := by
  intro H v w d d2 z Q r1 r2 ez q
  cases d with
  | int i => cases d2 with
    | int j => cases r1; cases r2; cases ez; exact .inl ⟨i, j, rfl, rfl, q _ _ (Same.refl _) (.int _)⟩
    | _ => cases ez
  | str x => cases d2 with
    | str y =>
      cases r1; cases r2
      have ez : (if x.length + y.length ≤ sizeLine then some (D.str (x ++ y)) else none) = some z := ez
      by_cases c : x.length + y.length ≤ sizeLine
      · rw [if_pos c] at ez
        cases ez
        exact .inr ⟨x, y, rfl, rfl, c, q _ _ (Same.refl _) (.str _)⟩
      · rw [if_neg c] at ez
        cases ez
    | _ => cases ez
  | _ => cases ez
theorem op_addX {X : Cx} : OpR X (binaryOp .Add) (fun v w H Q => rI0 (fun i j => .int (i + j)) v w H Q ∨ ∃ i j, v = .str i ∧ w = .str j ∧ i.length + j.length ≤ sizeLine ∧ Q (.str (i ++ j)) H) := op_add.or op_add_str
theorem o_mul : Op2 K (rI (fun i j => mulOk i j = true) fun i j => .int (i * j)) mulD := o2I (hd := fun i j => .int (i * j)) (fun i j H => .int _) (fun i j z h => by
  have h : (if mulOk i j = true then some (D.int (i * j)) else none) = some z := h
  by_cases c : mulOk i j = true
  · rw [if_pos c] at h; cases h; exact ⟨c, rfl⟩
  · rw [if_neg c] at h; cases h) fun d d2 z h => by cases d <;> cases d2 <;> first | exact ⟨⟨_, rfl⟩, ⟨_, rfl⟩⟩ | cases h
theorem o_fdiv : Op2 K (rI (fun i j => divOk i j = true) fun i j => .int (i.fdiv j)) fdivD := o2I (hd := fun i j => .int (i.fdiv j)) (fun i j H => .int _) (fun i j z h => by
  have h : (if divOk i j = true then some (D.int (i.fdiv j)) else none) = some z := h
  by_cases c : divOk i j = true
  · rw [if_pos c] at h; cases h; exact ⟨c, rfl⟩
  · rw [if_neg c] at h; cases h) fun d d2 z h => by cases d <;> cases d2 <;> first | exact ⟨⟨_, rfl⟩, ⟨_, rfl⟩⟩ | cases h
theorem o_mod : Op2 K (rI (fun _ j => j ≠ 0) fun i j => .int (i.fmod j)) modD := o2I (hd := fun i j => .int (i.fmod j)) (fun i j H => .int _) (fun i j z h => by
  have h : (if j ≠ 0 then some (D.int (i.fmod j)) else none) = some z := h
  by_cases c : j ≠ 0
  · rw [if_pos c] at h; cases h; exact ⟨c, rfl⟩
  · rw [if_neg c] at h; cases h) fun d d2 z h => by cases d <;> cases d2 <;> first | exact ⟨⟨_, rfl⟩, ⟨_, rfl⟩⟩ | cases h
theorem o_pow : Op2 K (rI CPow fun i j => .int (i ^ j.toNat)) powD := o2I (hd := fun i j => .int (i ^ j.toNat)) (fun i j H => .int _) (fun i j z h => by
  have h : (if powOk i j = true then some (D.int (i ^ j.toNat)) else none) = some z := h
  by_cases c : powOk i j = true
  · rw [if_pos c] at h
    cases h
    unfold powOk at c
    simp only [Bool.and_eq_true, decide_eq_true_eq] at c
    exact ⟨⟨c.1.1, c.1.2, c.2⟩, rfl⟩
  · rw [if_neg c] at h; cases h) fun d d2 z h => by cases d <;> cases d2 <;> first | exact ⟨⟨_, rfl⟩, ⟨_, rfl⟩⟩ | cases h
theorem o_cmp {p : Int → Int → Bool} : Op2 K (rI0 fun i j => .bl (p i j)) (cmpD p) := o2I0 (hd := fun i j => .bl (p i j)) (fun i j H => .bl _) (fun i j z h => by cases h; rfl) fun d d2 z h => by cases d <;> cases d2 <;> first | exact ⟨⟨_, rfl⟩, ⟨_, rfl⟩⟩ | cases h
theorem o_eq : Op2 K (rEqD K) eqD := by
  intro H v w d e z Q r1 r2 ez q
  unfold eqD eqOk at ez
  by_cases c : (SeqAt.shaped d.py && SeqAt.shaped e.py) = true
  · rw [if_pos c] at ez
    cases ez
    rw [Bool.and_eq_true] at c
    exact ⟨_, _, r1.dp, r2.dp, c.1, c.2, q _ _ (Same.refl _) (.bl _)⟩
  · rw [if_neg c] at ez
    cases ez
theorem o_ne : Op2 K (rNeD K) neD := by
  intro H v w d e z Q r1 r2 ez q
  unfold neD eqOk at ez
  by_cases c : (SeqAt.shaped d.py && SeqAt.shaped e.py) = true
  · rw [if_pos c] at ez
    cases ez
    rw [Bool.and_eq_true] at c
    exact ⟨_, _, r1.dp, r2.dp, c.1, c.2, q _ _ (Same.refl _) (.bl _)⟩
  · rw [if_neg c] at ez
    cases ez
theorem o_isN : Op2 K (fun x y H Q => y = .non ∧ Q (.bl (decide (x = .non))) H) isND := by
  intro H v w d e z Q r1 r2 ez q
  cases e with
  | non =>
    cases r2
    refine ⟨rfl, ?_⟩
    cases r1 <;> cases ez <;> exact q _ _ (Same.refl _) (.bl _)
  | _ => cases d <;> cases ez
theorem o_notN : Op2 K (fun x y H Q => y = .non ∧ Q (.bl (!decide (x = .non))) H) notND := by
  intro H v w d e z Q r1 r2 ez q
  cases e with
  | non =>
    cases r2
    refine ⟨rfl, ?_⟩
    cases r1 <;> cases ez <;> exact q _ _ (Same.refl _) (.bl _)
  | _ => cases d <;> cases ez
theorem o_ix : Op2 K (rIx K) ixD := by
  intro H v w d e z Q r1 r2 ez q
  have key : ∀ {vs : List V} {ds : List D} {i : Int}, RpL K H vs ds → atI ds i = some z → ∃ u, atI vs i = some u ∧ Rp K H u z := fun {vs ds i} r h => by
    unfold atI at h ⊢
    rw [r.length]
    cases e : ixN ds.length i with
    | none => rw [e] at h; cases h
    | some j =>
      rw [e] at h
      exact r.get h
  cases e with
  | int i =>
    cases r2
    cases r1 with
    | lst h r =>
      obtain ⟨u, h1, h2⟩ := key r ez
      exact .inl ⟨_, _, i, u, rfl, rfl, SqL.of h, h1, q _ _ (Same.refl _) h2⟩
    | tup h r =>
      obtain ⟨u, h1, h2⟩ := key r ez
      exact .inr (.inl ⟨_, _, i, u, rfl, rfl, SqT.of h, h1, q _ _ (Same.refl _) h2⟩)
    | scr h =>
      rename_i a ns
      have ez : (atI ns i).map D.int = some z := ez
      have ez' : atI (ns.map D.int) i = some z := by
        unfold atI at ez ⊢
        rw [List.length_map]
        cases e : ixN ns.length i with
        | none => rw [e] at ez; cases ez
        | some j =>
          rw [e] at ez
          show (ns.map D.int)[j]? = some z
          rw [List.getElem?_map]
          exact ez
      obtain ⟨u, h1, h2⟩ := key (.ints ns) ez'
      exact .inl ⟨_, _, i, u, rfl, rfl, h, h1, q _ _ (Same.refl _) h2⟩
    | _ => cases ez
  | _ => cases d <;> cases ez
theorem v_ix {a b : Expr} {pos : Pos} {fa fb : Sl → Rs D} (ha : EV K W cl (PEf X a) fa) (hb : EV K W cl (PEf X b) fb) (hK : ∀ z, (X z).K = K := by intro _; rfl) (hs : PlainIx b := by exact fun _ _ => rfl) : EV K W cl (PEf X (.Subscript a b pos)) fun st => bin2 ixD (fa st) (fb st) := by
  obtain ⟨ta, pa, ka⟩ := ha.ex
  obtain ⟨tb, pb, kb⟩ := hb.ex
  exact ⟨_, fun z => pe_ix (hK z ▸ ix_seq) (pa z) (pb z) hs, fun S T st σ H Q rs q => op2_run o_ix ka kb rs q⟩
/-- an item of what stays, stays -/
theorem p_ix {a b : Expr} {pos : Pos} {fa fb : Sl → Rs D} (ha : EP K W cl (PEf X a) fa) (hb : EV K W cl (PEf X b) fb) (hK : ∀ z, (X z).K = K := by intro _; rfl) (hs : PlainIx b := by exact fun _ _ => rfl) : EP K W cl (PEf X (.Subscript a b pos)) fun st => bin2 ixD (fa st) (fb st) := by
  obtain ⟨ta, pa, ka⟩ := ha.ex
  obtain ⟨tb, pb, kb⟩ := hb.ex
  refine ⟨_, fun z => pe_ix (hK z ▸ ix_seq) (pa z) (pb z) hs, fun S T st σ H Q rs q => ?_⟩
  refine ka S T st σ H _ rs ?_
  have q : PP K cl W S T σ H (bin2 ixD (fa st) (fb st)) Q := q
  revert q
  cases fa st with
  | bad => exact fun q => q
  | ex c => exact fun q => q
  | ok d =>
    intro q v S1 T1 H1 h1 x1 s1 t1 r1
    refine kb S1 T1 st σ H1 _ (rs.ext h1 x1 s1 t1) ?_
    revert q
    cases fb st with
    | bad => exact fun q => q
    | ex c => exact fun q H2 h2 => q H2 (h1.trans h2)
    | ok e =>
      intro q w H2 h2 r2
      cases ez : ixD d e with
      | none =>
        have q' : PP K cl W S T σ H (ofO (ixD d e)) Q := q
        rw [ez] at q'
        exact q'.elim
      | some z =>
        have q' : PP K cl W S T σ H (ofO (ixD d e)) Q := q
        rw [ez] at q'
        cases e with
        | int i =>
          cases r2
          -- the rule's answer over S1, carried to the heap
          have fin : ∀ {vs : List V} {ds : List D}, RpL K S1 vs ds → atI ds i = some z → ∃ u, atI vs i = some u ∧ Q u H2 := fun {vs ds} r h => by
            unfold atI at h ⊢
            rw [r.length]
            cases e : ixN ds.length i with
            | none => rw [e] at h; cases h
            | some j =>
              rw [e] at h
              obtain ⟨u, h3, h4⟩ := r.get h
              exact ⟨u, h3, q' u S1 T1 H2 (h1.trans h2) x1 s1 (t1.trans h2) h4⟩
          have up : Same S1 H2 := (s1.trans t1).trans h2
          cases r1 with
          | lst h r =>
            obtain ⟨u, h3, h4⟩ := fin r ez
            exact .inl ⟨_, _, i, u, rfl, rfl, SqL.of (up _ _ h), h3, h4⟩
          | tup h r =>
            obtain ⟨u, h3, h4⟩ := fin r ez
            exact .inr (.inl ⟨_, _, i, u, rfl, rfl, SqT.of (up _ _ h), h3, h4⟩)
          | scr h =>
            rename_i a ns
            have ez : (atI ns i).map D.int = some z := ez
            have ez' : atI (ns.map D.int) i = some z := by
              unfold atI at ez ⊢
              rw [List.length_map]
              cases e : ixN ns.length i with
              | none => rw [e] at ez; cases ez
              | some j =>
                rw [e] at ez
                show (ns.map D.int)[j]? = some z
                rw [List.getElem?_map]
                exact ez
            obtain ⟨u, h3, h4⟩ := fin (.ints ns) ez'
            exact .inl ⟨_, _, i, u, rfl, rfl, up.seq h, h3, h4⟩
          | _ => cases ez
        | _ => cases d <;> cases ez
end
end M

/-! Expressions that make lists, calls. -/
namespace M
open PySem L2
section
variable {ι : Type} {X : ι → Cx} {W : WX} {cl : Cl} {K : PySem.W.Frag}
theorem no_low {S T H H' : Hp} (h : Same S H') {p : Addr} (e : H' p = none) : S p = none := h.free e
/-- a new list or tuple over the parts os -/
theorem new_knot {S T S1 T1 H H1 : Hp} {σ : St} {Q : VK} {vs : List V} {os : List O} {g : List Addr} (tp : Bool)
    (q : PF K cl W S T σ H (.ok (if tp then O.tup os else O.lst os)) Q) (hs : Same H H1) (x : Ext S T H S1 T1) (s1 : Same S1 T1) (t1 : Same T1 H1) (w : OwL K S1 H1 vs os g) (nd : g.Nodup) (hn : ∀ b ∈ g, T1 b = none ∧ H b = none)
    {p : Addr} (hp : H1 p = none) : Q (.ref p) (upd H1 p (if tp then .tup vs else .lst vs)) := by
  have hu : Same H1 (upd H1 p (if tp then HO.tup vs else HO.lst vs)) := same_upd hp
  have w2 : OwL K S1 (upd H1 p (if tp then HO.tup vs else HO.lst vs)) vs os g := w.mono (.refl _) fun b hb => upd_keep hp (w.there b hb)
  refine q (.ref p) S1 T1 _ (p :: g) (hs.trans hu) x s1 (t1.trans hu) ?_ ?_ ?_
  · cases tp with
    | false => exact .lst upd_same w2
    | true => exact .tup upd_same w2
  · exact List.nodup_cons.mpr ⟨fun hm => w.there p hm hp, nd⟩
  · intro b hb
    rcases List.mem_cons.mp hb with rfl | hb
    · exact ⟨t1.free hp, hs.free hp⟩
    · exact hn b hb
theorem new_list {S T S1 T1 H H1 : Hp} {σ : St} {Q : VK} {vs : List V} {ds : List D}
    (q : PF K cl W S T σ H (.ok (O.lst (ds.map .sh))) Q) (hs : Same H H1) (x : Ext S T H S1 T1) (s1 : Same S1 T1) (t1 : Same T1 H1) (w : RpL K S1 vs ds) {p : Addr} (hp : H1 p = none) : Q (.ref p) (upd H1 p (.lst vs)) :=
  new_knot (os := ds.map .sh) (g := []) false q hs x s1 t1 (OwL.shs w) .nil (fun b hb => by cases hb) hp
/-! ### arguments -/
theorem vs_nil : EVs K W cl (PAf X []) fun _ => .ok [] := ⟨_, fun _ => pa_nil, fun S T st σ H Q r q => q [] H (.refl _) .nil⟩
def consR {α : Type} (a : Rs α) (b : Rs (List α)) : Rs (List α) := a.bind fun x => b.bind fun xs => .ok (x :: xs)
theorem vs_cons {e : Expr} {es : List Expr} {f : Sl → Rs D} {g : Sl → Rs (List D)} (h : EV K W cl (PEf X e) f) (k : EVs K W cl (PAf X es) g) (hs : ∀ z, starEach (e :: es) (X z).env = (false, eval e (X z).env) :: starEach es (X z).env := by intro _; rfl) :
    EVs K W cl (PAf X (e :: es)) fun st => consR (f st) (g st) := by
  obtain ⟨t, p, ka⟩ := h.ex
  obtain ⟨u, pu, kb⟩ := k.ex
  refine ⟨_, fun z => pa_cons (p z) (pu z) (hs z), fun S T st σ H Q r q => ka S T st σ H _ r ?_⟩
  have q : PVs K cl W σ H (consR (f st) (g st)) Q := q
  revert q
  cases f st with
  | bad => exact fun q => q
  | ex c => exact fun q => q
  | ok d =>
    intro q v H1 h1 r1
    refine kb S T st σ H1 _ (r.mono h1) ?_
    revert q
    cases g st with
    | bad => exact fun q => q
    | ex c => exact fun q H2 h2 => q H2 (h1.trans h2)
    | ok ds => exact fun q vs H2 h2 r2 => q (v :: vs) H2 (h1.trans h2) (.cons (r1.mono h2) r2)
theorem ps_nil : EPs K W cl (PAf X []) fun _ => .ok [] := ⟨_, fun _ => pa_nil, fun S T st σ H Q r q => q [] S T H (.refl _) .refl r.lo r.th .nil⟩
theorem ps_cons {e : Expr} {es : List Expr} {f : Sl → Rs D} {g : Sl → Rs (List D)} (h : EP K W cl (PEf X e) f) (k : EPs K W cl (PAf X es) g) (hs : ∀ z, starEach (e :: es) (X z).env = (false, eval e (X z).env) :: starEach es (X z).env := by intro _; rfl) :
    EPs K W cl (PAf X (e :: es)) fun st => consR (f st) (g st) := by
  obtain ⟨t, p, ka⟩ := h.ex
  obtain ⟨u, pu, kb⟩ := k.ex
  refine ⟨_, fun z => pa_cons (p z) (pu z) (hs z), fun S T st σ H Q r q => ka S T st σ H _ r ?_⟩
  have q : PPs K cl W S T σ H (consR (f st) (g st)) Q := q
  revert q
  cases f st with
  | bad => exact fun q => q
  | ex c => exact fun q => q
  | ok d =>
    intro q v S1 T1 H1 h1 x1 s1 t1 r1
    refine kb S1 T1 st σ H1 _ (r.ext h1 x1 s1 t1) ?_
    revert q
    cases g st with
    | bad => exact fun q => q
    | ex c => exact fun q H2 h2 => q H2 (h1.trans h2)
    | ok ds => exact fun q vs S2 T2 H2 h2 x2 s2 t2 r2 => q (v :: vs) S2 T2 H2 (h1.trans h2) (x1.trans h1 x2) s2 t2 (.cons (r1.mono x2.s) r2)
/-- trees, one behind the other; n of them -/
structure EFn (K : PySem.W.Frag) (W : WX) (cl : Cl) (R : TA → Prop) (n : Nat) (f : Sl → Rs (List O)) : Prop where
  run : EFs K W cl R f
  len : ∀ st os, f st = .ok os → os.length = n
theorem fs_nil : EFn K W cl (PAf X []) 0 fun _ => .ok [] :=
  ⟨⟨_, fun _ => pa_nil, fun S T st σ H Q r q => q [] S T H [] (.refl _) .refl r.lo r.th .nil .nil fun b hb => by cases hb⟩, fun st os h => by cases h; rfl⟩
theorem fs_cons {n : Nat} {e : Expr} {es : List Expr} {f : Sl → Rs O} {g : Sl → Rs (List O)} (h : EF K W cl (PEf X e) f) (k : EFn K W cl (PAf X es) n g) (hs : ∀ z, starEach (e :: es) (X z).env = (false, eval e (X z).env) :: starEach es (X z).env := by intro _; rfl) :
    EFn K W cl (PAf X (e :: es)) (n + 1) fun st => consR (f st) (g st) := by
  obtain ⟨t, p, ka⟩ := h.ex
  obtain ⟨u, pu, kb⟩ := k.run.ex
  refine ⟨⟨_, fun z => pa_cons (p z) (pu z) (hs z), fun S T st σ H Q r q => ka S T st σ H _ r ?_⟩, fun st os h => ?_⟩
  · have q : PFs K cl W S T σ H (consR (f st) (g st)) Q := q
    revert q
    cases f st with
    | bad => exact fun q => q
    | ex c => exact fun q => q
    | ok d =>
      intro q v S1 T1 H1 g1 h1 x1 s1 t1 w1 n1 k1
      refine kb S1 T1 st σ H1 _ (r.ext h1 x1 s1 t1) ?_
      revert q
      cases g st with
      | bad => exact fun q => q
      | ex c => exact fun q H2 h2 => q H2 (h1.trans h2)
      | ok ds =>
        intro q vs S2 T2 H2 g2 h2 x2 s2 t2 w2 n2 k2
        have th := w1.there
        refine q (v :: vs) S2 T2 H2 (g1 ++ g2) (h1.trans h2) (x1.trans h1 x2) s2 t2 (.cons (w1.mono x2.s fun b hb => same_ne h2 (th b hb)) w2) ?_ fun b hb => ?_
        · rw [List.nodup_append]
          refine ⟨n1, n2, fun a ha b hb e => th a ha ?_⟩
          rw [e]
          exact (k2 b hb).2
        · rcases List.mem_append.mp hb with hb | hb
          · exact ⟨by rw [(x2.old b (th b hb)).2]; exact (k1 b hb).1, (k1 b hb).2⟩
          · exact ⟨(k2 b hb).1, h1.free (k2 b hb).2⟩
  · have h : consR (f st) (g st) = .ok os := h
    revert h
    cases f st with
    | bad => intro h; cases h
    | ex c => intro h; cases h
    | ok d =>
      cases e : g st with
      | bad => intro h; cases h
      | ex c => intro h; cases h
      | ok ds =>
        intro h
        cases h
        rw [List.length_cons, k.len st ds e]
theorem f_lst {n : Nat} {es : List Expr} {pos : Pos} {f : Sl → Rs (List O)} (h : EFn K W cl (PAf X es) n f) (hn : n ≤ sizeLine := by decide) : EF K W cl (PEf X (.List es pos)) fun st => mapRs O.lst (f st) := by
  obtain ⟨t, p, ka⟩ := h.run.ex
  refine ⟨_, fun z => pe_lst (p z), fun S T st σ H Q r q => ka S T st σ H _ r ?_⟩
  have q : PF K cl W S T σ H (mapRs O.lst (f st)) Q := q
  have ln := h.len st
  revert q ln
  cases f st with
  | bad => exact fun q _ => q
  | ex c => exact fun q _ => q
  | ok os => exact fun q ln vs S1 T1 H1 g1 h1 x1 s1 t1 w1 n1 k1 => ⟨by rw [w1.length, ln os rfl]; exact hn, fun p hp => new_knot false q h1 x1 s1 t1 w1 n1 k1 hp⟩
theorem f_tup {n : Nat} {es : List Expr} {x1 : Nat} {pos : Pos} {f : Sl → Rs (List O)} (h : EFn K W cl (PAf X es) n f) (hn : n ≤ sizeLine := by decide) : EF K W cl (PEf X (.Tuple es x1 pos)) fun st => mapRs O.tup (f st) := by
  obtain ⟨t, p, ka⟩ := h.run.ex
  refine ⟨_, fun z => pe_tup (p z), fun S T st σ H Q r q => ka S T st σ H _ r ?_⟩
  have q : PF K cl W S T σ H (mapRs O.tup (f st)) Q := q
  have ln := h.len st
  revert q ln
  cases f st with
  | bad => exact fun q _ => q
  | ex c => exact fun q _ => q
  | ok os => exact fun q ln vs S1 T1 H1 g1 h1 x1 s1 t1 w1 n1 k1 => ⟨by rw [w1.length, ln os rfl]; exact hn, fun p hp => new_knot true q h1 x1 s1 t1 w1 n1 k1 hp⟩
/-! ### one operand -/
def Op1 (K : PySem.W.Frag) (r : V → Hp → VK → Prop) (g : D → Option D) : Prop := ∀ (H : Hp) (v : V) (d z : D) (Q : VK), Rp K H v d → g d = some z → (∀ v' H', Same H H' → Rp K H' v' z → Q v' H') → r v H Q
def un1 (g : D → Option D) (a : Rs D) : Rs D := a.bind fun x => ofO (g x)
theorem op1_run {ta : TE} {r : V → Hp → VK → Prop} {g : D → Option D} {fa : Sl → Rs D} (hg : Op1 K r g) (ka : ∀ S T st σ H Q, RS K S T st σ H → PV K cl W σ H (fa st) Q → ta σ H Q)
    {S T st σ H Q} (rs : RS K S T st σ H) (q : PV K cl W σ H (un1 g (fa st)) Q) : ta σ H fun x H1 => r x H1 Q := by
  refine ka S T st σ H _ rs ?_
  revert q
  cases fa st with
  | bad => exact fun q => q
  | ex c => exact fun q => q
  | ok d =>
    intro q v H1 h1 r1
    have q' : PV K cl W σ H (ofO (g d)) Q := q
    cases ez : g d with
    | none => rw [ez] at q'; exact q'.elim
    | some z =>
      rw [ez] at q'
      exact hg H1 v d z Q r1 ez fun v' H3 h3 r3 => q' v' H3 (h1.trans h3) r3
theorem v_un {a : Expr} {op : UnaryOp} {pos : Pos} {r : V → Hp → VK → Prop} {g : D → Option D} {fa : Sl → Rs D} (ho : ∀ z, UnR (X z) (unaryOp op) r) (hg : Op1 K r g) (ha : EV K W cl (PEf X a) fa) : EV K W cl (PEf X (.UnaryOp op a pos)) fun st => un1 g (fa st) := by
  obtain ⟨ta, pa, ka⟩ := ha.ex
  exact ⟨_, fun z => pe_un (ho z) (pa z), fun S T st σ H Q rs q => op1_run hg ka rs q⟩
theorem o_neg : Op1 K (rU fun i => .int (-i)) negD := by
  intro H v d z Q r e q
  cases r with
  | int i => cases e; exact ⟨i, rfl, q _ _ (.refl _) (.int _)⟩
  | _ => cases e
/-- a built-in's call with one argument, by the rule of its values -/
theorem v_call1 {R : TE → Prop} {a : Expr} {r : List V → Hp → VK → Prop} {g : D → Option D} {fa : Sl → Rs D} (hp : ∀ t, PAf X [a] t → R (tCB r t)) (hg : Op1 K (fun x => r [x]) g) (ha : EV K W cl (PEf X a) fa)
    (hs : ∀ z, starEach [a] (X z).env = [(false, eval a (X z).env)] := by intro _; rfl) : EV K W cl R fun st => un1 g (fa st) := by
  obtain ⟨ta, pa, ka⟩ := ha.ex
  exact ⟨_, hp _ fun z => pa_cons (pa z) pa_nil (hs z), fun S T st σ H Q rs q => op1_run (r := fun x => r [x]) hg ka rs q⟩
theorem v_call2 {R : TE → Prop} {a b : Expr} {r : List V → Hp → VK → Prop} {g : D → D → Option D} {fa fb : Sl → Rs D} (hp : ∀ t, PAf X [a, b] t → R (tCB r t)) (hg : Op2 K (fun x y => r [x, y]) g) (ha : EV K W cl (PEf X a) fa) (hb : EV K W cl (PEf X b) fb)
    (hs : ∀ z, starEach [a, b] (X z).env = [(false, eval a (X z).env), (false, eval b (X z).env)] := by intro _; rfl) (hs2 : ∀ z, starEach [b] (X z).env = [(false, eval b (X z).env)] := by intro _; rfl) : EV K W cl R fun st => bin2 g (fa st) (fb st) := by
  obtain ⟨ta, pa, ka⟩ := ha.ex
  obtain ⟨tb, pb, kb⟩ := hb.ex
  exact ⟨_, hp _ fun z => pa_cons (pa z) (pa_cons (pb z) pa_nil (hs2 z)) ((hs z).trans (by rw [← hs2 z])), fun S T st σ H Q rs q => op2_run (r := fun x y => r [x, y]) hg ka kb rs q⟩
abbrev rLen (K : PySem.W.Frag) : List V → Hp → VK → Prop := fun xs H Q => ∃ x n, xs = [x] ∧ LenV K x H n ∧ Q (.int n) H
abbrev rAbs : List V → Hp → VK → Prop := fun xs H Q => ∃ i, xs = [.int i] ∧ Q (.int (if i < 0 then -i else i)) H
abbrev rInt1 : List V → Hp → VK → Prop := fun xs H Q => (∃ i, xs = [.int i] ∧ Q (.int i) H) ∨ ∃ k, xs = [.bl k] ∧ Q (.int (if k then 1 else 0)) H
abbrev rMax2 : List V → Hp → VK → Prop := fun xs H Q => ∃ i j, xs = [.int i, .int j] ∧ Q (.int (if j > i then j else i)) H
abbrev rMin2 : List V → Hp → VK → Prop := fun xs H Q => ∃ i j, xs = [.int i, .int j] ∧ Q (.int (if j < i then j else i)) H
theorem o_len : Op1 K (fun x H Q => ∃ y n, [x] = [y] ∧ LenV K y H n ∧ Q (.int n) H) lenD := by
  intro H v d z Q r e q
  refine ⟨v, ?_⟩
  cases r with
  | lst h r => cases e; exact ⟨_, rfl, .inl ⟨_, SqL.of h, r.length.symm⟩, q _ _ (.refl _) (.int _)⟩
  | tup h r => cases e; exact ⟨_, rfl, .inr ⟨_, SqT.of h, r.length.symm⟩, q _ _ (.refl _) (.int _)⟩
  | scr h =>
    rename_i a ns
    cases e
    exact ⟨ns.length, rfl, .inl ⟨_, h, by rw [List.length_map]⟩, q _ _ (.refl _) (.int _)⟩
  | str x =>
    have e : (if x.length ≤ sizeLine then some (D.int x.length) else none) = some z := e
    by_cases c : x.length ≤ sizeLine
    · rw [if_pos c] at e
      cases e
      exact ⟨x.length, rfl, ⟨c, rfl⟩, q _ _ (.refl _) (.int _)⟩
    · rw [if_neg c] at e
      cases e
  | non => cases e
  | bl _ => cases e
  | int _ => cases e
theorem o_abs : Op1 K (fun x H Q => ∃ i, [x] = [.int i] ∧ Q (.int (if i < 0 then -i else i)) H) absD := by
  intro H v d z Q r e q
  cases r with
  | int i => cases e; exact ⟨i, rfl, q _ _ (.refl _) (.int _)⟩
  | _ => cases e
theorem o_int : Op1 K (fun x H Q => (∃ i, [x] = [.int i] ∧ Q (.int i) H) ∨ ∃ k, [x] = [.bl k] ∧ Q (.int (if k then 1 else 0)) H) intD := by
  intro H v d z Q r e q
  cases r with
  | int i => cases e; exact .inl ⟨i, rfl, q _ _ (.refl _) (.int _)⟩
  | bl k => cases e; exact .inr ⟨k, rfl, q _ _ (.refl _) (.int _)⟩
  | _ => cases e
theorem o_max2 : Op2 K (fun x y H Q => ∃ i j, [x, y] = [.int i, .int j] ∧ Q (.int (if j > i then j else i)) H) max2D := by
  intro H v w d e z Q r1 r2 ez q
  cases d with
  | int i => cases e with
    | int j => cases r1; cases r2; cases ez; exact ⟨i, j, rfl, q _ _ (.refl _) (.int _)⟩
    | _ => cases ez
  | _ => cases ez
theorem o_min2 : Op2 K (fun x y H Q => ∃ i j, [x, y] = [.int i, .int j] ∧ Q (.int (if j < i then j else i)) H) min2D := by
  intro H v w d e z Q r1 r2 ez q
  cases d with
  | int i => cases e with
    | int j => cases r1; cases r2; cases ez; exact ⟨i, j, rfl, q _ _ (.refl _) (.int _)⟩
    | _ => cases ez
  | _ => cases ez
theorem o_sum : Op1 K (fun x => rSum K [x]) sumD := by
  intro H v d z Q r e q
  unfold sumD at e
  cases e1 : elems d with
  | none => rw [e1] at e; cases e
  | some ds =>
    obtain ⟨a, vs, rfl, h, rl⟩ := r.seqL e1
    rw [e1] at e
    have e : (intsD ds).map (fun ns => D.int ns.sum) = some z := e
    cases e2 : intsD ds with
    | none => rw [e2] at e; cases e
    | some ns =>
      rw [e2] at e
      cases e
      rw [intsD_eq e2] at rl
      rw [rl.of_ints] at h
      exact ⟨a, ns, rfl, h, q _ _ (.refl _) (.int _)⟩
theorem o_all : Op1 K (fun x => rAll K [x]) allD := by
  intro H v d z Q r e q
  unfold allD at e
  cases e1 : elems d with
  | none => rw [e1] at e; cases e
  | some ds =>
    obtain ⟨a, vs, rfl, h, rl⟩ := r.seqL e1
    rw [e1] at e
    have e : (boolsD ds).map (fun ns => D.bl (ns.all id)) = some z := e
    cases e2 : boolsD ds with
    | none => rw [e2] at e; cases e
    | some ns =>
      rw [e2] at e
      cases e
      rw [boolsD_eq e2] at rl
      rw [rl.of_bools] at h
      exact ⟨a, ns, rfl, h, q _ _ (.refl _) (.bl _)⟩
theorem o_any : Op1 K (fun x => rAny K [x]) anyD := by
  intro H v d z Q r e q
  unfold anyD at e
  cases e1 : elems d with
  | none => rw [e1] at e; cases e
  | some ds =>
    obtain ⟨a, vs, rfl, h, rl⟩ := r.seqL e1
    rw [e1] at e
    have e : (boolsD ds).map (fun ns => D.bl (ns.any id)) = some z := e
    cases e2 : boolsD ds with
    | none => rw [e2] at e; cases e
    | some ns =>
      rw [e2] at e
      cases e
      rw [boolsD_eq e2] at rl
      rw [rl.of_bools] at h
      exact ⟨a, ns, rfl, h, q _ _ (.refl _) (.bl _)⟩
/-! ### isinstance with a built-in class -/
def tyN : D → String
  | .non => "NoneType" | .bl _ => "bool" | .int _ => "int" | .str _ => "str" | .lst _ => "list" | .tup _ => "tuple" | .scr _ => "list"
def isi (T : String) : D → Option D := fun d => (kitB (tyN d) T).map .bl
theorem Rp.ty {H : Hp} {v : V} {d : D} (h : Rp K H v d) : TyX K H v (.type (tyN d)) := by
  cases h with
  | non => exact .base .non
  | bl b => exact .base (.bl b)
  | int i => exact .base (.int i)
  | str x => exact .base (.str x)
  | lst h _ => exact .base (.lst h)
  | tup h _ => exact .base (.tup h)
  | scr h =>
    rcases h with (h | ⟨o, h⟩) | ⟨o, its, n, h, c, _⟩
    · exact .base (.lst h)
    · exact .base (.frz h)
    · exact .kList h c
theorem o_isi {T : String} : Op1 K (fun x => rIsi K [x, .ty T]) (isi T) := by
  intro H v d z Q r e q
  unfold isi at e
  cases e1 : kitB (tyN d) T with
  | none => rw [e1] at e; cases e
  | some b =>
    rw [e1] at e
    cases e
    exact ⟨v, .ty T, _, _, b, rfl, .ty T, r.ty, kit_ty e1, q _ _ (.refl _) (.bl _)⟩
theorem v_isi {a : Expr} {R : TE → Prop} {T : String} {b : Expr} {fa : Sl → Rs D} (hp : ∀ t, PAf X [a, b] t → R (tCB (rIsi K) t)) (hb : PEf X b (tC (.ty T))) (ha : EV K W cl (PEf X a) fa)
    (hs : ∀ z, starEach [a, b] (X z).env = [(false, eval a (X z).env), (false, eval b (X z).env)] := by intro _; rfl) (hs2 : ∀ z, starEach [b] (X z).env = [(false, eval b (X z).env)] := by intro _; rfl) : EV K W cl R fun st => un1 (isi T) (fa st) := by
  obtain ⟨ta, pa, ka⟩ := ha.ex
  exact ⟨_, hp _ fun z => pa_cons (pa z) (pa_cons (hb z) pa_nil (hs2 z)) ((hs z).trans (by rw [← hs2 z])), fun S T' st σ H Q rs q => op1_run (r := fun x => rIsi K [x, .ty T]) o_isi ka rs q⟩
/-! ### slices -/
structure EO (K : PySem.W.Frag) (W : WX) (cl : Cl) (R : TO → Prop) (f : Sl → Rs (Option Int)) : Prop where
  ex : ∃ t, R t ∧ ∀ S T st σ H (Q : Option Int → Hp → Prop), RS K S T st σ H → (match f st with
    | .ok o => ∀ H', Same H H' → Q o H'
    | .ex c => ∀ H', Same H H' → W (.ref (cl c)) none σ H'
    | .bad => False) → t σ H Q
theorem o_none : EO K W cl (POf X none) fun _ => .ok none := ⟨_, fun _ => po_none, fun S T st σ H Q r q => q H (.refl _)⟩
def asI (r : Rs D) : Rs (Option Int) := r.bind fun d => match d with
  | .int i => .ok (some i)
  | _ => .bad
theorem o_some {e : Expr} {f : Sl → Rs D} (h : EV K W cl (PEf X e) f) : EO K W cl (POf X (some e)) fun st => asI (f st) := by
  obtain ⟨t, p, k⟩ := h.ex
  refine ⟨_, fun z => po_some (p z), fun S T st σ H Q r q => k S T st σ H _ r ?_⟩
  revert q
  cases f st with
  | bad => exact fun q => q
  | ex c => exact fun q => q
  | ok d =>
    intro q v H1 h1 rp
    cases rp with
    | int i => exact ⟨i, rfl, q H1 h1⟩
    | _ => exact q.elim
theorem RpL.cut {S : Hp} {vs : List V} {ds : List D} (r : RpL K S vs ds) (lo hi : Option Int) : RpL K S (cutL vs lo hi) (cutL ds lo hi) := by
  unfold cutL
  rw [r.length]
  exact (r.drop _).take _
def sliceF (d : Rs D) (a b : Rs (Option Int)) : Rs O := d.bind fun d => a.bind fun lo => b.bind fun hi => match elems d with
  | some ds => .ok (.lst ((cutL ds lo hi).map .sh))
  | none => .bad
/-- a slice of a list that stays -/
theorem f_slice {e : Expr} {lo hi : Option Expr} {p2 pos : Pos} {fe : Sl → Rs D} {fl fh : Sl → Rs (Option Int)} (he : EP K W cl (PEf X e) fe) (hl : EO K W cl (POf X lo) fl) (hh : EO K W cl (POf X hi) fh) (hK : ∀ z, (X z).K = K := by intro _; rfl) :
    EF K W cl (PEf X (.Subscript e (.Slice lo hi none p2) pos)) fun st => sliceF (fe st) (fl st) (fh st) := by
  obtain ⟨te, pe, ke⟩ := he.ex
  obtain ⟨tl, pl, kl⟩ := hl.ex
  obtain ⟨th, ph, kh⟩ := hh.ex
  refine ⟨_, fun z => pe_slice (hK z ▸ sl_list) (pe z) (pl z) (ph z), fun S T st σ H Q r q => ke S T st σ H _ r ?_⟩
  have q : PF K cl W S T σ H (sliceF (fe st) (fl st) (fh st)) Q := q
  revert q
  cases fe st with
  | bad => exact fun q => q
  | ex c => exact fun q => q
  | ok d =>
    intro q v S1 T1 H1 h1 x1 s1 t1 r1
    refine kl S1 T1 st σ H1 _ (r.ext h1 x1 s1 t1) ?_
    revert q
    cases fl st with
    | bad => exact fun q => q
    | ex c => exact fun q H2 h2 => q H2 (h1.trans h2)
    | ok l =>
      intro q H2 h2
      refine kh S1 T1 st σ H2 _ ((r.ext h1 x1 s1 t1).mono h2) ?_
      revert q
      cases fh st with
      | bad => exact fun q => q
      | ex c => exact fun q H3 h3 => q H3 ((h1.trans h2).trans h3)
      | ok u =>
        intro q H3 h3
        have q' : PF K cl W S T σ H (match elems d with
          | some ds => .ok (.lst ((cutL ds l u).map .sh))
          | none => .bad) Q := q
        cases e1 : elems d with
        | none => rw [e1] at q'; exact q'.elim
        | some ds =>
          rw [e1] at q'
          obtain ⟨a, vs, rfl, hq, rl⟩ := r1.seqL e1
          have up : Same T1 H3 := (t1.trans h2).trans h3
          exact ⟨a, vs, rfl, (s1.trans up).seq hq, fun p hp => new_list (ds := cutL ds l u) q' ((h1.trans h2).trans h3) x1 s1 up (rl.cut l u) hp⟩
theorem RpL.prims {S S' : Hp} : ∀ {vs : List V} {ds : List D}, RpL K S vs ds → ds.all prim = true → RpL K S' vs ds
  | _, _, .nil, _ => .nil
  | _, _, .cons h r, p => by
    rw [List.all_cons, Bool.and_eq_true] at p
    exact .cons (h.prim p.1) (RpL.prims r p.2)
def sliceV (d : Rs D) (a b : Rs (Option Int)) : Rs O := d.bind fun d => a.bind fun lo => b.bind fun hi => match elems d with
  | some ds => if (cutL ds lo hi).all prim = true then .ok (.lst ((cutL ds lo hi).map .sh)) else .bad
  | none => .bad
/-- a slice, of numbers and the like, of any list -/
theorem f_sliceV {e : Expr} {lo hi : Option Expr} {p2 pos : Pos} {fe : Sl → Rs D} {fl fh : Sl → Rs (Option Int)} (he : EV K W cl (PEf X e) fe) (hl : EO K W cl (POf X lo) fl) (hh : EO K W cl (POf X hi) fh) (hK : ∀ z, (X z).K = K := by intro _; rfl) :
    EF K W cl (PEf X (.Subscript e (.Slice lo hi none p2) pos)) fun st => sliceV (fe st) (fl st) (fh st) := by
  obtain ⟨te, pe, ke⟩ := he.ex
  obtain ⟨tl, pl, kl⟩ := hl.ex
  obtain ⟨th, ph, kh⟩ := hh.ex
  refine ⟨_, fun z => pe_slice (hK z ▸ sl_list) (pe z) (pl z) (ph z), fun S T st σ H Q r q => ke S T st σ H _ r ?_⟩
  have q : PF K cl W S T σ H (sliceV (fe st) (fl st) (fh st)) Q := q
  revert q
  cases fe st with
  | bad => exact fun q => q
  | ex c => exact fun q => q
  | ok d =>
    intro q v H1 h1 r1
    refine kl S T st σ H1 _ (r.mono h1) ?_
    revert q
    cases fl st with
    | bad => exact fun q => q
    | ex c => exact fun q H2 h2 => q H2 (h1.trans h2)
    | ok l =>
      intro q H2 h2
      refine kh S T st σ H2 _ ((r.mono h1).mono h2) ?_
      revert q
      cases fh st with
      | bad => exact fun q => q
      | ex c => exact fun q H3 h3 => q H3 ((h1.trans h2).trans h3)
      | ok u =>
        intro q H3 h3
        have q' : PF K cl W S T σ H (match elems d with
          | some ds => if (cutL ds l u).all prim = true then .ok (.lst ((cutL ds l u).map .sh)) else .bad
          | none => .bad) Q := q
        cases e1 : elems d with
        | none => rw [e1] at q'; exact q'.elim
        | some ds =>
          rw [e1] at q'
          have q' : PF K cl W S T σ H (if (cutL ds l u).all prim = true then .ok (.lst ((cutL ds l u).map .sh)) else .bad) Q := q'
          by_cases c : (cutL ds l u).all prim = true
          · rw [if_pos c] at q'
            obtain ⟨a, vs, rfl, hq, rl⟩ := r1.seqL e1
            have up : Same H H3 := (h1.trans h2).trans h3
            exact ⟨a, vs, rfl, (h2.trans h3).seq hq, fun p hp => new_list (ds := cutL ds l u) q' up .refl r.lo (r.th.trans up) ((rl.cut l u).prims c) hp⟩
          · rw [if_neg c] at q'
            exact q'.elim
/-! ### list(..), + of lists, * -/
def listElems : D → Option (List D)
  | .lst ds => some ds
  | .tup ds => some ds
  | .scr ns => some (ns.map .int)
  | _ => none
theorem Rp.seqLT {S : Hp} {v : V} {d : D} {ds : List D} (h : Rp K S v d) (e : listElems d = some ds) : ∃ a vs, v = .ref a ∧ (SqL K S a vs ∨ SqT K S a vs) ∧ RpL K S vs ds := by
  cases h with
  | lst h r => cases e; exact ⟨_, _, rfl, .inl (SqL.of h), r⟩
  | tup h r => cases e; exact ⟨_, _, rfl, .inr (SqT.of h), r⟩
  | scr h => cases e; exact ⟨_, _, rfl, .inl h, .ints _⟩
  | non => cases e
  | bl _ => cases e
  | int _ => cases e
  | str _ => cases e
theorem Same.seqT {S H : Hp} {a : Addr} {xs : List V} (e : Same S H) (h : SqT K S a xs) : SqT K H a xs := by
  rcases h with (h | ⟨o, h⟩) | h
  · exact .inl (.inl (e _ _ h))
  · exact .inl (.inr ⟨o, e _ _ h⟩)
  · exact .inr h
def listF (a : Rs D) : Rs O := a.bind fun d => match listElems d with
  | some ds => .ok (.lst (ds.map .sh))
  | none => .bad
def listVF (a : Rs D) : Rs O := a.bind fun d => match listElems d with
  | some ds => if ds.all prim = true then .ok (.lst (ds.map .sh)) else .bad
  | none => .bad
abbrev rListOf (K : PySem.W.Frag) : List V → Hp → VK → Prop := fun xs H Q => ∃ p ys, xs = [.ref p] ∧ (SqL K H p ys ∨ SqT K H p ys) ∧ ∀ l, H l = none → Q (.ref l) (upd H l (.lst ys))
theorem f_list {R : TE → Prop} {a : Expr} {fa : Sl → Rs D} (hp : ∀ t, PAf X [a] t → R (tCB (rListOf K) t)) (ha : EP K W cl (PEf X a) fa) (hs : ∀ z, starEach [a] (X z).env = [(false, eval a (X z).env)] := by intro _; rfl) : EF K W cl R fun st => listF (fa st) := by
  obtain ⟨ta, pa, ka⟩ := ha.ex
  refine ⟨_, hp _ fun z => pa_cons (pa z) pa_nil (hs z), fun S T st σ H Q r q => ka S T st σ H _ r ?_⟩
  have q : PF K cl W S T σ H (listF (fa st)) Q := q
  revert q
  cases fa st with
  | bad => exact fun q => q
  | ex c => exact fun q => q
  | ok d =>
    intro q v S1 T1 H1 h1 x1 s1 t1 r1
    have q' : PF K cl W S T σ H (match listElems d with
      | some ds => .ok (.lst (ds.map .sh))
      | none => .bad) Q := q
    cases e1 : listElems d with
    | none => rw [e1] at q'; exact q'.elim
    | some ds =>
      rw [e1] at q'
      obtain ⟨a, vs, rfl, hq, rl⟩ := r1.seqLT e1
      have up := s1.trans t1
      exact ⟨a, vs, rfl, hq.imp up.seq (Same.seqT up), fun p hp => new_list q' h1 x1 s1 t1 rl hp⟩
theorem f_listV {R : TE → Prop} {a : Expr} {fa : Sl → Rs D} (hp : ∀ t, PAf X [a] t → R (tCB (rListOf K) t)) (ha : EV K W cl (PEf X a) fa) (hs : ∀ z, starEach [a] (X z).env = [(false, eval a (X z).env)] := by intro _; rfl) : EF K W cl R fun st => listVF (fa st) := by
  obtain ⟨ta, pa, ka⟩ := ha.ex
  refine ⟨_, hp _ fun z => pa_cons (pa z) pa_nil (hs z), fun S T st σ H Q r q => ka S T st σ H _ r ?_⟩
  have q : PF K cl W S T σ H (listVF (fa st)) Q := q
  revert q
  cases fa st with
  | bad => exact fun q => q
  | ex c => exact fun q => q
  | ok d =>
    intro q v H1 h1 r1
    have q' : PF K cl W S T σ H (match listElems d with
      | some ds => if ds.all prim = true then .ok (.lst (ds.map .sh)) else .bad
      | none => .bad) Q := q
    cases e1 : listElems d with
    | none => rw [e1] at q'; exact q'.elim
    | some ds =>
      rw [e1] at q'
      have q' : PF K cl W S T σ H (if ds.all prim = true then .ok (.lst (ds.map .sh)) else .bad) Q := q'
      by_cases c : ds.all prim = true
      · rw [if_pos c] at q'
        obtain ⟨a, vs, rfl, hq, rl⟩ := r1.seqLT e1
        exact ⟨a, vs, rfl, hq, fun p hp => new_list q' h1 .refl r.lo (r.th.trans h1) (rl.prims c) hp⟩
      · rw [if_neg c] at q'
        exact q'.elim
def catF (a b : Rs D) : Rs O := a.bind fun x => b.bind fun y => match x, y with
  | .lst ds, .lst es => if ds.length + es.length ≤ sizeLine then .ok (.lst ((ds ++ es).map .sh)) else .bad
  | _, _ => .bad
theorem f_cat {a b : Expr} {pos : Pos} {fa fb : Sl → Rs D} (ha : EP K W cl (PEf X a) fa) (hb : EP K W cl (PEf X b) fb) : EF K W cl (PEf X (.BinOp a .Add b pos)) fun st => catF (fa st) (fb st) := by
  obtain ⟨ta, pa, ka⟩ := ha.ex
  obtain ⟨tb, pb, kb⟩ := hb.ex
  refine ⟨_, fun z => pe_op op_cat (pa z) (pb z), fun S T st σ H Q r q => ka S T st σ H _ r ?_⟩
  have q : PF K cl W S T σ H (catF (fa st) (fb st)) Q := q
  revert q
  cases fa st with
  | bad => exact fun q => q
  | ex c => exact fun q => q
  | ok d =>
    intro q v S1 T1 H1 h1 x1 s1 t1 r1
    refine kb S1 T1 st σ H1 _ (r.ext h1 x1 s1 t1) ?_
    revert q
    cases fb st with
    | bad => exact fun q => q
    | ex c => exact fun q H2 h2 => q H2 (h1.trans h2)
    | ok e =>
      intro q w S2 T2 H2 h2 x2 s2 t2 r2
      cases r1 with
      | @lst a1 vs ds l1 q1 =>
        cases r2 with
        | @lst a2 ws es l2 q2 =>
          have q' : PF K cl W S T σ H (if ds.length + es.length ≤ sizeLine then .ok (.lst ((ds ++ es).map .sh)) else .bad) Q := q
          by_cases c : ds.length + es.length ≤ sizeLine
          · rw [if_pos c] at q'
            refine ⟨a1, a2, vs, ws, rfl, rfl, ((s1.trans t1).trans h2) _ _ l1, (s2.trans t2) _ _ l2, by rw [q1.length, q2.length]; exact c, fun p hp => ?_⟩
            exact new_list (ds := ds ++ es) q' (h1.trans h2) (x1.trans h1 x2) s2 t2 ((q1.mono x2.s).append q2) hp
          · rw [if_neg c] at q'
            exact q'.elim
        | _ => exact q.elim
      | _ => exact q.elim
def repOk (n : Nat) (k : Int) : Bool := decide (-(2 ^ 63) ≤ k) && decide (k < 2 ^ 63) && decide (n * k.toNat ≤ sizeLine)
def repF (a b : Rs D) : Rs O := a.bind fun x => b.bind fun y => match x, y with
  | .lst ds, .int k => if repOk ds.length k = true then .ok (.lst ((List.replicate k.toNat ds).flatten.map .sh)) else .bad
  | _, _ => .bad
theorem RpL.rep {S : Hp} {vs : List V} {ds : List D} (r : RpL K S vs ds) : ∀ n : Nat, RpL K S (List.replicate n vs).flatten (List.replicate n ds).flatten
  | 0 => .nil
  | n + 1 => by
    rw [List.replicate_succ, List.replicate_succ, List.flatten_cons, List.flatten_cons]
    exact r.append (r.rep n)
theorem f_rep {a b : Expr} {pos : Pos} {fa fb : Sl → Rs D} (ha : EP K W cl (PEf X a) fa) (hb : EV K W cl (PEf X b) fb) : EF K W cl (PEf X (.BinOp a .Mult b pos)) fun st => repF (fa st) (fb st) := by
  obtain ⟨ta, pa, ka⟩ := ha.ex
  obtain ⟨tb, pb, kb⟩ := hb.ex
  refine ⟨_, fun z => pe_op op_rep (pa z) (pb z), fun S T st σ H Q r q => ka S T st σ H _ r ?_⟩
  have q : PF K cl W S T σ H (repF (fa st) (fb st)) Q := q
  revert q
  cases fa st with
  | bad => exact fun q => q
  | ex c => exact fun q => q
  | ok d =>
    intro q v S1 T1 H1 h1 x1 s1 t1 r1
    refine kb S1 T1 st σ H1 _ (r.ext h1 x1 s1 t1) ?_
    revert q
    cases fb st with
    | bad => exact fun q => q
    | ex c => exact fun q H2 h2 => q H2 (h1.trans h2)
    | ok e =>
      intro q w H2 h2 r2
      cases r1 with
      | @lst a1 vs ds l1 q1 =>
        cases r2 with
        | int k =>
          have q' : PF K cl W S T σ H (if repOk ds.length k = true then .ok (.lst ((List.replicate k.toNat ds).flatten.map .sh)) else .bad) Q := q
          by_cases c : repOk ds.length k = true
          · rw [if_pos c] at q'
            unfold repOk at c
            simp only [Bool.and_eq_true, decide_eq_true_eq] at c
            refine ⟨a1, k, vs, rfl, rfl, ((s1.trans t1).trans h2) _ _ l1, c.1.1, c.1.2, by rw [q1.length]; exact c.2, fun p hp => ?_⟩
            exact new_list (ds := (List.replicate k.toNat ds).flatten) q' (h1.trans h2) x1 s1 (t1.trans h2) (q1.rep _) hp
          · rw [if_neg c] at q'
            exact q'.elim
        | _ => exact q.elim
      | _ => exact q.elim
/-! ### e1 if t else e2 -/
def ifR {α : Type} (c : Rs Bool) (a b : Rs α) : Rs α := c.bind fun k => if k = true then a else b
theorem v_if {c a b : Expr} {pos : Pos} {fc : Sl → Rs Bool} {fa fb : Sl → Rs D} (hc : ET K W cl (PTf X c) fc) (ha : EV K W cl (PEf X a) fa) (hb : EV K W cl (PEf X b) fb) : EV K W cl (PEf X (.IfExp c a b pos)) fun st => ifR (fc st) (fa st) (fb st) := by
  obtain ⟨tc, pc, kc⟩ := hc.ex
  obtain ⟨ta, pa, ka⟩ := ha.ex
  obtain ⟨tb, pb, kb⟩ := hb.ex
  refine ⟨_, fun z => pe_ifExp (pc z) (pa z) (pb z), fun S T st σ H Q r q => kc S T st σ H _ r ?_⟩
  have q : PV K cl W σ H (ifR (fc st) (fa st) (fb st)) Q := q
  revert q
  cases fc st with
  | bad => exact fun q => q
  | ex c => exact fun q => q
  | ok k =>
    cases k with
    | true => exact fun q H1 h1 => iteT (ka S T st σ H1 Q (r.mono h1) (PV.mono (r := fa st) h1 q))
    | false => exact fun q H1 h1 => iteF (kb S T st σ H1 Q (r.mono h1) (PV.mono (r := fb st) h1 q))
/-! ### an own def called -/
/-- the promise of a def: m tells what it gives -/
def SpD (K : PySem.W.Frag) (cl : Cl) (n : Nat) (m : List D → Rs O) : Sp := fun vs H Q E => ∃ S ds, ds.length = n ∧ Same S H ∧ RpL K S vs ds ∧ match m ds with
  | .ok o => ∀ v S' H' g, Same S S' → Same H H' → (∀ b, H b ≠ none → S' b = S b) → Same S' H' → Ow K S' H' v o g → g.Nodup → (∀ b ∈ g, S' b = none ∧ H b = none) → Q v H'
  | .ex c => ∀ H', Same H H' → E (.ref (cl c)) none H'
  | .bad => False
theorem SpD.len {n : Nat} {m : List D → Rs O} : ∀ vs H Q E, SpD K cl n m vs H Q E → vs.length = n := fun vs H Q E ⟨S, ds, h, _, r, _⟩ => r.length.trans h
def callR {α : Type} (n : Nat) (m : List D → Rs α) (a : Rs (List D)) : Rs α := a.bind fun ds => if ds.length = n then m ds else .bad
theorem f_call {n : Nat} {m : List D → Rs O} {R : TE → Prop} {es : List Expr} {fa : Sl → Rs (List D)} (hp : ∀ t, PAf X es t → R (tCallS (SpD K cl n m) (WE W) t)) (ha : EPs K W cl (PAf X es) fa) : EF K W cl R fun st => callR n m (fa st) := by
  obtain ⟨ta, pa, ka⟩ := ha.ex
  refine ⟨_, hp _ pa, fun S T st σ H Q r q => ka S T st σ H _ r ?_⟩
  have q : PF K cl W S T σ H (callR n m (fa st)) Q := q
  revert q
  cases fa st with
  | bad => exact fun q => q
  | ex c => exact fun q => q
  | ok ds =>
    intro q vs S1 T1 H1 h1 x1 s1 t1 r1
    have q : PF K cl W S T σ H (if ds.length = n then m ds else .bad) Q := q
    by_cases hn : ds.length = n
    · rw [if_pos hn] at q
      refine ⟨S1, ds, hn, s1.trans t1, r1, ?_⟩
      revert q
      cases m ds with
      | bad => exact fun q => q
      | ex c => exact fun q H2 h2 => q H2 (h1.trans h2)
      | ok o =>
        intro q v S2 H2 g e1 e2 e3 e4 w nd hg
        -- what is left alone: T1, and what of S2 is new
        let T2 : Hp := fun b => match H1 b with
          | none => S2 b
          | some _ => T1 b
        have T2n : ∀ b, H1 b = none → T2 b = S2 b := fun b h => by show (match H1 b with | none => S2 b | some _ => T1 b) = S2 b; rw [h]
        have T2s : ∀ b, H1 b ≠ none → T2 b = T1 b := fun b h => by
          show (match H1 b with | none => S2 b | some _ => T1 b) = T1 b
          cases e : H1 b with
          | none => exact absurd e h
          | some u => rfl
        have n1 : ∀ b o, T1 b = some o → H1 b ≠ none := fun b o h => by rw [t1 b o h]; simp
        refine q v S2 T2 H2 g (h1.trans e2) (x1.trans h1 ⟨e1, fun b o h => ?_, fun b hb => ⟨e3 b hb, T2s b hb⟩⟩) (fun b o h => ?_) (fun b o h => ?_) w nd fun b hb => ⟨?_, h1.free (hg b hb).2⟩
        · rw [T2s b (n1 b o h)]; exact h
        · by_cases hb : H1 b = none
          · rw [T2n b hb]; exact h
          · rw [T2s b hb]; rw [e3 b hb] at h; exact s1 b o h
        · by_cases hb : H1 b = none
          · rw [T2n b hb] at h; exact e4 b o h
          · rw [T2s b hb] at h; exact e2 b o (t1 b o h)
        · rw [T2n b (hg b hb).2]; exact (hg b hb).1
    · rw [if_neg hn] at q
      exact q.elim
/-- the same with arguments that are only looked at -/
theorem v_call {n : Nat} {m : List D → Rs O} {R : TE → Prop} {es : List Expr} {fa : Sl → Rs (List D)} (hp : ∀ t, PAf X es t → R (tCallS (SpD K cl n m) (WE W) t)) (ha : EVs K W cl (PAf X es) fa) : EV K W cl R fun st => mapRs O.er (callR n m (fa st)) := by
  obtain ⟨ta, pa, ka⟩ := ha.ex
  refine ⟨_, hp _ pa, fun S T st σ H Q r q => ka S T st σ H _ r ?_⟩
  have q : PV K cl W σ H (mapRs O.er (callR n m (fa st))) Q := q
  revert q
  cases fa st with
  | bad => exact fun q => q
  | ex c => exact fun q => q
  | ok ds =>
    intro q vs H1 h1 r1
    have q : PV K cl W σ H (mapRs O.er (if ds.length = n then m ds else .bad)) Q := q
    by_cases hn : ds.length = n
    · rw [if_pos hn] at q
      refine ⟨H1, ds, hn, .refl _, r1, ?_⟩
      revert q
      cases m ds with
      | bad => exact fun q => q
      | ex c => exact fun q H2 h2 => q H2 (h1.trans h2)
      | ok o => exact fun q v S2 H2 g e1 e2 e3 e4 w nd hg => q v H2 (h1.trans e2) (w.rp e4 fun _ _ => rfl)
    · rw [if_neg hn] at q
      exact q.elim
/-- a tree without what stays, but numbers and the like, from arguments that are only looked at -/
def O.clo : O → Bool
  | .sh d => prim d
  | .lst xs => xs.attach.all fun ⟨x, _⟩ => x.clo
  | .tup xs => xs.attach.all fun ⟨x, _⟩ => x.clo
end
end M

/-! Targets, what is walked, comprehensions. -/
namespace M
open PySem L2
section
variable {ι : Type} {X : ι → Cx} {W : WX} {cl : Cl} {K : PySem.W.Frag}
/-! ### targets; vs: the slots that they fill -/
structure EG (K : PySem.W.Frag) (R : TG → Prop) (vs : List Nat) (f : D → Sl → Option Sl) : Prop where
  ex : ∃ t, R t ∧ ∀ S T st σ H v d st' Q, RS K S T st σ H → Rp K S v d → f d st = some st' → (∀ σ', σ'.length = σ.length → (∀ k, k ∉ vs → σ'[k]? = σ[k]?) → RS K S T st' σ' H → Q σ' H) → t v σ H Q
structure EGs (K : PySem.W.Frag) (R : TGs → Prop) (vs : List Nat) (f : List D → Sl → Option Sl) : Prop where
  ex : ∃ t, R t ∧ ∀ S T st σ H us ds st' Q, RS K S T st σ H → RpL K S us ds → f ds st = some st' → (∀ σ', σ'.length = σ.length → (∀ k, k ∉ vs → σ'[k]? = σ[k]?) → RS K S T st' σ' H → Q σ' H) → t us σ H Q
def setN (i : Nat) (d : D) (st : Sl) : Option Sl := if i < st.length then some (st.set i (some (.sh d))) else none
theorem RS.len {S T : Hp} {st : Sl} {σ : St} {H : Hp} (r : RS K S T st σ H) : σ.length = st.length := by
  obtain ⟨f, w, _⟩ := r.own
  exact w.length
theorem g_nm {e : Expr} {i : Nat} (h : PGf X e (gName i)) : EG K (PGf X e) [i] (setN i) := by
  refine ⟨_, h, fun S T st σ H v d st' Q r rp e q => ?_⟩
  unfold setN at e
  by_cases c : i < st.length
  · rw [if_pos c] at e
    cases e
    refine q (σ.set i (some v)) (List.length_set ..) (fun k hk => ?_) (r.setSh c rp)
    exact List.getElem?_set_ne fun e => hk (by rw [e]; simp)
  · rw [if_neg c] at e
    cases e
def setNil : List D → Sl → Option Sl
  | [], st => some st
  | _, _ => none
def setCons (f : D → Sl → Option Sl) (g : List D → Sl → Option Sl) : List D → Sl → Option Sl
  | d :: ds, st => (f d st).bind (g ds)
  | [], _ => none
theorem gs_nil : EGs K (PGsf X []) [] setNil := by
  refine ⟨_, fun _ => pgs_nil, fun S T st σ H us ds st' Q r rp e q => ?_⟩
  cases rp with
  | nil => cases e; exact ⟨rfl, q σ rfl (fun _ _ => rfl) r⟩
  | cons _ _ => cases e
theorem gs_cons {e : Expr} {es : List Expr} {vs us : List Nat} {f : D → Sl → Option Sl} {g : List D → Sl → Option Sl} (h : EG K (PGf X e) vs f) (k : EGs K (PGsf X es) us g)
    (hs : ∀ z, (assignEach (e :: es) (X z).env).map (·.2) = assign e (X z).env :: (assignEach es (X z).env).map (·.2) := by intro _; rfl) : EGs K (PGsf X (e :: es)) (vs ++ us) (setCons f g) := by
  obtain ⟨t, p, a⟩ := h.ex
  obtain ⟨u, pu, b⟩ := k.ex
  refine ⟨_, fun z => pgs_cons (p z) (pu z) (hs z), fun S T st σ H ws ds st' Q r rp e q => ?_⟩
  cases rp with
  | nil => cases e
  | @cons v vs' d ds' h1 h2 =>
    have e : (f d st).bind (g ds') = some st' := e
    cases e1 : f d st with
    | none => rw [e1] at e; cases e
    | some st1 =>
      rw [e1] at e
      refine ⟨v, vs', rfl, a S T st σ H v d st1 _ r h1 e1 fun σ1 l1 k1 r1 => ?_⟩
      refine b S T st1 σ1 H vs' ds' st' Q r1 h2 e fun σ2 l2 k2 r2 => ?_
      refine q σ2 (l2.trans l1) (fun k hk => ?_) r2
      rw [List.mem_append, not_or] at hk
      exact (k2 k hk.2).trans (k1 k hk.1)
def setTup (n : Nat) (g : List D → Sl → Option Sl) : D → Sl → Option Sl
  | .tup ds, st => if ds.length = n then g ds st else none
  | _, _ => none
theorem g_tup {es : List Expr} {k n : Nat} {pos : Pos} {vs : List Nat} {g : List D → Sl → Option Sl} (hp : ∀ t, PGsf X es t → PGf X (.Tuple es k pos) (gTup K n t)) (h : EGs K (PGsf X es) vs g) :
    EG K (PGf X (.Tuple es k pos)) vs (setTup n g) := by
  obtain ⟨t, p, a⟩ := h.ex
  refine ⟨_, hp _ p, fun S T st σ H v d st' Q r rp e q => ?_⟩
  cases rp with
  | @tup ad ws ds hh rl =>
    have e : (if ds.length = n then g ds st else none) = some st' := e
    by_cases c : ds.length = n
    · rw [if_pos c] at e
      exact ⟨ad, ws, rfl, SqT.of (r.sh _ _ hh), rl.length.trans c, a S T st σ H ws ds st' Q r rl e q⟩
    · rw [if_neg c] at e
      cases e
  | _ => cases e
def setLst (n : Nat) (g : List D → Sl → Option Sl) : D → Sl → Option Sl
  | .lst ds, st => if ds.length = n then g ds st else none
  | _, _ => none
theorem g_lst {es : List Expr} {k n : Nat} {pos : Pos} {vs : List Nat} {g : List D → Sl → Option Sl} (hp : ∀ t, PGsf X es t → PGf X (.Tuple es k pos) (gLst K n t)) (h : EGs K (PGsf X es) vs g) :
    EG K (PGf X (.Tuple es k pos)) vs (setLst n g) := by
  obtain ⟨t, p, a⟩ := h.ex
  refine ⟨_, hp _ p, fun S T st σ H v d st' Q r rp e q => ?_⟩
  cases rp with
  | @lst ad ws ds hh rl =>
    have e : (if ds.length = n then g ds st else none) = some st' := e
    by_cases c : ds.length = n
    · rw [if_pos c] at e
      exact ⟨ad, ws, rfl, SqL.of (r.sh _ _ hh), rl.length.trans c, a S T st σ H ws ds st' Q r rl e q⟩
    · rw [if_neg c] at e
      cases e
  | _ => cases e
/-! ### what is walked -/
/-- an item as it comes: it stood, or it is a new tuple -/
def Yl (K : PySem.W.Frag) (S H : Hp) (x : V) (H' : Hp) (d : D) : Prop := (H' = H ∧ Rp K S x d) ∨ ∃ p us es, x = .ref p ∧ H p = none ∧ H' = upd H p (.tup us) ∧ RpL K S us es ∧ d = .tup es
structure Yields (K : PySem.W.Frag) (J : It) (S : Hp) (ds : List D) : Prop where
  stop : ∀ i H, Same S H → ds.length ≤ i → J.stop i H
  go : ∀ i H, Same S H → i < ds.length → J.go i H
  yld : ∀ i H x H' d, Same S H → ds[i]? = some d → J.yld i H x H' → Yl K S H x H' d
theorem Yields.mono {J : It} {S S' : Hp} {ds : List D} (y : Yields K J S ds) (h : Same S S') : Yields K J S' ds :=
  ⟨fun i H k => y.stop i H (h.trans k), fun i H k => y.go i H (h.trans k), fun i H x H' d k e q => by
    rcases y.yld i H x H' d (h.trans k) e q with ⟨a, b⟩ | ⟨p, us, es, a, b, c, r, e2⟩
    · exact .inl ⟨a, b.mono h⟩
    · exact .inr ⟨p, us, es, a, b, c, r.mono h, e2⟩⟩
/-- behind an item -/
theorem Yl.ext {S T H H' : Hp} {x : V} {d : D} {st : Sl} {σ : St} (y : Yl K S H x H' d) (r : RS K S T st σ H) : ∃ S' T', Same H H' ∧ Ext S T H S' T' ∧ RS K S' T' st σ H' ∧ Rp K S' x d := by
  rcases y with ⟨rfl, h⟩ | ⟨p, us, es, rfl, hp, rfl, h, rfl⟩
  · exact ⟨S, T, .refl _, .refl, r, h⟩
  · have hs := same_upd (o := .tup us) hp
    have sp : S p = none := r.sh.free hp
    have tp : T p = none := r.th.free hp
    have e1 : Same S (upd S p (.tup us)) := same_upd sp
    have e2 : Same T (upd T p (.tup us)) := same_upd tp
    have x : Ext S T H (upd S p (.tup us)) (upd T p (.tup us)) := ⟨e1, e2, fun b hb => ⟨upd_ne fun e => hb (e ▸ hp), upd_ne fun e => hb (e ▸ hp)⟩⟩
    have up : ∀ {A B : Hp}, Same A B → Same (upd A p (.tup us)) (upd B p (.tup us)) := fun {A B} k b o e => by
      by_cases hb : b = p
      · subst hb; rw [upd_same] at e ⊢; exact e
      · rw [upd_ne hb] at e ⊢; exact k b o e
    exact ⟨_, _, hs, x, r.ext hs x (up r.lo) (up r.th), .tup upd_same (h.mono e1)⟩
structure EI (K : PySem.W.Frag) (W : WX) (cl : Cl) (R : TI → Prop) (f : Sl → Rs (List D)) : Prop where
  ex : ∃ t, R t ∧ ∀ S T st σ H (Q : It → Hp → Prop), RS K S T st σ H → (match f st with
    | .ok ds => ∀ J S' T' H', Same H H' → Ext S T H S' T' → RS K S' T' st σ H' → Yields K J S' ds → Q J H'
    | .ex c => ∀ H', Same H H' → W (.ref (cl c)) none σ H'
    | .bad => False) → t σ H Q
def elemsR (a : Rs D) : Rs (List D) := a.bind fun d => ofO (elems d)
theorem RpL.det {S : Hp} {us ws : List V} {ds : List D} (r : RpL K S us ds) (e : us = ws) : RpL K S ws ds := e ▸ r
/-- a list that stays -/
theorem i_list {tg e : Expr} {f : Sl → Rs D} (h : EP K W cl (PEf X e) f) (hK : ∀ z, (X z).K = K := by intro _; rfl) : EI K W cl (PIf X tg e) fun st => elemsR (f st) := by
  obtain ⟨t, p, a⟩ := h.ex
  refine ⟨iList K t, fun z => hK z ▸ pi_list (p z), fun S T st σ H Q r q => a S T st σ H _ r ?_⟩
  revert q
  show (match elemsR (f st) with | .ok ds => _ | .ex c => _ | .bad => _) → _
  cases f st with
  | bad => exact fun q => q
  | ex c => exact fun q => q
  | ok d =>
    show (match ofO (elems d) with | .ok ds => _ | .ex c => _ | .bad => _) → _
    cases e1 : elems d with
    | none => exact fun q => q.elim
    | some ds =>
      intro q v S1 T1 H1 h1 x1 s1 t1 r1
      have q : ∀ J S' T' H', Same H H' → Ext S T H S' T' → RS K S' T' st σ H' → Yields K J S' ds → Q J H' := q
      obtain ⟨ad, us, rfl, hq, rl⟩ := r1.seqL e1
      refine ⟨ad, rfl, ⟨us, (s1.trans t1).seq hq⟩, q (Itl K ad) S1 T1 H1 h1 x1 (r.ext h1 x1 s1 t1) ⟨fun i H2 k hi => ?_, fun i H2 k hi => ?_, fun i H2 x H3 d k e y => ?_⟩⟩
      · exact ⟨us, k.seq hq, by rw [rl.length]; exact hi⟩
      · exact ⟨us, us[i]'(by rw [rl.length]; exact hi), k.seq hq, by simp⟩
      · obtain ⟨y1, y2⟩ := y
        have := y2 us (k.seq hq)
        obtain ⟨u, e2, r2⟩ := rl.get e
        rw [this] at e2
        cases e2
        exact .inl ⟨y1, r2⟩
def rangeL (lo : Int) (n : Nat) : List D := (List.range n).map fun i => D.int (lo + (i : Nat))
theorem range_yields {lo : Int} {n : Nat} {S : Hp} : Yields K (Itr lo n) S (rangeL lo n) := by
  have hl : (rangeL lo n).length = n := by unfold rangeL; rw [List.length_map, List.length_range]
  refine ⟨fun i H k hi => by rw [hl] at hi; exact hi, fun i H k hi => by rw [hl] at hi; exact hi, fun i H x H' d k e y => ?_⟩
  obtain ⟨y1, y2⟩ := y
  have hi : i < n := by
    have := (List.getElem?_eq_some_iff.mp e).1
    rw [hl] at this; exact this
  have e2 : (rangeL lo n)[i]? = some (D.int (lo + (i : Nat))) := by
    unfold rangeL
    rw [List.getElem?_map, List.getElem?_range hi]
    rfl
  rw [e2] at e
  cases e
  rw [y2]
  exact .inl ⟨y1, .int _⟩
def rngOk (j : Int) : Bool := decide (-(2 ^ 62) ≤ j) && decide (j < 2 ^ 62)
def range1 (a : Rs D) : Rs (List D) := a.bind fun d => match d with
  | .int j => if rngOk j = true then .ok (rangeL 0 j.toNat) else .bad
  | _ => .bad
def range2 (a b : Rs D) : Rs (List D) := a.bind fun d => b.bind fun e => match d, e with
  | .int i, .int j => if (rngOk i && rngOk j) = true then .ok (rangeL i (j - i).toNat) else .bad
  | _, _ => .bad
theorem i_range1 {a : Expr} {R : TI → Prop} {f : Sl → Rs D} (hp : ∀ t, PAf X [a] t → R (iRng1 t)) (h : EV K W cl (PEf X a) f) (hs : ∀ z, starEach [a] (X z).env = [(false, eval a (X z).env)] := by intro _; rfl) : EI K W cl R fun st => range1 (f st) := by
  obtain ⟨t, p, k⟩ := h.ex
  refine ⟨_, hp _ fun z => pa_cons (p z) pa_nil (hs z), fun S T st σ H Q r q => k S T st σ H _ r ?_⟩
  revert q
  show (match range1 (f st) with | .ok ds => _ | .ex c => _ | .bad => _) → _
  cases f st with
  | bad => exact fun q => q
  | ex c => exact fun q => q
  | ok d =>
    cases d with
    | int j =>
      show (match (if rngOk j = true then Rs.ok (rangeL 0 j.toNat) else Rs.bad) with | .ok ds => _ | .ex c => _ | .bad => _) → _
      by_cases c : rngOk j = true
      · rw [if_pos c]
        intro q v H1 h1 r1
        cases r1
        unfold rngOk at c
        simp only [Bool.and_eq_true, decide_eq_true_eq] at c
        exact ⟨j, rfl, c.1, c.2, q (Itr 0 j.toNat) S T H1 h1 .refl (r.mono h1) range_yields⟩
      · rw [if_neg c]
        exact fun q => q.elim
    | _ => exact fun q => q.elim
theorem i_range2 {a b : Expr} {R : TI → Prop} {f g : Sl → Rs D} (hp : ∀ t, PAf X [a, b] t → R (iRng2 t)) (h : EV K W cl (PEf X a) f) (h2 : EV K W cl (PEf X b) g) (hs : ∀ z, starEach [a, b] (X z).env = [(false, eval a (X z).env), (false, eval b (X z).env)] := by intro _; rfl) (hs2 : ∀ z, starEach [b] (X z).env = [(false, eval b (X z).env)] := by intro _; rfl) :
    EI K W cl R fun st => range2 (f st) (g st) := by
  obtain ⟨t, p, k⟩ := h.ex
  obtain ⟨u, pu, ku⟩ := h2.ex
  refine ⟨_, hp _ fun z => pa_cons (p z) (pa_cons (pu z) pa_nil (hs2 z)) ((hs z).trans (by rw [← hs2 z])), fun S T st σ H Q r q => k S T st σ H _ r ?_⟩
  revert q
  show (match range2 (f st) (g st) with | .ok ds => _ | .ex c => _ | .bad => _) → _
  cases f st with
  | bad => exact fun q => q
  | ex c => exact fun q => q
  | ok d =>
    intro q v H1 h1 r1
    refine ku S T st σ H1 _ (r.mono h1) ?_
    revert q
    show (match range2 (.ok d) (g st) with | .ok ds => _ | .ex c => _ | .bad => _) → _
    cases g st with
    | bad => exact fun q => q
    | ex c => exact fun q H2 h2 => q H2 (h1.trans h2)
    | ok e =>
      cases d with
      | int i =>
        cases e with
        | int j =>
          show (match (if (rngOk i && rngOk j) = true then Rs.ok (rangeL i (j - i).toNat) else Rs.bad) with | .ok ds => _ | .ex c => _ | .bad => _) → _
          by_cases c : (rngOk i && rngOk j) = true
          · rw [if_pos c]
            intro q w H2 h2 r2
            cases r1
            cases r2
            unfold rngOk at c
            simp only [Bool.and_eq_true, decide_eq_true_eq] at c
            exact ⟨i, j, rfl, ⟨c.1.1, c.1.2, c.2.1, c.2.2⟩, q (Itr i (j - i).toNat) S T H2 (h1.trans h2) .refl (r.mono (h1.trans h2)) range_yields⟩
          · rw [if_neg c]
            exact fun q => q.elim
        | _ => exact fun q => q.elim
      | _ => exact fun q => q.elim
/-- zip of two lists that stay -/
def zipD (ds es : List D) : List D := (ds.zip es).map fun p => D.tup [p.1, p.2]
def zipR (a b : Rs D) : Rs (List D) := a.bind fun d => b.bind fun e => (ofO (elems d)).bind fun ds => (ofO (elems e)).bind fun es => .ok (zipD ds es)
theorem i_zip {R : TI → Prop} {a b : Expr} {f g : Sl → Rs D} (hp : ∀ t, PAf X [a, b] t → R (iZip K t)) (h : EP K W cl (PEf X a) f) (h2 : EP K W cl (PEf X b) g) (hs : ∀ z, starEach [a, b] (X z).env = [(false, eval a (X z).env), (false, eval b (X z).env)] := by intro _; rfl) (hs2 : ∀ z, starEach [b] (X z).env = [(false, eval b (X z).env)] := by intro _; rfl) :
    EI K W cl R fun st => zipR (f st) (g st) := by
  obtain ⟨t, p, k⟩ := h.ex
  obtain ⟨u, pu, ku⟩ := h2.ex
  refine ⟨_, hp _ fun z => pa_cons (p z) (pa_cons (pu z) pa_nil (hs2 z)) ((hs z).trans (by rw [← hs2 z])), fun S T st σ H Q r q => k S T st σ H _ r ?_⟩
  revert q
  show (match zipR (f st) (g st) with | .ok ds => _ | .ex c => _ | .bad => _) → _
  cases f st with
  | bad => exact fun q => q
  | ex c => exact fun q => q
  | ok d =>
    intro q v S1 T1 H1 h1 x1 s1 t1 r1
    refine ku S1 T1 st σ H1 _ (r.ext h1 x1 s1 t1) ?_
    revert q
    show (match zipR (.ok d) (g st) with | .ok ds => _ | .ex c => _ | .bad => _) → _
    cases g st with
    | bad => exact fun q => q
    | ex c => exact fun q H2 h2 => q H2 (h1.trans h2)
    | ok e =>
      show (match (ofO (elems d)).bind (fun ds => (ofO (elems e)).bind fun es => .ok (zipD ds es)) with | .ok ds => _ | .ex c => _ | .bad => _) → _
      cases e1 : elems d with
      | none => exact fun q => q.elim
      | some ds =>
        cases e2 : elems e with
        | none => exact fun q => q.elim
        | some es =>
          intro q w S2 T2 H2 h2 x2 s2 t2 r2
          have q : ∀ J S' T' H', Same H H' → Ext S T H S' T' → RS K S' T' st σ H' → Yields K J S' (zipD ds es) → Q J H' := q
          obtain ⟨ad, us, rfl, hq, rl⟩ := (r1.mono x2.s).seqL e1
          obtain ⟨bd, ws, rfl, hq2, rl2⟩ := r2.seqL e2
          have rs2 := (r.ext h1 x1 s1 t1).ext h2 x2 s2 t2
          have zl : (zipD ds es).length = min ds.length es.length := by unfold zipD; rw [List.length_map, List.length_zip]
          refine ⟨ad, bd, us, ws, rfl, (s2.trans t2).seq hq, (s2.trans t2).seq hq2, q (Itz K ad bd) S2 T2 H2 (h1.trans h2) (x1.trans h1 x2) rs2 ⟨fun i H3 k hi => ?_, fun i H3 k hi => ?_, fun i H3 x H4 dd k e y => ?_⟩⟩
          · exact ⟨us, ws, k.seq hq, k.seq hq2, by rw [rl.length, rl2.length]; rw [zl] at hi; omega⟩
          · rw [zl] at hi
            exact ⟨us, ws, us[i]'(by rw [rl.length]; omega), ws[i]'(by rw [rl2.length]; omega), k.seq hq, k.seq hq2, by simp, by simp⟩
          · obtain ⟨p, x1', y1', ex, hp, eh, k1, k2⟩ := y
            unfold zipD at e
            rw [List.getElem?_map] at e
            cases e3 : (ds.zip es)[i]? with
            | none => rw [e3] at e; cases e
            | some pr =>
              rw [e3] at e
              cases e
              obtain ⟨d1, d2⟩ := pr
              rw [List.getElem?_zip_eq_some] at e3
              obtain ⟨u1, f1, g1⟩ := rl.get e3.1
              obtain ⟨u2, f2, g2⟩ := rl2.get e3.2
              rw [k1 us (k.seq hq)] at f1
              rw [k2 ws (k.seq hq2)] at f2
              cases f1
              cases f2
              exact .inr ⟨p, _, _, ex, hp, eh, .cons g1 (.cons g2 .nil), rfl⟩
/-- enumerate of a list that stays -/
def enumD (ds : List D) : List D := ds.zipIdx.map fun p => D.tup [.int (p.2 : Nat), p.1]
def enumR (a : Rs D) : Rs (List D) := a.bind fun d => (ofO (elems d)).bind fun ds => .ok (enumD ds)
theorem i_enum {R : TI → Prop} {a : Expr} {f : Sl → Rs D} (hp : ∀ t, PAf X [a] t → R (iEnum K t)) (h : EP K W cl (PEf X a) f) (hs : ∀ z, starEach [a] (X z).env = [(false, eval a (X z).env)] := by intro _; rfl) : EI K W cl R fun st => enumR (f st) := by
  obtain ⟨t, p, k⟩ := h.ex
  refine ⟨_, hp _ fun z => pa_cons (p z) pa_nil (hs z), fun S T st σ H Q r q => k S T st σ H _ r ?_⟩
  revert q
  show (match enumR (f st) with | .ok ds => _ | .ex c => _ | .bad => _) → _
  cases f st with
  | bad => exact fun q => q
  | ex c => exact fun q => q
  | ok d =>
    show (match (ofO (elems d)).bind (fun ds => .ok (enumD ds)) with | .ok ds => _ | .ex c => _ | .bad => _) → _
    cases e1 : elems d with
    | none => exact fun q => q.elim
    | some ds =>
      intro q v S1 T1 H1 h1 x1 s1 t1 r1
      have q : ∀ J S' T' H', Same H H' → Ext S T H S' T' → RS K S' T' st σ H' → Yields K J S' (enumD ds) → Q J H' := q
      obtain ⟨ad, us, rfl, hq, rl⟩ := r1.seqL e1
      have zl : (enumD ds).length = ds.length := by unfold enumD; rw [List.length_map, List.length_zipIdx]
      refine ⟨ad, us, rfl, (s1.trans t1).seq hq, q (Ite K ad) S1 T1 H1 h1 x1 (r.ext h1 x1 s1 t1) ⟨fun i H3 k hi => ?_, fun i H3 k hi => ?_, fun i H3 x H4 dd k e y => ?_⟩⟩
      · exact ⟨us, k.seq hq, by rw [rl.length]; rw [zl] at hi; exact hi⟩
      · rw [zl] at hi
        exact ⟨us, us[i]'(by rw [rl.length]; exact hi), k.seq hq, by simp⟩
      · obtain ⟨p, x1', ex, hp, eh, k1⟩ := y
        unfold enumD at e
        rw [List.getElem?_map, List.getElem?_zipIdx] at e
        cases e3 : ds[i]? with
        | none => rw [e3] at e; cases e
        | some dd =>
          rw [e3] at e
          cases e
          obtain ⟨u1, f1, g1⟩ := rl.get e3
          rw [k1 us (k.seq hq)] at f1
          cases f1
          exact .inr ⟨p, _, _, ex, hp, eh, .cons (by rw [Nat.zero_add]; exact .int _) (.cons g1 .nil), rfl⟩
def revR (a : Rs D) : Rs (List D) := a.bind fun d => (ofO (elems d)).bind fun ds => .ok ds.reverse
theorem i_rev {R : TI → Prop} {a : Expr} {f : Sl → Rs D} (hp : ∀ t, PAf X [a] t → R (iRev K t)) (h : EP K W cl (PEf X a) f) (hs : ∀ z, starEach [a] (X z).env = [(false, eval a (X z).env)] := by intro _; rfl) : EI K W cl R fun st => revR (f st) := by
  obtain ⟨t, p, k⟩ := h.ex
  refine ⟨_, hp _ fun z => pa_cons (p z) pa_nil (hs z), fun S T st σ H Q r q => k S T st σ H _ r ?_⟩
  revert q
  show (match revR (f st) with | .ok ds => _ | .ex c => _ | .bad => _) → _
  cases f st with
  | bad => exact fun q => q
  | ex c => exact fun q => q
  | ok d =>
    show (match (ofO (elems d)).bind (fun ds => .ok ds.reverse) with | .ok ds => _ | .ex c => _ | .bad => _) → _
    cases e1 : elems d with
    | none => exact fun q => q.elim
    | some ds =>
      intro q v S1 T1 H1 h1 x1 s1 t1 r1
      have q : ∀ J S' T' H', Same H H' → Ext S T H S' T' → RS K S' T' st σ H' → Yields K J S' ds.reverse → Q J H' := q
      obtain ⟨ad, us, rfl, hq, rl⟩ := r1.seqL e1
      refine ⟨ad, us, rfl, (s1.trans t1).seq hq, q (Itv K ad us.length) S1 T1 H1 h1 x1 (r.ext h1 x1 s1 t1) ⟨fun i H3 k hi => ?_, fun i H3 k hi => ?_, fun i H3 x H4 dd k e y => ?_⟩⟩
      · rw [List.length_reverse] at hi
        show us.length ≤ i
        rw [rl.length]; exact hi
      · rw [List.length_reverse] at hi
        exact ⟨by rw [rl.length]; exact hi, us, us[us.length - 1 - i]'(by have := rl.length; omega), k.seq hq, by simp⟩
      · obtain ⟨y1, y2⟩ := y
        have hi : i < ds.length := by
          have := (List.getElem?_eq_some_iff.mp e).1
          rw [List.length_reverse] at this; exact this
        rw [List.getElem?_reverse hi] at e
        obtain ⟨u1, f1, g1⟩ := rl.get e
        have := y2 us (k.seq hq)
        rw [rl.length, f1] at this
        cases this
        exact .inl ⟨y1, g1⟩
/-! ### comprehensions -/
def wipeS (st : Sl) : List Nat → Sl
  | [] => st
  | v :: vs => (wipeS st vs).set v none
theorem wipeS_length (st : Sl) : ∀ vs, (wipeS st vs).length = st.length
  | [] => rfl
  | v :: vs => by unfold wipeS; rw [List.length_set, wipeS_length st vs]
theorem wipe_get (σ : St) (k : Nat) : ∀ vs : List Nat, (wipe σ vs)[k]? = if k ∈ vs then (σ[k]?).map fun _ => none else σ[k]?
  | [] => by simp [wipe]
  | v :: vs => by
    unfold wipe
    by_cases hv : v = k
    · subst hv
      rw [if_pos (by simp)]
      by_cases hl : v < σ.length
      · rw [List.getElem?_set_self (by rw [wipe_length]; exact hl)]
        simp [hl]
      · rw [List.getElem?_eq_none (by rw [List.length_set, wipe_length]; omega), List.getElem?_eq_none (by omega)]
        rfl
    · rw [List.getElem?_set_ne hv, wipe_get σ k vs]
      have hkv : ¬ k = v := fun e => hv e.symm
      by_cases hk : k ∈ vs
      · rw [if_pos hk, if_pos (by simp [hk])]
      · rw [if_neg hk, if_neg (by simp [hk, hkv])]
theorem wipe_ext {σ σ' : St} {vs : List Nat} (hl : σ'.length = σ.length) (h : ∀ k, k ∉ vs → σ'[k]? = σ[k]?) : wipe σ' vs = wipe σ vs := by
  apply List.ext_getElem?
  intro k
  rw [wipe_get, wipe_get]
  by_cases hk : k ∈ vs
  · rw [if_pos hk, if_pos hk]
    by_cases hl2 : k < σ.length
    · simp [hl2, hl ▸ hl2]
    · rw [List.getElem?_eq_none (by omega), List.getElem?_eq_none (by omega)]
  · rw [if_neg hk, if_neg hk]
    exact h k hk
theorem wipe_wipe (σ : St) (vs : List Nat) : wipe (wipe σ vs) vs = wipe σ vs := wipe_ext (wipe_length _ _) fun k hk => by rw [wipe_get, if_neg hk]
mutual
theorem Ow.det {S S' H : Hp} : ∀ {v : V} {o : O} {f g : List Addr}, Ow K S H v o f → Ow K S' H v o g → f = g
  | _, _, _, _, .sh _, .sh _ => rfl
  | _, _, _, _, .lst h r, .lst h' r' => by
    rw [h] at h'
    cases h'
    rw [OwL.det r r']
  | _, _, _, _, .tup h r, .tup h' r' => by
    rw [h] at h'
    cases h'
    rw [OwL.det r r']
theorem OwL.det {S S' H : Hp} : ∀ {vs : List V} {os : List O} {f g : List Addr}, OwL K S H vs os f → OwL K S' H vs os g → f = g
  | _, _, _, _, .nil, .nil => rfl
  | _, _, _, _, .cons h r, .cons h' r' => by rw [Ow.det h h', OwL.det r r']
end
theorem OwSt.det {S S' H : Hp} : ∀ {σ : St} {st : Sl} {f g : List Addr}, OwSt K S H σ st f → OwSt K S' H σ st g → f = g
  | _, _, _, _, .nil, .nil => rfl
  | _, _, _, _, .none r, .none r' => r.det r'
  | _, _, _, _, .some h r, .some h' r' => by rw [h.det h', r.det r']
theorem OwSt.unset {S H : Hp} {σ : St} {st : Sl} {f : List Addr} (w : OwSt K S H σ st f) (i : Nat) : ∃ f', OwSt K S H (σ.set i Option.none) (st.set i Option.none) f' ∧ ∀ b ∈ f', b ∈ f ∧ (f.Nodup → f'.Nodup) := by
  by_cases hi : i < st.length
  · obtain ⟨f1, g, f2, e, _, h⟩ := w.set hi
    refine ⟨f1 ++ f2, h S H Option.none (.refl _) fun _ _ => rfl, fun b hb => ?_⟩
    subst e
    refine ⟨by simp only [List.mem_append] at hb ⊢; rcases hb with z | z; exact .inl (.inl z); exact .inr z, fun nd => ?_⟩
    simp only [List.nodup_append, List.mem_append] at nd ⊢
    exact ⟨nd.1.1, nd.2.1, fun a ha b hb => nd.2.2 a (.inl ha) b hb⟩
  · rw [List.set_eq_of_length_le (by rw [w.length]; omega), List.set_eq_of_length_le (by omega)]
    exact ⟨f, w, fun b hb => ⟨hb, id⟩⟩
theorem RS.unset {S T : Hp} {st : Sl} {σ : St} {H : Hp} (r : RS K S T st σ H) (i : Nat) : RS K S T (st.set i none) (σ.set i none) H := by
  obtain ⟨f, w, nd, k⟩ := r.own
  obtain ⟨f', w', h⟩ := w.unset i
  refine ⟨r.lo, r.th, f', w', ?_, fun b hb => k b (h b hb).1⟩
  cases f' with
  | nil => exact .nil
  | cons a l => exact (h a (by simp)).2 nd
theorem RS.wipe {S T : Hp} {st : Sl} {σ : St} {H : Hp} (r : RS K S T st σ H) : ∀ vs : List Nat, RS K S T (wipeS st vs) (L2.wipe σ vs) H
  | [] => r
  | v :: vs => by
    unfold wipeS L2.wipe
    exact (r.wipe vs).unset v
def noEx {α : Type} : Rs α → Rs α
  | .ok a => .ok a
  | _ => .bad
def lcF (tg : D → Sl → Option Sl) (ts : Sl → Rs Bool) (el : Sl → Rs O) (st : Sl) : List D → Rs (List O)
  | [] => .ok []
  | d :: ds => match tg d st with
    | none => .bad
    | some st1 => (noEx (ts st1)).bind fun b => if b = true then (noEx (el st1)).bind fun o => (lcF tg ts el st ds).bind fun os => .ok (o :: os) else lcF tg ts el st ds
abbrev W0 : WX := fun _ _ _ _ => False
/-- the blocks of a comprehension in X -/
abbrev Bk (ι : Type) := ι × Shared × Hp × Addr × List (Str × Addr) × List Addr
abbrev blkf (X : ι → Cx) (scope : Scope) : Bk ι → Cx := fun z => (X z.1).blk z.2.1 z.2.2.1 scope (compEnvC scope z.2.2.2.2.1 z.2.2.2.1 (X z.1).env) z.2.2.2.2.2
def lenOk {α : Type} (r : Rs (List α)) : Rs (List α) := r.bind fun os => if os.length < sizeLine then .ok os else .bad
def lcR (it : Rs (List D)) (tg : D → Sl → Option Sl) (ts : Sl → Rs Bool) (el : Sl → Rs O) (vs : List Nat) (st : Sl) : Rs O := mapRs O.lst (it.bind fun ds => lenOk (lcF tg ts el (wipeS st vs) ds))
theorem f_lc {R : TE → Prop} {elt tgE iter : Expr} {ifs : List Expr} {scope : Scope} {vs us : List Nat} {fi : Sl → Rs (List D)} {tg : D → Sl → Option Sl} {ts : Sl → Rs Bool} {el : Sl → Rs O}
    (hp : ∀ wi g tt te, PIf X tgE iter wi → PGf (blkf X scope) tgE g → PTsf (blkf X scope) ifs tt → PEf (blkf X scope) elt te → R (tLc wi g tt te vs))
    (hi : EI K W cl (PIf X tgE iter) fi) (hg : EG K (PGf (blkf X scope) tgE) us tg) (ht : ET K W0 cl (PTsf (blkf X scope) ifs) ts) (he : EF K W0 cl (PEf (blkf X scope) elt) el) (hu : ∀ k ∈ us, k ∈ vs := by decide) :
    EF K W cl R fun st => lcR (fi st) tg ts el vs st := by
  obtain ⟨wi, pi, ki⟩ := hi.ex
  obtain ⟨g, pg, kg⟩ := hg.ex
  obtain ⟨tt, pt, kt⟩ := ht.ex
  obtain ⟨te, pe, ke⟩ := he.ex
  refine ⟨_, hp _ _ _ _ pi pg pt pe, fun S T st σ H Q r q => ki S T st σ H _ r ?_⟩
  have q : PF K cl W S T σ H (lcR (fi st) tg ts el vs st) Q := q
  revert q
  unfold lcR
  cases fi st with
  | bad => exact fun q => q
  | ex c => exact fun q => q
  | ok ds =>
    intro q J S1 T1 H1 h1 x1 r1 y1 D hD
    have q : PF K cl W S T σ H (mapRs O.lst (lenOk (lcF tg ts el (wipeS st vs) ds))) Q := q
    cases e0 : lcF tg ts el (wipeS st vs) ds with
    | bad => rw [e0] at q; exact q.elim
    | ex c =>
      -- a comprehension lets nothing out
      exfalso
      have noex : ∀ ds c, lcF tg ts el (wipeS st vs) ds ≠ .ex c := by
        intro ds
        induction ds with
        | nil => intro c h; cases h
        | cons d ds ih =>
          intro c h
          unfold lcF at h
          cases e1 : tg d (wipeS st vs) with
          | none => rw [e1] at h; cases h
          | some st1 =>
            rw [e1] at h
            dsimp only at h
            cases e2 : noEx (ts st1) with
            | bad => rw [e2] at h; cases h
            | ex c =>
              cases e3 : ts st1 with
              | ok _ => rw [e3] at e2; cases e2
              | ex _ => rw [e3] at e2; cases e2
              | bad => rw [e3] at e2; cases e2
            | ok b =>
              rw [e2] at h
              cases b with
              | false => exact ih _ h
              | true =>
                have h : ((noEx (el st1)).bind fun o => (lcF tg ts el (wipeS st vs) ds).bind fun os => Rs.ok (o :: os)) = .ex c := h
                cases e3 : noEx (el st1) with
                | bad => rw [e3] at h; cases h
                | ex c =>
                  cases e4 : el st1 with
                  | ok _ => rw [e4] at e3; cases e3
                  | ex _ => rw [e4] at e3; cases e3
                  | bad => rw [e4] at e3; cases e3
                | ok o =>
                  rw [e3] at h
                  have h : (lcF tg ts el (wipeS st vs) ds).bind (fun os => Rs.ok (o :: os)) = .ex c := h
                  cases e4 : lcF tg ts el (wipeS st vs) ds with
                  | bad => rw [e4] at h; cases h
                  | ok _ => rw [e4] at h; cases h
                  | ex c' => exact ih _ e4
      exact noex ds c e0
    | ok all =>
      rw [e0] at q
      have q : PF K cl W S T σ H (mapRs O.lst (if all.length < sizeLine then .ok all else .bad)) Q := q
      by_cases hall : all.length < sizeLine
      · rw [if_pos hall] at q
        have q : PF K cl W S T σ H (.ok (.lst all)) Q := q
        -- the list so far
        let Pv : Nat → Hp → Prop := fun i H2 => ∃ S2 T2 acc os f rest, Same H1 H2 ∧ Ext S1 T1 H1 S2 T2 ∧ RS K S2 T2 (wipeS st vs) (wipe σ vs) H2 ∧ H2 D = some (.lst acc) ∧ OwL K S2 H2 acc os f ∧ (D :: f).Nodup ∧
          (∀ b ∈ D :: f, T2 b = none ∧ H1 b = none) ∧ lcF tg ts el (wipeS st vs) (ds.drop i) = .ok rest ∧ os ++ rest = all
        have st0 : Pv 0 (upd H1 D (.lst [])) := by
          have hu := same_upd (o := .lst []) hD
          refine ⟨S1, T1, [], [], [], all, hu, .refl, (r1.wipe vs).mono hu, upd_same, .nil, by simp, fun b hb => ?_, by rw [List.drop_zero]; exact e0, rfl⟩
          rw [List.mem_singleton] at hb
          subst hb
          exact ⟨r1.th.free hD, hD⟩
        refine ⟨fun i m H2 => m = ds.length - i ∧ i ≤ ds.length ∧ Pv i H2, ⟨ds.length, by simp, Nat.zero_le _, st0⟩, ?_⟩
        rintro i m H2 ⟨rfl, hi, S2, T2, acc, os, f, rest, hs, x2, r2, hl, ow, nd, fr, er, eo⟩
        by_cases hlt : i < ds.length
        · refine .inr ⟨y1.go i H2 (x2.s.trans r2.sh) hlt, fun H3 => Pv (i + 1) H3, fun H3 p3 => ⟨ds.length - (i + 1), by omega, rfl, hlt, p3⟩, fun x H3 y => ?_⟩
          have ed : ds[i]? = some ds[i] := by simp [hlt]
          have yl := (y1.mono x2.s).yld i H2 x H3 ds[i] r2.sh ed y
          obtain ⟨S3, T3, hs3, x3, r3, rp3⟩ := yl.ext r2
          have edrop : ds.drop i = ds[i] :: ds.drop (i + 1) := by rw [List.drop_eq_getElem_cons hlt]
          rw [edrop] at er
          unfold lcF at er
          cases e1 : tg ds[i] (wipeS st vs) with
          | none => rw [e1] at er; cases er
          | some st1 =>
            rw [e1] at er
            dsimp only at er
            refine kg S3 T3 (wipeS st vs) (wipe σ vs) H3 x ds[i] st1 _ r3 rp3 e1 fun σ4 l4 k4 r4 => ⟨?_, ?_⟩
            · rw [← wipe_wipe σ vs]
              exact wipe_ext l4 fun k hk => k4 k fun z => hk (hu k z)
            · refine kt S3 T3 st1 σ4 H3 _ r4 ?_
              cases e2 : ts st1 with
              | bad => rw [e2] at er; cases er
              | ex c => rw [e2] at er; cases er
              | ok b =>
                rw [e2] at er
                intro H4 h4
                have up : Same H1 H4 := hs.trans (hs3.trans h4)
                have x13 : Ext S1 T1 H1 S3 T3 := x2.trans hs x3
                -- what stood of the list stands
                have kept : ∀ {S5 T5 H5 : Hp}, Same H4 H5 → Same S3 S5 → (∀ b, H4 b ≠ none → T5 b = T3 b) → H5 D = some (.lst acc) ∧ OwL K S5 H5 acc os f ∧ (∀ b ∈ D :: f, T5 b = none) := fun {S5 T5 H5} a b c => by
                  have e5 : Same H2 H5 := (hs3.trans h4).trans a
                  refine ⟨e5 _ _ hl, ow.mono (x3.s.trans b) fun z hz => same_ne e5 (ow.there z hz), fun z hz => ?_⟩
                  have hz2 : H2 z ≠ none := by
                    rcases List.mem_cons.mp hz with rfl | hz
                    · rw [hl]; simp
                    · exact ow.there z hz
                  rw [c z (by rw [same_ne (hs3.trans h4) hz2]; exact hz2), (x3.old z hz2).2]
                  exact (fr z hz).1
                cases b with
                | false =>
                  refine iteF ?_
                  obtain ⟨k1, k2, k3⟩ := kept (S5 := S3) (T5 := T3) (.refl H4) (.refl _) fun _ _ => rfl
                  exact ⟨S3, T3, acc, os, f, rest, up, x13, r3.mono h4, k1, k2, nd, fun z hz => ⟨k3 z hz, (fr z hz).2⟩, er, eo⟩
                | true =>
                  refine iteT (ke S3 T3 st1 σ4 H4 _ (r4.mono h4) ?_)
                  have er : ((noEx (el st1)).bind fun o => (lcF tg ts el (wipeS st vs) (ds.drop (i + 1))).bind fun os => Rs.ok (o :: os)) = .ok rest := er
                  cases e3 : el st1 with
                  | bad => rw [e3] at er; cases er
                  | ex c => rw [e3] at er; cases er
                  | ok o =>
                    rw [e3] at er
                    have er : (lcF tg ts el (wipeS st vs) (ds.drop (i + 1))).bind (fun os => Rs.ok (o :: os)) = .ok rest := er
                    cases e4 : lcF tg ts el (wipeS st vs) (ds.drop (i + 1)) with
                    | bad => rw [e4] at er; cases er
                    | ex c => rw [e4] at er; cases er
                    | ok rest' =>
                      rw [e4] at er
                      cases er
                      intro v S5 T5 H5 g5 h5 x5 s5 t5 w5 n5 k5
                      obtain ⟨k1, k2, k3⟩ := kept h5 x5.s fun z hz => (x5.old z hz).2
                      have hln : acc.length = os.length := k2.length
                      have hal : os.length < sizeLine := by
                        have := congrArg List.length eo
                        rw [List.length_append, List.length_cons] at this
                        omega
                      refine ⟨acc, k1, by rw [hln]; exact hal, ?_⟩
                      have Df : D ∉ f := (List.nodup_cons.mp nd).1
                      have Dg : D ∉ g5 := fun z => by
                        have := (k5 D z).2
                        have e6 : H4 D = some (.lst acc) := (hs3.trans h4) _ _ hl
                        rw [e6] at this; cases this
                      have same6 : ∀ b, b ≠ D → (upd H5 D (.lst (acc ++ [v]))) b = H5 b := fun b hb => upd_ne hb
                      have T5D : T5 D = none := k3 D (by simp)
                      have r5 : RS K S5 T5 (wipeS st vs) (wipe σ vs) H5 := (r3.mono h4).ext h5 x5 s5 t5
                      obtain ⟨fs, ws, ns, ks⟩ := r5.own
                      have Dfs : D ∉ fs := fun z => by
                        -- D is new, the slots' trees are old
                        obtain ⟨fs0, ws0, _, _⟩ := (r1.wipe vs).own
                        have th0 := ws0.there
                        have e15 : Same H1 H5 := up.trans h5
                        have := (ws0.mono (.refl _) fun b hb => same_ne e15 (th0 b hb)).det ws
                        subst this
                        exact th0 D z hD
                      refine ⟨S5, T5, acc ++ [v], os ++ [o], f ++ g5, rest', fun b u e => ?_, x13.trans up x5, ⟨s5, fun b u e => ?_, fs, ws.mono (.refl _) fun b hb => same6 b fun e => Dfs (e ▸ hb), ns, ks⟩, upd_same, ?_, ?_, fun b hb => ?_, e4, ?_⟩
                      · rw [same6 b (ne_of_none e hD)]; exact h5 _ _ (up _ _ e)
                      · rw [same6 b fun z => by rw [z, T5D] at e; cases e]; exact t5 _ _ e
                      · have w1 : OwL K S5 (upd H5 D (.lst (acc ++ [v]))) acc os f := k2.mono (.refl _) fun b hb => same6 b fun e => Df (e ▸ hb)
                        have w2 : Ow K S5 (upd H5 D (.lst (acc ++ [v]))) v o g5 := w5.mono (.refl _) fun b hb => same6 b fun e => Dg (e ▸ hb)
                        have := w1.append (.cons w2 .nil)
                        simpa using this
                      · rw [List.nodup_cons, List.mem_append, List.nodup_append]
                        refine ⟨fun z => z.elim Df Dg, (List.nodup_cons.mp nd).2, n5, fun a ha b hb e => ?_⟩
                        have := (k5 b hb).2
                        subst e
                        have th : H2 a ≠ none := ow.there a ha
                        rw [same_ne (hs3.trans h4) th] at this
                        exact th this
                      · rcases List.mem_cons.mp hb with rfl | hb
                        · exact ⟨T5D, hD⟩
                        · rcases List.mem_append.mp hb with hb | hb
                          · exact ⟨k3 b (List.mem_cons_of_mem _ hb), (fr b (List.mem_cons_of_mem _ hb)).2⟩
                          · exact ⟨(k5 b hb).1, up.free (k5 b hb).2⟩
                      · rw [List.append_assoc]; exact eo
        · have e : i = ds.length := by omega
          subst e
          rw [List.drop_length] at er
          cases er
          rw [List.append_nil] at eo
          subst eo
          refine .inl ⟨y1.stop _ H2 (x2.s.trans r2.sh) (Nat.le_refl _), ?_⟩
          exact q (.ref D) S2 T2 H2 (D :: f) (h1.trans hs) (x1.trans h1 x2) r2.lo r2.th (.lst hl ow) nd fun b hb => ⟨(fr b hb).1, h1.free (fr b hb).2⟩
      · rw [if_neg hall] at q
        exact q.elim
end
end M

/-! Statements, loops, defs. -/
namespace M
open PySem L2
section
variable {ι : Type} {X : ι → Cx} {W : WX} {cl : Cl} {K : PySem.W.Frag}
/-- a slot's tree and what may be put in its place -/
theorem RS.focus {S T : Hp} {st : Sl} {σ : St} {H : Hp} {i : Nat} {o : O} (r : RS K S T st σ H) (e : st[i]? = some (some o)) : ∃ v g, σ[i]? = some (some v) ∧ Ow K S H v o g ∧ g.Nodup ∧ (∀ b ∈ g, T b = none) ∧
    (∀ f, OwSt K S H σ st f → ∀ b ∈ g, b ∈ f) ∧
    ∀ (H2 : Hp) (o2 : O) (g2 : List Addr), (∀ b, b ∉ g → H2 b = H b) → Ow K S H2 v o2 g2 → g2.Nodup → (∀ b ∈ g2, b ∈ g ∨ (T b = none ∧ ∀ f, OwSt K S H σ st f → b ∉ f)) → RS K S T (st.set i (some o2)) σ H2 := by
  obtain ⟨f, w, nd, k⟩ := r.own
  obtain ⟨v, f1, g, f2, h1, h2, h3, h4, _⟩ := w.get e
  subst h2
  have nd' := nd
  simp only [List.nodup_append, List.mem_append] at nd'
  obtain ⟨⟨n1, n2, n3⟩, n4, n5⟩ := nd'
  refine ⟨v, g, h1, h3, n2, fun b hb => k b (by simp [hb]), fun f' w' b hb => ?_, fun H2 o2 g2 hk w2 nd2 hg2 => ?_⟩
  · rw [← w.det w']; simp [hb]
  have out : ∀ b ∈ f1 ++ f2, b ∉ g := fun b hb hg => by
    rcases List.mem_append.mp hb with z | z
    · exact n3 b z b hg rfl
    · exact n5 b (.inr hg) b z rfl
  have hσ : σ.set i (some v) = σ := by
    apply List.ext_getElem?
    intro j
    by_cases hj : i = j
    · subst hj
      have := (List.getElem?_eq_some_iff.mp h1).1
      rw [List.getElem?_set_self this, h1]
    · rw [List.getElem?_set_ne hj]
  have w3 := h4 S H2 v o2 g2 (.refl _) (fun b hb => hk b (out b hb)) w2
  rw [hσ] at w3
  refine ⟨r.lo, fun b u e => ?_, _, w3, ?_, fun b hb => ?_⟩
  · rw [hk b fun z => by rw [k b (by simp [z])] at e; cases e]
    exact r.th b u e
  · simp only [List.nodup_append, List.mem_append]
    have dj : ∀ b ∈ g2, b ∉ f1 ∧ b ∉ f2 := fun b hb => by
      rcases hg2 b hb with z | ⟨_, z⟩
      · exact ⟨fun y => n3 b y b z rfl, fun y => n5 b (.inr z) b y rfl⟩
      · have := z _ w
        simp only [List.mem_append, not_or] at this
        exact ⟨this.1.1, this.2⟩
    refine ⟨⟨n1, nd2, fun a ha b hb e => (dj b hb).1 (e ▸ ha)⟩, n4, fun a ha b hb e => ?_⟩
    rcases ha with ha | ha
    · exact n5 a (.inl ha) b hb e
    · exact (dj a ha).2 (e ▸ hb)
  · simp only [List.mem_append] at hb
    rcases hb with (hb | hb) | hb
    · exact k b (by simp [hb])
    · rcases hg2 b hb with z | z
      · exact k b (by simp [z])
      · exact z.1
    · exact k b (by simp [hb])
/-- fresh knots are in no slot's tree -/
theorem RS.fresh {S T S1 T1 : Hp} {st : Sl} {σ : St} {H H1 : Hp} {g : List Addr} (r : RS K S T st σ H) (h : Same H H1) (hn : ∀ b ∈ g, T1 b = none ∧ H b = none) : ∀ b ∈ g, T1 b = none ∧ ∀ f, OwSt K S1 H1 σ st f → b ∉ f := fun b hb => by
  refine ⟨(hn b hb).1, fun f w hf => ?_⟩
  obtain ⟨f0, w0, _, _⟩ := r.own
  have th := w0.there
  have := (w0.mono (H' := H1) (.refl _) fun c hc => same_ne h (th c hc)).det w
  subst this
  exact th b hf (hn b hb).2
def setO (i : Nat) (r : Rs O) (st : Sl) : Fl := match r with
  | .ok o => if i < st.length then .nx (st.set i (some o)) else .bad
  | .ex c => .ex c
  | .bad => .bad
/-- x = e, x takes the tree -/
theorem s_setO {R : TE → Prop} {i : Nat} {s : Stmt} {f : Sl → Rs O} (hp : ∀ t, R t → PSf X s (tAsg t (gName i))) (h : EF K W cl R f) : SJ K W cl (PSf X s) fun st => setO i (f st) st := by
  obtain ⟨t, p, a⟩ := h.ex
  refine ⟨_, hp _ p, fun S T st σ H E r q => a S T st σ H _ r ?_⟩
  have q : PSt K cl W S T (setO i (f st) st) E := q
  revert q
  unfold setO
  cases f st with
  | bad => exact fun q => q
  | ex c => exact fun q H1 h1 => q σ T H1 (.refl _) (r.th.trans h1)
  | ok o =>
    intro q v S1 T1 H1 g h1 x1 s1 t1 w1 n1 k1
    have q : PSt K cl W S T (if i < st.length then .nx (st.set i (some o)) else .bad) E := q
    by_cases c : i < st.length
    · rw [if_pos c] at q
      have r1 := r.ext h1 x1 s1 t1
      have fr := r.fresh (S1 := S1) h1 k1
      exact q S1 T1 (σ.set i (some v)) H1 (x1.ex3 r.th) (r1.set c w1 n1 (fun b hb => (k1 b hb).1) fun f w b hb => (fr b hb).2 f w)
    · rw [if_neg c] at q
      exact q.elim
def asgR (g : D → Sl → Option Sl) (r : Rs D) (st : Sl) : Fl := match r with
  | .ok d => match g d st with
    | some st' => .nx st'
    | none => .bad
  | .ex c => .ex c
  | .bad => .bad
/-- target = e, of what stays -/
theorem s_asg {R : TE → Prop} {tg : Expr} {vs : List Nat} {s : Stmt} {f : Sl → Rs D} {g : D → Sl → Option Sl} (hp : ∀ t u, R t → PGf X tg u → PSf X s (tAsg t u)) (hg : EG K (PGf X tg) vs g) (h : EP K W cl R f) : SJ K W cl (PSf X s) fun st => asgR g (f st) st := by
  obtain ⟨t, p, a⟩ := h.ex
  obtain ⟨u, pu, b⟩ := hg.ex
  refine ⟨_, hp _ _ p pu, fun S T st σ H E r q => a S T st σ H _ r ?_⟩
  have q : PSt K cl W S T (asgR g (f st) st) E := q
  revert q
  unfold asgR
  cases f st with
  | bad => exact fun q => q
  | ex c => exact fun q H1 h1 => q σ T H1 (.refl _) (r.th.trans h1)
  | ok d =>
    intro q v S1 T1 H1 h1 x1 s1 t1 w1
    cases e : g d st with
    | none =>
      have q : PSt K cl W S T (match g d st with | some st' => .nx st' | none => .bad) E := q
      rw [e] at q
      exact q.elim
    | some st' =>
      have q : PSt K cl W S T (match g d st with | some st' => .nx st' | none => .bad) E := q
      rw [e] at q
      exact b S1 T1 st σ H1 v d st' _ (r.ext h1 x1 s1 t1) w1 e fun σ' _ _ r' => q S1 T1 σ' H1 (x1.ex3 r.th) r'
/-- x = e by the slot -/
theorem s_set {R : TE → Prop} {i : Nat} {s : Stmt} {f : Sl → Rs D} (hp : ∀ t, R t → PSf X s (tAsg t (gName i))) (h : EP K W cl R f) : SJ K W cl (PSf X s) fun st => setO i (mapRs O.sh (f st)) st := s_setO hp h.f
/-- a, b = e1, e2: two names -/
def parR (i j : Nat) (r : Rs (List D)) (st : Sl) : Fl := match r with
  | .ok [d, e] => if i < st.length ∧ j < st.length then .nx ((st.set i (some (.sh d))).set j (some (.sh e))) else .bad
  | .ok _ => .bad
  | .ex c => .ex c
  | .bad => .bad
theorem s_par {R : TA → Prop} {i j : Nat} {s : Stmt} {f : Sl → Rs (List D)} (hp : ∀ t, R t → PSf X s (tPar i j t)) (h : EPs K W cl R f) : SJ K W cl (PSf X s) fun st => parR i j (f st) st := by
  obtain ⟨t, p, a⟩ := h.ex
  refine ⟨_, hp _ p, fun S T st σ H E r q => a S T st σ H _ r ?_⟩
  have q : PSt K cl W S T (parR i j (f st) st) E := q
  revert q
  cases f st with
  | bad => exact fun q => q
  | ex c => exact fun q H1 h1 => q σ T H1 (.refl _) (r.th.trans h1)
  | ok ds =>
    intro q vs S1 T1 H1 h1 x1 s1 t1 r1
    cases r1 with
    | nil => exact q.elim
    | cons ha r1 =>
      cases r1 with
      | nil => exact q.elim
      | cons hb r1 =>
        cases r1 with
        | cons _ _ => exact q.elim
        | nil =>
          rename_i v d w e
          have q : PSt K cl W S T (if i < st.length ∧ j < st.length then .nx ((st.set i (some (.sh d))).set j (some (.sh e))) else .bad) E := q
          by_cases c : i < st.length ∧ j < st.length
          · rw [if_pos c] at q
            exact ⟨v, w, rfl, q S1 T1 _ H1 (x1.ex3 r.th) (((r.ext h1 x1 s1 t1).setSh c.1 ha).setSh (by rw [List.length_set]; exact c.2) hb)⟩
          · rw [if_neg c] at q
            exact q.elim
def retR (r : Rs O) : Fl := match r with
  | .ok o => .rt o
  | .ex c => .ex c
  | .bad => .bad
theorem s_ret {R : TE → Prop} {s : Stmt} {f : Sl → Rs O} (hp : ∀ t, R t → PSf X s (tRet t)) (h : EF K W cl R f) : SJ K W cl (PSf X s) fun st => retR (f st) := by
  obtain ⟨t, p, a⟩ := h.ex
  refine ⟨_, hp _ p, fun S T st σ H E r q => a S T st σ H _ r ?_⟩
  have q : PSt K cl W S T (retR (f st)) E := q
  revert q
  cases f st with
  | bad => exact fun q => q
  | ex c => exact fun q H1 h1 => q σ T H1 (.refl _) (r.th.trans h1)
  | ok o => exact fun q v S1 T1 H1 g h1 x1 s1 t1 w1 n1 k1 => q v S1 T1 H1 g (x1.ex3 r.th) s1 t1 w1 n1 fun b hb => (k1 b hb).1
/-- return x, with its tree -/
def retN (i : Nat) (st : Sl) : Fl := match st[i]? with
  | some (some o) => .rt o
  | _ => .bad
theorem s_retN {i : Nat} {s : Stmt} (hp : PSf X s (tRet (tVar i))) : SJ K W cl (PSf X s) (retN i) := by
  refine ⟨_, hp, fun S T st σ H E r q => ?_⟩
  unfold retN at q
  revert q
  cases e : st[i]? with
  | none => exact fun q => q.elim
  | some z =>
    cases z with
    | none => exact fun q => q.elim
    | some o =>
      intro q
      obtain ⟨v, g, h1, h2, h3, h4, _⟩ := r.focus e
      exact ⟨v, h1, q v S T H g .refl r.lo r.th h2 h3 h4⟩
theorem s_ret0 {s : Stmt} (hp : PSf X s tRetN) : SJ K W cl (PSf X s) fun _ => .rt (.sh .non) := by
  refine ⟨_, hp, fun S T st σ H E r q => ?_⟩
  exact q .non S T H [] .refl r.lo r.th (.sh .non) .nil fun b hb => by cases hb
def ifS (c : Rs Bool) (a b : Fl) : Fl := match c with
  | .ok k => if k = true then a else b
  | .ex c => .ex c
  | .bad => .bad
theorem s_if {c : Expr} {a b : List Stmt} {pos : Pos} {fc : Sl → Rs Bool} {f g : Sl → Fl} (hc : ET K W cl (PTf X c) fc) (ha : SJ K W cl (PSsf X a) f) (hb : SJ K W cl (PSsf X b) g) : SJ K W cl (PSf X (.If c a b pos)) fun st => ifS (fc st) (f st) (g st) := by
  obtain ⟨t, p, k⟩ := hc.ex
  obtain ⟨ta, pa, ka⟩ := ha.ex
  obtain ⟨tb, pb, kb⟩ := hb.ex
  refine ⟨_, fun z => ps_if (p z) (pa z) (pb z), fun S T st σ H E r q => k S T st σ H _ r ?_⟩
  have q : PSt K cl W S T (ifS (fc st) (f st) (g st)) E := q
  revert q
  cases fc st with
  | bad => exact fun q => q
  | ex c => exact fun q H1 h1 => q σ T H1 (.refl _) (r.th.trans h1)
  | ok k =>
    cases k with
    | true => exact fun q H1 h1 => iteT (ka S T st σ H1 E (r.mono h1) q)
    | false => exact fun q H1 h1 => iteF (kb S T st σ H1 E (r.mono h1) q)
def dropR (r : Rs D) (st : Sl) : Fl := match r with
  | .ok _ => .nx st
  | .ex c => .ex c
  | .bad => .bad
theorem s_expr {R : TE → Prop} {s : Stmt} {f : Sl → Rs D} (hp : ∀ t, R t → PSf X s (tDrop t)) (h : EV K W cl R f) : SJ K W cl (PSf X s) fun st => dropR (f st) st := by
  obtain ⟨t, p, a⟩ := h.ex
  refine ⟨_, hp _ p, fun S T st σ H E r q => a S T st σ H _ r ?_⟩
  have q : PSt K cl W S T (dropR (f st) st) E := q
  revert q
  cases f st with
  | bad => exact fun q => q
  | ex c => exact fun q H1 h1 => q σ T H1 (.refl _) (r.th.trans h1)
  | ok o => exact fun q v H1 h1 _ => q S T σ H1 .refl (r.mono h1)
theorem s_pass {s : Stmt} (hp : PSf X s tNext) : SJ K W cl (PSf X s) fun st => .nx st := ⟨_, hp, fun S T st σ H E r q => q S T σ H .refl r⟩
theorem s_break {s : Stmt} (hp : PSf X s tBreak) : SJ K W cl (PSf X s) fun st => .bk st := ⟨_, hp, fun S T st σ H E r q => q S T σ H .refl r⟩
theorem s_cont {s : Stmt} (hp : PSf X s tCont) : SJ K W cl (PSf X s) fun st => .ct st := ⟨_, hp, fun S T st σ H E r q => q S T σ H .refl r⟩
theorem s_raise {s : Stmt} {c : Str} (hp : PSf X s fun _ σ H => W (.ref (cl c)) none σ H) : SJ K W cl (PSf X s) fun _ => .ex c := ⟨_, hp, fun S T st σ H E r q => q σ T H (.refl _) r.th⟩
/-! ### loops -/
def forF (tg : D → Sl → Option Sl) (body : Sl → Fl) : List D → Sl → Fl
  | [], st => .nx st
  | d :: ds, st => match tg d st with
    | none => .bad
    | some st1 => match body st1 with
      | .nx st2 => forF tg body ds st2
      | .ct st2 => forF tg body ds st2
      | .bk st2 => .nx st2
      | .rt o => .rt o
      | .ex c => .ex c
      | .bad => .bad
def forR (it : Rs (List D)) (tg : D → Sl → Option Sl) (body : Sl → Fl) (st : Sl) : Fl := match it with
  | .ok ds => forF tg body ds st
  | .ex c => .ex c
  | .bad => .bad
theorem s_for {tgE iter : Expr} {bs : List Stmt} {s : Stmt} {us : List Nat} {fi : Sl → Rs (List D)} {tg : D → Sl → Option Sl} {body : Sl → Fl} (hp : ∀ wi g tb, PIf X tgE iter wi → PGf X tgE g → PSsf X bs tb → PSf X s (tFor wi g tb))
    (hi : EI K W cl (PIf X tgE iter) fi) (hg : EG K (PGf X tgE) us tg) (hb : SJ K W cl (PSsf X bs) body) : SJ K W cl (PSf X s) fun st => forR (fi st) tg body st := by
  obtain ⟨wi, pi, ki⟩ := hi.ex
  obtain ⟨g, pg, kg⟩ := hg.ex
  obtain ⟨tb, pb, kb⟩ := hb.ex
  refine ⟨_, hp _ _ _ pi pg pb, fun S T st σ H E r q => ki S T st σ H _ r ?_⟩
  have q : PSt K cl W S T (forR (fi st) tg body st) E := q
  revert q
  cases fi st with
  | bad => exact fun q => q
  | ex c => exact fun q H1 h1 => q σ T H1 (.refl _) (r.th.trans h1)
  | ok ds =>
    intro q J S1 T1 H1 h1 x1 r1 y1
    have q : PSt K cl W S1 T1 (forF tg body ds st) E := PSt.mono (x1.ex3 r.th) q
    refine ⟨fun i m σ2 H2 => m = ds.length - i ∧ i ≤ ds.length ∧ ∃ S2 T2 st2, Ex3 S1 T1 S2 T2 ∧ RS K S2 T2 st2 σ2 H2 ∧ PSt K cl W S2 T2 (forF tg body (ds.drop i) st2) E, ⟨ds.length, by simp, Nat.zero_le _, S1, T1, st, .refl, r1, by rw [List.drop_zero]; exact q⟩, ?_⟩
    rintro i m σ2 H2 ⟨rfl, hi, S2, T2, st2, x2, r2, q2⟩
    by_cases hlt : i < ds.length
    · have edrop : ds.drop i = ds[i] :: ds.drop (i + 1) := by rw [List.drop_eq_getElem_cons hlt]
      rw [edrop] at q2
      unfold forF at q2
      cases e1 : tg ds[i] st2 with
      | none => rw [e1] at q2; exact q2.elim
      | some st3 =>
        rw [e1] at q2
        dsimp only at q2
        refine .inr ⟨y1.go i H2 (x2.s.trans r2.sh) hlt, fun σ3 H3 => i + 1 ≤ ds.length ∧ ∃ S2 T2 st2, Ex3 S1 T1 S2 T2 ∧ RS K S2 T2 st2 σ3 H3 ∧ PSt K cl W S2 T2 (forF tg body (ds.drop (i + 1)) st2) E, fun σ3 H3 p3 => ⟨ds.length - (i + 1), by omega, rfl, p3⟩, fun x H3 y => ?_⟩
        have yl := (y1.mono x2.s).yld i H2 x H3 ds[i] r2.sh (by simp [hlt]) y
        obtain ⟨S3, T3, hs3, x3, r3, rp3⟩ := yl.ext r2
        have q3 := PSt.mono (x3.ex3 r2.th) q2
        refine kg S3 T3 st2 σ2 H3 x ds[i] st3 _ r3 rp3 e1 fun σ4 l4 k4 r4 => kb S3 T3 st3 σ4 H3 _ r4 ?_
        have x13 := x2.trans (x3.ex3 r2.th)
        revert q3
        cases body st3 with
        | nx st4 => exact fun q3 S5 T5 σ5 H5 x5 r5 => ⟨hlt, S5, T5, st4, x13.trans x5, r5, PSt.mono (r := forF tg body (ds.drop (i + 1)) st4) x5 q3⟩
        | ct st4 => exact fun q3 S5 T5 σ5 H5 x5 r5 => ⟨hlt, S5, T5, st4, x13.trans x5, r5, PSt.mono (r := forF tg body (ds.drop (i + 1)) st4) x5 q3⟩
        | bk st4 => exact fun q3 S5 T5 σ5 H5 x5 r5 => q3 S5 T5 σ5 H5 x5 r5
        | rt o => exact fun q3 => q3
        | ex c => exact fun q3 => q3
        | bad => exact fun q3 => q3
    · have e : i = ds.length := by omega
      subst e
      rw [List.drop_length] at q2
      exact .inl ⟨y1.stop _ H2 (x2.s.trans r2.sh) (Nat.le_refl _), q2 S2 T2 σ2 H2 .refl r2⟩
/-- a while, by fuel -/
def whileN (c : Sl → Rs Bool) (body : Sl → Fl) : Nat → Sl → Fl
  | 0, _ => .bad
  | n + 1, st => match c st with
    | .ex e => .ex e
    | .bad => .bad
    | .ok false => .nx st
    | .ok true => match body st with
      | .nx st2 => whileN c body n st2
      | .ct st2 => whileN c body n st2
      | .bk st2 => .nx st2
      | .rt o => .rt o
      | .ex e => .ex e
      | .bad => .bad
open Classical in
noncomputable def whileF (c : Sl → Rs Bool) (body : Sl → Fl) (st : Sl) : Fl := if h : ∃ n, whileN c body n st ≠ .bad then whileN c body h.choose st else .bad
theorem whileN_succ {c : Sl → Rs Bool} {body : Sl → Fl} : ∀ (n : Nat) (st : Sl), whileN c body n st ≠ .bad → whileN c body (n + 1) st = whileN c body n st
  | 0, st, h => absurd rfl h
  | n + 1, st, h => by
    unfold whileN at h ⊢
    cases e : c st with
    | ex _ => rfl
    | bad => rfl
    | ok b =>
      rw [e] at h
      cases b with
      | false => rfl
      | true =>
        dsimp only at h ⊢
        cases e2 : body st with
        | nx st2 =>
          rw [e2] at h
          exact whileN_succ n st2 h
        | ct st2 =>
          rw [e2] at h
          exact whileN_succ n st2 h
        | bk _ => rfl
        | rt _ => rfl
        | ex _ => rfl
        | bad => rfl
theorem whileN_le {c : Sl → Rs Bool} {body : Sl → Fl} {n : Nat} {st : Sl} (h : whileN c body n st ≠ .bad) : ∀ m, whileN c body (n + m) st = whileN c body n st
  | 0 => rfl
  | m + 1 => by
    have ih := whileN_le h m
    have := whileN_succ (n + m) st (by rw [ih]; exact h)
    exact this.trans ih
theorem whileN_eq {c : Sl → Rs Bool} {body : Sl → Fl} {n m : Nat} {st : Sl} (h : whileN c body n st ≠ .bad) (h2 : whileN c body m st ≠ .bad) : whileN c body n st = whileN c body m st := by
  rcases Nat.le_total n m with k | k
  · obtain ⟨d, rfl⟩ := Nat.exists_eq_add_of_le k
    exact (whileN_le h d).symm
  · obtain ⟨d, rfl⟩ := Nat.exists_eq_add_of_le k
    exact whileN_le h2 d
theorem whileF_of {c : Sl → Rs Bool} {body : Sl → Fl} {n : Nat} {st : Sl} (h : whileN c body n st ≠ .bad) : whileF c body st = whileN c body n st := by
  unfold whileF
  have ex : ∃ n, whileN c body n st ≠ .bad := ⟨n, h⟩
  rw [dif_pos ex]
  exact whileN_eq ex.choose_spec h
theorem whileF_bad {c : Sl → Rs Bool} {body : Sl → Fl} {st : Sl} (h : ∀ n, whileN c body n st = .bad) : whileF c body st = .bad := by
  unfold whileF
  rw [dif_neg fun ⟨n, k⟩ => k (h n)]
/-- one turn -/
theorem whileF_eq (c : Sl → Rs Bool) (body : Sl → Fl) (st : Sl) : whileF c body st = (match c st with
    | .ex e => .ex e
    | .bad => .bad
    | .ok false => .nx st
    | .ok true => match body st with
      | .nx st2 => whileF c body st2
      | .ct st2 => whileF c body st2
      | .bk st2 => .nx st2
      | .rt o => .rt o
      | .ex e => .ex e
      | .bad => .bad) := by
  by_cases h : ∃ n, whileN c body n st ≠ .bad
  · obtain ⟨n, h⟩ := h
    rw [whileF_of h]
    cases n with
    | zero => exact absurd rfl h
    | succ n =>
      unfold whileN at h ⊢
      cases e : c st with
      | ex _ => rfl
      | bad => rfl
      | ok b =>
        rw [e] at h
        cases b with
        | false => rfl
        | true =>
          dsimp only at h ⊢
          cases e2 : body st with
          | nx st2 => rw [e2] at h; exact (whileF_of h).symm
          | ct st2 => rw [e2] at h; exact (whileF_of h).symm
          | bk _ => rfl
          | rt _ => rfl
          | ex _ => rfl
          | bad => rfl
  · have h : ∀ n, whileN c body n st = .bad := fun n => Classical.byContradiction fun k => h ⟨n, k⟩
    rw [whileF_bad h]
    have h1 : ∀ n, whileN c body (n + 1) st = .bad := fun n => h (n + 1)
    unfold whileN at h1
    cases e : c st with
    | ex _ => rw [e] at h1; exact (h1 0).symm
    | bad => rfl
    | ok b =>
      rw [e] at h1
      cases b with
      | false => exact (h1 0).symm
      | true =>
        dsimp only at h1 ⊢
        cases e2 : body st with
        | nx st2 => rw [e2] at h1; exact (whileF_bad h1).symm
        | ct st2 => rw [e2] at h1; exact (whileF_bad h1).symm
        | bk _ => rw [e2] at h1; exact (h1 0).symm
        | rt _ => rw [e2] at h1; exact (h1 0).symm
        | ex _ => rw [e2] at h1; exact (h1 0).symm
        | bad => rfl
theorem s_while {c : Expr} {bs : List Stmt} {s : Stmt} {fc : Sl → Rs Bool} {body : Sl → Fl} (hp : ∀ tc tb, PTf X c tc → PSsf X bs tb → PSf X s (tWhile tc tb)) (hc : ET K W cl (PTf X c) fc) (hb : SJ K W cl (PSsf X bs) body) :
    SJ K W cl (PSf X s) (whileF fc body) := by
  obtain ⟨tc, pc, kc⟩ := hc.ex
  obtain ⟨tb, pb, kb⟩ := hb.ex
  refine ⟨_, hp _ _ pc pb, fun S T st σ H E r q => ?_⟩
  by_cases h : ∃ n, whileN fc body n st ≠ .bad
  · obtain ⟨n, h⟩ := h
    rw [whileF_of h] at q
    refine ⟨fun m σ2 H2 => ∃ S2 T2 st2, Ex3 S T S2 T2 ∧ RS K S2 T2 st2 σ2 H2 ∧ PSt K cl W S2 T2 (whileN fc body m st2) E, ⟨n, S, T, st, .refl, r, q⟩, ?_⟩
    rintro m σ2 H2 ⟨S2, T2, st2, x2, r2, q2⟩
    cases m with
    | zero => exact q2.elim
    | succ m =>
      refine kc S2 T2 st2 σ2 H2 _ r2 ?_
      unfold whileN at q2
      revert q2
      cases fc st2 with
      | bad => exact fun q => q
      | ex c => exact fun q H1 h1 => q σ2 T2 H1 (.refl _) (r2.th.trans h1)
      | ok b =>
        cases b with
        | false => exact fun q H1 h1 => iteF (q S2 T2 σ2 H1 .refl (r2.mono h1))
        | true =>
          intro q H1 h1
          refine iteT ⟨fun σ3 H3 => ∃ S2 T2 st2, Ex3 S T S2 T2 ∧ RS K S2 T2 st2 σ3 H3 ∧ PSt K cl W S2 T2 (whileN fc body m st2) E, fun σ3 H3 p3 => ⟨m, Nat.lt_succ_self _, p3⟩, kb S2 T2 st2 σ2 H1 _ (r2.mono h1) ?_⟩
          revert q
          show PSt K cl W S2 T2 (match body st2 with
            | .nx st2 => whileN fc body m st2
            | .ct st2 => whileN fc body m st2
            | .bk st2 => .nx st2
            | .rt o => .rt o
            | .ex e => .ex e
            | .bad => .bad) E → _
          cases body st2 with
          | nx st4 => exact fun q3 S5 T5 σ5 H5 x5 r5 => ⟨S5, T5, st4, x2.trans x5, r5, PSt.mono (r := whileN fc body m st4) x5 q3⟩
          | ct st4 => exact fun q3 S5 T5 σ5 H5 x5 r5 => ⟨S5, T5, st4, x2.trans x5, r5, PSt.mono (r := whileN fc body m st4) x5 q3⟩
          | bk st4 => exact fun q3 S5 T5 σ5 H5 x5 r5 => q3 S5 T5 σ5 H5 x5 r5
          | rt o => exact fun q3 => q3
          | ex c => exact fun q3 => q3
          | bad => exact fun q3 => q3
  · have h : ∀ n, whileN fc body n st = .bad := fun n => Classical.byContradiction fun k => h ⟨n, k⟩
    rw [whileF_bad h] at q
    exact q.elim
/-! ### one's own lists changed -/
def appR (i : Nat) (r : Rs O) (st : Sl) : Fl := match st[i]? with
  | some (some (.lst os)) => match r with
    | .ok o => if os.length < sizeLine then .nx (st.set i (some (.lst (os ++ [o])))) else .bad
    | .ex c => .ex c
    | .bad => .bad
  | _ => .bad
theorem s_app {i : Nat} {e : Expr} {s : Stmt} {f : Sl → Rs O} (hp : ∀ t, PAf X [e] t → PSf X s (tDrop (tBM K "list" rAppend (tVar i) t))) (h : EF K W cl (PEf X e) f) (hs : ∀ z, starEach [e] (X z).env = [(false, eval e (X z).env)] := by intro _; rfl) :
    SJ K W cl (PSf X s) fun st => appR i (f st) st := by
  obtain ⟨t, p, a⟩ := h.ex
  refine ⟨_, hp _ fun z => pa_cons (p z) pa_nil (hs z), fun S T st σ H E r q => ?_⟩
  have q : PSt K cl W S T (appR i (f st) st) E := q
  unfold appR at q
  cases e0 : st[i]? with
  | none => rw [e0] at q; exact q.elim
  | some z =>
    rw [e0] at q
    cases z with
    | none => exact q.elim
    | some o0 =>
      cases o0 with
      | sh _ => exact q.elim
      | tup _ => exact q.elim
      | lst os =>
        dsimp only at q
        obtain ⟨v, g, h1, h2, _⟩ := r.focus e0
        cases h2 with
        | @lst p0 vs _ f0 hl0 ow0 =>
          refine ⟨.ref p0, h1, .inl ⟨rfl, vs, SqL.of hl0⟩, a S T st σ H _ r ?_⟩
          revert q
          cases f st with
          | bad => exact fun q => q
          | ex c => exact fun q H1 h1 => q σ T H1 (.refl _) (r.th.trans h1)
          | ok o =>
            intro q v1 S1 T1 H1 g1 hs1 x1 s1 t1 w1 n1 k1
            have q : PSt K cl W S T (if os.length < sizeLine then .nx (st.set i (some (.lst (os ++ [o])))) else .bad) E := q
            by_cases c : os.length < sizeLine
            · rw [if_pos c] at q
              have r1 := r.ext hs1 x1 s1 t1
              obtain ⟨v2, g2, e2, w2, n2, k2, inn, put⟩ := r1.focus e0
              rw [h1] at e2
              cases e2
              cases w2 with
              | @lst _ vs2 _ f2 hl2 ow2 =>
                have fr := r.fresh (S1 := S1) hs1 k1
                obtain ⟨fA, wA, _, _⟩ := r1.own
                have pg : ∀ b ∈ g1, b ∉ p0 :: f2 := fun b hb hm => (fr b hb).2 fA wA (inn fA wA b hm)
                have pf : p0 ∉ f2 := (List.nodup_cons.mp n2).1
                have pg1 : p0 ∉ g1 := fun z => pg p0 z (by simp)
                refine ⟨p0, vs2, v1, rfl, rfl, hl2, by rw [ow2.length]; exact c, ?_⟩
                refine q S1 T1 σ _ (x1.ex3 r.th) (put (upd H1 p0 (.lst (vs2 ++ [v1]))) (.lst (os ++ [o])) (p0 :: (f2 ++ g1)) (fun b hb => upd_ne fun e => hb (by rw [e]; simp)) ?_ ?_ fun b hb => ?_)
                · have w3 : OwL K S1 (upd H1 p0 (.lst (vs2 ++ [v1]))) vs2 os f2 := ow2.mono (.refl _) fun b hb => upd_ne fun e => pf (e ▸ hb)
                  have w4 : Ow K S1 (upd H1 p0 (.lst (vs2 ++ [v1]))) v1 o g1 := w1.mono (.refl _) fun b hb => upd_ne fun e => pg1 (e ▸ hb)
                  have := w3.append (.cons w4 .nil)
                  rw [List.append_nil] at this
                  exact .lst upd_same this
                · rw [List.nodup_cons, List.mem_append, List.nodup_append]
                  exact ⟨fun z => z.elim pf pg1, (List.nodup_cons.mp n2).2, n1, fun a ha b hb e => pg b hb (by rw [← e]; simp [ha])⟩
                · rcases List.mem_cons.mp hb with rfl | hb
                  · exact .inl (by simp)
                  · rcases List.mem_append.mp hb with hb | hb
                    · exact .inl (by simp [hb])
                    · exact .inr (fr b hb)
            · rw [if_neg c] at q
              exact q.elim
/-- x[k] = e -/
def putR (i : Nat) (r : Rs O) (k : Rs D) (st : Sl) : Fl := match r with
  | .ok o => match st[i]? with
    | some (some (.lst os)) => match k with
      | .ok (.int j) => match ixN os.length j with
        | some m => .nx (st.set i (some (.lst (os.set m o))))
        | none => .bad
      | _ => .bad
    | _ => .bad
  | .ex c => .ex c
  | .bad => .bad
theorem s_put {R : TE → Prop} {i : Nat} {e2 : Expr} {s : Stmt} {f : Sl → Rs O} {k : Sl → Rs D} (hp : ∀ t u, R t → PEf X e2 u → PSf X s (tAsg t (gSub (tVar i) u rSetL))) (h : EF K W cl R f) (hk : EV K W0 cl (PEf X e2) k) :
    SJ K W cl (PSf X s) fun st => putR i (f st) (k st) st := by
  obtain ⟨t, p, a⟩ := h.ex
  obtain ⟨u, pu, b⟩ := hk.ex
  refine ⟨_, hp _ _ p pu, fun S T st σ H E r q => a S T st σ H _ r ?_⟩
  have q : PSt K cl W S T (putR i (f st) (k st) st) E := q
  revert q
  unfold putR
  cases f st with
  | bad => exact fun q => q
  | ex c => exact fun q H1 h1 => q σ T H1 (.refl _) (r.th.trans h1)
  | ok o =>
    intro q v1 S1 T1 H1 g1 hs1 x1 s1 t1 w1 n1 k1
    dsimp only at q
    cases e0 : st[i]? with
    | none => rw [e0] at q; exact q.elim
    | some z =>
      rw [e0] at q
      cases z with
      | none => exact q.elim
      | some o0 =>
        cases o0 with
        | sh _ => exact q.elim
        | tup _ => exact q.elim
        | lst os =>
          dsimp only at q
          have r1 := r.ext hs1 x1 s1 t1
          obtain ⟨vv, gg, h1, _⟩ := r1.focus e0
          refine ⟨vv, h1, b S1 T1 st σ H1 _ r1 ?_⟩
          revert q
          cases k st with
          | bad => exact fun q => q.elim
          | ex c => exact fun q => q.elim
          | ok d =>
            cases d with
            | int j =>
              intro q w H2 hs2 rw2
              cases rw2
              dsimp only at q
              cases e3 : ixN os.length j with
              | none => rw [e3] at q; exact q.elim
              | some m =>
                rw [e3] at q
                have r2 := r1.mono hs2
                obtain ⟨v2, g2, e2, w2, n2, k2, inn, put⟩ := r2.focus e0
                rw [h1] at e2
                cases e2
                cases w2 with
                | @lst p0 vs2 _ f2 hl2 ow2 =>
                  have fr := r.fresh (S1 := S1) (hs1.trans hs2) k1
                  obtain ⟨fA, wA, _, _⟩ := r2.own
                  have pg : ∀ b ∈ g1, b ∉ p0 :: f2 := fun b hb hm => (fr b hb).2 fA wA (inn fA wA b hm)
                  have pf : p0 ∉ f2 := (List.nodup_cons.mp n2).1
                  have pg1 : p0 ∉ g1 := fun z => pg p0 z (by simp)
                  have hm : m < os.length := (ixN_seq e3).2.1
                  obtain ⟨ov, fa, fb, fc, c1, c2, c3, c4⟩ := ow2.get (i := m) (o := os[m]) (by simp [hm])
                  subst c2
                  refine ⟨p0, vs2, j, m, rfl, rfl, hl2, by rw [ow2.length]; exact e3, ?_⟩
                  have nf := (List.nodup_cons.mp n2).2
                  refine q S1 T1 σ _ (x1.ex3 r.th) (put (upd H2 p0 (.lst (vs2.set m v1))) (.lst (os.set m o)) (p0 :: (fa ++ g1 ++ fc)) (fun b hb => upd_ne fun e => hb (by rw [e]; simp)) ?_ ?_ fun b hb => ?_)
                  · have th1 := w1.there
                    have w4 : Ow K S1 (upd H2 p0 (.lst (vs2.set m v1))) v1 o g1 := w1.mono (.refl _) fun b hb => Eq.trans (upd_ne fun (e : b = p0) => pg1 (e ▸ hb)) (same_ne hs2 (th1 b hb))
                    have w5 := c4 S1 (upd H2 p0 (.lst (vs2.set m v1))) v1 o g1 (.refl _) (fun b hb => upd_ne fun e => pf (by rw [← e]; simp only [List.mem_append] at hb ⊢; rcases hb with z | z; exact .inl (.inl z); exact .inr z)) w4
                    exact .lst upd_same w5
                  · simp only [List.nodup_append, List.mem_append] at nf
                    obtain ⟨⟨m1, m2, m3⟩, m4, m5⟩ := nf
                    have da : ∀ b ∈ g1, b ∉ fa ∧ b ∉ fc := fun b hb => by
                      have := pg b hb
                      simp only [List.mem_cons, List.mem_append, not_or] at this
                      exact ⟨this.2.1.1, this.2.2⟩
                    rw [List.nodup_cons]
                    simp only [List.mem_append] at pf
                    refine ⟨fun z => ?_, ?_⟩
                    · simp only [List.mem_append] at z
                      rcases z with (z | z) | z
                      · exact pf (.inl (.inl z))
                      · exact pg1 z
                      · exact pf (.inr z)
                    · simp only [List.nodup_append, List.mem_append]
                      refine ⟨⟨m1, n1, fun a ha b hb e => (da b hb).1 (e ▸ ha)⟩, m4, fun a ha b hb e => ?_⟩
                      rcases ha with ha | ha
                      · exact m5 a (.inl ha) b hb e
                      · exact (da a ha).2 (e ▸ hb)
                  · rcases List.mem_cons.mp hb with rfl | hb
                    · exact .inl (by simp)
                    · simp only [List.mem_append] at hb
                      rcases hb with (hb | hb) | hb
                      · exact .inl (by simp [hb])
                      · exact .inr (fr b hb)
                      · exact .inl (by simp [hb])
            | _ => exact fun q => q.elim
/-! ### one's own tree is left as it is from here on -/
def frzS (i : Nat) (f : Sl → Fl) (st : Sl) : Fl := match st[i]? with
  | some (some o) => f (st.set i (some (.sh o.er)))
  | _ => .bad
theorem s_frz {R : TS → Prop} {f : Sl → Fl} (i : Nat) (h : SJ K W cl R f) : SJ K W cl R (frzS i f) := by
  obtain ⟨t, p, a⟩ := h.ex
  refine ⟨t, p, fun S T st σ H E r q => ?_⟩
  unfold frzS at q
  cases e0 : st[i]? with
  | none => rw [e0] at q; exact q.elim
  | some z =>
    rw [e0] at q
    cases z with
    | none => exact q.elim
    | some o =>
      obtain ⟨f, w, nd, k⟩ := r.own
      obtain ⟨v, f1, g, f2, h1, h2, h3, h4, _⟩ := w.get e0
      subst h2
      have kg : ∀ b ∈ g, T b = none := fun b hb => k b (by simp [hb])
      have ks : ∀ b ∈ g, S b = none := fun b hb => r.lo.free (kg b hb)
      have hσ : σ.set i (some v) = σ := by
        apply List.ext_getElem?
        intro j
        by_cases hj : i = j
        · subst hj
          have := (List.getElem?_eq_some_iff.mp h1).1
          rw [List.getElem?_set_self this, h1]
        · rw [List.getElem?_set_ne hj]
      have w3 := h4 (frz g S H) H v (.sh o.er) [] (frz_same ks) (fun _ _ => rfl) (.sh (h3.rp (frz_same ks) fun b hb => frz_in hb))
      rw [hσ] at w3
      have x : Ex3 S T (frz g S H) (frz g T H) := ⟨frz_same ks, frz_same kg, fun b hb => frz_out fun z => hb (kg b z)⟩
      simp only [List.nodup_append, List.mem_append] at nd
      obtain ⟨⟨n1, n2, n3⟩, n4, n5⟩ := nd
      refine a (frz g S H) (frz g T H) _ σ H E ⟨frz_mono r.lo, frz_low r.th, _, w3, ?_, fun b hb => ?_⟩ (PSt.mono x q)
      · simp only [List.nodup_append, List.mem_append]
        exact ⟨⟨n1, .nil, fun a ha b hb => by cases hb⟩, n4, fun a ha b hb e => ha.elim (fun z => n5 a (.inl z) b hb e) fun z => by cases z⟩
      · simp only [List.mem_append] at hb
        have hg : b ∉ g := fun z => by
          rcases hb with (hb | hb) | hb
          · exact n3 b hb b z rfl
          · cases hb
          · exact n5 b (.inr z) b hb rfl
        rw [frz_out hg]
        rcases hb with (hb | hb) | hb
        · exact k b (by simp [hb])
        · cases hb
        · exact k b (by simp [hb])
end
/-! ### a def -/
def fin : Fl → Rs O
  | .rt o => .ok o
  | .nx _ => .ok (.sh .non)
  | .ex c => .ex c
  | _ => .bad
def runD (N n : Nat) (fb : Sl → Fl) (ds : List D) : Rs O := if ds.length = n then fin (fb (ds.map (fun d => some (.sh d)) ++ List.replicate (N - n) none)) else .bad
theorem st_args {K : PySem.W.Frag} {S H : Hp} {σ : St} {st : Sl} (w : OwSt K S H σ st []) : ∀ {vs : List V} {ds : List D}, RpL K S vs ds → OwSt K S H (vs.map some ++ σ) (ds.map (fun d => some (.sh d)) ++ st) []
  | _, _, .nil => w
  | _, _, .cons h r => by
    have := OwSt.some (.sh h) (st_args w r)
    exact this
theorem st_none {K : PySem.W.Frag} {S H : Hp} : ∀ n : Nat, OwSt K S H (List.replicate n none) (List.replicate n none) []
  | 0 => .nil
  | n + 1 => .none (st_none n)
section
variable {P : Program} {w : World} {K : PySem.W.Frag} {mg : Str → Option Value} {base : Heap} {cl : Cl}
theorem def_ok {x qual : Str} {st : Stmt} {f : Addr} {fd : FuncData} {N ps : List Str} {k : Nat} {fb : Sl → Fl} (F : Fun K x qual st f fd) (Sc : FnScope N ps (defScope st))
    (body : ∀ (cdv : Value) (A : Around) (outer : List Env) (s : Shared) (H : Hp) (E : XK), Room k (A.deeper (PyProof.Rows.envOfC qual (defScope st) s.heap.objs.size f cdv)) →
      SJ K (fun c d _ H => E c d H) cl (PSsf (fun _ : Unit => cxOf (L2.CX P w) P w K mg base N qual (defScope st) f cdv A outer s H E) (defBody st)) fb) :
    FnOk P w K mg base (L2.CX P w) (k + 1) f fd ps (SpD K cl ps.length (runD N.length ps.length fb)) := by
  refine F.okX Sc SpD.len fun cdv A outer s H vs Q E hr ⟨S, ds, hl, hs, rl, m⟩ => ?_
  obtain ⟨t, p, a⟩ := (body cdv A outer s H E hr).ex
  have hv : vs.length = ps.length := rl.length.trans hl
  have w0 : OwSt K S H (L2.start N vs) (ds.map (fun d => some (.sh d)) ++ List.replicate (N.length - ps.length) none) [] := by
    unfold L2.start
    rw [hv]
    exact st_args (st_none _) rl
  refine ⟨t, p (), a S H _ _ H _ ⟨hs, .refl _, [], w0, .nil, fun b hb => by cases hb⟩ ?_⟩
  unfold runD at m
  rw [if_pos hl] at m
  revert m
  cases fb (ds.map (fun d => some (.sh d)) ++ List.replicate (N.length - ps.length) none) with
  | bad => exact fun m => m
  | bk _ => exact fun m => m.elim
  | ct _ => exact fun m => m.elim
  | ex c => exact fun m σ T' H' h1 h2 => m H' (h1.trans h2)
  | nx st' => exact fun m S' T' σ' H' x r' => m .non S' H' [] x.s (x.t.trans r'.th) x.old r'.sh (.sh .non) .nil fun b hb => by cases hb
  | rt o => exact fun m v S' T' H' g x h1 h2 w1 nd hg => m v S' H' g x.s (x.t.trans h2) x.old (h1.trans h2) w1 nd fun b hb => ⟨h1.free (hg b hb), x.t.free (hg b hb)⟩
end
end M

/-! What a printed text leans on; the end of a law. -/
namespace M
open PySem L2
section
variable {ι : Type} {X : ι → Cx} {W : WX} {cl : Cl} {K : PySem.W.Frag}
theorem t_none : ET K W cl (PTsf X []) fun _ => .ok true := ⟨_, fun _ => pts_nil, fun S T st σ H Q r q => q H (.refl _)⟩
theorem t_one {c : Expr} {f : Sl → Rs Bool} (h : ET K W cl (PTf X c) f) : ET K W cl (PTsf X [c]) f := by
  obtain ⟨t, p, k⟩ := h.ex
  exact ⟨t, fun z => pts_one (p z), k⟩
theorem s_never {s : Stmt} (hp : PSf X s tNever) : SJ K W cl (PSf X s) fun _ => .bad := ⟨_, hp, fun S T st σ H E r q => q⟩
end
/-- a def of the text, as its callers need it -/
structure CallOk (P : Program) (w : World) (K : PySem.W.Frag) (mg : Str → Option Value) (base : Heap) (cl : Cl) (x : Str) (k n : Nat) (m : List D → Rs O) (f : Addr) (fd : FuncData) (ps : List Str) : Prop where
  F : FnOk P w K mg base (L2.CX P w) k f fd ps (SpD K cl n m)
  g : mg x = some (.ref f)
  kp : PySem.W.keepIn K (.ref f) = true
  b : Binds K fd ps []
theorem law_end {l : PySem.W.OpenLaw} {k : Nat} {q : Program} {loose : List Str} {XP : (Str → Option Value) → Heap → Prop} {YP : World → Heap → Prop} {d : DefRec} {K : Params → PySem.W.Frag} {cl : Cl} {m : List D → Rs O} (hn : l.most = some 63) (h63 : 63 ≤ sizeLine) (hdf : d.params.defaults = [])
    (hr : Room k callerA) (hlaw : ∀ ns : List Int, ns.length ≤ 63 → m [.scr ns] = .ok (.sh (.bl true)))
    (hY : ∀ (w : World) (h : Heap), YP w h → (K w.params).In h)
    (F : ∀ (w : World) (mg : Str → Option Value) (fa : Addr) (h : Heap), (K w.params).In h → h.Ns mainGlobals mg → mg d.name = some (.ref fa) →
      ∃ fd : FuncData, (∀ (s : Shared) (u : Value), BindsTo s fd ⟨[u], []⟩ [("script", u)]) ∧ ∀ base : Heap, (K w.params).In base → base.Ns mainGlobals mg → FnOk l.prog w (K w.params) mg base (L2.CX l.prog w) k fa fd ["script"] (SpD (K w.params) cl 1 m)) :
    PySem.W.WalkO q loose XP YP l.row.toRowW d [] (fun f vs => PySem.call f vs) := by
  refine L2.walk_of (n := 63) (k := k) (x := "script") (CX := fun w => L2.CX l.prog w) (sp := fun w => SpD (K w.params) cl 1 m) hn h63 hdf hr hY F (fun w H a ns hl hO hS => ?_) fun w H s e s' z => ?_
  · refine ⟨H, [.scr ns], rfl, .refl _, .cons (.scr hS) .nil, ?_⟩
    rw [hlaw ns hl]
    intro v S' H' g _ _ _ _ ow _ _
    cases ow with
    | sh r => cases r; rfl
  · obtain ⟨_, _, _, _, _, _, _, _, _, _, _, _, z⟩ := z
    exact z.elim
end M

/-! How the words of a printed text are reckoned: rules for simp. -/
namespace M
open PySem L2
/-- said so that simp rewrites by it, and the kernel does not reckon both sides -/
theorem said {α : Sort u} {a b : α} (h : a = b) : a = b := h
section
variable {α β : Type}
@[simp] theorem bind_ok (a : α) (f : α → Rs β) : (Rs.ok a).bind f = f a := said rfl
@[simp] theorem bind_ex (c : Str) (f : α → Rs β) : (Rs.ex c : Rs α).bind f = .ex c := said rfl
@[simp] theorem bind_bad (f : α → Rs β) : (Rs.bad : Rs α).bind f = .bad := said rfl
@[simp] theorem ofO_some (a : α) : ofO (some a) = .ok a := said rfl
@[simp] theorem ofO_none : ofO (none : Option α) = .bad := said rfl
@[simp] theorem mapRs_ok (g : α → β) (a : α) : mapRs g (.ok a) = .ok (g a) := said rfl
@[simp] theorem mapRs_ex (g : α → β) (c : Str) : mapRs g (.ex c) = .ex c := said rfl
@[simp] theorem mapRs_bad (g : α → β) : mapRs g .bad = .bad := said rfl
@[simp] theorem noEx_ok (a : α) : noEx (.ok a) = .ok a := said rfl
@[simp] theorem bin2_ok (g : D → D → Option D) (a b : D) : bin2 g (.ok a) (.ok b) = ofO (g a b) := said rfl
@[simp] theorem un1_ok (g : D → Option D) (a : D) : un1 g (.ok a) = ofO (g a) := said rfl
@[simp] theorem er_sh (d : D) : (O.sh d).er = d := by rw [O.er]
@[simp] theorem er_lst (os : List O) : (O.lst os).er = .lst (os.map O.er) := by rw [O.er, erL_map]
@[simp] theorem er_tup (os : List O) : (O.tup os).er = .tup (os.map O.er) := by rw [O.er, erL_map]
@[simp] theorem map_er_sh (ds : List D) : (ds.map O.sh).map O.er = ds := by
  induction ds with
  | nil => rfl
  | cons d ds ih => rw [List.map_cons, List.map_cons, ih, er_sh]
@[simp] theorem getV_0 (o : O) (st : Sl) : getV 0 (some o :: st) = .ok o.er := said rfl
@[simp] theorem getV_s (i : Nat) (o : Option O) (st : Sl) : getV (i + 1) (o :: st) = getV i st := said rfl
@[simp] theorem getP_0 (d : D) (st : Sl) : getP 0 (some (.sh d) :: st) = .ok d := said rfl
@[simp] theorem getP_s (i : Nat) (o : Option O) (st : Sl) : getP (i + 1) (o :: st) = getP i st := said rfl
@[simp] theorem add_int (i j : Int) : addD (.int i) (.int j) = some (.int (i + j)) := said rfl
@[simp] theorem sub_int (i j : Int) : subD (.int i) (.int j) = some (.int (i - j)) := said rfl
theorem mul_int (i j : Int) : mulD (.int i) (.int j) = if mulOk i j = true then some (.int (i * j)) else none := said rfl
theorem fdiv_int (i j : Int) : fdivD (.int i) (.int j) = if divOk i j = true then some (.int (i.fdiv j)) else none := said rfl
@[simp] theorem mod_int (i j : Int) : modD (.int i) (.int j) = if j ≠ 0 then some (.int (i.fmod j)) else none := said rfl
@[simp] theorem pow_int (i j : Int) : powD (.int i) (.int j) = if powOk i j = true then some (.int (i ^ j.toNat)) else none := said rfl
@[simp] theorem lt_int (i j : Int) : ltD (.int i) (.int j) = some (.bl (decide (i < j))) := said rfl
@[simp] theorem le_int (i j : Int) : leD (.int i) (.int j) = some (.bl (decide (i ≤ j))) := said rfl
@[simp] theorem gt_int (i j : Int) : gtD (.int i) (.int j) = some (.bl (decide (j < i))) := said rfl
@[simp] theorem ge_int (i j : Int) : geD (.int i) (.int j) = some (.bl (decide (j ≤ i))) := said rfl
@[simp] theorem neg_int (i : Int) : negD (.int i) = some (.int (-i)) := said rfl
@[simp] theorem len_lst (ds : List D) : lenD (.lst ds) = some (.int ds.length) := said rfl
@[simp] theorem len_tup (ds : List D) : lenD (.tup ds) = some (.int ds.length) := said rfl
@[simp] theorem len_scr (ns : List Int) : lenD (.scr ns) = some (.int ns.length) := said rfl
@[simp] theorem abs_int (i : Int) : absD (.int i) = some (.int (if i < 0 then -i else i)) := said rfl
@[simp] theorem int_int (i : Int) : intD (.int i) = some (.int i) := said rfl
@[simp] theorem int_bl (k : Bool) : intD (.bl k) = some (.int (if k then 1 else 0)) := said rfl
@[simp] theorem max2_int (i j : Int) : max2D (.int i) (.int j) = some (.int (if j > i then j else i)) := said rfl
@[simp] theorem min2_int (i j : Int) : min2D (.int i) (.int j) = some (.int (if j < i then j else i)) := said rfl
@[simp] theorem ix_lst (ds : List D) (i : Int) : ixD (.lst ds) (.int i) = atI ds i := said rfl
@[simp] theorem ix_tup' (ds : List D) (i : Int) : ixD (.tup ds) (.int i) = atI ds i := said rfl
@[simp] theorem ix_scr (ns : List Int) (i : Int) : ixD (.scr ns) (.int i) = (atI ns i).map .int := said rfl
@[simp] theorem elems_lst (ds : List D) : elems (.lst ds) = some ds := said rfl
@[simp] theorem elems_scr (ns : List Int) : elems (.scr ns) = some (ns.map .int) := said rfl
@[simp] theorem asB_ok (k : Bool) : asB (.ok (.bl k)) = .ok k := said rfl
@[simp] theorem asB_bad : asB .bad = .bad := said rfl
@[simp] theorem asI_ok (i : Int) : asI (.ok (.int i)) = .ok (some i) := said rfl
@[simp] theorem asPrim_int (i : Int) : asPrim (.ok (.int i)) = .ok (.int i) := said rfl
@[simp] theorem asPrim_bl (k : Bool) : asPrim (.ok (.bl k)) = .ok (.bl k) := said rfl
@[simp] theorem asPrim_str (x : Str) : asPrim (.ok (.str x)) = .ok (.str x) := said rfl
@[simp] theorem asPrim_non : asPrim (.ok .non) = .ok .non := said rfl
@[simp] theorem asPrim_bad : asPrim .bad = .bad := said rfl
@[simp] theorem ifS_ok (k : Bool) (a b : Fl) : ifS (.ok k) a b = if k = true then a else b := said rfl
@[simp] theorem ifR_ok {α : Type} (k : Bool) (a b : Rs α) : ifR (.ok k) a b = if k = true then a else b := said rfl
@[simp] theorem thn_nx (st : Sl) (f : Sl → Fl) : (Fl.nx st).thn f = f st := said rfl
@[simp] theorem thn_rt (o : O) (f : Sl → Fl) : (Fl.rt o).thn f = .rt o := said rfl
@[simp] theorem thn_bk (st : Sl) (f : Sl → Fl) : (Fl.bk st).thn f = .bk st := said rfl
@[simp] theorem thn_ct (st : Sl) (f : Sl → Fl) : (Fl.ct st).thn f = .ct st := said rfl
@[simp] theorem thn_ex (c : Str) (f : Sl → Fl) : (Fl.ex c).thn f = .ex c := said rfl
@[simp] theorem thn_bad (f : Sl → Fl) : Fl.bad.thn f = .bad := said rfl
theorem thn_ite (c : Prop) [Decidable c] (a b : Fl) (f : Sl → Fl) : (if c then a else b).thn f = if c then a.thn f else b.thn f := by split <;> rfl
@[simp] theorem retR_ok (o : O) : retR (.ok o) = .rt o := said rfl
@[simp] theorem retR_bad : retR .bad = .bad := said rfl
@[simp] theorem retN_0 (o : O) (st : Sl) : retN 0 (some o :: st) = .rt o := said rfl
@[simp] theorem retN_s (i : Nat) (o : Option O) (st : Sl) : retN (i + 1) (o :: st) = retN i st := said rfl
@[simp] theorem dropR_ok (d : D) (st : Sl) : dropR (.ok d) st = .nx st := said rfl
@[simp] theorem setO_ok (i : Nat) (o : O) (st : Sl) : setO i (.ok o) st = if i < st.length then .nx (st.set i (some o)) else .bad := said rfl
@[simp] theorem setO_bad (i : Nat) (st : Sl) : setO i .bad st = .bad := said rfl
@[simp] theorem notT_ok (k : Bool) : notT (.ok k) = .ok (!k) := said rfl
@[simp] theorem andT_ok (k : Bool) (b : Rs Bool) : andT (.ok k) b = if k = true then b else .ok false := said rfl
@[simp] theorem orT_ok (k : Bool) (b : Rs Bool) : orT (.ok k) b = if k = true then .ok true else b := said rfl
theorem andV_ok (k : Bool) (b : Rs D) : andV (.ok (.bl k)) b = if k = true then b else .ok (.bl false) := by cases k <;> rfl
@[simp] theorem andV_t (b : Rs D) : andV (.ok (.bl true)) b = b := said rfl
@[simp] theorem andV_f (b : Rs D) : andV (.ok (.bl false)) b = .ok (.bl false) := said rfl
@[simp] theorem andV_bb (k l : Bool) : andV (.ok (.bl k)) (.ok (.bl l)) = .ok (.bl (k && l)) := by cases k <;> rfl
@[simp] theorem orV_t (b : Rs D) : orV (.ok (.bl true)) b = .ok (.bl true) := said rfl
@[simp] theorem orV_f (b : Rs D) : orV (.ok (.bl false)) b = b := said rfl
@[simp] theorem orV_bb (k l : Bool) : orV (.ok (.bl k)) (.ok (.bl l)) = .ok (.bl (k || l)) := by cases k <;> rfl
@[simp] theorem notV_ok (k : Bool) : notV (.ok (.bl k)) = .ok (.bl (!k)) := said rfl
@[simp] theorem consR_ok {α : Type} (a : α) (l : List α) : consR (.ok a) (.ok l) = .ok (a :: l) := said rfl
@[simp] theorem callR_ok {α : Type} (n : Nat) (m : List D → Rs α) (ds : List D) : callR n m (.ok ds) = if ds.length = n then m ds else .bad := said rfl
@[simp] theorem forR_ok (ds : List D) (tg : D → Sl → Option Sl) (body : Sl → Fl) (st : Sl) : forR (.ok ds) tg body st = forF tg body ds st := said rfl
@[simp] theorem elemsR_ok (d : D) : elemsR (.ok d) = ofO (elems d) := said rfl
@[simp] theorem asgR_ok (g : D → Sl → Option Sl) (d : D) (st : Sl) : asgR g (.ok d) st = match g d st with
  | some st' => .nx st'
  | none => .bad := rfl
@[simp] theorem setN_eq (i : Nat) (d : D) (st : Sl) : setN i d st = if i < st.length then some (st.set i (some (.sh d))) else none := said rfl
@[simp] theorem setNil_eq (st : Sl) : setNil [] st = some st := said rfl
@[simp] theorem setCons_eq (f : D → Sl → Option Sl) (g : List D → Sl → Option Sl) (d : D) (ds : List D) (st : Sl) : setCons f g (d :: ds) st = (f d st).bind (g ds) := said rfl
@[simp] theorem setTup_eq (n : Nat) (g : List D → Sl → Option Sl) (ds : List D) (st : Sl) : setTup n g (.tup ds) st = if ds.length = n then g ds st else none := said rfl
@[simp] theorem parR_ok (i j : Nat) (d e : D) (st : Sl) : parR i j (.ok [d, e]) st = if i < st.length ∧ j < st.length then .nx ((st.set i (some (.sh d))).set j (some (.sh e))) else .bad := said rfl
theorem range1_ok (j : Int) : range1 (.ok (.int j)) = if rngOk j = true then .ok (rangeL 0 j.toNat) else .bad := said rfl
theorem range2_ok (i j : Int) : range2 (.ok (.int i)) (.ok (.int j)) = if (rngOk i && rngOk j) = true then .ok (rangeL i (j - i).toNat) else .bad := said rfl
@[simp] theorem zipR_ok (ds es : List D) : zipR (.ok (.lst ds)) (.ok (.lst es)) = .ok (zipD ds es) := said rfl
@[simp] theorem enumR_ok (ds : List D) : enumR (.ok (.lst ds)) = .ok (enumD ds) := said rfl
@[simp] theorem sliceF_ok (ds : List D) (lo hi : Option Int) : sliceF (.ok (.lst ds)) (.ok lo) (.ok hi) = .ok (.lst ((cutL ds lo hi).map .sh)) := said rfl
@[simp] theorem sliceF_scr (ns : List Int) (lo hi : Option Int) : sliceF (.ok (.scr ns)) (.ok lo) (.ok hi) = .ok (.lst ((cutL (ns.map D.int) lo hi).map .sh)) := said rfl
@[simp] theorem listF_ok (ds : List D) : listF (.ok (.lst ds)) = .ok (.lst (ds.map .sh)) := said rfl
@[simp] theorem listF_tup (ds : List D) : listF (.ok (.tup ds)) = .ok (.lst (ds.map .sh)) := said rfl
end
@[simp] theorem fin_rt (o : O) : fin (.rt o) = .ok o := said rfl
@[simp] theorem fin_nx (st : Sl) : fin (.nx st) = .ok (.sh .non) := said rfl
@[simp] theorem fin_ex (c : Str) : fin (.ex c) = .ex c := said rfl
@[simp] theorem fin_bad : fin .bad = .bad := said rfl
theorem fin_ite (c : Prop) [Decidable c] (a b : Fl) : fin (if c then a else b) = if c then fin a else fin b := by split <;> rfl
@[simp] theorem runD_0 (N : Nat) (fb : Sl → Fl) : runD N 0 fb [] = fin (fb (List.replicate N none)) := said rfl
@[simp] theorem runD_1 (N : Nat) (fb : Sl → Fl) (a : D) : runD N 1 fb [a] = fin (fb (some (.sh a) :: List.replicate (N - 1) none)) := said rfl
@[simp] theorem runD_2 (N : Nat) (fb : Sl → Fl) (a b : D) : runD N 2 fb [a, b] = fin (fb (some (.sh a) :: some (.sh b) :: List.replicate (N - 2) none)) := said rfl
@[simp] theorem runD_3 (N : Nat) (fb : Sl → Fl) (a b c : D) : runD N 3 fb [a, b, c] = fin (fb (some (.sh a) :: some (.sh b) :: some (.sh c) :: List.replicate (N - 3) none)) := said rfl
@[simp] theorem runD_4 (N : Nat) (fb : Sl → Fl) (a b c d : D) : runD N 4 fb [a, b, c, d] = fin (fb (some (.sh a) :: some (.sh b) :: some (.sh c) :: some (.sh d) :: List.replicate (N - 4) none)) := said rfl
@[simp] theorem runD_5 (N : Nat) (fb : Sl → Fl) (a b c d e : D) : runD N 5 fb [a, b, c, d, e] = fin (fb (some (.sh a) :: some (.sh b) :: some (.sh c) :: some (.sh d) :: some (.sh e) :: List.replicate (N - 5) none)) := said rfl
/-! equality of numbers, truths, texts -/
@[simp] theorem eqOk_int (i j : Int) : eqOk (.int i) (.int j) = true := said rfl
@[simp] theorem eqB_int (i j : Int) : eqB (.int i) (.int j) = decide (i = j) := by
  show (i == j) = _
  exact Bool.beq_eq_decide_eq i j
@[simp] theorem eq_int (i j : Int) : eqD (.int i) (.int j) = some (.bl (decide (i = j))) := by
  unfold eqD
  rw [if_pos (eqOk_int i j), eqB_int]
@[simp] theorem ne_int (i j : Int) : neD (.int i) (.int j) = some (.bl (!decide (i = j))) := by
  unfold neD
  rw [if_pos (eqOk_int i j), eqB_int]
/-! isinstance -/
theorem kb_int_int : kitB "int" "int" = some true := by decide +kernel
theorem kb_int_bool : kitB "int" "bool" = some false := by decide +kernel
theorem kb_bool_bool : kitB "bool" "bool" = some true := by decide +kernel
theorem kb_bool_int : kitB "bool" "int" = some true := by decide +kernel
theorem kb_list_list : kitB "list" "list" = some true := by decide +kernel
theorem kb_tuple_tuple : kitB "tuple" "tuple" = some true := by decide +kernel
theorem kb_tuple_list : kitB "tuple" "list" = some false := by decide +kernel
theorem kb_list_tuple : kitB "list" "tuple" = some false := by decide +kernel
theorem kb_str_str : kitB "str" "str" = some true := by decide +kernel
theorem kb_list_int : kitB "list" "int" = some false := by decide +kernel
theorem kb_tuple_int : kitB "tuple" "int" = some false := by decide +kernel
theorem kb_str_int : kitB "str" "int" = some false := by decide +kernel
theorem kb_none_int : kitB "NoneType" "int" = some false := by decide +kernel
@[simp] theorem isi_int_int (i : Int) : isi "int" (.int i) = some (.bl true) := by unfold isi tyN; rw [kb_int_int]; rfl
@[simp] theorem isi_bool_int (i : Int) : isi "bool" (.int i) = some (.bl false) := by unfold isi tyN; rw [kb_int_bool]; rfl
@[simp] theorem isi_bool_bl (i : Bool) : isi "bool" (.bl i) = some (.bl true) := by unfold isi tyN; rw [kb_bool_bool]; rfl
@[simp] theorem isi_int_bl (i : Bool) : isi "int" (.bl i) = some (.bl true) := by unfold isi tyN; rw [kb_bool_int]; rfl
@[simp] theorem isi_list_lst (ds : List D) : isi "list" (.lst ds) = some (.bl true) := by unfold isi tyN; rw [kb_list_list]; rfl
@[simp] theorem isi_tup_tup (ds : List D) : isi "tuple" (.tup ds) = some (.bl true) := by unfold isi tyN; rw [kb_tuple_tuple]; rfl
@[simp] theorem isi_list_tup (ds : List D) : isi "list" (.tup ds) = some (.bl false) := by unfold isi tyN; rw [kb_tuple_list]; rfl
@[simp] theorem isi_tup_lst (ds : List D) : isi "tuple" (.lst ds) = some (.bl false) := by unfold isi tyN; rw [kb_list_tuple]; rfl
@[simp] theorem isi_str_str (x : Str) : isi "str" (.str x) = some (.bl true) := by unfold isi tyN; rw [kb_str_str]; rfl
/-! loops -/
@[simp] theorem er_comp_sh : O.er ∘ O.sh = id := funext fun d => er_sh d
@[simp] theorem er_sh_comp {α : Type} (f : α → D) : O.er ∘ O.sh ∘ f = f := funext fun d => er_sh (f d)
theorem rangeL_length (lo : Int) (n : Nat) : (rangeL lo n).length = n := by unfold rangeL; rw [List.length_map, List.length_range]
theorem rangeL_get {lo : Int} {n i : Nat} {d : D} (h : (rangeL lo n)[i]? = some d) : i < n ∧ d = .int (lo + (i : Nat)) := by
  have hi : i < n := by
    have := (List.getElem?_eq_some_iff.mp h).1
    rw [rangeL_length] at this; exact this
  refine ⟨hi, ?_⟩
  unfold rangeL at h
  rw [List.getElem?_map, List.getElem?_range hi] at h
  cases h
  rfl
/-- a loop that goes through: by an invariant over the turn and the slots -/
theorem forF_nx {tg : D → Sl → Option Sl} {body : Sl → Fl} (I : Nat → Sl → Prop) : ∀ (ds : List D) (k : Nat) (st : Sl), I k st →
    (∀ i d st, ds[i]? = some d → I (k + i) st → ∃ st1 st2, tg d st = some st1 ∧ (body st1 = .nx st2 ∨ body st1 = .ct st2) ∧ I (k + i + 1) st2) → ∃ st', forF tg body ds st = .nx st' ∧ I (k + ds.length) st'
  | [], k, st, h0, _ => ⟨st, rfl, h0⟩
  | d :: ds, k, st, h0, step => by
    obtain ⟨st1, st2, e1, e2, h2⟩ := step 0 d st rfl h0
    obtain ⟨st', e3, h3⟩ := forF_nx I ds (k + 1) st2 h2 fun i d' st' hd hi => by
      have := step (i + 1) d' st' (by simpa using hd) (by rw [← Nat.add_assoc, Nat.add_right_comm]; exact hi)
      have e : k + 1 + i + 1 = k + (i + 1) + 1 := by omega
      rw [e]; exact this
    refine ⟨st', ?_, by rw [List.length_cons]; have e : k + (ds.length + 1) = k + 1 + ds.length := by omega
                        rw [e]; exact h3⟩
    unfold forF
    rw [e1]
    rcases e2 with e2 | e2 <;> (dsimp only; rw [e2]; exact e3)
theorem sIx_pos {n d : Nat} {j : Int} (h : 0 ≤ j) : HT.sIx n d (some j) = min j.toNat n := by
  show (if j < 0 then (j + (n : Int)).toNat else min j.toNat n) = _
  rw [if_neg (by omega)]
theorem cutL_to {α : Type} (xs : List α) {j : Int} (h : 0 ≤ j) : cutL xs none (some j) = xs.take j.toNat := by
  unfold cutL
  rw [sIx_pos h]
  show List.take (min j.toNat xs.length - 0) (xs.drop 0) = _
  rw [List.drop_zero, Nat.sub_zero]
  rcases Nat.le_total j.toNat xs.length with c | c
  · rw [Nat.min_eq_left c]
  · rw [Nat.min_eq_right c, List.take_length, List.take_of_length_le c]
theorem cutL_from {α : Type} (xs : List α) {i : Int} (h : 0 ≤ i) : cutL xs (some i) none = xs.drop i.toNat := by
  unfold cutL
  rw [sIx_pos h]
  show List.take (xs.length - _) _ = _
  rcases Nat.le_total i.toNat xs.length with c | c
  · rw [Nat.min_eq_left c, List.take_of_length_le]
    rw [List.length_drop]; exact Nat.le_refl _
  · rw [Nat.min_eq_right c, List.drop_of_length_le c, List.drop_length]
    exact List.take_nil
theorem cutL_mid {α : Type} (xs : List α) {i j : Int} (h : 0 ≤ i) (h2 : 0 ≤ j) : cutL xs (some i) (some j) = (xs.drop i.toNat).take (j.toNat - i.toNat) := by
  unfold cutL
  rw [sIx_pos h, sIx_pos h2]
  rcases Nat.le_total i.toNat xs.length with c | c
  · rw [Nat.min_eq_left c]
    rcases Nat.le_total j.toNat xs.length with d | d
    · rw [Nat.min_eq_left d]
    · rw [Nat.min_eq_right d, List.take_of_length_le (by rw [List.length_drop]; exact Nat.le_refl _), List.take_of_length_le (by rw [List.length_drop]; omega)]
  · rw [Nat.min_eq_right c, List.drop_of_length_le c, List.drop_length, List.take_nil, List.take_nil]
/-! sizes -/
theorem divOk_small {i j : Int} (h : 0 < j) (h2 : j < 1073741824) : divOk i j = true := by
  unfold divOk
  rw [PyProof.noPylong_small (x := i) (y := j) (by omega), decide_eq_true (by omega : j ≠ 0)]
  rfl
theorem divOk_log {i j : Int} (h : j ≠ 0) (h2 : j.natAbs.log2 < 9000) : divOk i j = true := by
  unfold divOk
  rw [PyProof.noPylong_of_log2 (x := i) (y := j) h2, decide_eq_true h]
  rfl
theorem bits_le {i : Int} {a : Nat} (h : i.natAbs < 2 ^ a) : Builtin.Int.intBits i ≤ a := by
  unfold Builtin.Int.intBits
  split
  · exact Nat.zero_le _
  · rename_i hn
    have h0 : i.natAbs ≠ 0 := fun e => by
      apply hn
      rw [beq_iff_eq]
      omega
    have := (Nat.log2_lt h0).mpr h
    omega
theorem mulOk_of {i j : Int} {a b : Nat} (ha : i.natAbs < 2 ^ a) (hb : j.natAbs < 2 ^ b) (h : a + b ≤ 134217728) : mulOk i j = true := by
  have h1 := bits_le ha
  have h2 := bits_le hb
  have e : bitsLine = 134217728 := by decide
  have h4 : Builtin.Int.intTooBig (Builtin.Int.intBits i + Builtin.Int.intBits j) = false := by
    unfold Builtin.Int.intTooBig
    rw [e]
    exact decide_eq_false (by omega)
  unfold mulOk
  rw [h4, Bool.and_false]
  rfl
theorem mulOk_left {i j : Int} (h : i.natAbs < 2 ^ 64) : mulOk i j = true := by
  have h1 := bits_le h
  unfold mulOk
  have e : shortFactorBits = 64 := rfl
  rw [e]
  have h3 : ¬ (Builtin.Int.intBits i > 64) := by omega
  simp [h3]
theorem mulOk_right {i j : Int} (h : j.natAbs < 2 ^ 64) : mulOk i j = true := by
  have h1 := bits_le h
  unfold mulOk
  have e : shortFactorBits = 64 := rfl
  rw [e]
  have h3 : ¬ (Builtin.Int.intBits j > 64) := by omega
  simp [h3]
theorem rngOk_of {j : Int} (h1 : -(2 ^ 62) ≤ j) (h2 : j < 2 ^ 62) : rngOk j = true := by
  unfold rngOk
  rw [decide_eq_true h1, decide_eq_true h2]
  rfl
theorem fdiv_pos {i j : Int} (h : 0 < j) : i.fdiv j = i / j := Int.fdiv_eq_ediv_of_nonneg i (by omega)
theorem fmod_pos {i j : Int} (h : 0 < j) : i.fmod j = i % j := Int.fmod_eq_emod_of_nonneg i (by omega)
theorem atI_ofNat {α : Type} {xs : List α} {j : Nat} (h : j < xs.length) : atI xs (j : Int) = some xs[j] := atI_nat (by simp [h])
end M

/-! Lists within lists of one's own. -/
namespace M
open PySem L2
section
variable {ι : Type} {X : ι → Cx} {W : WX} {cl : Cl} {K : PySem.W.Frag}
/-- x[a][j] = e -/
def put2R (i : Nat) (r : Rs O) (a k : Rs D) (st : Sl) : Fl := match r with
  | .ok o => match st[i]? with
    | some (some (.lst os)) => match a with
      | .ok (.int p) => match atI os p with
        | some (.lst ps) => match k with
          | .ok (.int j) => match ixN os.length p, ixN ps.length j with
            | some m, some n => .nx (st.set i (some (.lst (os.set m (.lst (ps.set n o))))))
            | _, _ => .bad
          | _ => .bad
        | _ => .bad
      | _ => .bad
    | _ => .bad
  | .ex c => .ex c
  | .bad => .bad
/-- the inner list's change, by its knot -/
theorem RS.put2 {S T : Hp} {st : Sl} {σ : St} {H : Hp} {i m n : Nat} {os ps : List O} {o : O} {v1 : V} {g1 : List Addr} (r : RS K S T st σ H) (e : st[i]? = some (some (.lst os))) (e2 : os[m]? = some (.lst ps)) (hn : n < ps.length)
    (w1 : Ow K S H v1 o g1) (n1 : g1.Nodup) (fr : ∀ b ∈ g1, T b = none ∧ ∀ f, OwSt K S H σ st f → b ∉ f) :
    ∃ p0 p1 vs us, σ[i]? = some (some (.ref p0)) ∧ H p0 = some (.lst vs) ∧ vs.length = os.length ∧ vs[m]? = some (.ref p1) ∧ H p1 = some (.lst us) ∧ us.length = ps.length ∧ RpL K H us (ps.map O.er) ∧
      RS K S T (st.set i (some (.lst (os.set m (.lst (ps.set n o)))))) σ (upd H p1 (.lst (us.set n v1))) := by
  obtain ⟨v2, g2, h1, w2, n2, k2, inn, put⟩ := r.focus e
  cases w2 with
  | @lst p0 vs _ f2 hl2 ow2 =>
    obtain ⟨ov, fa, fb, fc, c1, c2, c3, c4⟩ := ow2.get e2
    subst c2
    cases c3 with
    | @lst p1 us _ f3 hl3 ow3 =>
      obtain ⟨ov4, ga, gb, gc, d1, d2, d3, d4⟩ := ow3.get (i := n) (o := ps[n]) (by simp [hn])
      subst d2
      obtain ⟨fA, wA, _, _⟩ := r.own
      have inA := inn fA wA
      have new : ∀ b ∈ g1, b ∉ p0 :: (fa ++ (p1 :: (ga ++ gb ++ gc)) ++ fc) := fun b hb hm => (fr b hb).2 fA wA (inA b hm)
      have nd := n2
      simp only [List.nodup_cons, List.nodup_append, List.mem_append, List.mem_cons, not_or] at nd
      have np1 : p1 ∉ g1 := fun z => new p1 z (by simp)
      have rp : RpL K H us (ps.map O.er) := by
        rw [← erL_map]
        exact ow3.rp r.sh fun _ _ => rfl
      refine ⟨p0, p1, vs, us, h1, hl2, ow2.length, c1, hl3, ow3.length, rp, ?_⟩
      obtain ⟨⟨⟨q1, q2, q3, q3'⟩, q4⟩, ⟨q5, ⟨q6, ⟨q7, q8, q9⟩, q10, q11⟩, q12⟩, q13, q14⟩ := nd
      have u : ∀ b, b ≠ p1 → (upd H p1 (.lst (us.set n v1))) b = H b := fun b hb => upd_ne hb
      have w4 : Ow K S (upd H p1 (.lst (us.set n v1))) v1 o g1 := w1.mono (.refl _) fun b hb => u b fun z => np1 (z ▸ hb)
      have w5 := d4 S (upd H p1 (.lst (us.set n v1))) v1 o g1 (.refl _) (fun b hb => u b fun z => by
        subst z
        rcases List.mem_append.mp hb with z | z
        · exact q6.1.1 z
        · exact q6.2 z) w4
      have w6 : Ow K S (upd H p1 (.lst (us.set n v1))) (.ref p1) (.lst (ps.set n o)) (p1 :: (ga ++ g1 ++ gc)) := .lst upd_same w5
      have w7 := c4 S (upd H p1 (.lst (us.set n v1))) (.ref p1) (.lst (ps.set n o)) _ (.refl _) (fun b hb => u b fun z => by
        subst z
        rcases List.mem_append.mp hb with z | z
        · exact q12 b z b (.inl rfl) rfl
        · exact q14 b (.inr (.inl rfl)) b z rfl) w6
      have hvs : vs.set m (.ref p1) = vs := by
        apply List.ext_getElem?
        intro j
        by_cases hj : m = j
        · subst hj
          rw [List.getElem?_set_self ((List.getElem?_eq_some_iff.mp c1).1), c1]
        · rw [List.getElem?_set_ne hj]
      rw [hvs] at w7
      have p01 : p0 ≠ p1 := q2
      have g1n : ∀ b ∈ g1, b ≠ p0 ∧ b ∉ fa ∧ b ≠ p1 ∧ b ∉ ga ∧ b ∉ gc ∧ b ∉ fc := fun b hb => by
        have := new b hb
        simp only [List.mem_cons, List.mem_append, not_or] at this
        exact ⟨this.1, this.2.1.1, this.2.1.2.1, this.2.1.2.2.1.1, this.2.1.2.2.2, this.2.2⟩
      refine put (upd H p1 (.lst (us.set n v1))) (.lst (os.set m (.lst (ps.set n o)))) (p0 :: (fa ++ (p1 :: (ga ++ g1 ++ gc)) ++ fc)) (fun b hb => u b fun z => hb (by rw [z]; simp)) (.lst ((u p0 p01).trans hl2) w7) ?_ fun b hb => ?_
      · simp only [List.nodup_cons, List.nodup_append, List.mem_append, List.mem_cons, not_or]
        refine ⟨⟨⟨q1, q2, ⟨q3.1, fun z => (g1n p0 z).1 rfl⟩, q3'⟩, q4⟩, ⟨q5, ⟨⟨⟨q6.1.1, np1⟩, q6.2⟩, ⟨q7, n1, fun a ha b hb z => (g1n b hb).2.2.2.1 (z ▸ ha)⟩, q10, fun a ha b hb z => ?_⟩, fun a ha b hb z => ?_⟩, q13, fun a ha b hb z => ?_⟩
        · rcases ha with ha | ha
          · exact q11 a (.inl ha) b hb z
          · exact (g1n a ha).2.2.2.2.1 (z ▸ hb)
        · rcases hb with hb | (hb | hb) | hb
          · exact q12 a ha b (.inl hb) z
          · exact q12 a ha b (.inr (.inl (.inl hb))) z
          · exact (g1n b hb).2.1 (z ▸ ha)
          · exact q12 a ha b (.inr (.inr hb)) z
        · rcases ha with ha | ha | (ha | ha) | ha
          · exact q14 a (.inl ha) b hb z
          · exact q14 a (.inr (.inl ha)) b hb z
          · exact q14 a (.inr (.inr (.inl (.inl ha)))) b hb z
          · exact (g1n a ha).2.2.2.2.2 (z ▸ hb)
          · exact q14 a (.inr (.inr (.inr ha))) b hb z
      · simp only [List.mem_cons, List.mem_append] at hb
        rcases hb with hb | (hb | hb | (hb | hb) | hb) | hb
        · exact .inl (by simp [hb])
        · exact .inl (by simp [hb])
        · exact .inl (by simp [hb])
        · exact .inl (by simp [hb])
        · exact .inr (fr b hb)
        · exact .inl (by simp [hb])
        · exact .inl (by simp [hb])
theorem atI_ix {α : Type} {xs : List α} {i : Int} {x : α} (h : atI xs i = some x) : ∃ m, ixN xs.length i = some m ∧ xs[m]? = some x := by
  unfold atI at h
  cases e : ixN xs.length i with
  | none => rw [e] at h; cases h
  | some m => rw [e] at h; exact ⟨m, rfl, h⟩
theorem ix_atI {α : Type} {xs : List α} {i : Int} {x : α} {m : Nat} (h : ixN xs.length i = some m) (e : xs[m]? = some x) : atI xs i = some x := by
  unfold atI
  rw [h]
  exact e
/-- x[a][j] = e, x one's own with its lists -/
theorem s_put2 {R : TE → Prop} {i : Nat} {ea ek : Expr} {s : Stmt} {f : Sl → Rs O} {fa fk : Sl → Rs D} (hp : ∀ t u v, R t → PEf X ea u → PEf X ek v → PSf X s (tAsg t (gSub (tOp (rIx K) (tVar i) u) v rSetL))) (h : EF K W cl R f) (ha : EV K W0 cl (PEf X ea) fa) (hk : EV K W0 cl (PEf X ek) fk) :
    SJ K W cl (PSf X s) fun st => put2R i (f st) (fa st) (fk st) st := by
  obtain ⟨t, p, a⟩ := h.ex
  obtain ⟨u, pu, b⟩ := ha.ex
  obtain ⟨w, pw, c⟩ := hk.ex
  refine ⟨_, hp _ _ _ p pu pw, fun S T st σ H E r q => a S T st σ H _ r ?_⟩
  have q : PSt K cl W S T (put2R i (f st) (fa st) (fk st) st) E := q
  revert q
  unfold put2R
  cases f st with
  | bad => exact fun q => q
  | ex c => exact fun q H1 h1 => q σ T H1 (.refl _) (r.th.trans h1)
  | ok o =>
    intro q v1 S1 T1 H1 g1 hs1 x1 s1 t1 w1 n1 k1
    dsimp only at q
    cases e0 : st[i]? with
    | none => rw [e0] at q; exact q.elim
    | some z =>
      rw [e0] at q
      cases z with
      | none => exact q.elim
      | some o0 =>
        cases o0 with
        | sh _ => exact q.elim
        | tup _ => exact q.elim
        | lst os =>
          dsimp only at q
          have r1 := r.ext hs1 x1 s1 t1
          obtain ⟨vv, gg, hv1, _⟩ := r1.focus e0
          refine ⟨vv, hv1, b S1 T1 st σ H1 _ r1 ?_⟩
          revert q
          cases fa st with
          | bad => exact fun q => q.elim
          | ex c => exact fun q => q.elim
          | ok d =>
            cases d with
            | int pI =>
              intro q wv H2 hs2 rw2
              cases rw2
              dsimp only at q
              cases e1 : atI os pI with
              | none => rw [e1] at q; exact q.elim
              | some oi =>
                rw [e1] at q
                cases oi with
                | sh _ => exact q.elim
                | tup _ => exact q.elim
                | lst ps =>
                  dsimp only at q
                  obtain ⟨m, e2, e3⟩ := atI_ix e1
                  have r2 := r1.mono hs2
                  -- the inner list, read
                  obtain ⟨v2, g2, hv2, w2, _⟩ := r2.focus e0
                  rw [hv1] at hv2
                  cases hv2
                  cases w2 with
                  | @lst p0 vs0 _ f2 hl2 ow2 =>
                    obtain ⟨ov, fA, fB, fC, c1, c2, c3, c4⟩ := ow2.get e3
                    refine .inl ⟨p0, vs0, pI, ov, rfl, rfl, SqL.of hl2, ix_atI (by rw [ow2.length]; exact e2) c1, c S1 T1 st σ H2 _ r2 ?_⟩
                    revert q
                    cases fk st with
                    | bad => exact fun q => q.elim
                    | ex c => exact fun q => q.elim
                    | ok dk =>
                      cases dk with
                      | int jI =>
                        intro q wk H3 hs3 rw3
                        cases rw3
                        dsimp only at q
                        cases e4 : ixN ps.length jI with
                        | none => rw [e2, e4] at q; exact q.elim
                        | some n =>
                          rw [e2, e4] at q
                          have r3 := r2.mono hs3
                          have hs13 := hs2.trans hs3
                          have th1 := w1.there
                          have w13 : Ow K S1 H3 v1 o g1 := w1.mono (.refl _) fun b hb => same_ne hs13 (th1 b hb)
                          have fr := r.fresh (S1 := S1) (hs1.trans hs13) k1
                          obtain ⟨q0, q1, ws, us, z1, z2, z3, z4, z5, z6, z7, z8⟩ := r3.put2 e0 e3 (ixN_seq e4).2.1 w13 n1 fr
                          rw [hv1] at z1
                          cases z1
                          have : vs0 = ws := by
                            have := hs3 _ _ hl2
                            rw [this] at z2
                            cases z2
                            rfl
                          subst this
                          rw [c1] at z4
                          cases z4
                          exact ⟨q1, us, jI, n, rfl, rfl, z5, by rw [z6]; exact e4, q S1 T1 σ _ (x1.ex3 r.th) z8⟩
                      | _ => exact fun q => q.elim
            | _ => exact fun q => q.elim
/-- row = rows[k]; row[j] = row[j2] + e: one of the own lists, changed by another name -/
def aliasR (i r : Nat) (a k j : Rs D) (e : Rs D) (st : Sl) : Fl := match st[i]? with
  | some (some (.lst os)) => match a with
    | .ok (.int p) => match atI os p with
      | some (.lst ps) => match k, e, j with
        | .ok (.int k), .ok e, .ok (.int j) => match ixN os.length p, atI ps k, ixN ps.length j with
          | some m, some d, some n => match addD d.er e with
            | some z => if prim z = true then .nx ((st.set r none).set i (some (.lst (os.set m (.lst (ps.set n (.sh z))))))) else .bad
            | none => .bad
          | _, _, _ => .bad
        | _, _, _ => .bad
      | _ => .bad
    | _ => .bad
  | _ => .bad
theorem RS.unsetV {S T : Hp} {st : Sl} {σ : St} {H : Hp} (r : RS K S T st σ H) (i : Nat) (v : Option V) : RS K S T (st.set i none) (σ.set i v) H := by
  obtain ⟨f, w, nd, k⟩ := r.own
  by_cases hi : i < st.length
  · obtain ⟨f1, g, f2, e, _, h⟩ := w.set hi
    subst e
    simp only [List.nodup_append, List.mem_append] at nd
    refine ⟨r.lo, r.th, f1 ++ f2, h S H v (.refl _) fun _ _ => rfl, ?_, fun b hb => k b ?_⟩
    · simp only [List.nodup_append, List.mem_append]
      exact ⟨nd.1.1, nd.2.1, fun a ha b hb => nd.2.2 a (.inl ha) b hb⟩
    · simp only [List.mem_append] at hb ⊢
      rcases hb with z | z
      · exact .inl (.inl z)
      · exact .inr z
  · have h1 : st.set i none = st := List.set_eq_of_length_le (by omega)
    have h2 : σ.set i v = σ := List.set_eq_of_length_le (by rw [w.length]; omega)
    rw [h1, h2]
    exact r
abbrev rAddX : R2 := fun v w H Q => rI0 (fun i j => .int (i + j)) v w H Q ∨ ∃ i j, v = .str i ∧ w = .str j ∧ i.length + j.length ≤ sizeLine ∧ Q (.str (i ++ j)) H
theorem s_alias {i r : Nat} {ea ek ej ee : Expr} {s1 s2 : Stmt} {ss : List Stmt} {fa fk fj fe : Sl → Rs D} {g : Sl → Fl} (hir : i ≠ r) (hp1 : ∀ u, PEf X ea u → PSf X s1 (tAsg (tOp (rIx K) (tVar i) u) (gName r)))
    (hp2 : ∀ u v w, PEf X ek u → PEf X ee v → PEf X ej w → PSf X s2 (tAsg (tOp rAddX (tOp (rIx K) (tVar r) u) v) (gSub (tVar r) w rSetL)))
    (ha : EV K W0 cl (PEf X ea) fa) (hk : EV K W0 cl (PEf X ek) fk) (he : EV K W0 cl (PEf X ee) fe) (hj : EV K W0 cl (PEf X ej) fj) (rest : SJ K W cl (PSsf X ss) g) :
    SJ K W cl (PSsf X (s1 :: s2 :: ss)) fun st => (if r < st.length then aliasR i r (fa st) (fk (st.set r none)) (fj (st.set r none)) (fe (st.set r none)) st else .bad).thn g := by
  obtain ⟨ta, pa, ka⟩ := ha.ex
  obtain ⟨tk, pk, kk⟩ := hk.ex
  obtain ⟨tj, pj, kj⟩ := hj.ex
  obtain ⟨te, pe, ke⟩ := he.ex
  obtain ⟨tr, pr, kr⟩ := rest.ex
  refine ⟨_, fun z => pss_cons (hp1 _ pa z) (pss_cons (hp2 _ _ _ pk pe pj z) (pr z)), fun S T st σ H E rs q => ?_⟩
  have q : PSt K cl W S T ((if r < st.length then aliasR i r (fa st) (fk (st.set r none)) (fj (st.set r none)) (fe (st.set r none)) st else .bad).thn g) E := q
  by_cases hrl : r < st.length
  · rw [if_pos hrl] at q
    unfold aliasR at q
    cases e0 : st[i]? with
    | none => rw [e0] at q; exact q.elim
    | some z =>
      rw [e0] at q
      cases z with
      | none => exact q.elim
      | some o0 =>
        cases o0 with
        | sh _ => exact q.elim
        | tup _ => exact q.elim
        | lst os =>
          dsimp only at q
          obtain ⟨vv, gg, hv1, ww, _⟩ := rs.focus e0
          cases ww with
          | @lst p0 vs _ f2 hl2 ow2 =>
            refine ⟨.ref p0, hv1, ka S T st σ H _ rs ?_⟩
            revert q
            cases fa st with
            | bad => exact fun q => q.elim
            | ex c => exact fun q => q.elim
            | ok d =>
              cases d with
              | int pI =>
                intro q wv H2 hs2 rw2
                cases rw2
                dsimp only at q
                cases e1 : atI os pI with
                | none => rw [e1] at q; exact q.elim
                | some oi =>
                  rw [e1] at q
                  cases oi with
                  | sh _ => exact q.elim
                  | tup _ => exact q.elim
                  | lst ps =>
                    dsimp only at q
                    obtain ⟨m, e2, e3⟩ := atI_ix e1
                    obtain ⟨ov, fA, fB, fC, c1, c2, c3, c4⟩ := ow2.get e3
                    cases c3 with
                    | @lst p1 us _ f3 hl3 ow3 =>
                      refine .inl ⟨p0, vs, pI, .ref p1, rfl, rfl, SqL.of (hs2 _ _ hl2), ix_atI (by rw [ow2.length]; exact e2) c1, ?_⟩
                      have hσl : r < σ.length := by rw [rs.len]; exact hrl
                      have r1 : RS K S T (st.set r none) (σ.set r (some (.ref p1))) H2 := (rs.mono hs2).unsetV r _
                      have hσr : (σ.set r (some (V.ref p1)))[r]? = some (some (.ref p1)) := List.getElem?_set_self hσl
                      have rp3 : RpL K H us (erL ps) := ow3.rp rs.sh fun _ _ => rfl
                      refine ⟨.ref p1, hσr, kk S T _ _ H2 _ r1 ?_⟩
                      revert q
                      cases fk (st.set r none) with
                      | bad => exact fun q => q.elim
                      | ex c => exact fun q => q.elim
                      | ok dk =>
                        cases dk with
                        | int kI =>
                          intro q wk H3 hs3 rk
                          cases rk
                          skip
                          cases efe : fe (st.set r none) with
                          | bad => rw [efe] at q; exact q.elim
                          | ex c => rw [efe] at q; exact q.elim
                          | ok dE =>
                            rw [efe] at q
                            cases efj : fj (st.set r none) with
                            | bad => rw [efj] at q; exact q.elim
                            | ex c => rw [efj] at q; exact q.elim
                            | ok dj =>
                              rw [efj] at q
                              cases dj with
                              | int jI =>
                                dsimp only at q
                                rw [e2] at q
                                cases e5 : atI ps kI with
                                | none => rw [e5] at q; exact q.elim
                                | some od =>
                                  rw [e5] at q
                                  cases e6 : ixN ps.length jI with
                                  | none => rw [e6] at q; exact q.elim
                                  | some n =>
                                    rw [e6] at q
                                    dsimp only at q
                                    cases e7 : addD od.er dE with
                                    | none => rw [e7] at q; exact q.elim
                                    | some z =>
                                      rw [e7] at q
                                      dsimp only at q
                                      by_cases pz : prim z = true
                                      · rw [if_pos pz] at q
                                        obtain ⟨kn, e8, e9⟩ := atI_ix e5
                                        have e10 : (erL ps)[kn]? = some od.er := by rw [erL_map, List.getElem?_map, e9]; rfl
                                        obtain ⟨uv, u1, u2⟩ := rp3.get e10
                                        have hs23 := hs2.trans hs3
                                        refine .inl ⟨p1, us, kI, uv, rfl, rfl, SqL.of (hs23 _ _ hl3), ix_atI (by rw [ow3.length]; exact e8) u1, ?_⟩
                                        refine ke S T _ _ H3 _ (r1.mono hs3) ?_
                                        rw [efe]
                                        intro ev H4 hs4 re
                                        refine o_add (K := K) H4 uv ev od.er dE z _ (u2.mono (hs23.trans hs4)) re e7 fun zv H5 hs5 rz => ?_
                                        refine ⟨.ref p1, hσr, kj S T _ _ H5 _ (((r1.mono hs3).mono hs4).mono hs5) ?_⟩
                                        rw [efj]
                                        intro jv H6 hs6 rj
                                        cases rj
                                        have r6 := (((r1.mono hs3).mono hs4).mono hs5).mono hs6
                                        have e11 : (st.set r none)[i]? = some (some (.lst os)) := by rw [List.getElem?_set_ne (Ne.symm hir)]; exact e0
                                        obtain ⟨q0, q1, ws, us2, z1, z2, z3, z4, z5, z6, z7, z8⟩ := r6.put2 (v1 := zv) (g1 := []) (o := .sh z) e11 e3 (ixN_seq e6).2.1 (.sh (rz.prim pz)) .nil fun b hb => by cases hb
                                        have hσi : (σ.set r (some (V.ref p1)))[i]? = some (some (.ref p0)) := by rw [List.getElem?_set_ne (Ne.symm hir)]; exact hv1
                                        rw [hσi] at z1
                                        cases z1
                                        have hs26 : Same H H6 := ((hs23.trans hs4).trans hs5).trans hs6
                                        have a1 := hs26 _ _ hl2
                                        rw [a1] at z2
                                        cases z2
                                        rw [c1] at z4
                                        cases z4
                                        refine ⟨p1, us2, jI, n, rfl, rfl, z5, by rw [z6]; exact e6, ?_⟩
                                        exact kr S T _ _ _ E z8 q
                                      · rw [if_neg pz] at q
                                        exact q.elim
                              | _ => exact q.elim
                        | _ => exact fun q => q.elim
              | _ => exact fun q => q.elim
  · rw [if_neg hrl] at q
    exact q.elim
/-- x.append(y), y's own tree goes over -/
def appNR (i j : Nat) (st : Sl) : Fl := match st[i]?, st[j]? with
  | some (some (.lst os)), some (some o) => if os.length < sizeLine ∧ i ≠ j then .nx ((st.set j none).set i (some (.lst (os ++ [o])))) else .bad
  | _, _ => .bad
theorem s_appN {i j : Nat} {s : Stmt} (hp : PSf X s (tDrop (tBM K "list" rAppend (tVar i) (tCons (tVar j) tNil)))) : SJ K W cl (PSf X s) (appNR i j) := by
  refine ⟨_, hp, fun S T st σ H E r q => ?_⟩
  unfold appNR at q
  cases e0 : st[i]? with
  | none => rw [e0] at q; exact q.elim
  | some z =>
    rw [e0] at q
    cases z with
    | none => exact q.elim
    | some o0 =>
      cases o0 with
      | sh _ => exact q.elim
      | tup _ => exact q.elim
      | lst os =>
        cases e1 : st[j]? with
        | none => rw [e1] at q; exact q.elim
        | some y =>
          rw [e1] at q
          cases y with
          | none => exact q.elim
          | some o =>
            dsimp only at q
            by_cases c : os.length < sizeLine ∧ i ≠ j
            · rw [if_pos c] at q
              obtain ⟨vj, gj, h1, w1, n1, k1, in1, _⟩ := r.focus e1
              obtain ⟨f, wf, nf, kf⟩ := r.own
              have r2 := r.unsetV j (some vj)
              have hσ : σ.set j (some vj) = σ := by
                apply List.ext_getElem?
                intro m
                by_cases hm : j = m
                · subst hm
                  rw [List.getElem?_set_self (List.getElem?_eq_some_iff.mp h1).1, h1]
                · rw [List.getElem?_set_ne hm]
              rw [hσ] at r2
              have e2 : (st.set j none)[i]? = some (some (.lst os)) := by rw [List.getElem?_set_ne (Ne.symm c.2)]; exact e0
              obtain ⟨vi, gi, h2, w2, n2, k2, in2, put⟩ := r2.focus e2
              -- y's knots are in no other slot
              have apart : ∀ b ∈ gj, ∀ f', OwSt K S H σ (st.set j none) f' → b ∉ f' := fun b hb f' w' hf' => by
                obtain ⟨v3, f1, g3, f2, a1, a2, a3, a4, a5⟩ := wf.get e1
                rw [h1] at a1
                cases a1
                have := a3.det w1
                subst this
                have w5 := a5 S H (some vj) (.refl _) fun _ _ => rfl
                rw [hσ] at w5
                rw [← w5.det w'] at hf'
                subst a2
                simp only [List.nodup_append, List.mem_append] at nf hf'
                rcases hf' with z | z
                · exact nf.1.2.2 b z b hb rfl
                · exact nf.2.2 b (.inr hb) b z rfl
              cases w2 with
              | @lst p0 vs _ f2 hl2 ow2 =>
                obtain ⟨fB, wB, _, _⟩ := r2.own
                have pg : ∀ b ∈ gj, b ∉ p0 :: f2 := fun b hb hm => apart b hb fB wB (in2 fB wB b hm)
                have pf : p0 ∉ f2 := (List.nodup_cons.mp n2).1
                have pj : p0 ∉ gj := fun z => pg p0 z (by simp)
                refine ⟨.ref p0, h2, .inl ⟨rfl, vs, SqL.of hl2⟩, vj, h1, p0, vs, vj, rfl, rfl, hl2, by rw [ow2.length]; exact c.1, ?_⟩
                refine q S T σ _ .refl (put (upd H p0 (.lst (vs ++ [vj]))) (.lst (os ++ [o])) (p0 :: (f2 ++ gj)) (fun b hb => upd_ne fun e => hb (by rw [e]; simp)) ?_ ?_ fun b hb => ?_)
                · have w3 : OwL K S (upd H p0 (.lst (vs ++ [vj]))) vs os f2 := ow2.mono (.refl _) fun b hb => upd_ne fun e => pf (e ▸ hb)
                  have w4 : Ow K S (upd H p0 (.lst (vs ++ [vj]))) vj o gj := w1.mono (.refl _) fun b hb => upd_ne fun e => pj (e ▸ hb)
                  have := w3.append (.cons w4 .nil)
                  rw [List.append_nil] at this
                  exact .lst upd_same this
                · rw [List.nodup_cons, List.mem_append, List.nodup_append]
                  exact ⟨fun z => z.elim pf pj, (List.nodup_cons.mp n2).2, n1, fun a ha b hb e => pg b hb (by rw [← e]; simp [ha])⟩
                · rcases List.mem_cons.mp hb with rfl | hb
                  · exact .inl (by simp)
                  · rcases List.mem_append.mp hb with hb | hb
                    · exact .inl (by simp [hb])
                    · exact .inr ⟨k1 b hb, apart b hb⟩
            · rw [if_neg c] at q
              exact q.elim
def elemsT (a : Rs D) : Rs (List D) := a.bind fun d => match d with
  | .tup ds => .ok ds
  | _ => .bad
@[simp] theorem elemsT_ok (ds : List D) : elemsT (.ok (.tup ds)) = .ok ds := rfl
/-- a tuple that stays, walked -/
theorem i_tup {tg e : Expr} {f : Sl → Rs D} (h : EP K W cl (PEf X e) f) (hK : ∀ z, (X z).K = K := by intro _; rfl) : EI K W cl (PIf X tg e) fun st => elemsT (f st) := by
  obtain ⟨t, p, a⟩ := h.ex
  refine ⟨iTup K t, fun z => hK z ▸ pi_tup (p z), fun S T st σ H Q r q => a S T st σ H _ r ?_⟩
  revert q
  show (match elemsT (f st) with | .ok ds => _ | .ex c => _ | .bad => _) → _
  cases f st with
  | bad => exact fun q => q
  | ex c => exact fun q => q
  | ok d =>
    intro q v S1 T1 H1 h1 x1 s1 t1 r1
    cases r1 with
    | @tup ad us ds hq rl =>
      have q : ∀ J S' T' H', Same H H' → Ext S T H S' T' → RS K S' T' st σ H' → Yields K J S' ds → Q J H' := q
      refine ⟨ad, rfl, ⟨us, SqT.of ((s1.trans t1) _ _ hq)⟩, q (Itt K ad) S1 T1 H1 h1 x1 (r.ext h1 x1 s1 t1) ⟨fun i H2 k hi => ?_, fun i H2 k hi => ?_, fun i H2 x H3 d k e y => ?_⟩⟩
      · exact ⟨us, SqT.of (k _ _ hq), by rw [rl.length]; exact hi⟩
      · exact ⟨us, us[i]'(by rw [rl.length]; exact hi), SqT.of (k _ _ hq), by simp⟩
      · obtain ⟨y1, y2⟩ := y
        have := y2 us (SqT.of (k _ _ hq))
        obtain ⟨u, e2, r2⟩ := rl.get e
        rw [this] at e2
        cases e2
        exact .inl ⟨y1, r2⟩
    | _ => exact q.elim
end
end M

/-! Lists of numbers, comprehensions, loops: what they come to. -/
namespace M
open PySem L2
/-- a list of numbers; a new one -/
abbrev li (xs : List Int) : D := .lst (xs.map D.int)
abbrev fo (xs : List Int) : O := .lst (xs.map fun x => O.sh (D.int x))
@[simp] theorem er_comp_int : (O.er ∘ fun x => O.sh (D.int x)) = D.int := funext fun x => er_sh _
theorem fo_er (xs : List Int) : (fo xs).er = li xs := by simp
/-- rows -/
abbrev lm (rs : List (List Int)) : D := .lst (rs.map li)
theorem lcF_map {α : Type} {tg : D → Sl → Option Sl} {ts : Sl → Rs Bool} {el : Sl → Rs O} {st : Sl} {f : α → D} {g : α → O} : ∀ {xs : List α}, (∀ a ∈ xs, ∃ st1, tg (f a) st = some st1 ∧ ts st1 = .ok true ∧ el st1 = .ok (g a)) → lcF tg ts el st (xs.map f) = .ok (xs.map g)
  | [], _ => rfl
  | a :: xs, h => by
    obtain ⟨st1, e1, e2, e3⟩ := h a (by simp)
    have ih := lcF_map (xs := xs) fun b hb => h b (by simp [hb])
    rw [List.map_cons, List.map_cons]
    unfold lcF
    rw [e1]
    dsimp only
    rw [e2, e3, ih]
    rfl
theorem lcR_map {α : Type} {it : Rs (List D)} {tg : D → Sl → Option Sl} {ts : Sl → Rs Bool} {el : Sl → Rs O} {vs : List Nat} {st : Sl} {xs : List α} {f : α → D} {g : α → O} (hi : it = .ok (xs.map f)) (hl : xs.length < 16000000)
    (h : ∀ a ∈ xs, ∃ st1, tg (f a) (wipeS st vs) = some st1 ∧ ts st1 = .ok true ∧ el st1 = .ok (g a)) : lcR it tg ts el vs st = .ok (.lst (xs.map g)) := by
  subst hi
  unfold lcR
  rw [bind_ok, lcF_map h]
  unfold lenOk
  rw [bind_ok, if_pos (by rw [List.length_map, sizeLine_eq]; omega)]
  rfl
/-- with a test -/
theorem lcF_filter {α : Type} {tg : D → Sl → Option Sl} {ts : Sl → Rs Bool} {el : Sl → Rs O} {st : Sl} {f : α → D} {g : α → O} {p : α → Bool} : ∀ {xs : List α}, (∀ a ∈ xs, ∃ st1, tg (f a) st = some st1 ∧ ts st1 = .ok (p a) ∧ (p a = true → el st1 = .ok (g a))) → lcF tg ts el st (xs.map f) = .ok ((xs.filter p).map g)
  | [], _ => rfl
  | a :: xs, h => by
    obtain ⟨st1, e1, e2, e3⟩ := h a (by simp)
    have ih := lcF_filter (xs := xs) fun b hb => h b (by simp [hb])
    rw [List.map_cons]
    unfold lcF
    rw [e1]
    dsimp only
    rw [e2]
    cases hp : p a with
    | true =>
      rw [List.filter_cons_of_pos hp, List.map_cons, e3 hp, ih]
      rfl
    | false =>
      rw [List.filter_cons_of_neg (by rw [hp]; exact Bool.false_ne_true)]
      exact ih
theorem lcR_filter {α : Type} {it : Rs (List D)} {tg : D → Sl → Option Sl} {ts : Sl → Rs Bool} {el : Sl → Rs O} {vs : List Nat} {st : Sl} {xs : List α} {f : α → D} {g : α → O} {p : α → Bool} (hi : it = .ok (xs.map f)) (hl : xs.length < 16000000)
    (h : ∀ a ∈ xs, ∃ st1, tg (f a) (wipeS st vs) = some st1 ∧ ts st1 = .ok (p a) ∧ (p a = true → el st1 = .ok (g a))) : lcR it tg ts el vs st = .ok (.lst ((xs.filter p).map g)) := by
  subst hi
  unfold lcR
  rw [bind_ok, lcF_filter h]
  unfold lenOk
  have := List.length_filter_le p xs
  rw [bind_ok, if_pos (by rw [List.length_map, sizeLine_eq]; omega)]
  rfl
theorem range1_nat {n : Nat} (h : n < 16000000) : range1 (.ok (.int (n : Int))) = .ok ((List.range n).map fun (i : Nat) => D.int i) := by
  rw [range1_ok, if_pos (rngOk_of (by omega) (by omega))]
  show Rs.ok ((List.range (n : Int).toNat).map _) = _
  rw [Int.toNat_natCast]
  congr 1
  apply List.map_congr_left
  intro i _
  rw [Int.zero_add]
theorem atI_map {α β : Type} {xs : List α} {f : α → β} {j : Nat} (h : j < xs.length) : atI (xs.map f) (j : Int) = some (f xs[j]) := by
  rw [atI_ofNat (by rw [List.length_map]; exact h), List.getElem_map]
theorem zipD_map {α β : Type} (xs : List α) (ys : List β) (f : α → D) (g : β → D) : zipD (xs.map f) (ys.map g) = (xs.zip ys).map fun p => D.tup [f p.1, g p.2] := by
  unfold zipD
  rw [List.zip_map, List.map_map]
  rfl
/-- a loop that goes through, by a fold over what it walks -/
theorem forF_fold {α σ : Type} {tg : D → Sl → Option Sl} {body : Sl → Fl} {f : α → D} {S : σ → Option O → Sl} {step : σ → α → σ} {P : σ → Prop} : ∀ (xs : List α) (s : σ) (o : Option O), P s →
    (∀ a ∈ xs, ∀ s o, P s → P (step s a) ∧ ∃ st1 o', tg (f a) (S s o) = some st1 ∧ body st1 = .nx (S (step s a) o')) → ∃ o', forF tg body (xs.map f) (S s o) = .nx (S (xs.foldl step s) o') ∧ P (xs.foldl step s)
  | [], s, o, p, _ => ⟨o, rfl, p⟩
  | a :: xs, s, o, p, h => by
    obtain ⟨p', st1, o', e1, e2⟩ := h a (by simp) s o p
    obtain ⟨o2, e3, p2⟩ := forF_fold xs (step s a) o' p' fun b hb => h b (by simp [hb])
    refine ⟨o2, ?_, p2⟩
    rw [List.map_cons]
    unfold forF
    rw [e1]
    dsimp only
    rw [e2]
    exact e3
/-! equality of lists of numbers -/
theorem pyL_map : ∀ ds : List D, pyL ds = ds.map D.py
  | [] => rfl
  | d :: ds => by rw [pyL, pyL_map ds]; rfl
theorem py_li (xs : List Int) : (li xs).py = .list (xs.map PyData.int) := by
  show PyData.list (pyL (xs.map D.int)) = _
  rw [pyL_map, List.map_map]
  rfl
theorem lay_ints : ∀ xs : List Int, PyData.canLayAll0 (xs.map PyData.int) = true
  | [] => rfl
  | x :: xs => by
    rw [List.map_cons, PyData.canLayAll0, lay_ints xs]
    rfl
theorem depth_ints : ∀ xs : List Int, PyData.depthAll (xs.map PyData.int) ≤ 1
  | [] => by decide
  | x :: xs => by
    have := depth_ints xs
    rw [List.map_cons, PyData.depthAll]
    have : PyData.depth (.int x) ≤ 1 := by unfold PyData.depth; decide
    omega
theorem eqv_ints : ∀ xs ys : List Int, PyData.eqvAll (xs.map PyData.int) (ys.map PyData.int) = decide (xs = ys)
  | [], [] => rfl
  | [], _ :: _ => rfl
  | _ :: _, [] => rfl
  | x :: xs, y :: ys => by
    rw [List.map_cons, List.map_cons, PyData.eqvAll, eqv_ints xs ys]
    have : PyData.eqv (.int x) (.int y) = decide (x = y) := Bool.beq_eq_decide_eq x y
    rw [this]
    by_cases h1 : x = y <;> by_cases h2 : xs = ys <;> simp [h1, h2]
theorem shaped_li (xs : List Int) : SeqAt.shaped (li xs).py = true := by
  rw [py_li]
  unfold SeqAt.shaped
  have h1 : PyData.canLay0 (.list (xs.map PyData.int)) = true := by rw [PyData.canLay0]; exact lay_ints xs
  have h2 : PyData.depth (.list (xs.map PyData.int)) ≤ 64 := by
    have := depth_ints xs
    rw [PyData.depth]
    omega
  rw [h1, decide_eq_true h2]
  rfl
theorem eq_li (xs ys : List Int) : eqD (li xs) (li ys) = some (.bl (decide (xs = ys))) := by
  unfold eqD eqOk
  rw [shaped_li, shaped_li, if_pos (show (true && true) = true from rfl)]
  unfold eqB
  rw [py_li, py_li, PyData.eqv, eqv_ints]
theorem ne_li (xs ys : List Int) : neD (li xs) (li ys) = some (.bl (!decide (xs = ys))) := by
  unfold neD eqOk
  rw [shaped_li, shaped_li, if_pos (show (true && true) = true from rfl)]
  unfold eqB
  rw [py_li, py_li, PyData.eqv, eqv_ints]
/-! rows -/
theorem py_lm (rs : List (List Int)) : (lm rs).py = .list (rs.map fun xs => .list (xs.map PyData.int)) := by
  show PyData.list (pyL (rs.map li)) = _
  rw [pyL_map, List.map_map]
  congr 1
  apply List.map_congr_left
  intro xs _
  exact py_li xs
theorem lay_rows : ∀ rs : List (List Int), PyData.canLayAll0 (rs.map fun xs => .list (xs.map PyData.int)) = true
  | [] => rfl
  | x :: xs => by
    rw [List.map_cons, PyData.canLayAll0, lay_rows xs, PyData.canLay0, lay_ints]
    rfl
theorem depth_rows : ∀ rs : List (List Int), PyData.depthAll (rs.map fun xs => .list (xs.map PyData.int)) ≤ 2
  | [] => by decide
  | x :: xs => by
    have := depth_rows xs
    have := depth_ints x
    rw [List.map_cons, PyData.depthAll, PyData.depth]
    omega
theorem eqv_rows : ∀ xs ys : List (List Int), PyData.eqvAll (xs.map fun xs => .list (xs.map PyData.int)) (ys.map fun xs => .list (xs.map PyData.int)) = decide (xs = ys)
  | [], [] => rfl
  | [], _ :: _ => rfl
  | _ :: _, [] => rfl
  | x :: xs, y :: ys => by
    rw [List.map_cons, List.map_cons, PyData.eqvAll, eqv_rows xs ys, PyData.eqv, eqv_ints]
    by_cases h1 : x = y <;> by_cases h2 : xs = ys <;> simp [h1, h2]
theorem shaped_lm (rs : List (List Int)) : SeqAt.shaped (lm rs).py = true := by
  rw [py_lm]
  unfold SeqAt.shaped
  have h1 : PyData.canLay0 (.list (rs.map fun xs => .list (xs.map PyData.int))) = true := by rw [PyData.canLay0]; exact lay_rows rs
  have h2 : PyData.depth (.list (rs.map fun xs => .list (xs.map PyData.int))) ≤ 64 := by
    have := depth_rows rs
    rw [PyData.depth]
    omega
  rw [h1, decide_eq_true h2]
  rfl
theorem eq_lm (xs ys : List (List Int)) : eqD (lm xs) (lm ys) = some (.bl (decide (xs = ys))) := by
  unfold eqD eqOk
  rw [shaped_lm, shaped_lm, if_pos (show (true && true) = true from rfl)]
  unfold eqB
  rw [py_lm, py_lm, PyData.eqv, eqv_rows]
theorem ne_lm (xs ys : List (List Int)) : neD (lm xs) (lm ys) = some (.bl (!decide (xs = ys))) := by
  unfold neD eqOk
  rw [shaped_lm, shaped_lm, if_pos (show (true && true) = true from rfl)]
  unfold eqB
  rw [py_lm, py_lm, PyData.eqv, eqv_rows]
theorem intsD_map : ∀ xs : List Int, intsD (xs.map D.int) = some xs
  | [] => rfl
  | x :: xs => by rw [List.map_cons, intsD, intsD_map xs]; rfl
theorem boolsD_map : ∀ xs : List Bool, boolsD (xs.map D.bl) = some xs
  | [] => rfl
  | x :: xs => by rw [List.map_cons, boolsD, boolsD_map xs]; rfl
theorem sum_li (xs : List Int) : sumD (li xs) = some (.int xs.sum) := by
  unfold sumD
  show (intsD (xs.map D.int)).map _ = _
  rw [intsD_map]
  rfl
theorem all_bl (xs : List Bool) : allD (.lst (xs.map D.bl)) = some (.bl (xs.all id)) := by
  unfold allD
  show (boolsD (xs.map D.bl)).map _ = _
  rw [boolsD_map]
  rfl
theorem any_bl (xs : List Bool) : anyD (.lst (xs.map D.bl)) = some (.bl (xs.any id)) := by
  unfold anyD
  show (boolsD (xs.map D.bl)).map _ = _
  rw [boolsD_map]
  rfl
theorem rep_zero {k : Int} (h0 : 0 ≤ k) (h1 : k < 16000000) : repF (.ok (.lst [.int 0])) (.ok (.int k)) = .ok (fo (List.replicate k.toNat 0)) := by
  have c : repOk 1 k = true := by
    unfold repOk
    rw [decide_eq_true (by omega), decide_eq_true (by omega), decide_eq_true (by rw [sizeLine_eq]; omega)]
    rfl
  have e : (List.replicate k.toNat [D.int 0]).flatten = List.replicate k.toNat (D.int 0) := by
    generalize k.toNat = n
    induction n with
    | zero => rfl
    | succ n ih => rw [List.replicate_succ, List.replicate_succ, List.flatten_cons, ih]; rfl
  show (if repOk 1 k = true then Rs.ok (O.lst ((List.replicate k.toNat [D.int 0]).flatten.map .sh)) else .bad) = _
  rw [if_pos c, e, List.map_replicate]
  unfold fo
  rw [List.map_replicate]
end M

/-! Lists of numbers: sums of rows, weights; plain. -/
namespace M
def dot (xs ys : List Int) : Int := (List.zipWith (· * ·) xs ys).sum
def addS (t : List Int) (p : Int × List Int) : List Int := List.zipWith (· + ·) t (p.2.map (· * p.1))
def mixF (cs : List Int) (rs : List (List Int)) (k : Nat) : List Int := (cs.zip rs).foldl addS (List.replicate k 0)
theorem addS_length {t : List Int} {p : Int × List Int} (h : p.2.length = t.length) : (addS t p).length = t.length := by
  unfold addS
  rw [List.length_zipWith, List.length_map, h, Nat.min_self]
theorem fold_length : ∀ {ps : List (Int × List Int)} {t : List Int}, (∀ p ∈ ps, p.2.length = t.length) → (ps.foldl addS t).length = t.length
  | [], t, _ => rfl
  | p :: ps, t, h => by
    have e := addS_length (h p (by simp))
    rw [List.foldl_cons, fold_length fun q hq => by rw [e]; exact h q (by simp [hq]), e]
theorem addS_get {t : List Int} {p : Int × List Int} (h : p.2.length = t.length) (c : Nat) : (addS t p).getD c 0 = t.getD c 0 + p.2.getD c 0 * p.1 := by
  unfold addS
  by_cases hc : c < t.length
  · have hc2 : c < p.2.length := by omega
    simp [List.getD, List.getElem?_zipWith, hc, hc2]
  · have hc2 : ¬ c < p.2.length := by omega
    simp [List.getD, List.getElem?_zipWith, hc, hc2]
theorem fold_get : ∀ {ps : List (Int × List Int)} {t : List Int}, (∀ p ∈ ps, p.2.length = t.length) → ∀ c, (ps.foldl addS t).getD c 0 = t.getD c 0 + (ps.map fun p => p.2.getD c 0 * p.1).sum
  | [], t, _, c => by simp
  | p :: ps, t, h, c => by
    have e := addS_length (h p (by simp))
    rw [List.foldl_cons, fold_get (fun q hq => by rw [e]; exact h q (by simp [hq])) c, addS_get (h p (by simp)), List.map_cons, List.sum_cons]
    omega
theorem dot_cons (x y : Int) (xs ys : List Int) : dot (x :: xs) (y :: ys) = x * y + dot xs ys := by
  unfold dot
  rw [List.zipWith_cons_cons, List.sum_cons]
theorem dot_zero : ∀ (n : Nat) (w : List Int), dot (List.replicate n 0) w = 0
  | 0, w => by simp [dot]
  | n + 1, [] => by simp [dot]
  | n + 1, w :: ws => by rw [List.replicate_succ, dot_cons, dot_zero n ws]; omega
theorem dot_add : ∀ (t v : List Int) (c : Int) (w : List Int), v.length = t.length → dot (List.zipWith (· + ·) t (v.map (· * c))) w = dot t w + c * dot v w
  | [], [], c, w, _ => by simp [dot]
  | x :: t, [], c, w, h => by simp at h
  | [], y :: v, c, w, h => by simp at h
  | x :: t, y :: v, c, [], h => by simp [dot]
  | x :: t, y :: v, c, z :: w, h => by
    rw [List.map_cons, List.zipWith_cons_cons, dot_cons, dot_cons, dot_cons, dot_add t v c w (by simpa using h), Int.add_mul, Int.mul_add, Int.mul_comm y c, Int.mul_assoc]
    omega
theorem fold_dot (w : List Int) : ∀ {ps : List (Int × List Int)} {t : List Int}, (∀ p ∈ ps, p.2.length = t.length) → dot (ps.foldl addS t) w = dot t w + (ps.map fun p => p.1 * dot p.2 w).sum
  | [], t, _ => by simp
  | p :: ps, t, h => by
    have e := addS_length (h p (by simp))
    rw [List.foldl_cons, fold_dot w (fun q hq => by rw [e]; exact h q (by simp [hq])), List.map_cons, List.sum_cons]
    have : dot (addS t p) w = dot t w + p.1 * dot p.2 w := dot_add t p.2 p.1 w (h p (by simp))
    omega
theorem zip_map_range {α : Type} (cs : List Int) (rs : List (List Int)) (F : Int → List Int → α) (h : cs.length = rs.length) : (cs.zip rs).map (fun p => F p.1 p.2) = (List.range rs.length).map fun j => F (cs.getD j 0) (rs.getD j []) := by
  apply List.ext_getElem
  · simp [h]
  · intro i h1 h2
    have hi : i < rs.length := by simpa using h2
    have hi2 : i < cs.length := by omega
    simp [List.getD, hi, hi2]
theorem range_getD {α : Type} (xs : List α) (d : α) : xs = (List.range xs.length).map fun i => xs.getD i d := by
  apply List.ext_getElem
  · simp
  · intro i h1 h2
    simp [List.getD, h1]
theorem ext_getD {xs ys : List Int} (h : xs.length = ys.length) (k : ∀ i, i < xs.length → xs.getD i 0 = ys.getD i 0) : xs = ys := by
  apply List.ext_getElem h
  intro i h1 h2
  have := k i h1
  simpa [List.getD, h1, h2] using this
/-- numbers below a bound -/
def Low (b : Nat) (xs : List Int) : Prop := ∀ x ∈ xs, x.natAbs < b
theorem Low.mono {b c : Nat} {xs : List Int} (h : Low b xs) (k : b ≤ c) : Low c xs := fun x hx => Nat.lt_of_lt_of_le (h x hx) k
theorem Low.getD {b : Nat} {xs : List Int} (h : Low b xs) (hb : 0 < b) (i : Nat) : (xs.getD i 0).natAbs < b := by
  by_cases hi : i < xs.length
  · simp only [List.getD, List.getElem?_eq_getElem hi, Option.getD_some]
    exact h _ (List.getElem_mem hi)
  · simp [List.getD, hi, hb]
theorem sum_le (b : Nat) : ∀ xs : List Int, (∀ x ∈ xs, x.natAbs ≤ b) → xs.sum.natAbs ≤ xs.length * b
  | [], _ => by simp
  | x :: xs, h => by
    have h1 := h x (by simp)
    have h2 := sum_le b xs fun y hy => h y (by simp [hy])
    rw [List.sum_cons, List.length_cons, Nat.add_mul, Nat.one_mul]
    omega
end M

/-! mixing as a product of rows -/
namespace M
theorem mixF_length {cs : List Int} {ps : List (List Int)} {k : Nat} (h : ∀ r ∈ ps, r.length = k) : (mixF cs ps k).length = k := by
  unfold mixF
  rw [fold_length fun p hp => by rw [List.length_replicate]; exact h _ (List.of_mem_zip hp).2, List.length_replicate]
theorem mixF_get {cs : List Int} {ps : List (List Int)} {k : Nat} (h : ∀ r ∈ ps, r.length = k) (c : Nat) : (mixF cs ps k).getD c 0 = ((cs.zip ps).map fun p => p.2.getD c 0 * p.1).sum := by
  unfold mixF
  rw [fold_get fun p hp => by rw [List.length_replicate]; exact h _ (List.of_mem_zip hp).2]
  have z : (List.replicate k (0 : Int)).getD c 0 = 0 := by
    rw [List.getD_eq_getElem?_getD, List.getElem?_replicate]
    split <;> rfl
  rw [z, Int.zero_add]
theorem mixF_dot {ps : List (List Int)} {k : Nat} (h : ∀ r ∈ ps, r.length = k) (c : Nat) : ∀ cs : List Int, (mixF cs ps k).getD c 0 = dot cs (ps.map fun r => r.getD c 0) := by
  intro cs
  rw [mixF_get h]
  clear h
  unfold dot
  congr 1
  induction cs generalizing ps with
  | nil => rfl
  | cons x cs ih =>
    cases ps with
    | nil => rfl
    | cons r ps =>
      simp only [List.zip_cons_cons, List.map_cons, List.zipWith_cons_cons]
      rw [ih, Int.mul_comm]
theorem mixF_low {cs : List Int} {ps : List (List Int)} {k a b e : Nat} (h : ∀ r ∈ ps, r.length = k) (hc : ∀ c ∈ cs, c.natAbs < 2 ^ a) (hp : ∀ r ∈ ps, Low (2 ^ b) r) (hl : cs.length ≤ 2 ^ e) (i : Nat) : ((mixF cs ps k).getD i 0).natAbs < 2 ^ (a + b + e + 1) := by
  rw [mixF_get h]
  have := sum_le (2 ^ (a + b)) ((cs.zip ps).map fun p => p.2.getD i 0 * p.1) fun x hx => by
    obtain ⟨p, hq, rfl⟩ := List.mem_map.mp hx
    obtain ⟨h1, h2⟩ := List.of_mem_zip hq
    rw [Int.natAbs_mul]
    have h3 := (hp _ h2).getD (Nat.two_pow_pos _) i
    have h4 := hc _ h1
    have := Nat.mul_le_mul (Nat.le_of_lt h3) (Nat.le_of_lt h4)
    rw [← Nat.pow_add, Nat.add_comm b a] at this
    exact this
  have hz : ((cs.zip ps).map fun p => p.2.getD i 0 * p.1).length ≤ 2 ^ e := by
    rw [List.length_map, List.length_zip]
    exact Nat.le_trans (Nat.min_le_left _ _) hl
  have h2 := Nat.mul_le_mul_right (2 ^ (a + b)) hz
  rw [← Nat.pow_add] at h2
  have h3 : 2 ^ (e + (a + b)) < 2 ^ (a + b + e + 1) := Nat.pow_lt_pow_right (by decide) (by omega)
  omega
theorem mixF_mem_low {cs : List Int} {ps : List (List Int)} {k a b e : Nat} (h : ∀ r ∈ ps, r.length = k) (hc : ∀ c ∈ cs, c.natAbs < 2 ^ a) (hp : ∀ r ∈ ps, Low (2 ^ b) r) (hl : cs.length ≤ 2 ^ e) : Low (2 ^ (a + b + e + 1)) (mixF cs ps k) := by
  intro x hx
  obtain ⟨i, hi, rfl⟩ := List.mem_iff_getElem.mp hx
  have := mixF_low (i := i) h hc hp hl
  rw [List.getD_eq_getElem?_getD, List.getElem?_eq_getElem hi] at this
  exact this
/-- what is mixed twice is mixed once by what the mixed are mixed to -/
theorem mixF_mixF {cs : List Int} {ps bs : List (List Int)} {l m : Nat} (hp : ∀ r ∈ ps, r.length = l) (hb : ∀ r ∈ bs, r.length = m) : mixF cs (ps.map fun r => mixF r bs m) m = mixF (mixF cs ps l) bs m := by
  have h1 : ∀ r ∈ ps.map (fun r => mixF r bs m), r.length = m := fun r hr => by
    obtain ⟨x, _, rfl⟩ := List.mem_map.mp hr
    exact mixF_length hb
  apply ext_getD
  · rw [mixF_length h1, mixF_length hb]
  · intro i hi
    clear hi
    rw [mixF_get h1, mixF_dot hb]
    unfold mixF
    rw [fold_dot _ fun p hq => by rw [List.length_replicate]; exact hp _ (List.of_mem_zip hq).2, dot_zero, Int.zero_add]
    congr 1
    clear hp h1
    induction cs generalizing ps with
    | nil => rfl
    | cons x cs ih =>
      cases ps with
      | nil => rfl
      | cons r ps =>
        simp only [List.zip_cons_cons, List.map_cons]
        have e := mixF_dot (k := m) hb i r
        unfold mixF at e
        rw [ih, e, Int.mul_comm]
theorem zip_range (cs : List Int) (ps : List (List Int)) {c : Nat} (h : cs.length = ps.length) : ((cs.zip ps).map fun p => p.2.getD c 0 * p.1) = (List.range cs.length).map fun j => cs.getD j 0 * (ps.getD j []).getD c 0 := by
  rw [zip_map_range cs ps (fun a b => b.getD c 0 * a) h, h]
  apply List.map_congr_left
  intro j _
  exact Int.mul_comm _ _
end M

/-! the place of a row; led down rows -/
namespace M
def pl : List Int → Nat
  | [] => 0
  | x :: xs => if x = 0 then pl xs + 1 else 0
theorem pl_le : ∀ xs : List Int, pl xs ≤ xs.length
  | [] => Nat.le_refl _
  | x :: xs => by
    have := pl_le xs
    unfold pl
    split <;> simp <;> omega
theorem pl_zero : ∀ {xs : List Int} {i : Nat}, i < pl xs → xs.getD i 0 = 0
  | [], i, h => absurd h (Nat.not_lt_zero _)
  | x :: xs, i, h => by
    unfold pl at h
    split at h
    · cases i with
      | zero => simpa
      | succ i => simpa using pl_zero (xs := xs) (i := i) (by omega)
    · exact absurd h (Nat.not_lt_zero _)
theorem pl_ne : ∀ {xs : List Int}, pl xs < xs.length → xs.getD (pl xs) 0 ≠ 0
  | [], h => absurd h (Nat.not_lt_zero _)
  | x :: xs, h => by
    unfold pl at h ⊢
    split
    · rename_i hx
      rw [if_pos hx] at h
      simpa using pl_ne (xs := xs) (by simpa using h)
    · simpa
theorem pl_unique {xs : List Int} {p : Nat} (h1 : ∀ i, i < p → xs.getD i 0 = 0) (h2 : xs.getD p 0 ≠ 0) : pl xs = p := by
  rcases Nat.lt_trichotomy (pl xs) p with h | h | h
  · have : pl xs < xs.length := by
      rcases Nat.lt_or_ge (pl xs) xs.length with z | z
      · exact z
      · have : xs.getD p 0 = 0 := by
          rw [List.getD_eq_getElem?_getD, List.getElem?_eq_none (by omega)]; rfl
        exact absurd this h2
    exact absurd (h1 _ h) (pl_ne this)
  · exact h
  · exact absurd (pl_zero h) h2
/-- one row taken off -/
def offF (row rest : List Int) (m : Int) : List Int := List.zipWith (fun x y => 1 * x + -m * y) rest row
def ledS (s : List Int × List Int) (row : List Int) : List Int × List Int :=
  (s.1 ++ [(s.2.getD (pl row) 0).fdiv (row.getD (pl row) 0)], offF row s.2 ((s.2.getD (pl row) 0).fdiv (row.getD (pl row) 0)))
def ledF (rungs : List (List Int)) (purse : List Int) : List Int × List Int := rungs.foldl ledS ([], purse)
theorem offF_length {row rest : List Int} {m : Int} (h : row.length = rest.length) : (offF row rest m).length = rest.length := by
  unfold offF
  rw [List.length_zipWith, h, Nat.min_self]
theorem offF_get {row rest : List Int} {m : Int} (h : row.length = rest.length) (i : Nat) : (offF row rest m).getD i 0 = rest.getD i 0 - m * row.getD i 0 := by
  unfold offF
  by_cases hi : i < rest.length
  · simp [List.getD, hi, h, Int.neg_mul]
    omega
  · rw [List.getD_eq_getElem?_getD, List.getElem?_eq_none (by simp; omega), List.getD_eq_getElem?_getD, List.getElem?_eq_none (by omega), List.getD_eq_getElem?_getD, List.getElem?_eq_none (by omega)]
    simp
theorem low_of_getD {b : Nat} {xs : List Int} (h : ∀ i, i < xs.length → (xs.getD i 0).natAbs < b) : Low b xs := fun x hx => by
  obtain ⟨i, hi, rfl⟩ := List.mem_iff_getElem.mp hx
  have := h i hi
  rwa [List.getD_eq_getElem?_getD, List.getElem?_eq_getElem hi] at this
theorem offF_low {row rest : List Int} {m : Int} {a b : Nat} (h : row.length = rest.length) (h1 : Low (2 ^ b) row) (h2 : Low (2 ^ a) rest) (h3 : m.natAbs < 2 ^ a) : Low (2 ^ (a + (b + 2))) (offF row rest m) :=
  low_of_getD fun i _ => by
    rw [offF_get h]
    have e1 := h2.getD (Nat.two_pow_pos _) i
    have e2 := h1.getD (Nat.two_pow_pos _) i
    have e3 := Nat.mul_le_mul (Nat.le_of_lt h3) (Nat.le_of_lt e2)
    rw [← Nat.pow_add] at e3
    have e4 : 2 ^ a ≤ 2 ^ (a + b) := Nat.pow_le_pow_right (by decide) (by omega)
    have e5 : 2 ^ (a + (b + 2)) = 2 ^ (a + b) * 4 := by rw [show a + (b + 2) = (a + b) + 2 by omega, Nat.pow_add]
    have e6 := Int.natAbs_sub_le (rest.getD i 0) (m * row.getD i 0)
    rw [Int.natAbs_mul] at e6
    have e7 : 0 < 2 ^ (a + b) := Nat.two_pow_pos _
    omega
/-- what is mixed of rows whose places grow is led down to its counts -/
theorem led_mix {k : Nat} {rest : List Int} (hr : rest.length = k) : ∀ (rungs : List (List Int)) (often purse pre : List Int), often.length = rungs.length → purse.length = k → (∀ r ∈ rungs, r.length = k) → rungs.Pairwise (fun a b => pl a < pl b) →
    (∀ r ∈ rungs, 0 ≤ rest.getD (pl r) 0 ∧ rest.getD (pl r) 0 < r.getD (pl r) 0) → (∀ c, purse.getD c 0 = ((often.zip rungs).map fun p => p.2.getD c 0 * p.1).sum + rest.getD c 0) → rungs.foldl ledS (pre, purse) = (pre ++ often, rest)
  | [], often, purse, pre, h1, h2, _, _, _, h => by
    rw [List.length_eq_zero_iff.mp h1] at *
    rw [List.append_nil]
    have : purse = rest := ext_getD (by omega) fun i _ => by
      rw [h i]; simp
    rw [this]
    rfl
  | r :: rs, [], purse, pre, h1, _, _, _, _, _ => by simp at h1
  | r :: rs, m :: ms, purse, pre, h1, h2, h3, h4, h5, h => by
    obtain ⟨p1, p2⟩ := List.pairwise_cons.mp h4
    obtain ⟨b1, b2⟩ := h5 r (by simp)
    have z : ((ms.zip rs).map fun p => p.2.getD (pl r) 0 * p.1).sum = 0 := by
      apply Int.natAbs_eq_zero.mp
      have := sum_le 0 ((ms.zip rs).map fun p => p.2.getD (pl r) 0 * p.1) fun x hx => by
        obtain ⟨p, hp, rfl⟩ := List.mem_map.mp hx
        rw [pl_zero (p1 _ (List.of_mem_zip hp).2), Int.zero_mul]
        exact Nat.le_refl _
      omega
    have e1 := h (pl r)
    rw [List.zip_cons_cons, List.map_cons, List.sum_cons, z, Int.add_zero] at e1
    dsimp only at e1
    have e2 : (purse.getD (pl r) 0).fdiv (r.getD (pl r) 0) = m := by
      rw [e1, fdiv_pos (by omega), Int.add_comm, Int.add_mul_ediv_left _ _ (by omega), Int.ediv_eq_zero_of_lt b1 b2, Int.zero_add]
    rw [List.foldl_cons]
    have e3 : ledS (pre, purse) r = (pre ++ [m], offF r purse m) := by
      unfold ledS
      rw [e2]
    have hl : r.length = purse.length := by rw [h3 r (by simp), h2]
    rw [e3, led_mix hr rs ms _ _ (by simpa using h1) (by rw [offF_length hl, h2]) (fun q hq => h3 q (by simp [hq])) p2 (fun q hq => h5 q (by simp [hq])) fun c => by
      rw [offF_get hl, h c, List.zip_cons_cons, List.map_cons, List.sum_cons, Int.mul_comm m]
      dsimp only
      omega]
    rw [List.append_assoc]
    rfl
theorem fdiv_abs {x y : Int} (h : 0 < y) : (x.fdiv y).natAbs ≤ x.natAbs := by
  rw [fdiv_pos h]
  exact Int.natAbs_ediv_le_natAbs x y
end M

/-! rows that are built with given places -/
namespace M
structure Good (k b p : Nat) (r : List Int) : Prop where
  len : r.length = k
  zero : ∀ c, c < p → r.getD c 0 = 0
  pos : 0 < r.getD p 0
  low : Low b r
theorem Good.pl {k b p : Nat} {r : List Int} (g : Good k b p r) : pl r = p := pl_unique g.zero (by have := g.pos; omega)
theorem getD_set {xs : List Int} {n : Nat} {v : Int} (h : n < xs.length) (c : Nat) : (xs.set n v).getD c 0 = if n = c then v else xs.getD c 0 := by
  rw [List.getD_eq_getElem?_getD, List.getElem?_set]
  split
  · rfl
  · rw [List.getD_eq_getElem?_getD]
theorem getD_setL {xs : List (List Int)} {n : Nat} {v : List Int} (h : n < xs.length) (c : Nat) : (xs.set n v).getD c [] = if n = c then v else xs.getD c [] := by
  rw [List.getD_eq_getElem?_getD, List.getElem?_set]
  split
  · rfl
  · rw [List.getD_eq_getElem?_getD]
theorem Low.set' {b : Nat} {xs : List Int} (h : Low b xs) {v : Int} (hv : v.natAbs < b) (j : Nat) : Low b (xs.set j v) := fun x hx => by
  rcases List.mem_or_eq_of_mem_set hx with z | z
  · exact h x z
  · rw [z]; exact hv
theorem Good.later {k b p q : Nat} {r : List Int} (g : Good k b p r) (h : p < q) (hq : q < k) {v : Int} (hv : v.natAbs < b) : Good k b p (r.set q v) where
  len := by rw [List.length_set, g.len]
  zero := fun c hc => by rw [getD_set (by rw [g.len]; exact hq), if_neg (by omega)]; exact g.zero c hc
  pos := by rw [getD_set (by rw [g.len]; exact hq), if_neg (by omega)]; exact g.pos
  low := g.low.set' hv q
theorem Good.fresh {k b p : Nat} {d : List Int} (hp : p < k) (hd : d.length = k) (hl : Low b d) : Good k (b + 1) p ((List.replicate p 0 ++ d.drop p).set p (1 + ((((List.replicate p 0 ++ d.drop p).getD p 0).natAbs : Nat) : Int))) := by
  have hb : 0 < b := by
    cases d with
    | nil => simp at hd; omega
    | cons x xs => have := hl x (by simp); omega
  have l : (List.replicate p (0 : Int) ++ d.drop p).length = k := by
    rw [List.length_append, List.length_replicate, List.length_drop]; omega
  have low : Low b (List.replicate p (0 : Int) ++ d.drop p) := fun x hx => by
    rcases List.mem_append.mp hx with z | z
    · rw [(List.mem_replicate.mp z).2]; exact hb
    · exact hl x (List.mem_of_mem_drop z)
  have g := low.getD hb p
  refine ⟨by rw [List.length_set, l], fun c hc => ?_, ?_, (low.mono (by omega)).set' (by omega) _⟩
  · rw [getD_set (by omega), if_neg (by omega), List.getD_eq_getElem?_getD, List.getElem?_append_left (by rw [List.length_replicate]; exact hc), List.getElem?_replicate]
    split <;> rfl
  · rw [getD_set (by omega), if_pos rfl]
    omega
end M

namespace M
open PySem L2
def topS (i : Nat) : Stmt := PySem.Challenge.pw_swapmart_k10_led_down.main.body.getD i (.Pass ⟨0, 0, 0, 0⟩)
structure Txt (mg : Str → Option Value) : Prop where
  b_abs : mg "abs" = none
  b_all : mg "all" = none
  b_bool : mg "bool" = none
  b_int : mg "int" = none
  b_isinstance : mg "isinstance" = none
  b_len : mg "len" = none
  b_list : mg "list" = none
  b_max : mg "max" = none
  b_range : mg "range" = none
  b_tuple : mg "tuple" = none
  b_zip : mg "zip" = none
section
variable {P : Program} {w : World} {K : PySem.W.Frag} {mg : Str → Option Value} {base : Heap} {cl : Cl}
abbrev s_blended : Stmt := topS 4
theorem sc_blended : FnScope ["one", "many", "other", "often", "a", "b"] ["one", "many", "other", "often"] (defScope s_blended) := ⟨rfl, rfl, rfl, by decide +kernel, rfl, by decide +kernel, by decide +kernel⟩
def e_blended_1 : Sl → Rs O := fun st => mapRs O.sh (asPrim (bin2 addD (bin2 mulD (getV 1 st) (getV 4 st)) (bin2 mulD (getV 3 st) (getV 5 st))))
def b_blended : Sl → Fl := fun st => retR (lcR (zipR (getP 0 st) (getP 2 st)) (setTup 2 (setCons (setN 4) (setCons (setN 5) (setNil)))) (fun st => .ok true) e_blended_1 [4, 5] st)
def m_blended : List D → Rs O := runD 6 4 b_blended
theorem d_blended {f : Addr} {fd : FuncData} (T : Txt mg) (F : Fun K "blended" "blended" s_blended f fd) (g : mg "blended" = some (.ref f)) (b : Binds K fd ["one", "many", "other", "often"] []) : CallOk P w K mg base cl "blended" 1 4 m_blended f fd ["one", "many", "other", "often"] := by
  refine CallOk.mk (def_ok (k := 0) (fb := b_blended) (N := ["one", "many", "other", "often", "a", "b"]) F sc_blended fun cdv A outer s H E hr => ?_) g F.kp b
  have nd := sc_blended.nd
  exact (s_one (s_ret (R := PEf _ _) (fun t h z => ps_ret (h z)) (f_lc (vs := [4, 5]) (fun wi g tt te pi pg pt pe z => pe_lc (own := [("a", 4), ("b", 5)]) rfl nd (pi z) (blkOk_by (by kernel_rfl)) (fun s H C c fp => pg (z, s, H, C, c, fp)) (fun s H C c fp => pt (z, s, H, C, c, fp)) (fun s H C c fp => pe (z, s, H, C, c, fp))) (i_zip (fun t h z => pi_zip (by rfl) T.b_zip (h z)) (p_nm (fun _ => pv 0)) (p_nm (fun _ => pv 2))) (g_tup (n := 2) (fun t h z => pg_tup rfl (h z)) (gs_cons (g_nm (fun z => pg_name (i := 4) nd rfl (.inl rfl))) (gs_cons (g_nm (fun z => pg_name (i := 5) nd rfl (.inl rfl))) gs_nil))) t_none (EP.f (EV.prm (v_op (fun _ => op_addX) o_add (v_op (fun _ => op_mulX) o_mul (v_nm (fun _ => pv 1)) (v_nm (fun _ => pv 4))) (v_op (fun _ => op_mulX) o_mul (v_nm (fun _ => pv 3)) (v_nm (fun _ => pv 5)))))))))
abbrev s_place_of : Stmt := topS 6
theorem sc_place_of : FnScope ["row", "place"] ["row"] (defScope s_place_of) := ⟨rfl, rfl, rfl, by decide +kernel, rfl, by decide +kernel, by decide +kernel⟩
noncomputable def w_place_of_1 : Sl → Rs Bool := fun st => andT (asB (bin2 ltD (getV 1 st) (un1 lenD (getV 0 st)))) (asB (bin2 eqD (bin2 ixD (getV 0 st) (getV 1 st)) (.ok (.int 0))))
noncomputable def l_place_of_1 : Sl → Fl := fun st => setO 1 (mapRs O.sh (asPrim (bin2 addD (getV 1 st) (.ok (.int 1))))) st
noncomputable def b_place_of : Sl → Fl := fun st => (setO 1 (mapRs O.sh (.ok (.int 0))) st).thn (fun st => (whileF w_place_of_1 l_place_of_1 st).thn (fun st => retR (mapRs O.sh (getP 1 st))))
noncomputable def m_place_of : List D → Rs O := runD 2 1 b_place_of
theorem d_place_of {f : Addr} {fd : FuncData} (T : Txt mg) (F : Fun K "place_of" "place_of" s_place_of f fd) (g : mg "place_of" = some (.ref f)) (b : Binds K fd ["row"] []) : CallOk P w K mg base cl "place_of" 1 1 m_place_of f fd ["row"] := by
  refine CallOk.mk (def_ok (k := 0) (fb := b_place_of) (N := ["row", "place"]) F sc_place_of fun cdv A outer s H E hr => ?_) g F.kp b
  have nd := sc_place_of.nd
  exact (s_cons (s_set (i := 1) (R := PEf _ _) (fun t h z => ps_set nd rfl (.inl rfl) (h z)) p_int) (s_cons (s_while (fun tc tb a b z => ps_while (by exact passes_of rfl) (a z) (b z)) (t_w (w_and (t_cmp (fun _ => op_lt) (g := ltD) o_cmp (nomark _) (v_nm (fun _ => pv 1)) (v_call1 (r := rLen K) (fun t h z => pe_callB call_len (by rfl) T.b_len PySem.boot_len (h z)) o_len (v_nm (fun _ => pv 0)))) (w_and1 (t_cmp (fun _ => op_eqD hr.units) o_eq (nomark _) (v_ix (v_nm (fun _ => pv 0)) (v_nm (fun _ => pv 1))) v_int)))) (s_one (s_set (i := 1) (R := PEf _ _) (fun t h z => ps_set nd rfl (.inl rfl) (h z)) (EV.prm (v_op (fun _ => op_addX) o_add (v_nm (fun _ => pv 1)) v_int))))) (s_one (s_ret (R := PEf _ _) (fun t h z => ps_ret (h z)) (EP.f (p_nm (fun _ => pv 1)))))))
abbrev s__law_cell_at : Stmt := topS 10
theorem sc__law_cell_at : FnScope ["script", "k"] ["script", "k"] (defScope s__law_cell_at) := ⟨rfl, rfl, rfl, by decide +kernel, rfl, by decide +kernel, by decide +kernel⟩
def b__law_cell_at : Sl → Fl := fun st => (ifS (asB (bin2 ltD (getV 1 st) (un1 lenD (getV 0 st)))) (retR (mapRs O.sh (bin2 ixD (getP 0 st) (getV 1 st)))) (.nx st)).thn (fun st => retR (mapRs O.sh (.ok (.int 0))))
def m__law_cell_at : List D → Rs O := runD 2 2 b__law_cell_at
theorem d__law_cell_at {f : Addr} {fd : FuncData} (T : Txt mg) (F : Fun K "_law_cell_at" "_law_cell_at" s__law_cell_at f fd) (g : mg "_law_cell_at" = some (.ref f)) (b : Binds K fd ["script", "k"] []) : CallOk P w K mg base cl "_law_cell_at" 1 2 m__law_cell_at f fd ["script", "k"] := by
  refine CallOk.mk (def_ok (k := 0) (fb := b__law_cell_at) (N := ["script", "k"]) F sc__law_cell_at fun cdv A outer s H E hr => ?_) g F.kp b
  have nd := sc__law_cell_at.nd
  exact (s_cons (s_if (t_cmp (fun _ => op_lt) (g := ltD) o_cmp (nomark _) (v_nm (fun _ => pv 1)) (v_call1 (r := rLen K) (fun t h z => pe_callB call_len (by rfl) T.b_len PySem.boot_len (h z)) o_len (v_nm (fun _ => pv 0)))) (s_one (s_ret (R := PEf _ _) (fun t h z => ps_ret (h z)) (EP.f (p_ix (p_nm (fun _ => pv 0)) (v_nm (fun _ => pv 1)))))) s_nil) (s_one (s_ret (R := PEf _ _) (fun t h z => ps_ret (h z)) (EP.f p_int))))
abbrev s__law_whole : Stmt := topS 11
theorem sc__law_whole : FnScope ["found"] ["found"] (defScope s__law_whole) := ⟨rfl, rfl, rfl, by decide +kernel, rfl, by decide +kernel, by decide +kernel⟩
def b__law_whole : Sl → Fl := fun st => retR (mapRs O.sh (asPrim (andV (un1 (isi "int") (getV 0 st)) (notV (un1 (isi "bool") (getV 0 st))))))
def m__law_whole : List D → Rs O := runD 1 1 b__law_whole
theorem d__law_whole {f : Addr} {fd : FuncData} (T : Txt mg) (F : Fun K "_law_whole" "_law_whole" s__law_whole f fd) (g : mg "_law_whole" = some (.ref f)) (b : Binds K fd ["found"] []) : CallOk P w K mg base cl "_law_whole" 1 1 m__law_whole f fd ["found"] := by
  refine CallOk.mk (def_ok (k := 0) (fb := b__law_whole) (N := ["found"]) F sc__law_whole fun cdv A outer s H E hr => ?_) g F.kp b
  have nd := sc__law_whole.nd
  exact (s_one (s_ret (R := PEf _ _) (fun t h z => ps_ret (h z)) (EP.f (EV.prm (v_and (v_isi (T := "int") (fun t h z => pe_callB call_isi (by rfl) T.b_isinstance (by decide +kernel) (h z)) (fun _ => pe_bltn (by rfl) T.b_int (by decide +kernel) rfl) (v_nm (fun _ => pv 0))) (v_one (v_not (v_isi (T := "bool") (fun t h z => pe_callB call_isi (by rfl) T.b_isinstance (by decide +kernel) (h z)) (fun _ => pe_bltn (by rfl) T.b_bool (by decide +kernel) rfl) (v_nm (fun _ => pv 0))))))))))
abbrev s__law_shape : Stmt := topS 13
theorem sc__law_shape : FnScope ["cell"] ["cell"] (defScope s__law_shape) := ⟨rfl, rfl, rfl, by decide +kernel, rfl, by decide +kernel, by decide +kernel⟩
def b__law_shape : Sl → Fl := fun st => (ifS (asB (bin2 eqD (bin2 modD (getV 0 st) (.ok (.int 12))) (.ok (.int 7)))) (retR (mapRs O.tup (consR (mapRs O.sh (asPrim (bin2 addD (.ok (.int 5)) (bin2 modD (bin2 fdivD (getV 0 st) (.ok (.int 12))) (.ok (.int 4)))))) (consR (mapRs O.sh (asPrim (bin2 modD (bin2 fdivD (getV 0 st) (.ok (.int 48))) (.ok (.int 17))))) (.ok []))))) (.nx st)).thn (fun st => (ifS (asB (bin2 eqD (bin2 modD (getV 0 st) (.ok (.int 12))) (.ok (.int 5)))) (retR (mapRs O.tup (consR (mapRs O.sh (.ok (.int 0))) (consR (mapRs O.sh (asPrim (bin2 modD (bin2 fdivD (getV 0 st) (.ok (.int 12))) (.ok (.int 4))))) (.ok []))))) (.nx st)).thn (fun st => retR (mapRs O.tup (consR (mapRs O.sh (asPrim (bin2 addD (.ok (.int 1)) (bin2 modD (bin2 fdivD (getV 0 st) (.ok (.int 12))) (.ok (.int 4)))))) (consR (mapRs O.sh (asPrim (bin2 modD (bin2 fdivD (getV 0 st) (.ok (.int 48))) (.ok (.int 6))))) (.ok []))))))
def m__law_shape : List D → Rs O := runD 1 1 b__law_shape
theorem d__law_shape {f : Addr} {fd : FuncData} (T : Txt mg) (F : Fun K "_law_shape" "_law_shape" s__law_shape f fd) (g : mg "_law_shape" = some (.ref f)) (b : Binds K fd ["cell"] []) : CallOk P w K mg base cl "_law_shape" 1 1 m__law_shape f fd ["cell"] := by
  refine CallOk.mk (def_ok (k := 0) (fb := b__law_shape) (N := ["cell"]) F sc__law_shape fun cdv A outer s H E hr => ?_) g F.kp b
  have nd := sc__law_shape.nd
  exact (s_cons (s_if (t_cmp (fun _ => op_eqD hr.units) o_eq (nomark _) (v_op (fun _ => op_modN) o_mod (v_nm (fun _ => pv 0)) v_int) v_int) (s_one (s_ret (R := PEf _ _) (fun t h z => ps_ret (h z)) (f_tup (fs_cons (EP.f (EV.prm (v_op (fun _ => op_addX) o_add v_int (v_op (fun _ => op_modN) o_mod (v_op (fun _ => op_fdivX) o_fdiv (v_nm (fun _ => pv 0)) v_int) v_int)))) (fs_cons (EP.f (EV.prm (v_op (fun _ => op_modN) o_mod (v_op (fun _ => op_fdivX) o_fdiv (v_nm (fun _ => pv 0)) v_int) v_int))) fs_nil))))) s_nil) (s_cons (s_if (t_cmp (fun _ => op_eqD hr.units) o_eq (nomark _) (v_op (fun _ => op_modN) o_mod (v_nm (fun _ => pv 0)) v_int) v_int) (s_one (s_ret (R := PEf _ _) (fun t h z => ps_ret (h z)) (f_tup (fs_cons (EP.f p_int) (fs_cons (EP.f (EV.prm (v_op (fun _ => op_modN) o_mod (v_op (fun _ => op_fdivX) o_fdiv (v_nm (fun _ => pv 0)) v_int) v_int))) fs_nil))))) s_nil) (s_one (s_ret (R := PEf _ _) (fun t h z => ps_ret (h z)) (f_tup (fs_cons (EP.f (EV.prm (v_op (fun _ => op_addX) o_add v_int (v_op (fun _ => op_modN) o_mod (v_op (fun _ => op_fdivX) o_fdiv (v_nm (fun _ => pv 0)) v_int) v_int)))) (fs_cons (EP.f (EV.prm (v_op (fun _ => op_modN) o_mod (v_op (fun _ => op_fdivX) o_fdiv (v_nm (fun _ => pv 0)) v_int) v_int))) fs_nil)))))))
abbrev s__law_most : Stmt := topS 14
theorem sc__law_most : FnScope ["cell", "k", "many"] ["cell", "k", "many"] (defScope s__law_most) := ⟨rfl, rfl, rfl, by decide +kernel, rfl, by decide +kernel, by decide +kernel⟩
def b__law_most : Sl → Fl := fun st => (ifS (orT (asB (bin2 gtD (getV 1 st) (.ok (.int 4)))) (asB (bin2 gtD (getV 2 st) (.ok (.int 5))))) (retR (mapRs O.sh (.ok (.int 2)))) (.nx st)).thn (fun st => (ifS (andT (asB (bin2 ltD (getV 1 st) (.ok (.int 3)))) (asB (bin2 eqD (bin2 modD (getV 0 st) (.ok (.int 5))) (.ok (.int 4))))) (retR (mapRs O.sh (asPrim (bin2 powD (.ok (.int 10)) (.ok (.int 60)))))) (.nx st)).thn (fun st => retR (mapRs O.sh (bin2 ixD (mapRs O.er (mapRs O.lst (consR (mapRs O.sh (.ok (.int 3))) (consR (mapRs O.sh (.ok (.int 3))) (consR (mapRs O.sh (asPrim (bin2 powD (.ok (.int 10)) (.ok (.int 6))))) (consR (mapRs O.sh (asPrim (bin2 powD (.ok (.int 10)) (.ok (.int 12))))) (.ok []))))))) (bin2 modD (bin2 fdivD (getV 0 st) (.ok (.int 5))) (.ok (.int 4)))))))
def m__law_most : List D → Rs O := runD 3 3 b__law_most
theorem d__law_most {f : Addr} {fd : FuncData} (T : Txt mg) (F : Fun K "_law_most" "_law_most" s__law_most f fd) (g : mg "_law_most" = some (.ref f)) (b : Binds K fd ["cell", "k", "many"] []) : CallOk P w K mg base cl "_law_most" 1 3 m__law_most f fd ["cell", "k", "many"] := by
  refine CallOk.mk (def_ok (k := 0) (fb := b__law_most) (N := ["cell", "k", "many"]) F sc__law_most fun cdv A outer s H E hr => ?_) g F.kp b
  have nd := sc__law_most.nd
  exact (s_cons (s_if (t_w (w_or (t_cmp (fun _ => op_gt) (g := gtD) o_cmp (nomark _) (v_nm (fun _ => pv 1)) v_int) (w_or1 (t_cmp (fun _ => op_gt) (g := gtD) o_cmp (nomark _) (v_nm (fun _ => pv 2)) v_int)))) (s_one (s_ret (R := PEf _ _) (fun t h z => ps_ret (h z)) (EP.f p_int))) s_nil) (s_cons (s_if (t_w (w_and (t_cmp (fun _ => op_lt) (g := ltD) o_cmp (nomark _) (v_nm (fun _ => pv 1)) v_int) (w_and1 (t_cmp (fun _ => op_eqD hr.units) o_eq (nomark _) (v_op (fun _ => op_modN) o_mod (v_nm (fun _ => pv 0)) v_int) v_int)))) (s_one (s_ret (R := PEf _ _) (fun t h z => ps_ret (h z)) (EP.f (EV.prm (v_op (fun _ => op_pow) o_pow v_int v_int))))) s_nil) (s_one (s_ret (R := PEf _ _) (fun t h z => ps_ret (h z)) (EP.f (p_ix (EF.p (f_lst (fs_cons (EP.f p_int) (fs_cons (EP.f p_int) (fs_cons (EP.f (EV.prm (v_op (fun _ => op_pow) o_pow v_int v_int))) (fs_cons (EP.f (EV.prm (v_op (fun _ => op_pow) o_pow v_int v_int))) fs_nil)))))) (v_op (fun _ => op_modN) o_mod (v_op (fun _ => op_fdivX) o_fdiv (v_nm (fun _ => pv 0)) v_int) v_int)))))))
abbrev s__law_drawn : Stmt := topS 15
theorem sc__law_drawn : FnScope ["cells", "many", "k", "most", "numbers", "j", "at", "more", "number"] ["cells", "many", "k", "most"] (defScope s__law_drawn) := ⟨rfl, rfl, rfl, by decide +kernel, rfl, by decide +kernel, by decide +kernel⟩
def l__law_drawn_1 : Sl → Fl := fun st => (setO 6 (mapRs O.sh (asPrim (bin2 modD (getV 5 st) (un1 lenD (getV 4 st))))) st).thn (fun st => (setO 7 (mapRs O.sh (asPrim (bin2 subD (bin2 modD (bin2 ixD (getV 0 st) (getV 5 st)) (bin2 addD (bin2 mulD (.ok (.int 2)) (getV 3 st)) (.ok (.int 1)))) (getV 3 st)))) st).thn (fun st => putR 4 (mapRs O.sh (asPrim (bin2 addD (bin2 ixD (getV 4 st) (getV 6 st)) (getV 7 st)))) (getV 6 st) st))
def l__law_drawn_2 : Sl → Fl := fun st => (setO 8 (mapRs O.sh (asPrim (bin2 addD (bin2 modD (bin2 ixD (getV 0 st) (bin2 modD (getV 5 st) (un1 lenD (getV 0 st)))) (.ok (.int 2147483629))) (getV 5 st)))) st).thn (fun st => (setO 8 (mapRs O.sh (asPrim (bin2 modD (bin2 mulD (bin2 modD (bin2 mulD (getV 8 st) (getV 8 st)) (.ok (.int 2147483587))) (.ok (.int 48271))) (.ok (.int 2147483647))))) st).thn (fun st => putR 4 (mapRs O.sh (asPrim (bin2 subD (bin2 modD (getV 8 st) (bin2 addD (bin2 mulD (.ok (.int 2)) (getV 3 st)) (.ok (.int 1)))) (getV 3 st)))) (getV 5 st) st))
def e__law_drawn_1 : Sl → Rs O := fun st => sliceV (getV 4 st) (asI (bin2 mulD (getV 2 st) (getV 5 st))) (asI (bin2 addD (bin2 mulD (getV 2 st) (getV 5 st)) (getV 2 st)))
def b__law_drawn : Sl → Fl := fun st => (setO 4 (repF (mapRs O.er (mapRs O.lst (consR (mapRs O.sh (.ok (.int 0))) (.ok [])))) (bin2 max2D (.ok (.int 1)) (bin2 mulD (getV 1 st) (getV 2 st)))) st).thn (fun st => (forR (range1 (un1 lenD (getV 0 st))) (setN 5) l__law_drawn_1 st).thn (fun st => (ifS (asB (bin2 gtD (un1 lenD (getV 0 st)) (.ok (.int 0)))) (forR (range2 (un1 lenD (getV 0 st)) (un1 lenD (getV 4 st))) (setN 5) l__law_drawn_2 st) (.nx st)).thn (fun st => retR (lcR (range1 (getV 1 st)) (setN 5) (fun st => .ok true) e__law_drawn_1 [5] st))))
def m__law_drawn : List D → Rs O := runD 9 4 b__law_drawn
theorem d__law_drawn {f : Addr} {fd : FuncData} (T : Txt mg) (F : Fun K "_law_drawn" "_law_drawn" s__law_drawn f fd) (g : mg "_law_drawn" = some (.ref f)) (b : Binds K fd ["cells", "many", "k", "most"] []) : CallOk P w K mg base cl "_law_drawn" 1 4 m__law_drawn f fd ["cells", "many", "k", "most"] := by
  refine CallOk.mk (def_ok (k := 0) (fb := b__law_drawn) (N := ["cells", "many", "k", "most", "numbers", "j", "at", "more", "number"]) F sc__law_drawn fun cdv A outer s H E hr => ?_) g F.kp b
  have nd := sc__law_drawn.nd
  exact (s_cons (s_setO (i := 4) (R := PEf _ _) (fun t h z => ps_set nd rfl (.inr rfl) (h z)) (f_rep (EF.p (f_lst (fs_cons (EP.f p_int) fs_nil))) (v_call2 (r := rMax2) (fun t h z => pe_callB (call_max2 rfl) (by rfl) T.b_max PyProof.Rows.boot_max (h z)) o_max2 v_int (v_op (fun _ => op_mulX) o_mul (v_nm (fun _ => pv 1)) (v_nm (fun _ => pv 2)))))) (s_cons (s_for (fun wi g tb a b c z => ps_for (by exact passes_of rfl) rfl (a z) (b z) (c z)) (i_range1 (fun t h z => pi_range1 (by rfl) T.b_range (h z)) (v_call1 (r := rLen K) (fun t h z => pe_callB call_len (by rfl) T.b_len PySem.boot_len (h z)) o_len (v_nm (fun _ => pv 0)))) (g_nm (fun z => pg_name (i := 5) nd rfl (.inl rfl))) (s_cons (s_set (i := 6) (R := PEf _ _) (fun t h z => ps_set nd rfl (.inl rfl) (h z)) (EV.prm (v_op (fun _ => op_modN) o_mod (v_nm (fun _ => pv 5)) (v_call1 (r := rLen K) (fun t h z => pe_callB call_len (by rfl) T.b_len PySem.boot_len (h z)) o_len (v_nm (fun _ => pv 4)))))) (s_cons (s_set (i := 7) (R := PEf _ _) (fun t h z => ps_set nd rfl (.inl rfl) (h z)) (EV.prm (v_op (fun _ => op_sub) o_sub (v_op (fun _ => op_modN) o_mod (v_ix (v_nm (fun _ => pv 0)) (v_nm (fun _ => pv 5))) (v_op (fun _ => op_addX) o_add (v_op (fun _ => op_mulX) o_mul v_int (v_nm (fun _ => pv 3))) v_int)) (v_nm (fun _ => pv 3))))) (s_one (s_put (i := 4) (R := PEf _ _) (fun t u h k z => ps_asg (h z) (pg_sub (pv 4) (k z) set_list)) (EP.f (EV.prm (v_op (fun _ => op_addX) o_add (v_ix (v_nm (fun _ => pv 4)) (v_nm (fun _ => pv 6))) (v_nm (fun _ => pv 7))))) (v_nm (fun _ => pv 6))))))) (s_cons (s_if (t_cmp (fun _ => op_gt) (g := gtD) o_cmp (nomark _) (v_call1 (r := rLen K) (fun t h z => pe_callB call_len (by rfl) T.b_len PySem.boot_len (h z)) o_len (v_nm (fun _ => pv 0))) v_int) (s_one (s_for (fun wi g tb a b c z => ps_for (by exact passes_of rfl) rfl (a z) (b z) (c z)) (i_range2 (fun t h z => pi_range2 (by rfl) T.b_range (h z)) (v_call1 (r := rLen K) (fun t h z => pe_callB call_len (by rfl) T.b_len PySem.boot_len (h z)) o_len (v_nm (fun _ => pv 0))) (v_call1 (r := rLen K) (fun t h z => pe_callB call_len (by rfl) T.b_len PySem.boot_len (h z)) o_len (v_nm (fun _ => pv 4)))) (g_nm (fun z => pg_name (i := 5) nd rfl (.inl rfl))) (s_cons (s_set (i := 8) (R := PEf _ _) (fun t h z => ps_set nd rfl (.inl rfl) (h z)) (EV.prm (v_op (fun _ => op_addX) o_add (v_op (fun _ => op_modN) o_mod (v_ix (v_nm (fun _ => pv 0)) (v_op (fun _ => op_modN) o_mod (v_nm (fun _ => pv 5)) (v_call1 (r := rLen K) (fun t h z => pe_callB call_len (by rfl) T.b_len PySem.boot_len (h z)) o_len (v_nm (fun _ => pv 0))))) v_int) (v_nm (fun _ => pv 5))))) (s_cons (s_set (i := 8) (R := PEf _ _) (fun t h z => ps_set nd rfl (.inl rfl) (h z)) (EV.prm (v_op (fun _ => op_modN) o_mod (v_op (fun _ => op_mulX) o_mul (v_op (fun _ => op_modN) o_mod (v_op (fun _ => op_mulX) o_mul (v_nm (fun _ => pv 8)) (v_nm (fun _ => pv 8))) v_int) v_int) v_int))) (s_one (s_put (i := 4) (R := PEf _ _) (fun t u h k z => ps_asg (h z) (pg_sub (pv 4) (k z) set_list)) (EP.f (EV.prm (v_op (fun _ => op_sub) o_sub (v_op (fun _ => op_modN) o_mod (v_nm (fun _ => pv 8)) (v_op (fun _ => op_addX) o_add (v_op (fun _ => op_mulX) o_mul v_int (v_nm (fun _ => pv 3))) v_int)) (v_nm (fun _ => pv 3))))) (v_nm (fun _ => pv 5)))))))) s_nil) (s_one (s_ret (R := PEf _ _) (fun t h z => ps_ret (h z)) (f_lc (vs := [5]) (fun wi g tt te pi pg pt pe z => pe_lc (own := [("j", 5)]) rfl nd (pi z) (blkOk_by (by kernel_rfl)) (fun s H C c fp => pg (z, s, H, C, c, fp)) (fun s H C c fp => pt (z, s, H, C, c, fp)) (fun s H C c fp => pe (z, s, H, C, c, fp))) (i_range1 (fun t h z => pi_range1 (by rfl) T.b_range (h z)) (v_nm (fun _ => pv 1))) (g_nm (fun z => pg_name (i := 5) nd rfl (.inl rfl))) t_none (f_sliceV (v_nm (fun _ => pv 4)) (o_some (v_op (fun _ => op_mulX) o_mul (v_nm (fun _ => pv 2)) (v_nm (fun _ => pv 5)))) (o_some (v_op (fun _ => op_addX) o_add (v_op (fun _ => op_mulX) o_mul (v_nm (fun _ => pv 2)) (v_nm (fun _ => pv 5))) (v_nm (fun _ => pv 2)))))))))))
abbrev s__law_place : Stmt := topS 16
theorem sc__law_place : FnScope ["row", "place"] ["row"] (defScope s__law_place) := ⟨rfl, rfl, rfl, by decide +kernel, rfl, by decide +kernel, by decide +kernel⟩
noncomputable def w__law_place_1 : Sl → Rs Bool := fun st => andT (asB (bin2 ltD (getV 1 st) (un1 lenD (getV 0 st)))) (asB (bin2 eqD (bin2 ixD (getV 0 st) (getV 1 st)) (.ok (.int 0))))
noncomputable def l__law_place_1 : Sl → Fl := fun st => setO 1 (mapRs O.sh (asPrim (bin2 addD (getV 1 st) (.ok (.int 1))))) st
noncomputable def b__law_place : Sl → Fl := fun st => (setO 1 (mapRs O.sh (.ok (.int 0))) st).thn (fun st => (whileF w__law_place_1 l__law_place_1 st).thn (fun st => retR (mapRs O.sh (getP 1 st))))
noncomputable def m__law_place : List D → Rs O := runD 2 1 b__law_place
theorem d__law_place {f : Addr} {fd : FuncData} (T : Txt mg) (F : Fun K "_law_place" "_law_place" s__law_place f fd) (g : mg "_law_place" = some (.ref f)) (b : Binds K fd ["row"] []) : CallOk P w K mg base cl "_law_place" 1 1 m__law_place f fd ["row"] := by
  refine CallOk.mk (def_ok (k := 0) (fb := b__law_place) (N := ["row", "place"]) F sc__law_place fun cdv A outer s H E hr => ?_) g F.kp b
  have nd := sc__law_place.nd
  exact (s_cons (s_set (i := 1) (R := PEf _ _) (fun t h z => ps_set nd rfl (.inl rfl) (h z)) p_int) (s_cons (s_while (fun tc tb a b z => ps_while (by exact passes_of rfl) (a z) (b z)) (t_w (w_and (t_cmp (fun _ => op_lt) (g := ltD) o_cmp (nomark _) (v_nm (fun _ => pv 1)) (v_call1 (r := rLen K) (fun t h z => pe_callB call_len (by rfl) T.b_len PySem.boot_len (h z)) o_len (v_nm (fun _ => pv 0)))) (w_and1 (t_cmp (fun _ => op_eqD hr.units) o_eq (nomark _) (v_ix (v_nm (fun _ => pv 0)) (v_nm (fun _ => pv 1))) v_int)))) (s_one (s_set (i := 1) (R := PEf _ _) (fun t h z => ps_set nd rfl (.inl rfl) (h z)) (EV.prm (v_op (fun _ => op_addX) o_add (v_nm (fun _ => pv 1)) v_int))))) (s_one (s_ret (R := PEf _ _) (fun t h z => ps_ret (h z)) (EP.f (p_nm (fun _ => pv 1)))))))
abbrev s__law_mixed : Stmt := topS 19
theorem sc__law_mixed : FnScope ["counts", "rows", "k", "total", "many", "row", "one", "other"] ["counts", "rows", "k"] (defScope s__law_mixed) := ⟨rfl, rfl, rfl, by decide +kernel, rfl, by decide +kernel, by decide +kernel⟩
def e__law_mixed_1 : Sl → Rs O := fun st => mapRs O.sh (asPrim (bin2 addD (getV 6 st) (bin2 mulD (getV 4 st) (getV 7 st))))
def l__law_mixed_1 : Sl → Fl := fun st => setO 3 (mapRs O.sh (mapRs O.er (lcR (zipR (getP 3 st) (getP 5 st)) (setTup 2 (setCons (setN 6) (setCons (setN 7) (setNil)))) (fun st => .ok true) e__law_mixed_1 [6, 7] st))) st
def b__law_mixed : Sl → Fl := fun st => (setO 3 (mapRs O.sh (mapRs O.er (repF (mapRs O.er (mapRs O.lst (consR (mapRs O.sh (.ok (.int 0))) (.ok [])))) (getV 2 st)))) st).thn (fun st => (forR (zipR (getP 0 st) (getP 1 st)) (setTup 2 (setCons (setN 4) (setCons (setN 5) (setNil)))) l__law_mixed_1 st).thn (fun st => retR (mapRs O.sh (getP 3 st))))
def m__law_mixed : List D → Rs O := runD 8 3 b__law_mixed
theorem d__law_mixed {f : Addr} {fd : FuncData} (T : Txt mg) (F : Fun K "_law_mixed" "_law_mixed" s__law_mixed f fd) (g : mg "_law_mixed" = some (.ref f)) (b : Binds K fd ["counts", "rows", "k"] []) : CallOk P w K mg base cl "_law_mixed" 1 3 m__law_mixed f fd ["counts", "rows", "k"] := by
  refine CallOk.mk (def_ok (k := 0) (fb := b__law_mixed) (N := ["counts", "rows", "k", "total", "many", "row", "one", "other"]) F sc__law_mixed fun cdv A outer s H E hr => ?_) g F.kp b
  have nd := sc__law_mixed.nd
  exact (s_cons (s_set (i := 3) (R := PEf _ _) (fun t h z => ps_set nd rfl (.inl rfl) (h z)) (EF.p (f_rep (EF.p (f_lst (fs_cons (EP.f p_int) fs_nil))) (v_nm (fun _ => pv 2))))) (s_cons (s_for (fun wi g tb a b c z => ps_for (by exact passes_of rfl) rfl (a z) (b z) (c z)) (i_zip (fun t h z => pi_zip (by rfl) T.b_zip (h z)) (p_nm (fun _ => pv 0)) (p_nm (fun _ => pv 1))) (g_tup (n := 2) (fun t h z => pg_tup rfl (h z)) (gs_cons (g_nm (fun z => pg_name (i := 4) nd rfl (.inr rfl))) (gs_cons (g_nm (fun z => pg_name (i := 5) nd rfl (.inl rfl))) gs_nil))) (s_one (s_set (i := 3) (R := fun t => PSf _ _ (tAsg t (gName 3))) (fun t h => h) (EF.p (f_lc (vs := [6, 7]) (fun wi g tt te pi pg pt pe z => ps_setLc (i := 3) (own := [("one", 6), ("other", 7)]) rfl nd rfl rfl (sw_true rfl rfl rfl (by decide +kernel)) (pi z) (blkOk_by (by kernel_rfl)) (fun s H C c fp => pg (z, s, H, C, c, fp)) (fun s H C c fp => pt (z, s, H, C, c, fp)) (fun s H C c fp => pe (z, s, H, C, c, fp))) (i_zip (fun t h z => pi_zip (by rfl) T.b_zip (h z)) (p_nm (fun _ => pv 3)) (p_nm (fun _ => pv 5))) (g_tup (n := 2) (fun t h z => pg_tup rfl (h z)) (gs_cons (g_nm (fun z => pg_name (i := 6) nd rfl (.inl rfl))) (gs_cons (g_nm (fun z => pg_name (i := 7) nd rfl (.inl rfl))) gs_nil))) t_none (EP.f (EV.prm (v_op (fun _ => op_addX) o_add (v_nm (fun _ => pv 6)) (v_op (fun _ => op_mulX) o_mul (v_nm (fun _ => pv 4)) (v_nm (fun _ => pv 7))))))))))) (s_one (s_ret (R := PEf _ _) (fun t h z => ps_ret (h z)) (EP.f (p_nm (fun _ => pv 3)))))))
abbrev s_led : Stmt := topS 7
theorem sc_led : FnScope ["rungs", "purse", "often", "rest", "row", "place", "many"] ["rungs", "purse"] (defScope s_led) := ⟨rfl, rfl, rfl, by decide +kernel, rfl, by decide +kernel, by decide +kernel⟩
noncomputable def l_led_1 : Sl → Fl := fun st => (ifS (asB (bin2 neD (un1 lenD (getV 4 st)) (un1 lenD (getV 1 st)))) (.bad) (.nx st)).thn (fun st => (setO 5 (mapRs O.sh (mapRs O.er (callR 1 m_place_of (consR (getP 4 st) (.ok []))))) st).thn (fun st => (setO 6 (mapRs O.sh (asPrim (bin2 fdivD (bin2 ixD (getV 3 st) (getV 5 st)) (bin2 ixD (getV 4 st) (getV 5 st))))) st).thn (fun st => (setO 3 (mapRs O.sh (mapRs O.er (callR 4 m_blended (consR (getP 3 st) (consR (.ok (.int 1)) (consR (getP 4 st) (consR (asPrim (un1 negD (getV 6 st))) (.ok [])))))))) st).thn (fun st => appR 2 (mapRs O.sh (getP 6 st)) st))))
noncomputable def b_led : Sl → Fl := fun st => (setO 2 (mapRs O.lst (.ok [])) st).thn (fun st => (setO 3 (mapRs O.sh (mapRs O.er (listF (getP 1 st)))) st).thn (fun st => (forR (elemsR (getP 0 st)) (setN 4) l_led_1 st).thn (fun st => frzS 2 (fun st => retR (mapRs O.tup (consR (mapRs O.sh (getP 2 st)) (consR (mapRs O.sh (getP 3 st)) (.ok []))))) st)))
noncomputable def m_led : List D → Rs O := runD 7 2 b_led
theorem d_led {f : Addr} {fd : FuncData} (T : Txt mg) (F : Fun K "led" "led" s_led f fd) (g : mg "led" = some (.ref f)) (b : Binds K fd ["rungs", "purse"] []) {f_place_of : Addr} {fd_place_of : FuncData} {ps_place_of : List Str} (C_place_of : CallOk P w K mg base cl "place_of" 1 1 m_place_of f_place_of fd_place_of ps_place_of) {f_blended : Addr} {fd_blended : FuncData} {ps_blended : List Str} (C_blended : CallOk P w K mg base cl "blended" 1 4 m_blended f_blended fd_blended ps_blended) : CallOk P w K mg base cl "led" 2 2 m_led f fd ["rungs", "purse"] := by
  refine CallOk.mk (def_ok (k := 1) (fb := b_led) (N := ["rungs", "purse", "often", "rest", "row", "place", "many"]) F sc_led fun cdv A outer s H E hr => ?_) g F.kp b
  have nd := sc_led.nd
  exact (s_cons (s_setO (i := 2) (R := PEf _ _) (fun t h z => ps_set nd rfl (.inl rfl) (h z)) (f_lst fs_nil)) (s_cons (s_set (i := 3) (R := PEf _ _) (fun t h z => ps_set nd rfl (.inl rfl) (h z)) (EF.p (f_list (fun t h z => pe_callTy call_list_of (by rfl) T.b_list PyProof.Rows.boot_list (h z)) (p_nm (fun _ => pv 1))))) (s_cons (s_for (fun wi g tb a b c z => ps_for (by exact passes_of rfl) rfl (a z) (b z) (c z)) (i_list (p_nm (fun _ => pv 0))) (g_nm (fun z => pg_name (i := 4) nd rfl (.inl rfl))) (s_cons (s_if (t_cmp (fun _ => op_neD hr.units) o_ne (nomark _) (v_call1 (r := rLen K) (fun t h z => pe_callB call_len (by rfl) T.b_len PySem.boot_len (h z)) o_len (v_nm (fun _ => pv 4))) (v_call1 (r := rLen K) (fun t h z => pe_callB call_len (by rfl) T.b_len PySem.boot_len (h z)) o_len (v_nm (fun _ => pv 1)))) (s_one (s_never (fun _ => ps_never))) s_nil) (s_cons (s_set (i := 5) (R := PEf _ _) (fun t h z => ps_set nd rfl (.inl rfl) (h z)) (EF.p (f_call (fun t h z => pe_callS C_place_of.F (hr.mono (by decide)) (by rfl) C_place_of.g C_place_of.kp C_place_of.b (fun σ => passAt (takes_of rfl rfl rfl rfl) σ) (h z)) (ps_cons (p_nm (fun _ => pv 4)) ps_nil)))) (s_cons (s_set (i := 6) (R := PEf _ _) (fun t h z => ps_set nd rfl (.inl rfl) (h z)) (EV.prm (v_op (fun _ => op_fdivX) o_fdiv (v_ix (v_nm (fun _ => pv 3)) (v_nm (fun _ => pv 5))) (v_ix (v_nm (fun _ => pv 4)) (v_nm (fun _ => pv 5)))))) (s_cons (s_set (i := 3) (R := PEf _ _) (fun t h z => ps_set nd rfl (.inl rfl) (h z)) (EF.p (f_call (fun t h z => pe_callS C_blended.F (hr.mono (by decide)) (by rfl) C_blended.g C_blended.kp C_blended.b (fun σ => passAt (takes_of rfl rfl rfl rfl) σ) (h z)) (ps_cons (p_nm (fun _ => pv 3)) (ps_cons p_int (ps_cons (p_nm (fun _ => pv 4)) (ps_cons (EV.prm (v_un (fun _ => un_neg) o_neg (v_nm (fun _ => pv 6)))) ps_nil))))))) (s_one (s_app (i := 2) (fun t h z => ps_expr (pe_bm PySem.F.plainAttrs_list PySem.F.slot_list_append PySem.F.type_list_append mt_append (pv 2) (h z))) (EP.f (p_nm (fun _ => pv 6)))))))))) (s_frz 2 (s_one (s_ret (R := PEf _ _) (fun t h z => ps_ret (h z)) (f_tup (fs_cons (EP.f (p_nm (fun _ => pv 2))) (fs_cons (EP.f (p_nm (fun _ => pv 3))) fs_nil)))))))))
abbrev s__law_numbers : Stmt := topS 12
theorem sc__law_numbers : FnScope ["found", "many", "one"] ["found", "many"] (defScope s__law_numbers) := ⟨rfl, rfl, rfl, by decide +kernel, rfl, by decide +kernel, by decide +kernel⟩
def e__law_numbers_1 : Sl → Rs O := fun st => callR 1 m__law_whole (consR (getP 2 st) (.ok []))
def b__law_numbers : Sl → Fl := fun st => (ifS (orT (notT (asB (un1 (isi "list") (getV 0 st)))) (asB (bin2 neD (un1 lenD (getV 0 st)) (getV 1 st)))) (retR (mapRs O.sh (.ok (.bl false)))) (.nx st)).thn (fun st => retR (mapRs O.sh (asPrim (un1 allD (mapRs O.er (lcR (elemsR (getP 0 st)) (setN 2) (fun st => .ok true) e__law_numbers_1 [2] st))))))
def m__law_numbers : List D → Rs O := runD 3 2 b__law_numbers
theorem d__law_numbers {f : Addr} {fd : FuncData} (T : Txt mg) (F : Fun K "_law_numbers" "_law_numbers" s__law_numbers f fd) (g : mg "_law_numbers" = some (.ref f)) (b : Binds K fd ["found", "many"] []) {f__law_whole : Addr} {fd__law_whole : FuncData} {ps__law_whole : List Str} (C__law_whole : CallOk P w K mg base cl "_law_whole" 1 1 m__law_whole f__law_whole fd__law_whole ps__law_whole) : CallOk P w K mg base cl "_law_numbers" 2 2 m__law_numbers f fd ["found", "many"] := by
  refine CallOk.mk (def_ok (k := 1) (fb := b__law_numbers) (N := ["found", "many", "one"]) F sc__law_numbers fun cdv A outer s H E hr => ?_) g F.kp b
  have nd := sc__law_numbers.nd
  exact (s_cons (s_if (t_w (w_or (t_not (t_val (v_isi (T := "list") (fun t h z => pe_callB call_isi (by rfl) T.b_isinstance (by decide +kernel) (h z)) (fun _ => pe_bltn (by rfl) T.b_list (by decide +kernel) rfl) (v_nm (fun _ => pv 0))))) (w_or1 (t_cmp (fun _ => op_neD hr.units) o_ne (nomark _) (v_call1 (r := rLen K) (fun t h z => pe_callB call_len (by rfl) T.b_len PySem.boot_len (h z)) o_len (v_nm (fun _ => pv 0))) (v_nm (fun _ => pv 1)))))) (s_one (s_ret (R := PEf _ _) (fun t h z => ps_ret (h z)) (EP.f p_bl))) s_nil) (s_one (s_ret (R := PEf _ _) (fun t h z => ps_ret (h z)) (EP.f (EV.prm (v_call1 (r := rAll K) (fun t h z => pe_callB (cr_all rfl) (by rfl) T.b_all PyProof.Rows.boot_all (h z)) o_all (EP.v (EF.p (f_lc (vs := [2]) (fun wi g tt te pi pg pt pe z => pe_lc (own := [("one", 2)]) rfl nd (pi z) (blkOk_by (by kernel_rfl)) (fun s H C c fp => pg (z, s, H, C, c, fp)) (fun s H C c fp => pt (z, s, H, C, c, fp)) (fun s H C c fp => pe (z, s, H, C, c, fp))) (i_list (p_nm (fun _ => pv 0))) (g_nm (fun z => pg_name (i := 2) nd rfl (.inl rfl))) t_none (f_call (fun t h z => pe_callS C__law_whole.F (hr.mono (by decide)) (by rfl) C__law_whole.g C__law_whole.kp C__law_whole.b (fun σ => passAt takes0 σ) (h z)) (ps_cons (p_nm (fun _ => pv 2)) ps_nil)))))))))))
abbrev s__law_is_stair : Stmt := topS 17
theorem sc__law_is_stair : FnScope ["rows", "places", "j", "i", "row"] ["rows"] (defScope s__law_is_stair) := ⟨rfl, rfl, rfl, by decide +kernel, rfl, by decide +kernel, by decide +kernel⟩
noncomputable def e__law_is_stair_1 : Sl → Rs O := fun st => callR 1 m__law_place (consR (getP 4 st) (.ok []))
noncomputable def l__law_is_stair_1 : Sl → Fl := fun st => (ifS (asB (bin2 geD (bin2 ixD (getV 1 st) (getV 3 st)) (bin2 ixD (getV 1 st) (getV 2 st)))) (retR (mapRs O.sh (.ok (.bl false)))) (.nx st)).thn (fun st => ifS (orT (asB (bin2 ltD (bin2 ixD (bin2 ixD (getV 0 st) (getV 3 st)) (bin2 ixD (getV 1 st) (getV 2 st))) (.ok (.int 0)))) (asB (bin2 geD (bin2 ixD (bin2 ixD (getV 0 st) (getV 3 st)) (bin2 ixD (getV 1 st) (getV 2 st))) (bin2 ixD (bin2 ixD (getV 0 st) (getV 2 st)) (bin2 ixD (getV 1 st) (getV 2 st)))))) (retR (mapRs O.sh (.ok (.bl false)))) (.nx st))
noncomputable def l__law_is_stair_2 : Sl → Fl := fun st => (ifS (orT (asB (bin2 eqD (bin2 ixD (getV 1 st) (getV 2 st)) (un1 lenD (bin2 ixD (getV 0 st) (getV 2 st))))) (asB (bin2 ltD (bin2 ixD (bin2 ixD (getV 0 st) (getV 2 st)) (bin2 ixD (getV 1 st) (getV 2 st))) (.ok (.int 1))))) (retR (mapRs O.sh (.ok (.bl false)))) (.nx st)).thn (fun st => forR (range1 (getV 2 st)) (setN 3) l__law_is_stair_1 st)
noncomputable def b__law_is_stair : Sl → Fl := fun st => (setO 1 (mapRs O.sh (mapRs O.er (lcR (elemsR (getP 0 st)) (setN 4) (fun st => .ok true) e__law_is_stair_1 [4] st))) st).thn (fun st => (forR (range1 (un1 lenD (getV 0 st))) (setN 2) l__law_is_stair_2 st).thn (fun st => retR (mapRs O.sh (.ok (.bl true)))))
noncomputable def m__law_is_stair : List D → Rs O := runD 5 1 b__law_is_stair
theorem d__law_is_stair {f : Addr} {fd : FuncData} (T : Txt mg) (F : Fun K "_law_is_stair" "_law_is_stair" s__law_is_stair f fd) (g : mg "_law_is_stair" = some (.ref f)) (b : Binds K fd ["rows"] []) {f__law_place : Addr} {fd__law_place : FuncData} {ps__law_place : List Str} (C__law_place : CallOk P w K mg base cl "_law_place" 1 1 m__law_place f__law_place fd__law_place ps__law_place) : CallOk P w K mg base cl "_law_is_stair" 2 1 m__law_is_stair f fd ["rows"] := by
  refine CallOk.mk (def_ok (k := 1) (fb := b__law_is_stair) (N := ["rows", "places", "j", "i", "row"]) F sc__law_is_stair fun cdv A outer s H E hr => ?_) g F.kp b
  have nd := sc__law_is_stair.nd
  exact (s_cons (s_set (i := 1) (R := fun t => PSf _ _ (tAsg t (gName 1))) (fun t h => h) (EF.p (f_lc (vs := [4]) (fun wi g tt te pi pg pt pe z => ps_setLc (i := 1) (own := [("row", 4)]) rfl nd rfl rfl (sw_true rfl rfl rfl (by decide +kernel)) (pi z) (blkOk_by (by kernel_rfl)) (fun s H C c fp => pg (z, s, H, C, c, fp)) (fun s H C c fp => pt (z, s, H, C, c, fp)) (fun s H C c fp => pe (z, s, H, C, c, fp))) (i_list (p_nm (fun _ => pv 0))) (g_nm (fun z => pg_name (i := 4) nd rfl (.inl rfl))) t_none (f_call (fun t h z => pe_callS C__law_place.F (hr.mono (by decide)) (by rfl) C__law_place.g C__law_place.kp C__law_place.b (fun σ => passAt takes0 σ) (h z)) (ps_cons (p_nm (fun _ => pv 4)) ps_nil))))) (s_cons (s_for (fun wi g tb a b c z => ps_for (by exact passes_of rfl) rfl (a z) (b z) (c z)) (i_range1 (fun t h z => pi_range1 (by rfl) T.b_range (h z)) (v_call1 (r := rLen K) (fun t h z => pe_callB call_len (by rfl) T.b_len PySem.boot_len (h z)) o_len (v_nm (fun _ => pv 0)))) (g_nm (fun z => pg_name (i := 2) nd rfl (.inl rfl))) (s_cons (s_if (t_w (w_or (t_cmp (fun _ => op_eqD hr.units) o_eq (nomark _) (v_ix (v_nm (fun _ => pv 1)) (v_nm (fun _ => pv 2))) (v_call1 (r := rLen K) (fun t h z => pe_callB call_len (by rfl) T.b_len PySem.boot_len (h z)) o_len (v_ix (v_nm (fun _ => pv 0)) (v_nm (fun _ => pv 2))))) (w_or1 (t_cmp (fun _ => op_lt) (g := ltD) o_cmp (nomark _) (v_ix (v_ix (v_nm (fun _ => pv 0)) (v_nm (fun _ => pv 2))) (v_ix (v_nm (fun _ => pv 1)) (v_nm (fun _ => pv 2)))) v_int)))) (s_one (s_ret (R := PEf _ _) (fun t h z => ps_ret (h z)) (EP.f p_bl))) s_nil) (s_one (s_for (fun wi g tb a b c z => ps_for (by exact passes_of rfl) rfl (a z) (b z) (c z)) (i_range1 (fun t h z => pi_range1 (by rfl) T.b_range (h z)) (v_nm (fun _ => pv 2))) (g_nm (fun z => pg_name (i := 3) nd rfl (.inl rfl))) (s_cons (s_if (t_cmp (fun _ => op_ge) (g := geD) o_cmp (nomark _) (v_ix (v_nm (fun _ => pv 1)) (v_nm (fun _ => pv 3))) (v_ix (v_nm (fun _ => pv 1)) (v_nm (fun _ => pv 2)))) (s_one (s_ret (R := PEf _ _) (fun t h z => ps_ret (h z)) (EP.f p_bl))) s_nil) (s_one (s_if (t_w (w_or (t_cmp (fun _ => op_lt) (g := ltD) o_cmp (nomark _) (v_ix (v_ix (v_nm (fun _ => pv 0)) (v_nm (fun _ => pv 3))) (v_ix (v_nm (fun _ => pv 1)) (v_nm (fun _ => pv 2)))) v_int) (w_or1 (t_cmp (fun _ => op_ge) (g := geD) o_cmp (nomark _) (v_ix (v_ix (v_nm (fun _ => pv 0)) (v_nm (fun _ => pv 3))) (v_ix (v_nm (fun _ => pv 1)) (v_nm (fun _ => pv 2)))) (v_ix (v_ix (v_nm (fun _ => pv 0)) (v_nm (fun _ => pv 2))) (v_ix (v_nm (fun _ => pv 1)) (v_nm (fun _ => pv 2)))))))) (s_one (s_ret (R := PEf _ _) (fun t h z => ps_ret (h z)) (EP.f p_bl))) s_nil))))))) (s_one (s_ret (R := PEf _ _) (fun t h z => ps_ret (h z)) (EP.f p_bl)))))
abbrev s__law_built : Stmt := topS 18
theorem sc__law_built : FnScope ["cells", "k", "most", "places", "place", "drawn", "rows", "j", "row", "i"] ["cells", "k", "most"] (defScope s__law_built) := ⟨rfl, rfl, rfl, by decide +kernel, rfl, by decide +kernel, by decide +kernel⟩
def e__law_built_1 : Sl → Rs O := fun st => mapRs O.sh (getP 4 st)
def l__law_built_1 : Sl → Fl := fun st => (setO 8 (catF (mapRs O.er (repF (mapRs O.er (mapRs O.lst (consR (mapRs O.sh (.ok (.int 0))) (.ok [])))) (bin2 ixD (getV 3 st) (getV 7 st)))) (mapRs O.er (sliceF (bin2 ixD (getP 5 st) (getV 7 st)) (asI (bin2 ixD (getV 3 st) (getV 7 st))) (.ok none)))) st).thn (fun st => (putR 8 (mapRs O.sh (asPrim (bin2 addD (.ok (.int 1)) (un1 absD (bin2 ixD (getV 8 st) (bin2 ixD (getV 3 st) (getV 7 st))))))) (bin2 ixD (getV 3 st) (getV 7 st)) st).thn (fun st => appNR 6 8 st))
def l__law_built_2 : Sl → Fl := fun st => (setO 4 (mapRs O.sh (bin2 ixD (getP 3 st) (getV 7 st))) st).thn (fun st => put2R 6 (mapRs O.sh (asPrim (bin2 modD (bin2 ixD (bin2 ixD (getV 6 st) (getV 9 st)) (getV 4 st)) (bin2 ixD (bin2 ixD (getV 6 st) (getV 7 st)) (getV 4 st))))) (getV 9 st) (getV 4 st) st)
def l__law_built_3 : Sl → Fl := fun st => forR (range1 (getV 7 st)) (setN 9) l__law_built_2 st
def b__law_built : Sl → Fl := fun st => (setO 3 (mapRs O.sh (mapRs O.er (mapRs O.lst (.ok [])))) st).thn (fun st => (ifS (asB (bin2 gtD (un1 lenD (getV 0 st)) (.ok (.int 0)))) (setO 3 (mapRs O.sh (mapRs O.er (lcR (range1 (getV 1 st)) (setN 4) (fun st => asB (bin2 gtD (bin2 modD (bin2 fdivD (bin2 ixD (getV 0 st) (bin2 modD (getV 4 st) (un1 lenD (getV 0 st)))) (.ok (.int 7))) (.ok (.int 3))) (.ok (.int 0)))) e__law_built_1 [4] st))) st) (.nx st)).thn (fun st => (setO 5 (mapRs O.sh (mapRs O.er (callR 4 m__law_drawn (consR (getP 0 st) (consR (asPrim (un1 lenD (getV 3 st))) (consR (getP 1 st) (consR (getP 2 st) (.ok [])))))))) st).thn (fun st => (setO 6 (mapRs O.lst (.ok [])) st).thn (fun st => (forR (range1 (un1 lenD (getV 3 st))) (setN 7) l__law_built_1 st).thn (fun st => (forR (range1 (un1 lenD (getV 3 st))) (setN 7) l__law_built_3 st).thn (fun st => retN 6 st))))))
def m__law_built : List D → Rs O := runD 10 3 b__law_built
theorem d__law_built {f : Addr} {fd : FuncData} (T : Txt mg) (F : Fun K "_law_built" "_law_built" s__law_built f fd) (g : mg "_law_built" = some (.ref f)) (b : Binds K fd ["cells", "k", "most"] []) {f__law_drawn : Addr} {fd__law_drawn : FuncData} {ps__law_drawn : List Str} (C__law_drawn : CallOk P w K mg base cl "_law_drawn" 1 4 m__law_drawn f__law_drawn fd__law_drawn ps__law_drawn) : CallOk P w K mg base cl "_law_built" 2 3 m__law_built f fd ["cells", "k", "most"] := by
  refine CallOk.mk (def_ok (k := 1) (fb := b__law_built) (N := ["cells", "k", "most", "places", "place", "drawn", "rows", "j", "row", "i"]) F sc__law_built fun cdv A outer s H E hr => ?_) g F.kp b
  have nd := sc__law_built.nd
  exact (s_cons (s_set (i := 3) (R := PEf _ _) (fun t h z => ps_set nd rfl (.inl rfl) (h z)) (EF.p (f_lst fs_nil))) (s_cons (s_if (t_cmp (fun _ => op_gt) (g := gtD) o_cmp (nomark _) (v_call1 (r := rLen K) (fun t h z => pe_callB call_len (by rfl) T.b_len PySem.boot_len (h z)) o_len (v_nm (fun _ => pv 0))) v_int) (s_one (s_set (i := 3) (R := fun t => PSf _ _ (tAsg t (gName 3))) (fun t h => h) (EF.p (f_lc (vs := [4]) (fun wi g tt te pi pg pt pe z => ps_setLc (i := 3) (own := [("place", 4)]) rfl nd rfl rfl (sw_true rfl rfl rfl (by decide +kernel)) (pi z) (blkOk_by (by kernel_rfl)) (fun s H C c fp => pg (z, s, H, C, c, fp)) (fun s H C c fp => pt (z, s, H, C, c, fp)) (fun s H C c fp => pe (z, s, H, C, c, fp))) (i_range1 (fun t h z => pi_range1 (by rfl) T.b_range (h z)) (v_nm (fun _ => pv 1))) (g_nm (fun z => pg_name (i := 4) nd rfl (.inl rfl))) (t_one (t_cmp (fun _ => op_gt) (g := gtD) o_cmp (nomark _) (v_op (fun _ => op_modN) o_mod (v_op (fun _ => op_fdivX) o_fdiv (v_ix (v_nm (fun _ => pv 0)) (v_op (fun _ => op_modN) o_mod (v_nm (fun _ => pv 4)) (v_call1 (r := rLen K) (fun t h z => pe_callB call_len (by rfl) T.b_len PySem.boot_len (h z)) o_len (v_nm (fun _ => pv 0))))) v_int) v_int) v_int)) (EP.f (p_nm (fun _ => pv 4))))))) s_nil) (s_cons (s_set (i := 5) (R := PEf _ _) (fun t h z => ps_set nd rfl (.inl rfl) (h z)) (EF.p (f_call (fun t h z => pe_callS C__law_drawn.F (hr.mono (by decide)) (by rfl) C__law_drawn.g C__law_drawn.kp C__law_drawn.b (fun σ => passAt (takes_of rfl rfl rfl rfl) σ) (h z)) (ps_cons (p_nm (fun _ => pv 0)) (ps_cons (EV.prm (v_call1 (r := rLen K) (fun t h z => pe_callB call_len (by rfl) T.b_len PySem.boot_len (h z)) o_len (v_nm (fun _ => pv 3)))) (ps_cons (p_nm (fun _ => pv 1)) (ps_cons (p_nm (fun _ => pv 2)) ps_nil))))))) (s_cons (s_setO (i := 6) (R := PEf _ _) (fun t h z => ps_set nd rfl (.inl rfl) (h z)) (f_lst fs_nil)) (s_cons (s_for (fun wi g tb a b c z => ps_for (by exact passes_of rfl) rfl (a z) (b z) (c z)) (i_range1 (fun t h z => pi_range1 (by rfl) T.b_range (h z)) (v_call1 (r := rLen K) (fun t h z => pe_callB call_len (by rfl) T.b_len PySem.boot_len (h z)) o_len (v_nm (fun _ => pv 3)))) (g_nm (fun z => pg_name (i := 7) nd rfl (.inl rfl))) (s_cons (s_setO (i := 8) (R := PEf _ _) (fun t h z => ps_set nd rfl (.inl rfl) (h z)) (f_cat (EF.p (f_rep (EF.p (f_lst (fs_cons (EP.f p_int) fs_nil))) (v_ix (v_nm (fun _ => pv 3)) (v_nm (fun _ => pv 7))))) (EF.p (f_slice (p_ix (p_nm (fun _ => pv 5)) (v_nm (fun _ => pv 7))) (o_some (v_ix (v_nm (fun _ => pv 3)) (v_nm (fun _ => pv 7)))) o_none)))) (s_cons (s_put (i := 8) (R := PEf _ _) (fun t u h k z => ps_asg (h z) (pg_sub (pv 8) (k z) set_list)) (EP.f (EV.prm (v_op (fun _ => op_addX) o_add v_int (v_call1 (r := rAbs) (fun t h z => pe_callB call_abs (by rfl) T.b_abs (by decide +kernel) (h z)) o_abs (v_ix (v_nm (fun _ => pv 8)) (v_ix (v_nm (fun _ => pv 3)) (v_nm (fun _ => pv 7)))))))) (v_ix (v_nm (fun _ => pv 3)) (v_nm (fun _ => pv 7)))) (s_one (s_appN (i := 6) (j := 8) (fun z => ps_expr (pe_bm PySem.F.plainAttrs_list PySem.F.slot_list_append PySem.F.type_list_append mt_append (pv 6) (pa_cons (pv 8) pa_nil)))))))) (s_cons (s_for (fun wi g tb a b c z => ps_for (by exact passes_of rfl) rfl (a z) (b z) (c z)) (i_range1 (fun t h z => pi_range1 (by rfl) T.b_range (h z)) (v_call1 (r := rLen K) (fun t h z => pe_callB call_len (by rfl) T.b_len PySem.boot_len (h z)) o_len (v_nm (fun _ => pv 3)))) (g_nm (fun z => pg_name (i := 7) nd rfl (.inl rfl))) (s_one (s_for (fun wi g tb a b c z => ps_for (by exact passes_of rfl) rfl (a z) (b z) (c z)) (i_range1 (fun t h z => pi_range1 (by rfl) T.b_range (h z)) (v_nm (fun _ => pv 7))) (g_nm (fun z => pg_name (i := 9) nd rfl (.inl rfl))) (s_cons (s_set (i := 4) (R := PEf _ _) (fun t h z => ps_set nd rfl (.inl rfl) (h z)) (p_ix (p_nm (fun _ => pv 3)) (v_nm (fun _ => pv 7)))) (s_one (s_put2 (i := 6) (R := PEf _ _) (fun t u v h k l z => ps_asg (h z) (pg_sub (pe_ix ix_seq (pv 6) (k z) (fun _ _ => rfl)) (l z) set_list)) (EP.f (EV.prm (v_op (fun _ => op_modN) o_mod (v_ix (v_ix (v_nm (fun _ => pv 6)) (v_nm (fun _ => pv 9))) (v_nm (fun _ => pv 4))) (v_ix (v_ix (v_nm (fun _ => pv 6)) (v_nm (fun _ => pv 7))) (v_nm (fun _ => pv 4)))))) (v_nm (fun _ => pv 9)) (v_nm (fun _ => pv 4)))))))) (s_one (s_retN (fun _ => ps_ret (pv 6))))))))))
abbrev s__law_rest : Stmt := topS 20
theorem sc__law_rest : FnScope ["rungs", "k", "numbers", "cell", "rest", "rung", "place"] ["rungs", "k", "numbers", "cell"] (defScope s__law_rest) := ⟨rfl, rfl, rfl, by decide +kernel, rfl, by decide +kernel, by decide +kernel⟩
noncomputable def l__law_rest_1 : Sl → Fl := fun st => (setO 6 (mapRs O.sh (mapRs O.er (callR 1 m__law_place (consR (getP 5 st) (.ok []))))) st).thn (fun st => (putR 4 (mapRs O.sh (asPrim (bin2 modD (bin2 ixD (getV 4 st) (getV 6 st)) (bin2 ixD (getV 5 st) (getV 6 st))))) (getV 6 st) st).thn (fun st => ifS (asB (bin2 eqD (bin2 modD (bin2 fdivD (getV 3 st) (.ok (.int 3))) (.ok (.int 2))) (.ok (.int 1)))) (putR 4 (mapRs O.sh (bin2 ixD (mapRs O.er (mapRs O.lst (consR (mapRs O.sh (.ok (.int 0))) (consR (mapRs O.sh (asPrim (bin2 subD (bin2 ixD (getV 5 st) (getV 6 st)) (.ok (.int 1))))) (.ok []))))) (bin2 modD (bin2 fdivD (getV 3 st) (bin2 addD (.ok (.int 6)) (bin2 mulD (.ok (.int 2)) (getV 6 st)))) (.ok (.int 2))))) (getV 6 st) st) (.nx st)))
noncomputable def b__law_rest : Sl → Fl := fun st => (setO 4 (listF (getP 2 st)) st).thn (fun st => (ifS (asB (bin2 eqD (bin2 modD (getV 3 st) (.ok (.int 3))) (.ok (.int 1)))) (setO 4 (repF (mapRs O.er (mapRs O.lst (consR (mapRs O.sh (.ok (.int 0))) (.ok [])))) (getV 1 st)) st) (.nx st)).thn (fun st => (forR (elemsR (getP 0 st)) (setN 5) l__law_rest_1 st).thn (fun st => retN 4 st)))
noncomputable def m__law_rest : List D → Rs O := runD 7 4 b__law_rest
theorem d__law_rest {f : Addr} {fd : FuncData} (T : Txt mg) (F : Fun K "_law_rest" "_law_rest" s__law_rest f fd) (g : mg "_law_rest" = some (.ref f)) (b : Binds K fd ["rungs", "k", "numbers", "cell"] []) {f__law_place : Addr} {fd__law_place : FuncData} {ps__law_place : List Str} (C__law_place : CallOk P w K mg base cl "_law_place" 1 1 m__law_place f__law_place fd__law_place ps__law_place) : CallOk P w K mg base cl "_law_rest" 2 4 m__law_rest f fd ["rungs", "k", "numbers", "cell"] := by
  refine CallOk.mk (def_ok (k := 1) (fb := b__law_rest) (N := ["rungs", "k", "numbers", "cell", "rest", "rung", "place"]) F sc__law_rest fun cdv A outer s H E hr => ?_) g F.kp b
  have nd := sc__law_rest.nd
  exact (s_cons (s_setO (i := 4) (R := PEf _ _) (fun t h z => ps_set nd rfl (.inl rfl) (h z)) (f_list (fun t h z => pe_callTy call_list_of (by rfl) T.b_list PyProof.Rows.boot_list (h z)) (p_nm (fun _ => pv 2)))) (s_cons (s_if (t_cmp (fun _ => op_eqD hr.units) o_eq (nomark _) (v_op (fun _ => op_modN) o_mod (v_nm (fun _ => pv 3)) v_int) v_int) (s_one (s_setO (i := 4) (R := PEf _ _) (fun t h z => ps_set nd rfl (.inl rfl) (h z)) (f_rep (EF.p (f_lst (fs_cons (EP.f p_int) fs_nil))) (v_nm (fun _ => pv 1))))) s_nil) (s_cons (s_for (fun wi g tb a b c z => ps_for (by exact passes_of rfl) rfl (a z) (b z) (c z)) (i_list (p_nm (fun _ => pv 0))) (g_nm (fun z => pg_name (i := 5) nd rfl (.inl rfl))) (s_cons (s_set (i := 6) (R := PEf _ _) (fun t h z => ps_set nd rfl (.inl rfl) (h z)) (EF.p (f_call (fun t h z => pe_callS C__law_place.F (hr.mono (by decide)) (by rfl) C__law_place.g C__law_place.kp C__law_place.b (fun σ => passAt (takes_of rfl rfl rfl rfl) σ) (h z)) (ps_cons (p_nm (fun _ => pv 5)) ps_nil)))) (s_cons (s_put (i := 4) (R := PEf _ _) (fun t u h k z => ps_asg (h z) (pg_sub (pv 4) (k z) set_list)) (EP.f (EV.prm (v_op (fun _ => op_modN) o_mod (v_ix (v_nm (fun _ => pv 4)) (v_nm (fun _ => pv 6))) (v_ix (v_nm (fun _ => pv 5)) (v_nm (fun _ => pv 6)))))) (v_nm (fun _ => pv 6))) (s_one (s_if (t_cmp (fun _ => op_eqD hr.units) o_eq (nomark _) (v_op (fun _ => op_modN) o_mod (v_op (fun _ => op_fdivX) o_fdiv (v_nm (fun _ => pv 3)) v_int) v_int) v_int) (s_one (s_put (i := 4) (R := PEf _ _) (fun t u h k z => ps_asg (h z) (pg_sub (pv 4) (k z) set_list)) (EP.f (p_ix (EF.p (f_lst (fs_cons (EP.f p_int) (fs_cons (EP.f (EV.prm (v_op (fun _ => op_sub) o_sub (v_ix (v_nm (fun _ => pv 5)) (v_nm (fun _ => pv 6))) v_int))) fs_nil)))) (v_op (fun _ => op_modN) o_mod (v_op (fun _ => op_fdivX) o_fdiv (v_nm (fun _ => pv 3)) (v_op (fun _ => op_addX) o_add v_int (v_op (fun _ => op_mulX) o_mul v_int (v_nm (fun _ => pv 6))))) v_int))) (v_nm (fun _ => pv 6)))) s_nil))))) (s_one (s_retN (fun _ => ps_ret (pv 4)))))))
abbrev s_is_made : Stmt := topS 8
theorem sc_is_made : FnScope ["rungs", "purse"] ["rungs", "purse"] (defScope s_is_made) := ⟨rfl, rfl, rfl, by decide +kernel, rfl, by decide +kernel, by decide +kernel⟩
noncomputable def b_is_made : Sl → Fl := fun st => retR (mapRs O.sh (asPrim (bin2 eqD (mapRs O.er (callR 1 m_place_of (consR (bin2 ixD (mapRs O.er (callR 2 m_led (consR (getP 0 st) (consR (getP 1 st) (.ok []))))) (.ok (.int 1))) (.ok [])))) (un1 lenD (getV 1 st)))))
noncomputable def m_is_made : List D → Rs O := runD 2 2 b_is_made
theorem d_is_made {f : Addr} {fd : FuncData} (T : Txt mg) (F : Fun K "is_made" "is_made" s_is_made f fd) (g : mg "is_made" = some (.ref f)) (b : Binds K fd ["rungs", "purse"] []) {f_place_of : Addr} {fd_place_of : FuncData} {ps_place_of : List Str} (C_place_of : CallOk P w K mg base cl "place_of" 1 1 m_place_of f_place_of fd_place_of ps_place_of) {f_led : Addr} {fd_led : FuncData} {ps_led : List Str} (C_led : CallOk P w K mg base cl "led" 2 2 m_led f_led fd_led ps_led) : CallOk P w K mg base cl "is_made" 3 2 m_is_made f fd ["rungs", "purse"] := by
  refine CallOk.mk (def_ok (k := 2) (fb := b_is_made) (N := ["rungs", "purse"]) F sc_is_made fun cdv A outer s H E hr => ?_) g F.kp b
  have nd := sc_is_made.nd
  exact (s_one (s_ret (R := PEf _ _) (fun t h z => ps_ret (h z)) (EP.f (EV.prm (v_cmp (fun _ => op_eqD hr.units) o_eq (nomark _) (EP.v (EF.p (f_call (fun t h z => pe_callS C_place_of.F (hr.mono (by decide)) (by rfl) C_place_of.g C_place_of.kp C_place_of.b (fun σ => passAt (takes_of rfl rfl rfl rfl) σ) (h z)) (ps_cons (p_ix (EF.p (f_call (fun t h z => pe_callS C_led.F (hr.mono (by decide)) (by rfl) C_led.g C_led.kp C_led.b (fun σ => passAt (takes_of rfl rfl rfl rfl) σ) (h z)) (ps_cons (p_nm (fun _ => pv 0)) (ps_cons (p_nm (fun _ => pv 1)) ps_nil)))) v_int) ps_nil)))) (v_call1 (r := rLen K) (fun t h z => pe_callB call_len (by rfl) T.b_len PySem.boot_len (h z)) o_len (v_nm (fun _ => pv 1))))))))
abbrev s_law : Stmt := topS 21
theorem sc_law : FnScope ["script", "k", "cell", "rungs", "often", "rest", "purse", "handed", "aim", "found", "made", "row", "one", "other", "rung"] ["script"] (defScope s_law) := ⟨rfl, rfl, rfl, by decide +kernel, rfl, by decide +kernel, by decide +kernel⟩
noncomputable def e_law_1 : Sl → Rs O := fun st => mapRs O.sh (bin2 ixD (getP 11 st) (.ok (.int 0)))
noncomputable def e_law_2 : Sl → Rs O := fun st => mapRs O.sh (asPrim (bin2 addD (getV 12 st) (getV 13 st)))
noncomputable def e_law_3 : Sl → Rs O := fun st => listF (getP 14 st)
noncomputable def b_law : Sl → Fl := fun st => (setO 1 (mapRs O.sh (bin2 ixD (mapRs O.er (callR 1 m__law_shape (consR (mapRs O.er (callR 2 m__law_cell_at (consR (getP 0 st) (consR (.ok (.int 0)) (.ok []))))) (.ok [])))) (.ok (.int 0)))) st).thn (fun st => (setO 2 (mapRs O.sh (mapRs O.er (callR 2 m__law_cell_at (consR (getP 0 st) (consR (.ok (.int 1)) (.ok [])))))) st).thn (fun st => (setO 3 (mapRs O.sh (mapRs O.er (callR 3 m__law_built (consR (mapRs O.er (sliceF (getP 0 st) (asI (.ok (.int 2))) (asI (.ok (.int 82))))) (consR (getP 1 st) (consR (mapRs O.er (callR 3 m__law_most (consR (asPrim (bin2 fdivD (getV 2 st) (.ok (.int 20)))) (consR (getP 1 st) (consR (.ok (.int 0)) (.ok [])))))) (.ok []))))))) st).thn (fun st => (setO 4 (mapRs O.sh (mapRs O.er (lcR (elemsR (mapRs O.er (callR 4 m__law_drawn (consR (mapRs O.er (sliceF (getP 0 st) (asI (.ok (.int 3))) (asI (.ok (.int 82))))) (consR (asPrim (un1 lenD (getV 3 st))) (consR (.ok (.int 1)) (consR (asPrim (bin2 powD (.ok (.int 10)) (.ok (.int 60)))) (.ok [])))))))) (setN 11) (fun st => .ok true) e_law_1 [11] st))) st).thn (fun st => (setO 5 (mapRs O.sh (mapRs O.er (callR 4 m__law_rest (consR (getP 3 st) (consR (getP 1 st) (consR (bin2 ixD (mapRs O.er (callR 4 m__law_drawn (consR (mapRs O.er (sliceF (getP 0 st) (asI (.ok (.int 4))) (asI (.ok (.int 82))))) (consR (.ok (.int 1)) (consR (getP 1 st) (consR (asPrim (bin2 powD (.ok (.int 10)) (.ok (.int 12)))) (.ok []))))))) (.ok (.int 0))) (consR (getP 2 st) (.ok [])))))))) st).thn (fun st => (setO 6 (mapRs O.sh (mapRs O.er (lcR (zipR (mapRs O.er (callR 3 m__law_mixed (consR (getP 4 st) (consR (getP 3 st) (consR (getP 1 st) (.ok [])))))) (getP 5 st)) (setTup 2 (setCons (setN 12) (setCons (setN 13) (setNil)))) (fun st => .ok true) e_law_2 [12, 13] st))) st).thn (fun st => (setO 7 (mapRs O.sh (mapRs O.er (lcR (elemsR (getP 3 st)) (setN 14) (fun st => .ok true) e_law_3 [14] st))) st).thn (fun st => (setO 8 (mapRs O.sh (mapRs O.er (listF (getP 6 st)))) st).thn (fun st => (setO 9 (mapRs O.sh (mapRs O.er (callR 2 m_led (consR (getP 7 st) (consR (getP 8 st) (.ok [])))))) st).thn (fun st => (ifS (orT (asB (bin2 neD (getV 7 st) (getV 3 st))) (orT (asB (bin2 neD (getV 8 st) (getV 6 st))) (orT (notT (asB (un1 (isi "tuple") (getV 9 st)))) (asB (bin2 neD (un1 lenD (getV 9 st)) (.ok (.int 2))))))) (retR (mapRs O.sh (.ok (.bl false)))) (.nx st)).thn (fun st => (ifS (orT (notT (asB (mapRs O.er (callR 2 m__law_numbers (consR (bin2 ixD (getP 9 st) (.ok (.int 0))) (consR (asPrim (un1 lenD (getV 3 st))) (.ok []))))))) (notT (asB (mapRs O.er (callR 2 m__law_numbers (consR (bin2 ixD (getP 9 st) (.ok (.int 1))) (consR (getP 1 st) (.ok [])))))))) (retR (mapRs O.sh (.ok (.bl false)))) (.nx st)).thn (fun st => (ifS (asB (bin2 neD (getV 9 st) (mapRs O.er (mapRs O.tup (consR (mapRs O.sh (getP 4 st)) (consR (mapRs O.sh (getP 5 st)) (.ok []))))))) (retR (mapRs O.sh (.ok (.bl false)))) (.nx st)).thn (fun st => (setO 10 (mapRs O.sh (mapRs O.er (callR 2 m_is_made (consR (getP 7 st) (consR (getP 8 st) (.ok [])))))) st).thn (fun st => (ifS (orT (asB (bin2 neD (getV 7 st) (getV 3 st))) (asB (bin2 neD (getV 8 st) (getV 6 st)))) (retR (mapRs O.sh (.ok (.bl false)))) (.nx st)).thn (fun st => retR (mapRs O.sh (asPrim (andV (un1 (isi "bool") (getV 10 st)) (bin2 eqD (getV 10 st) (bin2 eqD (getV 5 st) (mapRs O.er (repF (mapRs O.er (mapRs O.lst (consR (mapRs O.sh (.ok (.int 0))) (.ok [])))) (getV 1 st))))))))))))))))))))))
noncomputable def m_law : List D → Rs O := runD 15 1 b_law
theorem d_law {f : Addr} {fd : FuncData} (T : Txt mg) (F : Fun K "law" "law" s_law f fd) (g : mg "law" = some (.ref f)) (b : Binds K fd ["script"] []) {f__law_cell_at : Addr} {fd__law_cell_at : FuncData} {ps__law_cell_at : List Str} (C__law_cell_at : CallOk P w K mg base cl "_law_cell_at" 1 2 m__law_cell_at f__law_cell_at fd__law_cell_at ps__law_cell_at) {f__law_built : Addr} {fd__law_built : FuncData} {ps__law_built : List Str} (C__law_built : CallOk P w K mg base cl "_law_built" 2 3 m__law_built f__law_built fd__law_built ps__law_built) {f__law_rest : Addr} {fd__law_rest : FuncData} {ps__law_rest : List Str} (C__law_rest : CallOk P w K mg base cl "_law_rest" 2 4 m__law_rest f__law_rest fd__law_rest ps__law_rest) {f_led : Addr} {fd_led : FuncData} {ps_led : List Str} (C_led : CallOk P w K mg base cl "led" 2 2 m_led f_led fd_led ps_led) {f_is_made : Addr} {fd_is_made : FuncData} {ps_is_made : List Str} (C_is_made : CallOk P w K mg base cl "is_made" 3 2 m_is_made f_is_made fd_is_made ps_is_made) {f__law_shape : Addr} {fd__law_shape : FuncData} {ps__law_shape : List Str} (C__law_shape : CallOk P w K mg base cl "_law_shape" 1 1 m__law_shape f__law_shape fd__law_shape ps__law_shape) {f__law_most : Addr} {fd__law_most : FuncData} {ps__law_most : List Str} (C__law_most : CallOk P w K mg base cl "_law_most" 1 3 m__law_most f__law_most fd__law_most ps__law_most) {f__law_drawn : Addr} {fd__law_drawn : FuncData} {ps__law_drawn : List Str} (C__law_drawn : CallOk P w K mg base cl "_law_drawn" 1 4 m__law_drawn f__law_drawn fd__law_drawn ps__law_drawn) {f__law_numbers : Addr} {fd__law_numbers : FuncData} {ps__law_numbers : List Str} (C__law_numbers : CallOk P w K mg base cl "_law_numbers" 2 2 m__law_numbers f__law_numbers fd__law_numbers ps__law_numbers) {f__law_mixed : Addr} {fd__law_mixed : FuncData} {ps__law_mixed : List Str} (C__law_mixed : CallOk P w K mg base cl "_law_mixed" 1 3 m__law_mixed f__law_mixed fd__law_mixed ps__law_mixed) : CallOk P w K mg base cl "law" 4 1 m_law f fd ["script"] := by
  refine CallOk.mk (def_ok (k := 3) (fb := b_law) (N := ["script", "k", "cell", "rungs", "often", "rest", "purse", "handed", "aim", "found", "made", "row", "one", "other", "rung"]) F sc_law fun cdv A outer s H E hr => ?_) g F.kp b
  have nd := sc_law.nd
  exact (s_cons (s_set (i := 1) (R := PEf _ _) (fun t h z => ps_set nd rfl (.inl rfl) (h z)) (p_ix (EF.p (f_call (fun t h z => pe_callS C__law_shape.F (hr.mono (by decide)) (by rfl) C__law_shape.g C__law_shape.kp C__law_shape.b (fun σ => passAt (takes_of rfl rfl rfl rfl) σ) (h z)) (ps_cons (EF.p (f_call (fun t h z => pe_callS C__law_cell_at.F (hr.mono (by decide)) (by rfl) C__law_cell_at.g C__law_cell_at.kp C__law_cell_at.b (fun σ => passAt (takes_of rfl rfl rfl rfl) σ) (h z)) (ps_cons (p_nm (fun _ => pv 0)) (ps_cons p_int ps_nil)))) ps_nil))) v_int)) (s_cons (s_set (i := 2) (R := PEf _ _) (fun t h z => ps_set nd rfl (.inl rfl) (h z)) (EF.p (f_call (fun t h z => pe_callS C__law_cell_at.F (hr.mono (by decide)) (by rfl) C__law_cell_at.g C__law_cell_at.kp C__law_cell_at.b (fun σ => passAt (takes_of rfl rfl rfl rfl) σ) (h z)) (ps_cons (p_nm (fun _ => pv 0)) (ps_cons p_int ps_nil))))) (s_cons (s_set (i := 3) (R := PEf _ _) (fun t h z => ps_set nd rfl (.inl rfl) (h z)) (EF.p (f_call (fun t h z => pe_callS C__law_built.F (hr.mono (by decide)) (by rfl) C__law_built.g C__law_built.kp C__law_built.b (fun σ => passAt (takes_of rfl rfl rfl rfl) σ) (h z)) (ps_cons (EF.p (f_slice (p_nm (fun _ => pv 0)) (o_some v_int) (o_some v_int))) (ps_cons (p_nm (fun _ => pv 1)) (ps_cons (EF.p (f_call (fun t h z => pe_callS C__law_most.F (hr.mono (by decide)) (by rfl) C__law_most.g C__law_most.kp C__law_most.b (fun σ => passAt (takes_of rfl rfl rfl rfl) σ) (h z)) (ps_cons (EV.prm (v_op (fun _ => op_fdivX) o_fdiv (v_nm (fun _ => pv 2)) v_int)) (ps_cons (p_nm (fun _ => pv 1)) (ps_cons p_int ps_nil))))) ps_nil)))))) (s_cons (s_set (i := 4) (R := fun t => PSf _ _ (tAsg t (gName 4))) (fun t h => h) (EF.p (f_lc (vs := [11]) (fun wi g tt te pi pg pt pe z => ps_setLc (i := 4) (own := [("row", 11)]) rfl nd rfl rfl (sw_true rfl rfl rfl (by decide +kernel)) (pi z) (blkOk_by (by kernel_rfl)) (fun s H C c fp => pg (z, s, H, C, c, fp)) (fun s H C c fp => pt (z, s, H, C, c, fp)) (fun s H C c fp => pe (z, s, H, C, c, fp))) (i_list (EF.p (f_call (fun t h z => pe_callS C__law_drawn.F (hr.mono (by decide)) (by rfl) C__law_drawn.g C__law_drawn.kp C__law_drawn.b (fun σ => passAt (takes_of rfl rfl rfl rfl) σ) (h z)) (ps_cons (EF.p (f_slice (p_nm (fun _ => pv 0)) (o_some v_int) (o_some v_int))) (ps_cons (EV.prm (v_call1 (r := rLen K) (fun t h z => pe_callB call_len (by rfl) T.b_len PySem.boot_len (h z)) o_len (v_nm (fun _ => pv 3)))) (ps_cons p_int (ps_cons (EV.prm (v_op (fun _ => op_pow) o_pow v_int v_int)) ps_nil))))))) (g_nm (fun z => pg_name (i := 11) nd rfl (.inl rfl))) t_none (EP.f (p_ix (p_nm (fun _ => pv 11)) v_int))))) (s_cons (s_set (i := 5) (R := PEf _ _) (fun t h z => ps_set nd rfl (.inl rfl) (h z)) (EF.p (f_call (fun t h z => pe_callS C__law_rest.F (hr.mono (by decide)) (by rfl) C__law_rest.g C__law_rest.kp C__law_rest.b (fun σ => passAt (takes_of rfl rfl rfl rfl) σ) (h z)) (ps_cons (p_nm (fun _ => pv 3)) (ps_cons (p_nm (fun _ => pv 1)) (ps_cons (p_ix (EF.p (f_call (fun t h z => pe_callS C__law_drawn.F (hr.mono (by decide)) (by rfl) C__law_drawn.g C__law_drawn.kp C__law_drawn.b (fun σ => passAt (takes_of rfl rfl rfl rfl) σ) (h z)) (ps_cons (EF.p (f_slice (p_nm (fun _ => pv 0)) (o_some v_int) (o_some v_int))) (ps_cons p_int (ps_cons (p_nm (fun _ => pv 1)) (ps_cons (EV.prm (v_op (fun _ => op_pow) o_pow v_int v_int)) ps_nil)))))) v_int) (ps_cons (p_nm (fun _ => pv 2)) ps_nil))))))) (s_cons (s_set (i := 6) (R := fun t => PSf _ _ (tAsg t (gName 6))) (fun t h => h) (EF.p (f_lc (vs := [12, 13]) (fun wi g tt te pi pg pt pe z => ps_setLc (i := 6) (own := [("one", 12), ("other", 13)]) rfl nd rfl rfl (sw_true rfl rfl rfl (by decide +kernel)) (pi z) (blkOk_by (by kernel_rfl)) (fun s H C c fp => pg (z, s, H, C, c, fp)) (fun s H C c fp => pt (z, s, H, C, c, fp)) (fun s H C c fp => pe (z, s, H, C, c, fp))) (i_zip (fun t h z => pi_zip (by rfl) T.b_zip (h z)) (EF.p (f_call (fun t h z => pe_callS C__law_mixed.F (hr.mono (by decide)) (by rfl) C__law_mixed.g C__law_mixed.kp C__law_mixed.b (fun σ => passAt (takes_of rfl rfl rfl rfl) σ) (h z)) (ps_cons (p_nm (fun _ => pv 4)) (ps_cons (p_nm (fun _ => pv 3)) (ps_cons (p_nm (fun _ => pv 1)) ps_nil))))) (p_nm (fun _ => pv 5))) (g_tup (n := 2) (fun t h z => pg_tup rfl (h z)) (gs_cons (g_nm (fun z => pg_name (i := 12) nd rfl (.inl rfl))) (gs_cons (g_nm (fun z => pg_name (i := 13) nd rfl (.inl rfl))) gs_nil))) t_none (EP.f (EV.prm (v_op (fun _ => op_addX) o_add (v_nm (fun _ => pv 12)) (v_nm (fun _ => pv 13)))))))) (s_cons (s_set (i := 7) (R := fun t => PSf _ _ (tAsg t (gName 7))) (fun t h => h) (EF.p (f_lc (vs := [14]) (fun wi g tt te pi pg pt pe z => ps_setLc (i := 7) (own := [("rung", 14)]) rfl nd rfl rfl (sw_true rfl rfl rfl (by decide +kernel)) (pi z) (blkOk_by (by kernel_rfl)) (fun s H C c fp => pg (z, s, H, C, c, fp)) (fun s H C c fp => pt (z, s, H, C, c, fp)) (fun s H C c fp => pe (z, s, H, C, c, fp))) (i_list (p_nm (fun _ => pv 3))) (g_nm (fun z => pg_name (i := 14) nd rfl (.inl rfl))) t_none (f_list (fun t h z => pe_callTy call_list_of (by rfl) T.b_list PyProof.Rows.boot_list (h z)) (p_nm (fun _ => pv 14)))))) (s_cons (s_set (i := 8) (R := PEf _ _) (fun t h z => ps_set nd rfl (.inl rfl) (h z)) (EF.p (f_list (fun t h z => pe_callTy call_list_of (by rfl) T.b_list PyProof.Rows.boot_list (h z)) (p_nm (fun _ => pv 6))))) (s_cons (s_set (i := 9) (R := PEf _ _) (fun t h z => ps_set nd rfl (.inl rfl) (h z)) (EF.p (f_call (fun t h z => pe_callS C_led.F (hr.mono (by decide)) (by rfl) C_led.g C_led.kp C_led.b (fun σ => passAt (takes_of rfl rfl rfl rfl) σ) (h z)) (ps_cons (p_nm (fun _ => pv 7)) (ps_cons (p_nm (fun _ => pv 8)) ps_nil))))) (s_cons (s_if (t_w (w_or (t_cmp (fun _ => op_neD hr.units) o_ne (nomark _) (v_nm (fun _ => pv 7)) (v_nm (fun _ => pv 3))) (w_or (t_cmp (fun _ => op_neD hr.units) o_ne (nomark _) (v_nm (fun _ => pv 8)) (v_nm (fun _ => pv 6))) (w_or (t_not (t_val (v_isi (T := "tuple") (fun t h z => pe_callB call_isi (by rfl) T.b_isinstance (by decide +kernel) (h z)) (fun _ => pe_bltn (by rfl) T.b_tuple (by decide +kernel) rfl) (v_nm (fun _ => pv 9))))) (w_or1 (t_cmp (fun _ => op_neD hr.units) o_ne (nomark _) (v_call1 (r := rLen K) (fun t h z => pe_callB call_len (by rfl) T.b_len PySem.boot_len (h z)) o_len (v_nm (fun _ => pv 9))) v_int)))))) (s_one (s_ret (R := PEf _ _) (fun t h z => ps_ret (h z)) (EP.f p_bl))) s_nil) (s_cons (s_if (t_w (w_or (t_not (t_val (EP.v (EF.p (f_call (fun t h z => pe_callS C__law_numbers.F (hr.mono (by decide)) (by rfl) C__law_numbers.g C__law_numbers.kp C__law_numbers.b (fun σ => passAt (takes_of rfl rfl rfl rfl) σ) (h z)) (ps_cons (p_ix (p_nm (fun _ => pv 9)) v_int) (ps_cons (EV.prm (v_call1 (r := rLen K) (fun t h z => pe_callB call_len (by rfl) T.b_len PySem.boot_len (h z)) o_len (v_nm (fun _ => pv 3)))) ps_nil))))))) (w_or1 (t_not (t_val (EP.v (EF.p (f_call (fun t h z => pe_callS C__law_numbers.F (hr.mono (by decide)) (by rfl) C__law_numbers.g C__law_numbers.kp C__law_numbers.b (fun σ => passAt (takes_of rfl rfl rfl rfl) σ) (h z)) (ps_cons (p_ix (p_nm (fun _ => pv 9)) v_int) (ps_cons (p_nm (fun _ => pv 1)) ps_nil)))))))))) (s_one (s_ret (R := PEf _ _) (fun t h z => ps_ret (h z)) (EP.f p_bl))) s_nil) (s_cons (s_if (t_cmp (fun _ => op_neD hr.units) o_ne (nomark _) (v_nm (fun _ => pv 9)) (EP.v (EF.p (f_tup (fs_cons (EP.f (p_nm (fun _ => pv 4))) (fs_cons (EP.f (p_nm (fun _ => pv 5))) fs_nil)))))) (s_one (s_ret (R := PEf _ _) (fun t h z => ps_ret (h z)) (EP.f p_bl))) s_nil) (s_cons (s_set (i := 10) (R := PEf _ _) (fun t h z => ps_set nd rfl (.inl rfl) (h z)) (EF.p (f_call (fun t h z => pe_callS C_is_made.F (hr.mono (by decide)) (by rfl) C_is_made.g C_is_made.kp C_is_made.b (fun σ => passAt (takes_of rfl rfl rfl rfl) σ) (h z)) (ps_cons (p_nm (fun _ => pv 7)) (ps_cons (p_nm (fun _ => pv 8)) ps_nil))))) (s_cons (s_if (t_w (w_or (t_cmp (fun _ => op_neD hr.units) o_ne (nomark _) (v_nm (fun _ => pv 7)) (v_nm (fun _ => pv 3))) (w_or1 (t_cmp (fun _ => op_neD hr.units) o_ne (nomark _) (v_nm (fun _ => pv 8)) (v_nm (fun _ => pv 6)))))) (s_one (s_ret (R := PEf _ _) (fun t h z => ps_ret (h z)) (EP.f p_bl))) s_nil) (s_one (s_ret (R := PEf _ _) (fun t h z => ps_ret (h z)) (EP.f (EV.prm (v_and (v_isi (T := "bool") (fun t h z => pe_callB call_isi (by rfl) T.b_isinstance (by decide +kernel) (h z)) (fun _ => pe_bltn (by rfl) T.b_bool (by decide +kernel) rfl) (v_nm (fun _ => pv 10))) (v_one (v_cmp (fun _ => op_eqD hr.units) o_eq (nomark _) (v_nm (fun _ => pv 10)) (v_cmp (fun _ => op_eqD hr.units) o_eq (nomark _) (v_nm (fun _ => pv 5)) (EP.v (EF.p (f_rep (EF.p (f_lst (fs_cons (EP.f p_int) fs_nil))) (v_nm (fun _ => pv 1)))))))))))))))))))))))))))
end
end M
/-! small steps -/
namespace M
open PySem L2
abbrev fm (rs : List (List Int)) : O := .lst (rs.map fo)
theorem fm_er (rs : List (List Int)) : (fm rs).er = lm rs := by
  show (O.lst (rs.map fo)).er = _
  rw [er_lst, List.map_map]
  congr 1
  apply List.map_congr_left
  intro x _
  exact fo_er x
theorem call1 {m : List D → Rs O} (a : D) : callR 1 m (.ok [a]) = m [a] := by rw [callR_ok]; exact if_pos rfl
theorem call2 {m : List D → Rs O} (a b : D) : callR 2 m (.ok [a, b]) = m [a, b] := by rw [callR_ok]; exact if_pos rfl
theorem call3 {m : List D → Rs O} (a b c : D) : callR 3 m (.ok [a, b, c]) = m [a, b, c] := by rw [callR_ok]; exact if_pos rfl
theorem thn_step {X : Fl} {st' : Sl} {Y : Sl → Fl} {r : Rs O} (h : X = .nx st') (g : fin (Y st') = r) : fin (X.thn Y) = r := by rw [h]; exact g
theorem setO_step {i : Nat} {v : Rs O} {o : O} {st : Sl} (h : v = .ok o) (hi : i < st.length) : setO i v st = .nx (st.set i (some o)) := by
  rw [h, setO_ok, if_pos hi]
theorem thn_exo {X : Fl} {S : Option O → Sl} {Y : Sl → Fl} {r : Rs O} (h : ∃ a, X = .nx (S a)) (g : ∀ a, fin (Y (S a)) = r) : fin (X.thn Y) = r := by
  obtain ⟨a, h⟩ := h
  rw [h]; exact g a
theorem getD_mem {α : Type} {xs : List α} {i : Nat} {d : α} (h : i < xs.length) : xs.getD i d ∈ xs := by
  rw [List.getD_eq_getElem?_getD, List.getElem?_eq_getElem h]
  exact List.getElem_mem h
theorem ifS_no {c : Rs Bool} {a b : Fl} (h : c = .ok false) : ifS c a b = b := by
  rw [h]; rfl
theorem ifS_yes {c : Rs Bool} {a b : Fl} (h : c = .ok true) : ifS c a b = a := by
  rw [h]; rfl
theorem sl_scr (ns : List Int) {i j : Int} (h : 0 ≤ i) (h2 : 0 ≤ j) : sliceF (.ok (.scr ns)) (asI (.ok (.int i))) (asI (.ok (.int j))) = .ok (fo ((ns.drop i.toNat).take (j.toNat - i.toNat))) := by
  rw [asI_ok, asI_ok, sliceF_scr, cutL_mid _ h h2, ← List.map_drop, ← List.map_take, List.map_map]
  rfl
theorem sl_lm (rs : List (List Int)) {j : Int} (h : 0 ≤ j) : mapRs O.er (sliceF (.ok (lm rs)) (.ok none) (asI (.ok (.int j)))) = .ok (lm (rs.take j.toNat)) := by
  rw [asI_ok, sliceF_ok, cutL_to _ h, ← List.map_take, mapRs_ok, er_lst, List.map_map]
  congr 2
  exact (List.map_congr_left fun x _ => rfl).trans (List.map_id _)
theorem foldl_sum {α : Type} (f : α → Int) : ∀ (xs : List α) (a : Int), xs.foldl (fun s x => s + f x) a = a + (xs.map f).sum
  | [], a => by simp
  | x :: xs, a => by rw [List.foldl_cons, foldl_sum f xs, List.map_cons, List.sum_cons]; omega
theorem ix_li {xs : List Int} {i : Nat} (h : i < xs.length) : bin2 ixD (.ok (li xs)) (.ok (.int (i : Int))) = .ok (.int (xs.getD i 0)) := by
  have a : atI (xs.map D.int) (i : Int) = some (.int xs[i]) := atI_map h
  rw [bin2_ok, ix_lst, a]
  simp [List.getD, h]
theorem ix_lm {rs : List (List Int)} {i : Nat} (h : i < rs.length) : bin2 ixD (.ok (lm rs)) (.ok (.int (i : Int))) = .ok (li (rs.getD i [])) := by
  have a : atI (rs.map li) (i : Int) = some (li rs[i]) := atI_map h
  rw [bin2_ok, ix_lst, a]
  simp [List.getD, h]
theorem len_li (xs : List Int) : un1 lenD (.ok (li xs)) = .ok (.int (xs.length : Int)) := by
  show Rs.ok (D.int (((xs.map D.int).length : Nat) : Int)) = _
  rw [List.length_map]
theorem len_lm (xs : List (List Int)) : un1 lenD (.ok (lm xs)) = .ok (.int (xs.length : Int)) := by
  show Rs.ok (D.int (((xs.map li).length : Nat) : Int)) = _
  rw [List.length_map]
end M

/-! more small steps -/
namespace M
open PySem L2
theorem thn_exo3 {X : Fl} {S : Option O → Option O → Option O → Sl} {Y : Sl → Fl} {r : Rs O} (h : ∃ a b c, X = .nx (S a b c)) (g : ∀ a b c, fin (Y (S a b c)) = r) : fin (X.thn Y) = r := by
  obtain ⟨a, b, c, h⟩ := h
  rw [h]; exact g a b c
theorem mo_of {cs : List Int} {ps : List (List Int)} {a b : Nat} (hc : Low (2 ^ a) cs) (hp : ∀ r ∈ ps, Low (2 ^ b) r) (h : b + a ≤ 134217728) : ∀ r ∈ ps, ∀ x ∈ r, ∀ c ∈ cs, mulOk x c = true :=
  fun r hr x hx c hq => mulOk_of (hp r hr x hx) (hc c hq) h
theorem mo_of' {cs : List Int} {ps : List (List Int)} {a b : Nat} (hc : Low (2 ^ a) cs) (hp : ∀ r ∈ ps, Low (2 ^ b) r) (h : a + b ≤ 134217728) : ∀ r ∈ ps, ∀ x ∈ r, ∀ c ∈ cs, mulOk c x = true :=
  fun r hr x hx c hq => mulOk_of (hc c hq) (hp r hr x hx) h
theorem cutL_last {α : Type} (xs : List α) : cutL xs none (some (-1)) = xs.dropLast := by
  unfold cutL
  show List.take ((-1 + (xs.length : Int)).toNat - 0) (xs.drop 0) = _
  rw [List.drop_zero, Nat.sub_zero, List.dropLast_eq_take]
  congr 1
  omega
theorem sh_er (ds : List D) : (O.lst (ds.map .sh)).er = .lst ds := by
  rw [er_lst, List.map_map]
  congr 1
  exact (List.map_congr_left fun x _ => rfl).trans (List.map_id _)
theorem sl_last (rs : List (List Int)) : mapRs O.er (sliceF (.ok (lm rs)) (.ok none) (asI (un1 negD (.ok (.int 1))))) = .ok (lm rs.dropLast) := by
  rw [show asI (un1 negD (.ok (.int 1))) = .ok (some (-1)) from rfl, sliceF_ok, cutL_last, mapRs_ok, sh_er, ← List.map_dropLast]
theorem cat_lm {xs ys : List (List Int)} (h : xs.length + ys.length < 1000) : mapRs O.er (catF (.ok (lm xs)) (.ok (lm ys))) = .ok (lm (xs ++ ys)) := by
  have e : catF (.ok (lm xs)) (.ok (lm ys)) = if (xs.map li).length + (ys.map li).length ≤ sizeLine then .ok (.lst ((xs.map li ++ ys.map li).map .sh)) else .bad := rfl
  rw [e, if_pos (by rw [List.length_map, List.length_map, sizeLine_eq]; omega), mapRs_ok, sh_er, ← List.map_append]
theorem er_map_fo (as : List (List Int)) (f : List Int → List Int) : (O.lst (as.map fun a => fo (f a))).er = lm (as.map f) := by
  rw [er_lst, List.map_map]
  show D.lst _ = D.lst ((as.map f).map li)
  rw [List.map_map]
  congr 1
  apply List.map_congr_left
  intro x _
  exact fo_er _
theorem Low.of {b : Nat} {xs : List Int} (h : ∀ x ∈ xs, x.natAbs < b) : Low b xs := h
end M

/-! writing into a list of numbers; turns of a range -/
namespace M
open PySem L2
theorem range_mem {n i : Nat} {f : Nat → D} {d : D} (h : ((List.range n).map f)[i]? = some d) : i < n ∧ d = f i := by
  rw [List.getElem?_map] at h
  rcases Nat.lt_or_ge i n with z | z
  · rw [List.getElem?_range z] at h
    cases h
    exact ⟨z, rfl⟩
  · rw [List.getElem?_eq_none (by rw [List.length_range]; exact z)] at h
    cases h
theorem list_mem {α : Type} {xs : List α} {i : Nat} {f : α → D} {d : D} (h : (xs.map f)[i]? = some d) : ∃ hi : i < xs.length, d = f xs[i] := by
  rw [List.getElem?_map] at h
  rcases Nat.lt_or_ge i xs.length with z | z
  · rw [List.getElem?_eq_getElem z] at h
    cases h
    exact ⟨z, rfl⟩
  · rw [List.getElem?_eq_none z] at h
    cases h
theorem ixN_of {n j : Nat} (h : j < n) : ixN n (j : Int) = some j := by
  unfold ixN
  rw [if_pos (by omega), if_pos (by omega), Int.toNat_natCast]
theorem fo_set (xs : List Int) (j : Nat) (v : Int) : fo (xs.set j v) = .lst ((xs.map fun x => O.sh (D.int x)).set j (O.sh (D.int v))) := by
  show O.lst _ = _
  rw [List.map_set]
theorem put_fo {i j : Nat} {v : Int} {xs : List Int} {st : Sl} (h : st[i]? = some (some (fo xs))) (hj : j < xs.length) : putR i (.ok (.sh (.int v))) (.ok (.int (j : Int))) st = .nx (st.set i (some (fo (xs.set j v)))) := by
  unfold putR
  dsimp only
  rw [h]
  dsimp only
  rw [ixN_of (by rw [List.length_map]; exact hj), fo_set]
theorem app_fo {i : Nat} {v : Int} {xs : List Int} {st : Sl} (h : st[i]? = some (some (fo xs))) (hl : xs.length < 1000000) : appR i (.ok (.sh (.int v))) st = .nx (st.set i (some (fo (xs ++ [v])))) := by
  unfold appR
  rw [h]
  dsimp only
  rw [if_pos (by rw [List.length_map, sizeLine_eq]; omega)]
  congr 2
  show some (O.lst _) = some (O.lst _)
  rw [List.map_append]
  rfl
theorem put2_fm {i m n : Nat} {v : Int} {rs : List (List Int)} {st : Sl} (h : st[i]? = some (some (fm rs))) (hm : m < rs.length) (hn : n < (rs.getD m []).length) : put2R i (.ok (.sh (.int v))) (.ok (.int (m : Int))) (.ok (.int (n : Int))) st = .nx (st.set i (some (fm (rs.set m ((rs.getD m []).set n v))))) := by
  have g : rs.getD m [] = rs[m] := by
    rw [List.getD_eq_getElem?_getD, List.getElem?_eq_getElem hm]; rfl
  rw [g] at hn ⊢
  have a : atI (rs.map fo) (m : Int) = some (fo rs[m]) := atI_map hm
  unfold put2R
  dsimp only
  rw [h]
  dsimp only
  rw [a]
  dsimp only
  rw [ixN_of (by rw [List.length_map]; exact hm), ixN_of (by rw [List.length_map]; exact hn)]
  dsimp only
  rw [← fo_set]
  show Fl.nx (st.set i (some (O.lst _))) = Fl.nx (st.set i (some (O.lst _)))
  rw [List.map_set]
theorem appN_fm {i j : Nat} {rs : List (List Int)} {r : List Int} {st : Sl} (h : st[i]? = some (some (fm rs))) (h2 : st[j]? = some (some (fo r))) (hij : i ≠ j) (hl : rs.length < 1000000) : appNR i j st = .nx ((st.set j none).set i (some (fm (rs ++ [r])))) := by
  unfold appNR
  rw [h, h2]
  dsimp only
  rw [if_pos ⟨by rw [List.length_map, sizeLine_eq]; omega, hij⟩]
  congr 2
  show some (O.lst _) = some (O.lst _)
  rw [List.map_append]
  rfl
theorem Low.set {b : Nat} {xs : List Int} (h : Low b xs) {v : Int} (hv : v.natAbs < b) (j : Nat) : Low b (xs.set j v) := fun x hx => by
  rcases List.mem_or_eq_of_mem_set hx with z | z
  · exact h x z
  · rw [z]; exact hv
theorem sl_V (xs : List Int) {i j : Nat} : sliceV (.ok (li xs)) (asI (.ok (.int i))) (asI (.ok (.int j))) = .ok (fo ((xs.drop i).take (j - i))) := by
  have e : sliceV (.ok (li xs)) (asI (.ok (.int i))) (asI (.ok (.int j))) = if (cutL (xs.map D.int) (some (i : Int)) (some (j : Int))).all prim = true then .ok (.lst ((cutL (xs.map D.int) (some (i : Int)) (some (j : Int))).map .sh)) else .bad := rfl
  rw [e, cutL_mid _ (by omega) (by omega), Int.toNat_natCast, Int.toNat_natCast, ← List.map_drop, ← List.map_take, if_pos (by
    rw [List.all_map, List.all_eq_true]; intro x _; rfl), List.map_map]
  rfl
theorem lcR_lst {it : Rs (List D)} {tg : D → Sl → Option Sl} {ts : Sl → Rs Bool} {el : Sl → Rs O} {vs : List Nat} {st : Sl} {n : Nat} {g : Nat → O} (hi : it = .ok ((List.range n).map fun (i : Nat) => D.int i)) (hl : n < 16000000)
    (h : ∀ a, a < n → ∃ st1, tg (.int (a : Nat)) (wipeS st vs) = some st1 ∧ ts st1 = .ok true ∧ el st1 = .ok (g a)) : lcR it tg ts el vs st = .ok (.lst ((List.range n).map g)) :=
  lcR_map hi (by rw [List.length_range]; exact hl) fun a ha => h a (List.mem_range.mp ha)
end M

/-! equality of two lists at once -/
namespace M
open PySem L2
theorem py_t2 (a b : List Int) : (D.tup [li a, li b]).py = .tuple [.list (a.map PyData.int), .list (b.map PyData.int)] := by
  show PyData.tuple [(li a).py, (li b).py] = _
  rw [py_li, py_li]
theorem shaped_t2 (a b : List Int) : SeqAt.shaped (D.tup [li a, li b]).py = true := by
  rw [py_t2]
  unfold SeqAt.shaped
  have h1 : PyData.canLay0 (.tuple [.list (a.map PyData.int), .list (b.map PyData.int)]) = true := by
    rw [PyData.canLay0, PyData.canLayAll0, PyData.canLayAll0, PyData.canLayAll0, PyData.canLay0, PyData.canLay0, lay_ints, lay_ints]
    rfl
  have h2 : PyData.depth (.tuple [.list (a.map PyData.int), .list (b.map PyData.int)]) ≤ 64 := by
    have := depth_ints a
    have := depth_ints b
    rw [PyData.depth, PyData.depthAll, PyData.depthAll, PyData.depthAll, PyData.depth, PyData.depth]
    omega
  rw [h1, decide_eq_true h2]
  rfl
theorem ne_t2 (a b : List Int) : neD (.tup [li a, li b]) (.tup [li a, li b]) = some (.bl false) := by
  unfold neD eqOk
  rw [shaped_t2, if_pos (show (true && true) = true from rfl)]
  unfold eqB
  rw [py_t2, PyData.eqv, PyData.eqvAll, PyData.eqvAll, PyData.eqvAll, PyData.eqv, PyData.eqv, eqv_ints, eqv_ints]
  simp
end M

namespace M
open PySem L2
theorem cell_at (ns : List Int) {j : Int} (h : 0 ≤ j) : m__law_cell_at [.scr ns, .int j] = .ok (.sh (.int (ns.getD j.toNat 0))) := by
  by_cases c : j < (ns.length : Int)
  · have hj : j.toNat < ns.length := by omega
    have e : atI ns j = some ns[j.toNat] := by
      have := atI_ofNat (xs := ns) hj
      rw [Int.toNat_of_nonneg h] at this
      exact this
    simp [m__law_cell_at, b__law_cell_at, c, e, hj]
  · have hj : ns.length ≤ j.toNat := by omega
    simp [m__law_cell_at, b__law_cell_at, c, hj]
theorem whole_int (i : Int) : m__law_whole [.int i] = .ok (.sh (.bl true)) := by
  simp [m__law_whole, b__law_whole]
end M

/-! place_of -/
namespace M
open PySem L2
theorem place_while {w : Sl → Rs Bool} {l : Sl → Fl} (hw : w = fun st => andT (asB (bin2 ltD (getV 1 st) (un1 lenD (getV 0 st)))) (asB (bin2 eqD (bin2 ixD (getV 0 st) (getV 1 st)) (.ok (.int 0)))))
    (hl : l = fun st => setO 1 (mapRs O.sh (asPrim (bin2 addD (getV 1 st) (.ok (.int 1))))) st) (xs : List Int) : ∀ (n i : Nat), i + n = pl xs → whileF w l [some (.sh (li xs)), some (.sh (.int i))] = .nx [some (.sh (li xs)), some (.sh (.int (pl xs)))] := by
  have le := pl_le xs
  intro n
  induction n with
  | zero =>
    intro i e
    rw [Nat.add_zero] at e
    subst e
    have c : w [some (.sh (li xs)), some (.sh (.int (pl xs : Nat)))] = .ok false := by
      rw [hw]
      show andT (asB (bin2 ltD (.ok (.int (pl xs : Nat))) (un1 lenD (.ok (li xs))))) (asB (bin2 eqD (bin2 ixD (.ok (li xs)) (.ok (.int (pl xs : Nat)))) (.ok (.int 0)))) = _
      rw [len_li]
      by_cases h : pl xs < xs.length
      · have n := pl_ne h
        rw [ix_li h]
        generalize xs.getD (pl xs) 0 = x at *
        simp [n]
      · have : ¬ ((pl xs : Int) < (xs.length : Int)) := by omega
        simp [this]
    rw [whileF_eq, c]
  | succ n ih =>
    intro i e
    have h : i < xs.length := by omega
    have c : w [some (.sh (li xs)), some (.sh (.int (i : Nat)))] = .ok true := by
      rw [hw]
      show andT (asB (bin2 ltD (.ok (.int (i : Nat))) (un1 lenD (.ok (li xs))))) (asB (bin2 eqD (bin2 ixD (.ok (li xs)) (.ok (.int (i : Nat)))) (.ok (.int 0)))) = _
      rw [len_li, ix_li h, pl_zero (by omega)]
      have : (i : Int) < (xs.length : Int) := by omega
      simp [this]
    have b : l [some (.sh (li xs)), some (.sh (.int (i : Nat)))] = .nx [some (.sh (li xs)), some (.sh (.int ((i + 1 : Nat) : Int)))] := by
      rw [hl]
      rfl
    rw [whileF_eq, c]
    dsimp only
    rw [b]
    exact ih (i + 1) (by omega)
theorem place_run {w : Sl → Rs Bool} {l : Sl → Fl} (hw : w = fun st => andT (asB (bin2 ltD (getV 1 st) (un1 lenD (getV 0 st)))) (asB (bin2 eqD (bin2 ixD (getV 0 st) (getV 1 st)) (.ok (.int 0)))))
    (hl : l = fun st => setO 1 (mapRs O.sh (asPrim (bin2 addD (getV 1 st) (.ok (.int 1))))) st) {b : Sl → Fl} (hb : b = fun st => (setO 1 (mapRs O.sh (.ok (.int 0))) st).thn (fun st => (whileF w l st).thn (fun st => retR (mapRs O.sh (getP 1 st))))) (xs : List Int) : runD 2 1 b [li xs] = .ok (.sh (.int (pl xs))) := by
  subst hb
  have p := place_while hw hl xs (pl xs) 0 (by omega)
  show fin ((setO 1 (mapRs O.sh (.ok (.int 0))) [some (.sh (li xs)), none]).thn (fun st => (whileF w l st).thn (fun st => retR (mapRs O.sh (getP 1 st))))) = _
  rw [show setO 1 (mapRs O.sh (.ok (.int 0))) [some (.sh (li xs)), none] = .nx [some (.sh (li xs)), some (.sh (.int ((0 : Nat) : Int)))] from rfl, thn_nx, p]
  rfl
end M

/-! blended, led -/
namespace M
open PySem L2
theorem place_of_eq (xs : List Int) : m_place_of [li xs] = .ok (.sh (.int (pl xs))) := place_run (w := w_place_of_1) (l := l_place_of_1) (b := b_place_of) rfl rfl rfl xs
theorem blended_eq {xs ys : List Int} {a b : Int} (hl : xs.length < 1000000) (m1 : ∀ x ∈ xs, mulOk a x = true) (m2 : ∀ y ∈ ys, mulOk b y = true) : m_blended [li xs, .int a, li ys, .int b] = .ok (fo (List.zipWith (fun x y => a * x + b * y) xs ys)) := by
  have z : zipR (.ok (li xs)) (.ok (li ys)) = .ok ((xs.zip ys).map fun p => D.tup [.int p.1, .int p.2]) := by
    rw [zipR_ok, zipD_map]
  have l : lcR (.ok ((xs.zip ys).map fun p => D.tup [.int p.1, .int p.2])) (setTup 2 (setCons (setN 4) (setCons (setN 5) setNil))) (fun _ => .ok true) e_blended_1 [4, 5] [some (.sh (li xs)), some (.sh (.int a)), some (.sh (li ys)), some (.sh (.int b)), none, none] =
      .ok (.lst ((xs.zip ys).map fun p => O.sh (D.int (a * p.1 + b * p.2)))) :=
    lcR_map rfl (by rw [List.length_zip]; omega) fun p hp => ⟨_, rfl, rfl, by
      obtain ⟨h1, h2⟩ := List.of_mem_zip hp
      show mapRs O.sh (asPrim (bin2 addD (bin2 mulD (.ok (.int a)) (.ok (.int p.1))) (bin2 mulD (.ok (.int b)) (.ok (.int p.2))))) = _
      rw [bin2_ok, mul_int, if_pos (m1 _ h1), bin2_ok, mul_int, if_pos (m2 _ h2)]
      generalize a * p.1 = x
      generalize b * p.2 = y
      rfl⟩
  have e : fo (List.zipWith (fun x y => a * x + b * y) xs ys) = .lst ((xs.zip ys).map fun p => O.sh (D.int (a * p.1 + b * p.2))) := by
    show O.lst _ = _
    rw [List.zip, List.map_zipWith, List.map_zipWith]
  rw [e]
  show fin (retR (lcR (zipR (.ok (li xs)) (.ok (li ys))) (setTup 2 (setCons (setN 4) (setCons (setN 5) setNil))) (fun _ => .ok true) e_blended_1 [4, 5] [some (.sh (li xs)), some (.sh (.int a)), some (.sh (li ys)), some (.sh (.int b)), none, none])) = _
  rw [z, l]
  rfl
theorem log_of {i : Int} {b : Nat} (h0 : i ≠ 0) (h : i.natAbs < 2 ^ b) (hb : b ≤ 9000) : i.natAbs.log2 < 9000 :=
  Nat.lt_of_lt_of_le ((Nat.log2_lt (by omega)).mpr h) hb
theorem led_turn {gs pu : D} {often rest row : List Int} {a b : Nat} (hl : row.length = rest.length) (hp : lenD pu = some (.int (rest.length : Int))) (hk : rest.length < 1000) (ho : often.length < 1000) (lead : 0 < row.getD (pl row) 0) (h1 : Low (2 ^ b) row) (h2 : Low (2 ^ a) rest) (hb : b ≤ 9000) (ha : a ≤ 100000000) (x y z : Option O) :
    ∃ y' z', l_led_1 [some (.sh gs), some (.sh pu), some (fo often), some (.sh (li rest)), some (.sh (li row)), x, y] = .nx [some (.sh gs), some (.sh pu), some (fo (ledS (often, rest) row).1), some (.sh (li (ledS (often, rest) row).2)), some (.sh (li row)), y', z'] := by
  have h : pl row < row.length := by
    rcases Nat.lt_or_ge (pl row) row.length with z | z
    · exact z
    · rw [List.getD_eq_getElem?_getD, List.getElem?_eq_none z] at lead
      exact absurd lead (by decide)
  have x1 := ix_li (xs := rest) (i := pl row) (by omega)
  have x2 := ix_li h
  have l1 := h1.getD (Nat.two_pow_pos _) (pl row)
  have l2 := h2.getD (Nat.two_pow_pos _) (pl row)
  have dv : divOk (rest.getD (pl row) 0) (row.getD (pl row) 0) = true := divOk_log (by omega) (log_of (by omega) l1 hb)
  have ma := fdiv_abs (x := rest.getD (pl row) 0) lead
  obtain ⟨m, hm⟩ : ∃ m, m = (rest.getD (pl row) 0).fdiv (row.getD (pl row) 0) := ⟨_, rfl⟩
  rw [← hm] at ma
  have bl := blended_eq (xs := rest) (ys := row) (a := 1) (b := -m) (by omega) (fun v hv => mulOk_of (a := 1) (by decide) (h2 v hv) (by omega)) (fun v hv => mulOk_of (a := a) (by omega) (h1 v hv) (by omega))
  have e : ledS (often, rest) row = (often ++ [m], offF row rest m) := by
    unfold ledS
    rw [hm]
  rw [e]
  refine ⟨some (.sh (.int (pl row))), some (.sh (.int m)), ?_⟩
  unfold l_led_1
  have s1 : ifS (asB (bin2 neD (un1 lenD (.ok (li row))) (un1 lenD (.ok pu)))) Fl.bad (.nx [some (.sh gs), some (.sh pu), some (fo often), some (.sh (li rest)), some (.sh (li row)), x, y]) = .nx [some (.sh gs), some (.sh pu), some (fo often), some (.sh (li rest)), some (.sh (li row)), x, y] := by
    refine ifS_no ?_
    rw [len_li, show un1 lenD (.ok pu) = ofO (lenD pu) from rfl, hp, hl]
    simp
  refine (congrArg (fun f => Fl.thn f _) s1).trans ?_
  rw [thn_nx]
  have s2 : setO 5 (mapRs O.sh (mapRs O.er (callR 1 m_place_of (.ok [li row])))) [some (.sh gs), some (.sh pu), some (fo often), some (.sh (li rest)), some (.sh (li row)), x, y] = .nx [some (.sh gs), some (.sh pu), some (fo often), some (.sh (li rest)), some (.sh (li row)), some (.sh (.int (pl row))), y] := by
    rw [call1, place_of_eq]
    rfl
  refine (congrArg (fun f => Fl.thn f _) s2).trans ?_
  rw [thn_nx]
  have s3 : setO 6 (mapRs O.sh (asPrim (bin2 fdivD (bin2 ixD (.ok (li rest)) (.ok (.int (pl row)))) (bin2 ixD (.ok (li row)) (.ok (.int (pl row))))))) [some (.sh gs), some (.sh pu), some (fo often), some (.sh (li rest)), some (.sh (li row)), some (.sh (.int (pl row))), y] = .nx [some (.sh gs), some (.sh pu), some (fo often), some (.sh (li rest)), some (.sh (li row)), some (.sh (.int (pl row))), some (.sh (.int m))] := by
    rw [x1, x2, bin2_ok, fdiv_int, if_pos dv, ← hm]
    rfl
  refine (congrArg (fun f => Fl.thn f _) s3).trans ?_
  rw [thn_nx]
  have s4 : setO 3 (mapRs O.sh (mapRs O.er (callR 4 m_blended (.ok [li rest, .int 1, li row, .int (-m)])))) [some (.sh gs), some (.sh pu), some (fo often), some (.sh (li rest)), some (.sh (li row)), some (.sh (.int (pl row))), some (.sh (.int m))] = .nx [some (.sh gs), some (.sh pu), some (fo often), some (.sh (li (offF row rest m))), some (.sh (li row)), some (.sh (.int (pl row))), some (.sh (.int m))] := by
    rw [callR_ok, if_pos (show [li rest, D.int 1, li row, D.int (-m)].length = 4 from rfl), bl, mapRs_ok, fo_er]
    rfl
  refine (congrArg (fun f => Fl.thn f _) s4).trans ?_
  rw [thn_nx]
  show (if (often.map fun x => O.sh (D.int x)).length < sizeLine then Fl.nx _ else .bad) = _
  rw [if_pos (by rw [List.length_map, sizeLine_eq]; omega)]
  show Fl.nx _ = Fl.nx _
  have q : fo (often ++ [m]) = .lst ((often.map fun x => O.sh (D.int x)) ++ [O.sh (D.int m)]) := by
    show O.lst _ = _
    rw [List.map_append]
    rfl
  rw [q]
  rfl
theorem led_eq {rungs : List (List Int)} {purse : List Int} {a b : Nat} (hk : purse.length < 1000) (hn : rungs.length < 1000) (hl : ∀ r ∈ rungs, r.length = purse.length) (lead : ∀ r ∈ rungs, 0 < r.getD (pl r) 0) (h1 : ∀ r ∈ rungs, Low (2 ^ b) r) (h2 : Low (2 ^ a) purse) (hb : b ≤ 9000) (ha : a ≤ 10000000) :
    m_led [lm rungs, li purse] = .ok (.tup [.sh (li (ledF rungs purse).1), .sh (li (ledF rungs purse).2)]) ∧ (ledF rungs purse).1.length = rungs.length ∧ (ledF rungs purse).2.length = purse.length ∧ Low (2 ^ (a + rungs.length * (b + 2))) (ledF rungs purse).2 := by
  obtain ⟨st', l1, s, x, y, z, rfl, r1, r2, r3, r4⟩ := forF_nx (tg := setN 4) (body := l_led_1) (fun i st => ∃ (s : List Int × List Int) (x y z : Option O), st = [some (.sh (lm rungs)), some (.sh (li purse)), some (fo s.1), some (.sh (li s.2)), x, y, z] ∧ s = (rungs.take i).foldl ledS ([], purse) ∧ s.1.length = min i rungs.length ∧ s.2.length = purse.length ∧ Low (2 ^ (a + i * (b + 2))) s.2)
      (rungs.map li) 0 [some (.sh (lm rungs)), some (.sh (li purse)), some (fo []), some (.sh (li purse)), none, none, none] ⟨([], purse), none, none, none, rfl, rfl, by simp, rfl, by simpa using h2⟩ (by
      rintro i d st hd ⟨s, x, y, z, rfl, r1, r2, r3, r4⟩
      rw [Nat.zero_add] at *
      rw [List.getElem?_map] at hd
      have hi : i < rungs.length := by
        rcases Nat.lt_or_ge i rungs.length with z | z
        · exact z
        · rw [List.getElem?_eq_none z] at hd
          cases hd
      rw [List.getElem?_eq_getElem hi] at hd
      cases hd
      have mem : rungs[i] ∈ rungs := List.getElem_mem hi
      have sm : i * (b + 2) ≤ 1000 * 9002 := Nat.mul_le_mul (by omega) (by omega)
      obtain ⟨y', z', t⟩ := led_turn (gs := lm rungs) (pu := li purse) (often := s.1) (rest := s.2) (row := rungs[i]) (by rw [hl _ mem, r3]) (by
        show some (D.int (((purse.map D.int).length : Nat) : Int)) = _
        rw [List.length_map, r3]) (by omega) (by omega) (lead _ mem) (h1 _ mem) r4 hb (by omega) y z none
      have tk : rungs.take (i + 1) = rungs.take i ++ [rungs[i]] := by
        rw [List.take_add_one, List.getElem?_eq_getElem hi]
        rfl
      have hlm : (rungs[i]).length = s.2.length := by rw [hl _ mem, r3]
      have hd := h1 _ mem
      have hL := lead _ mem
      refine ⟨_, _, rfl, .inl t, ledS s rungs[i], _, y', z', rfl, by rw [tk, List.foldl_append, ← r1]; rfl, ?_, ?_, ?_⟩
      · unfold ledS
        rw [List.length_append, r2, List.length_singleton]
        omega
      · unfold ledS
        rw [offF_length hlm, r3]
      · unfold ledS
        have := offF_low (m := (s.2.getD (pl rungs[i]) 0).fdiv (rungs[i].getD (pl rungs[i]) 0)) hlm hd r4 (Nat.lt_of_le_of_lt (fdiv_abs hL) (r4.getD (Nat.two_pow_pos _) _))
        rw [show a + (i + 1) * (b + 2) = a + i * (b + 2) + (b + 2) by rw [Nat.add_mul]; omega]
        exact this)
  rw [Nat.zero_add, List.length_map] at r1 r2 r4
  rw [List.take_of_length_le (Nat.le_refl _)] at r1
  have r1 : s = ledF rungs purse := r1
  rw [← r1]
  refine ⟨?_, by omega, r3, r4⟩
  show fin (b_led [some (.sh (lm rungs)), some (.sh (li purse)), none, none, none, none, none]) = _
  unfold b_led
  refine thn_step (setO_step (o := fo []) rfl (Nat.le_of_ble_eq_true rfl)) ?_
  dsimp only [List.set]
  refine thn_step (setO_step (o := .sh (li purse)) ?_ (Nat.le_of_ble_eq_true rfl)) ?_
  · show mapRs O.sh (mapRs O.er (listF (.ok (li purse)))) = _
    rw [listF_ok, mapRs_ok, sh_er]
    rfl
  dsimp only [List.set]
  refine thn_step (st' := _) (Eq.trans ?_ l1) ?_
  · rfl
  show Rs.ok (O.tup [.sh (fo s.1).er, .sh (li s.2)]) = _
  rw [fo_er]
theorem is_made_eq {rungs : List (List Int)} {purse : List Int} {a b : Nat} (hk : purse.length < 1000) (hn : rungs.length < 1000) (hl : ∀ r ∈ rungs, r.length = purse.length) (lead : ∀ r ∈ rungs, 0 < r.getD (pl r) 0) (h1 : ∀ r ∈ rungs, Low (2 ^ b) r) (h2 : Low (2 ^ a) purse) (hb : b ≤ 9000) (ha : a ≤ 10000000) :
    m_is_made [lm rungs, li purse] = .ok (.sh (.bl (decide (pl (ledF rungs purse).2 = purse.length)))) := by
  have e := (led_eq hk hn hl lead h1 h2 hb ha).1
  show fin (retR (mapRs O.sh (asPrim (bin2 eqD (mapRs O.er (callR 1 m_place_of (consR (bin2 ixD (mapRs O.er (callR 2 m_led (.ok [lm rungs, li purse]))) (.ok (.int 1))) (.ok [])))) (un1 lenD (.ok (li purse))))))) = _
  rw [call2, e, len_li]
  rw [show bin2 ixD (mapRs O.er (.ok (O.tup [.sh (li (ledF rungs purse).1), .sh (li (ledF rungs purse).2)]))) (.ok (.int 1)) = .ok (li (ledF rungs purse).2) from rfl]
  simp only [consR_ok]
  rw [call1, place_of_eq]
  simp
  omega
end M

/-! the law's drawn rows -/
namespace M
open PySem L2
def drawnS (cs : List Int) (many k most : Nat) (xs : List Int) (a b c d : Option O) : Sl := [some (.sh (li cs)), some (.sh (.int many)), some (.sh (.int k)), some (.sh (.int most)), some (fo xs), a, b, c, d]
theorem modw {c : Int} {most : Nat} : (c.fmod (2 * (most : Int) + 1) - most).natAbs ≤ most := by
  rw [fmod_pos (by omega)]
  have h1 := Int.emod_nonneg c (show (2 * (most : Int) + 1) ≠ 0 by omega)
  have h2 := Int.emod_lt_of_pos c (show 0 < (2 * (most : Int) + 1) by omega)
  omega
theorem drawn_1 {cs xs : List Int} {many k most j : Nat} (hj : j < cs.length) (hx : 0 < xs.length) (a b c d : Option O) :
    ∃ v : Int, v.natAbs ≤ most ∧ l__law_drawn_1 (drawnS cs many k most xs (some (.sh (.int j))) b c d) = .nx (drawnS cs many k most (xs.set (j % xs.length) (xs.getD (j % xs.length) 0 + v)) (some (.sh (.int j))) (some (.sh (.int ((j % xs.length : Nat) : Int)))) (some (.sh (.int v))) d) := by
  obtain ⟨v, hv⟩ : ∃ v, v = (cs.getD j 0).fmod (2 * (most : Int) + 1) - most := ⟨_, rfl⟩
  refine ⟨v, hv ▸ modw, ?_⟩
  have lt : j % xs.length < xs.length := Nat.mod_lt _ hx
  unfold l__law_drawn_1
  have s1 : setO 6 (mapRs O.sh (asPrim (bin2 modD (.ok (.int j)) (un1 lenD (.ok (fo xs).er))))) (drawnS cs many k most xs (some (.sh (.int j))) b c d) = .nx (drawnS cs many k most xs (some (.sh (.int j))) (some (.sh (.int ((j % xs.length : Nat) : Int)))) c d) := by
    rw [fo_er, len_li, bin2_ok, M.mod_int, if_pos (by omega), fmod_pos (by omega), ← Int.natCast_emod]
    rfl
  refine (congrArg (fun f => Fl.thn f _) s1).trans ?_
  rw [thn_nx]
  have s2 : setO 7 (mapRs O.sh (asPrim (bin2 subD (bin2 modD (bin2 ixD (.ok (li cs)) (.ok (.int j))) (bin2 addD (bin2 mulD (.ok (.int 2)) (.ok (.int most))) (.ok (.int 1)))) (.ok (.int most))))) (drawnS cs many k most xs (some (.sh (.int j))) (some (.sh (.int ((j % xs.length : Nat) : Int)))) c d) = .nx (drawnS cs many k most xs (some (.sh (.int j))) (some (.sh (.int ((j % xs.length : Nat) : Int)))) (some (.sh (.int v))) d) := by
    rw [ix_li hj, bin2_ok, mul_int, if_pos (mulOk_left (by decide))]
    rw [show bin2 addD (ofO (some (.int (2 * (most : Int))))) (.ok (.int 1)) = .ok (.int (2 * (most : Int) + 1)) from rfl, bin2_ok, M.mod_int, if_pos (by omega), hv]
    generalize (cs.getD j 0).fmod (2 * (most : Int) + 1) = z
    rfl
  refine (congrArg (fun f => Fl.thn f _) s2).trans ?_
  rw [thn_nx]
  show putR 4 (mapRs O.sh (asPrim (bin2 addD (bin2 ixD (.ok (fo xs).er) (.ok (.int ((j % xs.length : Nat) : Int)))) (.ok (.int v))))) (.ok (.int ((j % xs.length : Nat) : Int))) _ = _
  rw [fo_er, ix_li lt]
  exact put_fo rfl lt
theorem drawn_2 {cs xs : List Int} {many k most j : Nat} (hc : 0 < cs.length) (hj : j < xs.length) (hl : xs.length < 1000000) (b c d : Option O) :
    ∃ (v : Int) (d' : Option O), v.natAbs ≤ most ∧ l__law_drawn_2 (drawnS cs many k most xs (some (.sh (.int j))) b c d) = .nx (drawnS cs many k most (xs.set j v) (some (.sh (.int j))) b c d') := by
  have lt : j % cs.length < cs.length := Nat.mod_lt _ hc
  obtain ⟨n, hn⟩ : ∃ n, n = (cs.getD (j % cs.length) 0).fmod 2147483629 + j := ⟨_, rfl⟩
  have n0 : 0 ≤ n ∧ n < 2 ^ 60 := by
    rw [hn, fmod_pos (by omega)]
    have := Int.emod_nonneg (cs.getD (j % cs.length) 0) (show (2147483629 : Int) ≠ 0 by omega)
    have := Int.emod_lt_of_pos (cs.getD (j % cs.length) 0) (show (0 : Int) < 2147483629 by omega)
    omega
  obtain ⟨m, hm⟩ : ∃ m, m = ((n * n).fmod 2147483587 * 48271).fmod 2147483647 := ⟨_, rfl⟩
  refine ⟨m.fmod (2 * (most : Int) + 1) - most, some (.sh (.int m)), modw, ?_⟩
  unfold l__law_drawn_2
  have s1 : setO 8 (mapRs O.sh (asPrim (bin2 addD (bin2 modD (bin2 ixD (.ok (li cs)) (bin2 modD (.ok (.int j)) (un1 lenD (.ok (li cs))))) (.ok (.int 2147483629))) (.ok (.int j))))) (drawnS cs many k most xs (some (.sh (.int j))) b c d) = .nx (drawnS cs many k most xs (some (.sh (.int j))) b c (some (.sh (.int n)))) := by
    rw [len_li, bin2_ok _ (.int (j : Int)), M.mod_int, if_pos (by omega), fmod_pos (by omega), ← Int.natCast_emod, ofO_some, ix_li lt, bin2_ok, M.mod_int, if_pos (by decide), hn]
    rfl
  refine (congrArg (fun f => Fl.thn f _) s1).trans ?_
  rw [thn_nx]
  have s2 : setO 8 (mapRs O.sh (asPrim (bin2 modD (bin2 mulD (bin2 modD (bin2 mulD (.ok (.int n)) (.ok (.int n))) (.ok (.int 2147483587))) (.ok (.int 48271))) (.ok (.int 2147483647))))) (drawnS cs many k most xs (some (.sh (.int j))) b c (some (.sh (.int n)))) = .nx (drawnS cs many k most xs (some (.sh (.int j))) b c (some (.sh (.int m)))) := by
    rw [bin2_ok _ (.int n), mul_int, if_pos (mulOk_of (a := 60) (b := 60) (by omega) (by omega) (by omega)), ofO_some, bin2_ok, M.mod_int, if_pos (by decide), ofO_some, bin2_ok, mul_int, if_pos (mulOk_right (by decide)), ofO_some, bin2_ok, M.mod_int, if_pos (by decide), hm]
    rfl
  refine (congrArg (fun f => Fl.thn f _) s2).trans ?_
  rw [thn_nx]
  show putR 4 (mapRs O.sh (asPrim (bin2 subD (bin2 modD (.ok (.int m)) (bin2 addD (bin2 mulD (.ok (.int 2)) (.ok (.int most))) (.ok (.int 1)))) (.ok (.int most))))) (.ok (.int j)) _ = _
  rw [bin2_ok _ (.int 2), mul_int, if_pos (mulOk_left (by decide))]
  rw [show bin2 addD (ofO (some (.int (2 * (most : Int))))) (.ok (.int 1)) = .ok (.int (2 * (most : Int) + 1)) from rfl, bin2_ok, M.mod_int, if_pos (by omega)]
  exact put_fo rfl hj
theorem drawn_eq {cs : List Int} {many k most : Nat} (hm : many < 1000) (hk : k < 1000) (hc : cs.length < 1000) :
    ∃ rs, m__law_drawn [li cs, .int many, .int k, .int most] = .ok (fm rs) ∧ rs.length = many ∧ (∀ r ∈ rs, r.length = k) ∧ ∀ r ∈ rs, Low ((cs.length + 1) * most + 1) r := by
  obtain ⟨n, hn⟩ : ∃ n, n = max 1 (many * k) := ⟨_, rfl⟩
  have mk : many * k ≤ 999 * 999 := Nat.mul_le_mul (by omega) (by omega)
  have n1 : 0 < n := by omega
  have mo : mulOk (many : Int) (k : Int) = true := mulOk_left (by
    have : (2 : Nat) ^ 64 = 18446744073709551616 := by decide
    rw [this]; omega)
  obtain ⟨st1, l1, xs, a, b, c, rfl, x1, x2⟩ := forF_nx (tg := setN 5) (body := l__law_drawn_1) (fun i st => ∃ xs a b c, st = drawnS cs many k most xs a b c none ∧ xs.length = n ∧ Low (i * most + 1) xs)
    ((List.range cs.length).map fun (i : Nat) => D.int i) 0 (drawnS cs many k most (List.replicate n 0) none none none none) ⟨_, _, _, _, rfl, List.length_replicate .., fun x hx => by rw [(List.mem_replicate.mp hx).2]; simp⟩ (by
      rintro i d st hd ⟨xs, a, b, c, rfl, x1, x2⟩
      obtain ⟨hi, rfl⟩ := range_mem hd
      obtain ⟨v, hv, t⟩ := drawn_1 (many := many) (k := k) (most := most) hi (xs := xs) (by omega) a b c none
      refine ⟨_, _, rfl, .inl t, _, _, _, _, rfl, by rw [List.length_set]; exact x1, ?_⟩
      have up : (0 + i) * most + 1 ≤ (0 + i + 1) * most + 1 := by rw [Nat.add_mul (0 + i) 1]; omega
      refine (x2.mono up).set ?_ _
      have := x2.getD (by omega) (i % xs.length)
      rw [Nat.add_mul (0 + i) 1]
      omega)
  rw [Nat.zero_add, List.length_map, List.length_range] at x2
  have r1 := range1_nat (n := cs.length) (by omega)
  obtain ⟨ys, a2, d2, l2, y1, y2⟩ : ∃ ys a2 d2, (ifS (asB (bin2 gtD (un1 lenD (.ok (li cs))) (.ok (.int 0)))) (forR (range2 (un1 lenD (.ok (li cs))) (un1 lenD (.ok (fo xs).er))) (setN 5) l__law_drawn_2 (drawnS cs many k most xs a b c none)) (.nx (drawnS cs many k most xs a b c none)) = .nx (drawnS cs many k most ys a2 b c d2)) ∧ ys.length = n ∧ Low ((cs.length + 1) * most + 1) ys := by
    have up : cs.length * most + 1 ≤ (cs.length + 1) * most + 1 := by rw [Nat.add_mul]; omega
    by_cases h0 : cs.length = 0
    · refine ⟨xs, a, none, ifS_no ?_, x1, x2.mono up⟩
      rw [len_li, h0]
      rfl
    · obtain ⟨st2, l2, ys, a2, d2, rfl, y1, y2⟩ := forF_nx (tg := setN 5) (body := l__law_drawn_2) (fun i st => ∃ ys a d, st = drawnS cs many k most ys a b c d ∧ ys.length = n ∧ Low ((cs.length + 1) * most + 1) ys)
        (rangeL cs.length (n - cs.length)) 0 (drawnS cs many k most xs a b c none) ⟨_, _, _, rfl, x1, x2.mono up⟩ (by
        rintro i d st hd ⟨ys, a, d', rfl, y1, y2⟩
        obtain ⟨hi, rfl⟩ := rangeL_get hd
        obtain ⟨v, d', hv, t⟩ := drawn_2 (cs := cs) (many := many) (k := k) (most := most) (j := cs.length + i) (by omega) (xs := ys) (by omega) (by omega) b c d'
        refine ⟨_, _, rfl, .inl t, _, _, _, rfl, by rw [List.length_set]; exact y1, y2.set ?_ _⟩
        rw [Nat.add_mul]
        omega)
      refine ⟨ys, a2, d2, (ifS_yes ?_).trans ?_, y1, y2⟩
      · rw [len_li]
        simp
        omega
      · rw [len_li, fo_er, len_li, range2_ok, if_pos (by rw [rngOk_of (by omega) (by omega), rngOk_of (by omega) (by omega)]; rfl), forR_ok, x1, show ((n : Int) - (cs.length : Int)).toNat = n - cs.length by omega]
        exact l2
  refine ⟨(List.range many).map fun j => (ys.drop (k * j)).take k, ?_, by rw [List.length_map, List.length_range], fun r hr => ?_, fun r hr => ?_⟩
  · show fin (b__law_drawn [some (.sh (li cs)), some (.sh (.int many)), some (.sh (.int k)), some (.sh (.int most)), none, none, none, none, none]) = _
    unfold b__law_drawn
    refine thn_step (setO_step (o := fo (List.replicate n 0)) ?_ (Nat.le_of_ble_eq_true rfl)) ?_
    · show repF (.ok (.lst [.int 0])) (bin2 max2D (.ok (.int 1)) (bin2 mulD (.ok (.int many)) (.ok (.int k)))) = _
      rw [bin2_ok _ (.int (many : Int)), mul_int, if_pos mo, ofO_some, bin2_ok, max2_int, ofO_some, show (if (many : Int) * (k : Int) > 1 then (many : Int) * (k : Int) else 1) = (n : Int) by
        rw [hn, ← Int.natCast_mul]; split <;> omega, rep_zero (by omega) (by omega), Int.toNat_natCast]
    dsimp only [List.set]
    refine thn_step (st' := _) (Eq.trans ?_ l1) ?_
    · show forR (range1 (un1 lenD (.ok (li cs)))) (setN 5) l__law_drawn_1 _ = _
      rw [len_li, r1]
      rfl
    refine thn_step (st' := _) l2 ?_
    have r2 := range1_nat (n := many) (by omega)
    have l3 : lcR (.ok ((List.range many).map fun (i : Nat) => D.int i)) (setN 5) (fun _ => .ok true) e__law_drawn_1 [5] (drawnS cs many k most ys a2 b c d2) = .ok (.lst ((List.range many).map fun j => fo ((ys.drop (k * j)).take k))) :=
      lcR_lst rfl (by omega) fun j hj => ⟨_, rfl, rfl, by
        have m2 : mulOk (k : Int) (j : Int) = true := mulOk_left (by
          have : (2 : Nat) ^ 64 = 18446744073709551616 := by decide
          rw [this]; omega)
        show sliceV (.ok (fo ys).er) (asI (bin2 mulD (.ok (.int k)) (.ok (.int j)))) (asI (bin2 addD (bin2 mulD (.ok (.int k)) (.ok (.int j))) (.ok (.int k)))) = _
        rw [bin2_ok, mul_int, if_pos m2, fo_er, ofO_some, ← Int.natCast_mul, show bin2 addD (.ok (.int ((k * j : Nat) : Int))) (.ok (.int (k : Int))) = .ok (.int ((k * j + k : Nat) : Int)) from rfl, sl_V, Nat.add_sub_cancel_left]⟩
    show fin (retR (lcR (range1 (.ok (.int many))) (setN 5) (fun _ => .ok true) e__law_drawn_1 [5] (drawnS cs many k most ys a2 b c d2))) = _
    rw [r2, l3]
    show Rs.ok (O.lst _) = Rs.ok (O.lst _)
    rw [List.map_map]
    rfl
  · obtain ⟨j, hj, rfl⟩ := List.mem_map.mp hr
    have hj := List.mem_range.mp hj
    have h1 : k * (j + 1) ≤ k * many := Nat.mul_le_mul_left _ hj
    rw [Nat.mul_add, Nat.mul_one, Nat.mul_comm k many] at h1
    rw [List.length_take, List.length_drop]
    omega
  · obtain ⟨j, hj, rfl⟩ := List.mem_map.mp hr
    exact fun x hx => y2 x (List.mem_of_mem_drop (List.mem_of_mem_take hx))
end M

/-! the law's shape and most -/
namespace M
open PySem L2
theorem fmod_nat (c : Int) {m : Nat} (h : 0 < m) : ∃ a : Nat, c.fmod (m : Int) = (a : Int) ∧ a < m := by
  have h1 := Int.emod_nonneg c (show (m : Int) ≠ 0 by omega)
  have h2 := Int.emod_lt_of_pos c (show 0 < (m : Int) by omega)
  exact ⟨(c % m).toNat, by rw [fmod_pos (by omega)]; omega, by omega⟩
theorem shape_eq (c : Int) : ∃ k many : Nat, m__law_shape [.int c] = .ok (.tup [.sh (.int k), .sh (.int many)]) ∧ ((k ≤ 4 ∧ many ≤ 5) ∨ (5 ≤ k ∧ k ≤ 8 ∧ many ≤ 16)) := by
  have d1 : divOk c 12 = true := divOk_small (by omega) (by omega)
  have d2 : divOk c 48 = true := divOk_small (by omega) (by omega)
  obtain ⟨a, ha, ha2⟩ := fmod_nat (c.fdiv 12) (m := 4) (by omega)
  obtain ⟨x, hx, hx2⟩ := fmod_nat (c.fdiv 48) (m := 17) (by omega)
  obtain ⟨y, hy, hy2⟩ := fmod_nat (c.fdiv 48) (m := 6) (by omega)
  have ha : (c.fdiv 12).fmod 4 = (a : Int) := ha
  have hx : (c.fdiv 48).fmod 17 = (x : Int) := hx
  have hy : (c.fdiv 48).fmod 6 = (y : Int) := hy
  by_cases h7 : c.fmod 12 = 7
  · refine ⟨5 + a, x, ?_, .inr (by omega)⟩
    simp [m__law_shape, b__law_shape, h7, fdiv_int, d1, d2, ha, hx]
  · by_cases h5 : c.fmod 12 = 5
    · refine ⟨0, a, ?_, .inl (by omega)⟩
      simp [m__law_shape, b__law_shape, h5, fdiv_int, d1, ha]
    · refine ⟨1 + a, y, ?_, .inl (by omega)⟩
      simp [m__law_shape, b__law_shape, h5, h7, fdiv_int, d1, d2, ha, hy]
theorem most_eq (c : Int) (k many : Nat) : ∃ m : Nat, m__law_most [.int c, .int k, .int many] = .ok (.sh (.int m)) ∧ m ≤ 10 ^ 60 ∧ 0 < m ∧ (4 < k ∨ 5 < many → m = 2) := by
  have d1 : divOk c 5 = true := divOk_small (by omega) (by omega)
  obtain ⟨a, ha, ha2⟩ := fmod_nat (c.fdiv 5) (m := 4) (by omega)
  have ha : (c.fdiv 5).fmod 4 = (a : Int) := ha
  have z : (10 : Nat) ^ 60 = 1000000000000000000000000000000000000000000000000000000000000 := by decide
  by_cases h : 4 < k ∨ 5 < many
  · refine ⟨2, ?_, by omega, by omega, fun _ => rfl⟩
    have h' : (4 < (k : Int)) ∨ (5 < (many : Int)) := by omega
    rcases h' with h' | h'
    · simp [m__law_most, b__law_most, h']
    · by_cases h4 : 4 < (k : Int) <;> simp [m__law_most, b__law_most, h', h4]
  · have h1 : ¬ (4 < (k : Int)) := by omega
    have h2 : ¬ (5 < (many : Int)) := by omega
    by_cases h3 : (k : Int) < 3 ∧ c.fmod 5 = 4
    · refine ⟨10 ^ 60, ?_, Nat.le_refl _, by omega, fun q => absurd q h⟩
      simp [m__law_most, b__law_most, h1, h2, h3.1, h3.2, powOk]
    · have q : m__law_most [.int c, .int k, .int many] = fin (retR (mapRs O.sh (bin2 ixD (.ok (.lst [.int 3, .int 3, .int 1000000, .int 1000000000000])) (.ok (.int a))))) := by
        by_cases h4 : (k : Int) < 3
        · have h5 : ¬ c.fmod 5 = 4 := fun e => h3 ⟨h4, e⟩
          simp [m__law_most, b__law_most, h1, h2, h4, h5, powOk, fdiv_int, d1, ha]
        · simp [m__law_most, b__law_most, h1, h2, h4, powOk, fdiv_int, d1, ha]
      have : a = 0 ∨ a = 1 ∨ a = 2 ∨ a = 3 := by omega
      rcases this with rfl | rfl | rfl | rfl
      · exact ⟨3, q, by omega, by omega, fun q => absurd q h⟩
      · exact ⟨3, q, by omega, by omega, fun q => absurd q h⟩
      · exact ⟨1000000, q, by omega, by omega, fun q => absurd q h⟩
      · exact ⟨1000000000000, q, by omega, by omega, fun q => absurd q h⟩
end M

/-! the law's own place -/
namespace M
open PySem L2
theorem lplace_eq (xs : List Int) : m__law_place [li xs] = .ok (.sh (.int (pl xs))) := place_run (w := w__law_place_1) (l := l__law_place_1) (b := b__law_place) rfl rfl rfl xs
end M

/-! the law's own mixed -/
namespace M
open PySem L2
theorem lmixed_eq {cs : List Int} {rs : List (List Int)} {k : Nat} (hk : k < 100000) (hl : cs.length < 100000) (hr : ∀ r ∈ rs, r.length = k) (hm : ∀ r ∈ rs, ∀ x ∈ r, ∀ c ∈ cs, mulOk c x = true) :
    m__law_mixed [li cs, lm rs, .int k] = .ok (.sh (li (mixF cs rs k))) := by
  have z := rep_zero (k := (k : Int)) (by omega) (by omega)
  rw [Int.toNat_natCast] at z
  have zp : zipR (.ok (li cs)) (.ok (lm rs)) = .ok ((cs.zip rs).map fun p => D.tup [.int p.1, li p.2]) := by
    rw [zipR_ok, zipD_map]
  obtain ⟨st', e, ts, a, b, rfl, t1, t2⟩ := forF_nx (tg := setTup 2 (setCons (setN 4) (setCons (setN 5) setNil))) (body := l__law_mixed_1)
    (fun i st => ∃ ts a b, st = [some (.sh (li cs)), some (.sh (lm rs)), some (.sh (.int k)), some (.sh (li ts)), a, b, none, none] ∧ ts = ((cs.zip rs).take i).foldl addS (List.replicate k 0) ∧ ts.length = k)
    ((cs.zip rs).map fun p => D.tup [.int p.1, li p.2]) 0 _ ⟨List.replicate k 0, none, none, rfl, rfl, List.length_replicate ..⟩ (by
      rintro i d st hd ⟨ts, a, b, rfl, t1, t2⟩
      rw [Nat.zero_add] at *
      obtain ⟨hi, rfl⟩ := list_mem hd
      obtain ⟨p, hp⟩ : ∃ p, p = (cs.zip rs)[i] := ⟨_, rfl⟩
      have tk : (cs.zip rs).take (i + 1) = (cs.zip rs).take i ++ [(cs.zip rs)[i]] := by
        rw [List.take_add_one, List.getElem?_eq_getElem hi]
        rfl
      have pm : p ∈ cs.zip rs := hp ▸ List.getElem_mem hi
      rw [← hp] at tk ⊢
      obtain ⟨m1, m2⟩ := List.of_mem_zip pm
      have pk := hr _ m2
      have q : addS ts p = List.zipWith (fun x y => x + p.1 * y) ts p.2 := by
        unfold addS
        rw [List.zipWith_map_right]
        have f : (fun (x y : Int) => x + y * p.1) = fun x y => x + p.1 * y := by
          funext x y; rw [Int.mul_comm]
        exact congrArg (fun g => List.zipWith g ts p.2) f
      have l : lcR (zipR (.ok (li ts)) (.ok (li p.2))) (setTup 2 (setCons (setN 6) (setCons (setN 7) setNil))) (fun _ => .ok true) e__law_mixed_1 [6, 7] [some (.sh (li cs)), some (.sh (lm rs)), some (.sh (.int k)), some (.sh (li ts)), some (.sh (.int p.1)), some (.sh (li p.2)), none, none] = .ok (fo (addS ts p)) := by
        have e : fo (addS ts p) = .lst ((ts.zip p.2).map fun r => O.sh (D.int (r.1 + p.1 * r.2))) := by
          rw [q]
          show O.lst _ = _
          rw [List.zip, List.map_zipWith, List.map_zipWith]
        rw [e, zipR_ok, zipD_map]
        exact lcR_map rfl (by rw [List.length_zip]; omega) fun r hr => ⟨_, rfl, rfl, by
          obtain ⟨h1, h2⟩ := List.of_mem_zip hr
          show mapRs O.sh (asPrim (bin2 addD (.ok (.int r.1)) (bin2 mulD (.ok (.int p.1)) (.ok (.int r.2))))) = _
          rw [bin2_ok, mul_int, if_pos (hm _ m2 _ h2 _ m1)]
          generalize p.1 * r.2 = x
          rfl⟩
      refine ⟨_, _, rfl, .inl ?_, addS ts p, some (.sh (.int p.1)), some (.sh (li p.2)), rfl, by rw [tk, List.foldl_append, ← t1]; rfl, by rw [addS_length (by rw [pk, t2]), t2]⟩
      show setO 3 (mapRs O.sh (mapRs O.er (lcR (zipR (.ok (li ts)) (.ok (li p.2))) (setTup 2 (setCons (setN 6) (setCons (setN 7) setNil))) (fun _ => .ok true) e__law_mixed_1 [6, 7] [some (.sh (li cs)), some (.sh (lm rs)), some (.sh (.int k)), some (.sh (li ts)), some (.sh (.int p.1)), some (.sh (li p.2)), none, none]))) _ = _
      rw [l, mapRs_ok, fo_er]
      rfl)
  rw [Nat.zero_add, List.length_map, List.take_of_length_le (Nat.le_refl _)] at t1
  have t1 : ts = mixF cs rs k := t1
  subst t1
  show fin (b__law_mixed [some (.sh (li cs)), some (.sh (lm rs)), some (.sh (.int k)), none, none, none, none, none]) = _
  unfold b__law_mixed
  refine thn_step (setO_step (o := .sh (li (List.replicate k 0))) ?_ (Nat.le_of_ble_eq_true rfl)) ?_
  · show mapRs O.sh (mapRs O.er (repF (.ok (.lst [.int 0])) (.ok (.int k)))) = _
    rw [z, mapRs_ok, fo_er]
    rfl
  dsimp only [List.set]
  refine thn_step (st' := _) (Eq.trans ?_ e) ?_
  · show forR (zipR (.ok (li cs)) (.ok (lm rs))) _ l__law_mixed_1 _ = _
    rw [zp]
    rfl
  rfl
end M

/-! the law's own numbers -/
namespace M
open PySem L2
theorem whole_eq (i : Int) : m__law_whole [.int i] = .ok (.sh (.bl true)) := by
  simp [m__law_whole, b__law_whole]
theorem numbers_eq {xs : List Int} (hl : xs.length < 100000) : m__law_numbers [li xs, .int xs.length] = .ok (.sh (.bl true)) := by
  have l : lcR (elemsR (.ok (li xs))) (setN 2) (fun _ => .ok true) e__law_numbers_1 [2] [some (.sh (li xs)), some (.sh (.int xs.length)), none] = .ok (.lst (xs.map fun _ => O.sh (D.bl true))) :=
    lcR_map (f := D.int) rfl (by omega) fun x hx => ⟨_, rfl, rfl, by
      show callR 1 m__law_whole (.ok [.int x]) = _
      rw [call1, whole_eq]⟩
  show fin (b__law_numbers [some (.sh (li xs)), some (.sh (.int xs.length)), none]) = _
  unfold b__law_numbers
  refine thn_step (st' := [some (.sh (li xs)), some (.sh (.int xs.length)), none]) ?_ ?_
  · refine ifS_no ?_
    show orT (notT (asB (un1 (isi "list") (.ok (li xs))))) (asB (bin2 neD (un1 lenD (.ok (li xs))) (.ok (.int xs.length)))) = _
    rw [len_li]
    simp
  show fin (retR (mapRs O.sh (asPrim (un1 allD (mapRs O.er (lcR (elemsR (.ok (li xs))) (setN 2) (fun _ => .ok true) e__law_numbers_1 [2] [some (.sh (li xs)), some (.sh (.int xs.length)), none])))))) = _
  rw [l, mapRs_ok]
  have c : (O.lst (xs.map fun _ => O.sh (D.bl true))).er = .lst ((xs.map fun _ => true).map D.bl) := by
    rw [er_lst, List.map_map, List.map_map]
    rfl
  rw [c, show un1 allD (.ok (.lst ((xs.map fun _ => true).map D.bl))) = ofO (allD (.lst ((xs.map fun _ => true).map D.bl))) from rfl, all_bl]
  rw [show (xs.map fun _ => true).all id = true by rw [List.all_map, List.all_eq_true]; intro x _; rfl]
  rfl
end M

/-! the law's built stairs -/
namespace M
open PySem L2
def builtS (cs : List Int) (k most : Nat) (ps : List Nat) (a4 : Option O) (dr rs : List (List Int)) (a7 a8 a9 : Option O) : Sl :=
  [some (.sh (li cs)), some (.sh (.int k)), some (.sh (.int most)), some (.sh (li (ps.map fun (p : Nat) => (p : Int)))), a4, some (.sh (lm dr)), some (fm rs), a7, a8, a9]
theorem ix_ps {ps : List Nat} {j : Nat} (h : j < ps.length) : bin2 ixD (.ok (li (ps.map fun (p : Nat) => (p : Int)))) (.ok (.int (j : Int))) = .ok (.int ((ps[j] : Nat) : Int)) := by
  rw [ix_li (by rw [List.length_map]; exact h)]
  simp [List.getD, h]
theorem built_1 {cs : List Int} {k most b j : Nat} {ps : List Nat} {dr rs : List (List Int)} (hk : k < 1000) (hj : j < ps.length) (hd : dr.length = ps.length) (hdk : ∀ r ∈ dr, r.length = k) (hdl : ∀ r ∈ dr, Low b r) (hp : ps[j] < k) (hrs : rs.length < 1000) (a4 a8 a9 : Option O) :
    ∃ r, Good k (b + 1) ps[j] r ∧ l__law_built_1 (builtS cs k most ps a4 dr rs (some (.sh (.int j))) a8 a9) = .nx (builtS cs k most ps a4 dr (rs ++ [r]) (some (.sh (.int j))) none a9) := by
  have dm : dr.getD j [] ∈ dr := getD_mem (by omega)
  have dx := ix_lm (rs := dr) (i := j) (by omega)
  have px := ix_ps hj
  have dl := hdk _ dm
  have fr := Good.fresh hp dl (hdl _ dm)
  generalize dr.getD j [] = d at *
  generalize ps[j] = p at *
  refine ⟨_, fr, ?_⟩
  have l0 : (List.replicate p (0 : Int) ++ d.drop p).length = k := by
    rw [List.length_append, List.length_replicate, List.length_drop]; omega
  generalize hr0 : List.replicate p (0 : Int) ++ d.drop p = r0 at *
  unfold l__law_built_1
  have s1 : setO 8 (catF (mapRs O.er (repF (.ok (.lst [.int 0])) (bin2 ixD (.ok (li (ps.map fun (p : Nat) => (p : Int)))) (.ok (.int j))))) (mapRs O.er (sliceF (bin2 ixD (.ok (lm dr)) (.ok (.int j))) (asI (bin2 ixD (.ok (li (ps.map fun (p : Nat) => (p : Int)))) (.ok (.int j)))) (.ok none)))) (builtS cs k most ps a4 dr rs (some (.sh (.int j))) a8 a9) = .nx (builtS cs k most ps a4 dr rs (some (.sh (.int j))) (some (fo r0)) a9) := by
    rw [px, dx, rep_zero (by omega) (by omega), Int.toNat_natCast, mapRs_ok, fo_er, asI_ok, sliceF_ok, cutL_from _ (by omega), Int.toNat_natCast, mapRs_ok, sh_er, ← List.map_drop]
    have e : catF (.ok (li (List.replicate p 0))) (.ok (li (d.drop p))) = if ((List.replicate p (0 : Int)).map D.int).length + ((d.drop p).map D.int).length ≤ sizeLine then .ok (.lst (((List.replicate p (0 : Int)).map D.int ++ (d.drop p).map D.int).map .sh)) else .bad := rfl
    rw [e, if_pos (by rw [List.length_map, List.length_map, List.length_replicate, List.length_drop, sizeLine_eq]; omega), ← List.map_append, hr0, List.map_map]
    rfl
  refine (congrArg (fun f => Fl.thn f _) s1).trans ?_
  rw [thn_nx]
  have s2 : putR 8 (mapRs O.sh (asPrim (bin2 addD (.ok (.int 1)) (un1 absD (bin2 ixD (.ok (fo r0).er) (bin2 ixD (.ok (li (ps.map fun (p : Nat) => (p : Int)))) (.ok (.int j)))))))) (bin2 ixD (.ok (li (ps.map fun (p : Nat) => (p : Int)))) (.ok (.int j))) (builtS cs k most ps a4 dr rs (some (.sh (.int j))) (some (fo r0)) a9) = .nx (builtS cs k most ps a4 dr rs (some (.sh (.int j))) (some (fo (r0.set p (1 + (((r0.getD p 0).natAbs : Nat) : Int))))) a9) := by
    rw [px, fo_er, ix_li (by omega)]
    have ab : un1 absD (.ok (.int (r0.getD p 0))) = .ok (.int (((r0.getD p 0).natAbs : Nat) : Int)) := by
      generalize r0.getD p 0 = x
      show Rs.ok (D.int (if x < 0 then -x else x)) = _
      congr 2
      split <;> omega
    rw [ab]
    exact put_fo (i := 8) (st := builtS cs k most ps a4 dr rs (some (.sh (.int j))) (some (fo r0)) a9) (xs := r0) (j := p) rfl (by omega)
  refine (congrArg (fun f => Fl.thn f _) s2).trans ?_
  rw [thn_nx]
  exact appN_fm (i := 6) (j := 8) (rs := rs) rfl rfl (by decide) (by omega)
theorem built_2 {cs : List Int} {k most b j i : Nat} {ps : List Nat} {dr rs : List (List Int)} (hr : rs.length = ps.length) (hj : j < ps.length) (hi : i < j) (hp : ps.Pairwise (· < ·)) (hpk : ∀ p ∈ ps, p < k) (hg : ∀ t (ht : t < ps.length), Good k b ps[t] (rs.getD t [])) (a4 a8 a9 : Option O) :
    ∃ rs', rs'.length = ps.length ∧ (∀ t (ht : t < ps.length), Good k b ps[t] (rs'.getD t [])) ∧ l__law_built_2 (builtS cs k most ps a4 dr rs (some (.sh (.int j))) a8 (some (.sh (.int i)))) = .nx (builtS cs k most ps (some (.sh (.int (ps[j] : Nat)))) dr rs' (some (.sh (.int j))) a8 (some (.sh (.int i)))) := by
  have px := ix_ps hj
  have gi := hg i (by omega)
  have gj := hg j hj
  have pij : ps[i] < ps[j] := List.pairwise_iff_getElem.mp hp i j (by omega) hj hi
  have pk : ps[j] < k := hpk _ (List.getElem_mem hj)
  have xi := ix_lm (rs := rs) (i := i) (by omega)
  have xj := ix_lm (rs := rs) (i := j) (by omega)
  have xi2 := ix_li (xs := rs.getD i []) (i := ps[j]) (by rw [gi.len]; exact pk)
  have xj2 := ix_li (xs := rs.getD j []) (i := ps[j]) (by rw [gj.len]; exact pk)
  obtain ⟨v, hv⟩ : ∃ v, v = ((rs.getD i []).getD ps[j] 0).fmod ((rs.getD j []).getD ps[j] 0) := ⟨_, rfl⟩
  have lead := gj.pos
  have hb : 0 < b := by
    have := gj.low ((rs.getD j []).getD ps[j] 0) (getD_mem (by rw [gj.len]; exact pk))
    omega
  have lj := gj.low.getD hb ps[j]
  have vb : v.natAbs < b := by
    rw [hv, fmod_pos lead]
    have h1 := Int.emod_nonneg ((rs.getD i []).getD ps[j] 0) (show (rs.getD j []).getD ps[j] 0 ≠ 0 by omega)
    have h2 := Int.emod_lt_of_pos ((rs.getD i []).getD ps[j] 0) lead
    omega
  refine ⟨rs.set i ((rs.getD i []).set ps[j] v), by rw [List.length_set, hr], fun t ht => ?_, ?_⟩
  · rw [getD_setL (by omega)]
    split
    · rename_i e
      subst e
      exact gi.later pij pk vb
    · exact hg t ht
  unfold l__law_built_2
  have s1 : setO 4 (mapRs O.sh (bin2 ixD (.ok (li (ps.map fun (p : Nat) => (p : Int)))) (.ok (.int j)))) (builtS cs k most ps a4 dr rs (some (.sh (.int j))) a8 (some (.sh (.int i)))) = .nx (builtS cs k most ps (some (.sh (.int (ps[j] : Nat)))) dr rs (some (.sh (.int j))) a8 (some (.sh (.int i)))) := by
    rw [px]
    rfl
  refine (congrArg (fun f => Fl.thn f _) s1).trans ?_
  rw [thn_nx]
  show put2R 6 (mapRs O.sh (asPrim (bin2 modD (bin2 ixD (bin2 ixD (.ok (fm rs).er) (.ok (.int i))) (.ok (.int (ps[j] : Nat)))) (bin2 ixD (bin2 ixD (.ok (fm rs).er) (.ok (.int j))) (.ok (.int (ps[j] : Nat))))))) (.ok (.int i)) (.ok (.int (ps[j] : Nat))) _ = _
  rw [fm_er, xi, xj, xi2, xj2, bin2_ok, M.mod_int, if_pos (by omega), ← hv]
  exact put2_fm (rs := rs) (m := i) (n := ps[j]) rfl (by omega) (by rw [gi.len]; exact pk)
theorem built_eq {cs : List Int} {k most : Nat} (hk : k < 1000) (hc : cs.length < 1000) :
    ∃ (ps : List Nat) (rs : List (List Int)), m__law_built [li cs, .int k, .int most] = .ok (fm rs) ∧ rs.length = ps.length ∧ ps.length ≤ k ∧ ps.Pairwise (· < ·) ∧ (∀ p ∈ ps, p < k) ∧ ∀ t (ht : t < ps.length), Good k ((cs.length + 1) * most + 2) ps[t] (rs.getD t []) := by
  have r1 := range1_nat (n := k) (by omega)
  obtain ⟨ps, p1, p2, p3, a4, e1⟩ : ∃ ps : List Nat, ps.length ≤ k ∧ ps.Pairwise (· < ·) ∧ (∀ p ∈ ps, p < k) ∧ ∃ a4, ifS (asB (bin2 gtD (un1 lenD (.ok (li cs))) (.ok (.int 0)))) (setO 3 (mapRs O.sh (mapRs O.er (lcR (range1 (.ok (.int k))) (setN 4) (fun st => asB (bin2 gtD (bin2 modD (bin2 fdivD (bin2 ixD (getV 0 st) (bin2 modD (getV 4 st) (un1 lenD (getV 0 st)))) (.ok (.int 7))) (.ok (.int 3))) (.ok (.int 0)))) e__law_built_1 [4] [some (.sh (li cs)), some (.sh (.int k)), some (.sh (.int most)), some (.sh (.lst [])), none, none, none, none, none, none]))) [some (.sh (li cs)), some (.sh (.int k)), some (.sh (.int most)), some (.sh (.lst [])), none, none, none, none, none, none]) (.nx [some (.sh (li cs)), some (.sh (.int k)), some (.sh (.int most)), some (.sh (.lst [])), none, none, none, none, none, none]) = .nx [some (.sh (li cs)), some (.sh (.int k)), some (.sh (.int most)), some (.sh (li (ps.map fun (p : Nat) => (p : Int)))), a4, none, none, none, none, none] := by
    by_cases h0 : cs.length = 0
    · refine ⟨[], by simp, .nil, by simp, none, (ifS_no ?_).trans rfl⟩
      rw [len_li, h0]
      rfl
    · have l := lcR_filter (it := range1 (.ok (.int k))) (tg := setN 4) (ts := fun st => asB (bin2 gtD (bin2 modD (bin2 fdivD (bin2 ixD (getV 0 st) (bin2 modD (getV 4 st) (un1 lenD (getV 0 st)))) (.ok (.int 7))) (.ok (.int 3))) (.ok (.int 0)))) (el := e__law_built_1) (vs := [4])
        (st := [some (.sh (li cs)), some (.sh (.int k)), some (.sh (.int most)), some (.sh (.lst [])), none, none, none, none, none, none]) (g := fun p => O.sh (D.int (p : Nat))) (p := fun p => decide (0 < ((cs.getD (p % cs.length) 0).fdiv 7).fmod 3)) r1 (by rw [List.length_range]; omega) (fun p hp => ⟨_, rfl, by
          have lt : p % cs.length < cs.length := Nat.mod_lt _ (by omega)
          have dv : divOk (cs.getD (p % cs.length) 0) 7 = true := divOk_small (by omega) (by omega)
          show asB (bin2 gtD (bin2 modD (bin2 fdivD (bin2 ixD (.ok (li cs)) (bin2 modD (.ok (.int p)) (un1 lenD (.ok (li cs))))) (.ok (.int 7))) (.ok (.int 3))) (.ok (.int 0))) = _
          rw [len_li, bin2_ok _ (.int (p : Int)), M.mod_int, if_pos (by omega), fmod_pos (by omega), ← Int.natCast_emod, ofO_some, ix_li lt, bin2_ok, fdiv_int, if_pos dv]
          simp, fun _ => rfl⟩)
      refine ⟨(List.range k).filter fun p => decide (0 < ((cs.getD (p % cs.length) 0).fdiv 7).fmod 3), ?_, ?_, ?_, none, (ifS_yes ?_).trans ?_⟩
      · exact Nat.le_trans (List.length_filter_le _ _) (by rw [List.length_range]; exact Nat.le_refl _)
      · exact List.Pairwise.filter _ List.pairwise_lt_range
      · exact fun p hp => List.mem_range.mp (List.mem_filter.mp hp).1
      · rw [len_li]
        simp
        omega
      · rw [l, mapRs_ok]
        generalize (List.range k).filter _ = ps
        rw [show (O.lst (ps.map fun (p : Nat) => O.sh (D.int (p : Nat)))).er = li (ps.map fun (p : Nat) => (p : Int)) by
          rw [er_lst, List.map_map, li, List.map_map]; rfl]
        rfl
  obtain ⟨dr, e2, d1, d2, d3⟩ := drawn_eq (cs := cs) (many := ps.length) (k := k) (most := most) (by omega) hk hc
  obtain ⟨b, hb⟩ : ∃ b, b = (cs.length + 1) * most + 1 := ⟨_, rfl⟩
  rw [← hb] at d3
  have rp := range1_nat (n := ps.length) (by omega)
  obtain ⟨st1, l1, rs, a7, rfl, r1, r2⟩ := forF_nx (tg := setN 7) (body := l__law_built_1) (fun i st => ∃ rs a7, st = builtS cs k most ps a4 dr rs a7 none none ∧ rs.length = i ∧ ∀ t (ht : t < i) (h : t < ps.length), Good k (b + 1) ps[t] (rs.getD t []))
    ((List.range ps.length).map fun (i : Nat) => D.int i) 0 (builtS cs k most ps a4 dr [] none none none) ⟨[], none, rfl, rfl, fun t ht => absurd ht (Nat.not_lt_zero _)⟩ (by
      rintro i d st hd ⟨rs, a7, rfl, r1, r2⟩
      rw [Nat.zero_add] at *
      obtain ⟨hi, rfl⟩ := range_mem hd
      obtain ⟨r, g, t⟩ := built_1 (cs := cs) (most := most) hk hi d1 d2 d3 (p3 _ (List.getElem_mem hi)) (rs := rs) (by omega) a4 none none
      refine ⟨_, _, rfl, .inl t, _, _, rfl, by rw [List.length_append, r1]; rfl, fun u hu h => ?_⟩
      rcases Nat.lt_or_ge u i with z | z
      · have := r2 u z h
        rwa [List.getD_eq_getElem?_getD, List.getElem?_append_left (by omega), ← List.getD_eq_getElem?_getD]
      · have : u = i := by omega
        subst this
        rw [List.getD_eq_getElem?_getD, List.getElem?_append_right (by omega), r1, Nat.sub_self]
        exact g)
  rw [Nat.zero_add, List.length_map, List.length_range] at r1 r2
  obtain ⟨st2, l2, rs2, b4, b7, b9, rfl, q1, q2⟩ := forF_nx (tg := setN 7) (body := l__law_built_3) (fun i st => ∃ rs a4 a7 a9, st = builtS cs k most ps a4 dr rs a7 none a9 ∧ rs.length = ps.length ∧ ∀ t (h : t < ps.length), Good k (b + 1) ps[t] (rs.getD t []))
    ((List.range ps.length).map fun (i : Nat) => D.int i) 0 (builtS cs k most ps a4 dr rs a7 none none) ⟨rs, _, _, _, rfl, r1, fun t ht => r2 t ht ht⟩ (by
      rintro j d st hd ⟨rs, a4, a7, a9, rfl, r1, r2⟩
      obtain ⟨hj, rfl⟩ := range_mem hd
      have rj := range1_nat (n := j) (by omega)
      obtain ⟨st3, l3, rs3, b4, b9, rfl, w1, w2⟩ := forF_nx (tg := setN 9) (body := l__law_built_2) (fun i st => ∃ rs a4 a9, st = builtS cs k most ps a4 dr rs (some (.sh (.int j))) none a9 ∧ rs.length = ps.length ∧ ∀ t (h : t < ps.length), Good k (b + 1) ps[t] (rs.getD t []))
        ((List.range j).map fun (i : Nat) => D.int i) 0 (builtS cs k most ps a4 dr rs (some (.sh (.int j))) none a9) ⟨rs, _, _, rfl, r1, r2⟩ (by
          rintro i d st hd ⟨rs, a4, a9, rfl, r1, r2⟩
          obtain ⟨hi, rfl⟩ := range_mem hd
          obtain ⟨rs', w1, w2, t⟩ := built_2 (cs := cs) (most := most) (dr := dr) r1 hj hi p2 p3 r2 a4 none none
          exact ⟨_, _, rfl, .inl t, _, _, _, rfl, w1, w2⟩)
      refine ⟨_, _, rfl, .inl (Eq.trans ?_ l3), _, _, _, _, rfl, w1, w2⟩
      show forR (range1 (.ok (.int (j : Int)))) (setN 9) l__law_built_2 _ = _
      rw [rj]
      rfl)
  refine ⟨ps, rs2, ?_, q1, p1, p2, p3, fun t ht => by
    have := q2 t ht
    rwa [hb] at this⟩
  show fin (b__law_built [some (.sh (li cs)), some (.sh (.int k)), some (.sh (.int most)), none, none, none, none, none, none, none]) = _
  unfold b__law_built
  refine thn_step (setO_step (o := .sh (.lst [])) rfl (Nat.le_of_ble_eq_true rfl)) ?_
  dsimp only [List.set]
  refine thn_step (st' := _) e1 ?_
  refine thn_step (setO_step (o := .sh (lm dr)) ?_ (Nat.le_of_ble_eq_true rfl)) ?_
  · show mapRs O.sh (mapRs O.er (callR 4 m__law_drawn (consR (.ok (li cs)) (consR (asPrim (un1 lenD (.ok (li (ps.map fun (p : Nat) => (p : Int)))))) (.ok [.int k, .int most]))))) = _
    rw [len_li, List.length_map, show asPrim (.ok (.int (ps.length : Int))) = .ok (.int (ps.length : Int)) from rfl]
    simp only [consR_ok]
    rw [callR_ok, if_pos (show [li cs, D.int (ps.length : Nat), D.int k, D.int most].length = 4 from rfl), e2, mapRs_ok, fm_er]
    rfl
  dsimp only [List.set]
  refine thn_step (setO_step (o := fm []) rfl (Nat.le_of_ble_eq_true rfl)) ?_
  dsimp only [List.set]
  refine thn_step (st' := _) (Eq.trans ?_ l1) ?_
  · show forR (range1 (un1 lenD (.ok (li (ps.map fun (p : Nat) => (p : Int)))))) (setN 7) l__law_built_1 _ = _
    rw [len_li, List.length_map, rp]
    rfl
  refine thn_step (st' := _) (Eq.trans ?_ l2) ?_
  · show forR (range1 (un1 lenD (.ok (li (ps.map fun (p : Nat) => (p : Int)))))) (setN 7) l__law_built_3 _ = _
    rw [len_li, List.length_map, rp]
    rfl
  rfl
end M

/-! the law's own rest -/
namespace M
open PySem L2
def restS (rs : List (List Int)) (k : Nat) (nu : List Int) (c : Int) (xs : List Int) (a5 a6 : Option O) : Sl := [some (.sh (lm rs)), some (.sh (.int k)), some (.sh (li nu)), some (.sh (.int c)), some (fo xs), a5, a6]
theorem rest_turn {rs : List (List Int)} {k p b : Nat} {nu xs r : List Int} {c : Int} (hk : k < 1000) (g : Good k b p r) (hx : xs.length = k) (hp : p < k) (a6 : Option O) :
    ∃ v : Int, 0 ≤ v ∧ v < r.getD p 0 ∧ l__law_rest_1 (restS rs k nu c xs (some (.sh (li r))) a6) = .nx (restS rs k nu c (xs.set p v) (some (.sh (li r))) (some (.sh (.int p)))) := by
  have lead := g.pos
  have gl := g.len
  have d3 : divOk c 3 = true := divOk_small (by omega) (by omega)
  obtain ⟨v1, h1⟩ : ∃ v, v = (xs.getD p 0).fmod (r.getD p 0) := ⟨_, rfl⟩
  have v1a : 0 ≤ v1 ∧ v1 < r.getD p 0 := by
    rw [h1, fmod_pos lead]
    exact ⟨Int.emod_nonneg _ (by omega), Int.emod_lt_of_pos _ lead⟩
  have s1 : setO 6 (mapRs O.sh (mapRs O.er (callR 1 m__law_place (.ok [li r])))) (restS rs k nu c xs (some (.sh (li r))) a6) = .nx (restS rs k nu c xs (some (.sh (li r))) (some (.sh (.int p)))) := by
    rw [call1, lplace_eq, g.pl]
    rfl
  have s2 : putR 4 (mapRs O.sh (asPrim (bin2 modD (bin2 ixD (.ok (fo xs).er) (.ok (.int p))) (bin2 ixD (.ok (li r)) (.ok (.int p)))))) (.ok (.int p)) (restS rs k nu c xs (some (.sh (li r))) (some (.sh (.int p)))) = .nx (restS rs k nu c (xs.set p v1) (some (.sh (li r))) (some (.sh (.int p)))) := by
    rw [fo_er, ix_li (by omega), ix_li (by omega), bin2_ok, M.mod_int, if_pos (by omega), ← h1]
    exact put_fo (i := 4) (st := restS rs k nu c xs (some (.sh (li r))) (some (.sh (.int p)))) (xs := xs) (j := p) rfl (by omega)
  by_cases hf : (c.fdiv 3).fmod 2 = 1
  · obtain ⟨q, hq, hq2⟩ : ∃ q : Nat, (c.fdiv ((6 + 2 * p : Nat) : Int)).fmod 2 = (q : Int) ∧ q < 2 := ⟨((c.fdiv ((6 + 2 * p : Nat) : Int)).fmod 2).toNat, by rw [fmod_pos (by omega)]; omega, by rw [fmod_pos (by omega)]; omega⟩
    obtain ⟨v2, h2, h3⟩ : ∃ v2 : Int, bin2 ixD (.ok (.lst [.int 0, .int (r.getD p 0 - 1)])) (.ok (.int q)) = .ok (.int v2) ∧ (0 ≤ v2 ∧ v2 < r.getD p 0) := by
      have : q = 0 ∨ q = 1 := by omega
      rcases this with rfl | rfl
      · exact ⟨0, rfl, by omega, by omega⟩
      · exact ⟨r.getD p 0 - 1, rfl, by omega, by omega⟩
    refine ⟨v2, h3.1, h3.2, ?_⟩
    unfold l__law_rest_1
    refine (congrArg (fun f => Fl.thn f _) s1).trans ?_
    rw [thn_nx]
    refine (congrArg (fun f => Fl.thn f _) s2).trans ?_
    rw [thn_nx]
    refine (ifS_yes ?_).trans ?_
    · show asB (bin2 eqD (bin2 modD (bin2 fdivD (.ok (.int c)) (.ok (.int 3))) (.ok (.int 2))) (.ok (.int 1))) = _
      simp [fdiv_int, d3, hf]
    have dv : divOk c ((6 + 2 * p : Nat) : Int) = true := divOk_small (by omega) (by omega)
    have mo : mulOk 2 (p : Int) = true := mulOk_left (by decide)
    have ss : (xs.set p v1).set p v2 = xs.set p v2 := by rw [List.set_set]
    show putR 4 (mapRs O.sh (bin2 ixD (mapRs O.er (mapRs O.lst (consR (mapRs O.sh (.ok (.int 0))) (consR (mapRs O.sh (asPrim (bin2 subD (bin2 ixD (.ok (li r)) (.ok (.int p))) (.ok (.int 1))))) (.ok []))))) (bin2 modD (bin2 fdivD (.ok (.int c)) (bin2 addD (.ok (.int 6)) (bin2 mulD (.ok (.int 2)) (.ok (.int p))))) (.ok (.int 2))))) (.ok (.int p)) (restS rs k nu c (xs.set p v1) (some (.sh (li r))) (some (.sh (.int p)))) = _
    rw [ix_li (by omega), bin2_ok mulD, mul_int, if_pos mo]
    rw [show bin2 addD (.ok (.int 6)) (ofO (some (.int (2 * (p : Int))))) = .ok (.int ((6 + 2 * p : Nat) : Int)) from rfl, bin2_ok fdivD, fdiv_int, if_pos dv, ofO_some, bin2_ok modD, M.mod_int, if_pos (by decide), hq]
    generalize hz : r.getD p 0 - 1 = z at *
    have e : mapRs O.er (mapRs O.lst (consR (mapRs O.sh (.ok (.int 0))) (consR (mapRs O.sh (asPrim (bin2 subD (.ok (.int (r.getD p 0))) (.ok (.int 1))))) (.ok [])))) = .ok (.lst [.int 0, .int z]) := by
      rw [← hz]
      rfl
    rw [e, ofO_some, h2, ← ss]
    exact put_fo (i := 4) (st := restS rs k nu c (xs.set p v1) (some (.sh (li r))) (some (.sh (.int p)))) (xs := xs.set p v1) (j := p) rfl (by rw [List.length_set]; omega)
  · refine ⟨v1, v1a.1, v1a.2, ?_⟩
    unfold l__law_rest_1
    refine (congrArg (fun f => Fl.thn f _) s1).trans ?_
    rw [thn_nx]
    refine (congrArg (fun f => Fl.thn f _) s2).trans ?_
    rw [thn_nx]
    refine (ifS_no ?_).trans rfl
    show asB (bin2 eqD (bin2 modD (bin2 fdivD (.ok (.int c)) (.ok (.int 3))) (.ok (.int 2))) (.ok (.int 1))) = _
    simp [fdiv_int, d3, hf]
theorem rest_eq {rs : List (List Int)} {ps : List Nat} {k b : Nat} {nu : List Int} {c : Int} (hk : k < 1000) (hn : nu.length = k) (hl : Low b nu) (hb : 0 < b) (hr : rs.length = ps.length) (hp : ps.Pairwise (· < ·)) (hpk : ∀ p ∈ ps, p < k) (hg : ∀ t (ht : t < ps.length), Good k b ps[t] (rs.getD t [])) :
    ∃ xs, m__law_rest [lm rs, .int k, li nu, .int c] = .ok (fo xs) ∧ xs.length = k ∧ Low b xs ∧ ∀ t (ht : t < ps.length), 0 ≤ xs.getD ps[t] 0 ∧ xs.getD ps[t] 0 < (rs.getD t []).getD ps[t] 0 := by
  obtain ⟨x0, e1, e2, e3⟩ : ∃ x0, ifS (asB (bin2 eqD (bin2 modD (.ok (.int c)) (.ok (.int 3))) (.ok (.int 1)))) (setO 4 (repF (.ok (.lst [.int 0])) (.ok (.int k))) (restS rs k nu c nu none none)) (.nx (restS rs k nu c nu none none)) = .nx (restS rs k nu c x0 none none) ∧ x0.length = k ∧ Low b x0 := by
    by_cases h : c.fmod 3 = 1
    · refine ⟨List.replicate k 0, (ifS_yes (by simp [h])).trans ?_, List.length_replicate .., fun x hx => by rw [(List.mem_replicate.mp hx).2]; exact hb⟩
      rw [rep_zero (by omega) (by omega), Int.toNat_natCast]
      rfl
    · exact ⟨nu, (ifS_no (by simp [h])).trans rfl, hn, hl⟩
  obtain ⟨st1, l1, xs, a5, a6, rfl, q1, q2, q3⟩ := forF_nx (tg := setN 5) (body := l__law_rest_1) (fun i st => ∃ xs a5 a6, st = restS rs k nu c xs a5 a6 ∧ xs.length = k ∧ Low b xs ∧ ∀ t (_ : t < i) (ht : t < ps.length), 0 ≤ xs.getD ps[t] 0 ∧ xs.getD ps[t] 0 < (rs.getD t []).getD ps[t] 0)
    (rs.map li) 0 (restS rs k nu c x0 none none) ⟨x0, none, none, rfl, e2, e3, fun t ht => absurd ht (Nat.not_lt_zero _)⟩ (by
      rintro i d st hd ⟨xs, a5, a6, rfl, q1, q2, q3⟩
      rw [Nat.zero_add] at *
      obtain ⟨hi, rfl⟩ := list_mem hd
      have hi2 : i < ps.length := by omega
      have g := hg i hi2
      have ge : rs.getD i [] = rs[i] := by
        rw [List.getD_eq_getElem?_getD, List.getElem?_eq_getElem hi]; rfl
      rw [ge] at g
      have pk := hpk _ (List.getElem_mem hi2)
      obtain ⟨v, v1, v2, t⟩ := rest_turn (rs := rs) (nu := nu) (c := c) hk g q1 pk a6
      have lb := g.low.getD hb ps[i]
      refine ⟨_, _, rfl, .inl t, _, _, _, rfl, by rw [List.length_set, q1], q2.set (by omega) _, fun t ht h2 => ?_⟩
      rw [getD_set (by omega)]
      by_cases e : t = i
      · subst e
        rw [if_pos rfl, ge]
        exact ⟨v1, v2⟩
      · have : ps[t] < ps[i] := List.pairwise_iff_getElem.mp hp t i h2 hi2 (by omega)
        rw [if_neg (by omega)]
        exact q3 t (by omega) h2)
  rw [Nat.zero_add, List.length_map] at q3
  refine ⟨xs, ?_, q1, q2, fun t ht => q3 t (by omega) ht⟩
  show fin (b__law_rest [some (.sh (lm rs)), some (.sh (.int k)), some (.sh (li nu)), some (.sh (.int c)), none, none, none]) = _
  unfold b__law_rest
  refine thn_step (setO_step (o := fo nu) ?_ (Nat.le_of_ble_eq_true rfl)) ?_
  · show listF (.ok (li nu)) = _
    rw [listF_ok, List.map_map]
    rfl
  dsimp only [List.set]
  refine thn_step (st' := _) e1 ?_
  refine thn_step (st' := _) l1 ?_
  rfl
end M

-- PRE: math_rows math_mix math_led math_built
-- POST: post_tools post_tools2 post_tools3 post_t2 post_cellat post_place post_led post_drawn post_shape post_lplace post_lmixed post_lnumbers post_built post_rest
namespace M
open PySem L2
theorem Good.mono {k b b' p : Nat} {r : List Int} (g : Good k b p r) (h : b ≤ b') : Good k b' p r := ⟨g.len, g.zero, g.pos, g.low.mono h⟩
theorem often_lc {dr : List (List Int)} (hd : dr.length < 1000) (h1 : ∀ r ∈ dr, r.length = 1) (a0 a1 a2 a3 a4 a5 a6 a7 a8 a9 a10 a11 a12 a13 a14 : Option O) :
    lcR (elemsR (.ok (lm dr))) (setN 11) (fun _ => .ok true) e_law_1 [11] [a0, a1, a2, a3, a4, a5, a6, a7, a8, a9, a10, a11, a12, a13, a14] = .ok (fo (dr.map fun r => r.getD 0 0)) := by
  have e : fo (dr.map fun r => r.getD 0 0) = .lst (dr.map fun r => O.sh (D.int (r.getD 0 0))) := by
    show O.lst _ = _
    rw [List.map_map]
    rfl
  rw [e]
  exact lcR_map (f := li) rfl (by omega) fun r hr => ⟨_, rfl, rfl, by
    have x : bin2 ixD (.ok (li r)) (.ok (.int 0)) = .ok (.int (r.getD 0 0)) := ix_li (xs := r) (i := 0) (by rw [h1 r hr]; omega)
    show mapRs O.sh (bin2 ixD (.ok (li r)) (.ok (.int 0))) = _
    rw [x]
    rfl⟩
theorem purse_lc {xs ys : List Int} (hd : xs.length < 1000) (a0 a1 a2 a3 a4 a5 a6 a7 a8 a9 a10 a11 a12 a13 a14 : Option O) :
    lcR (zipR (.ok (li xs)) (.ok (li ys))) (setTup 2 (setCons (setN 12) (setCons (setN 13) setNil))) (fun _ => .ok true) e_law_2 [12, 13] [a0, a1, a2, a3, a4, a5, a6, a7, a8, a9, a10, a11, a12, a13, a14] = .ok (fo (List.zipWith (· + ·) xs ys)) := by
  have e : fo (List.zipWith (· + ·) xs ys) = .lst ((xs.zip ys).map fun r => O.sh (D.int (r.1 + r.2))) := by
    show O.lst _ = _
    rw [List.zip, List.map_zipWith, List.map_zipWith]
  rw [e, zipR_ok, zipD_map]
  exact lcR_map rfl (by rw [List.length_zip]; omega) fun r hr => ⟨_, rfl, rfl, rfl⟩
theorem copy_lc {ps : List (List Int)} (hp : ps.length < 100) (a0 a1 a2 a3 a4 a5 a6 a7 a8 a9 a10 a11 a12 a13 a14 : Option O) :
    mapRs O.er (lcR (elemsR (.ok (lm ps))) (setN 14) (fun _ => .ok true) e_law_3 [14] [a0, a1, a2, a3, a4, a5, a6, a7, a8, a9, a10, a11, a12, a13, a14]) = .ok (lm ps) := by
  have l : lcR (elemsR (.ok (lm ps))) (setN 14) (fun _ => .ok true) e_law_3 [14] [a0, a1, a2, a3, a4, a5, a6, a7, a8, a9, a10, a11, a12, a13, a14] = .ok (.lst (ps.map fo)) :=
    lcR_map (f := li) rfl (by omega) fun r hr => ⟨_, rfl, rfl, by
      show listF (.ok (li r)) = _
      rw [listF_ok, List.map_map]
      rfl⟩
  rw [l, mapRs_ok]
  exact congrArg Rs.ok (fm_er ps)
theorem pow_eq : (10 : Nat) ^ 60 < 2 ^ 200 := Nat.le_of_ble_eq_true rfl
theorem call4 {m : List D → Rs O} (a b c d : D) : callR 4 m (.ok [a, b, c, d]) = m [a, b, c, d] := by
  rw [callR_ok]; exact if_pos rfl
theorem cut_len (ns : List Int) (a b : Nat) (h : ns.length ≤ 63) : ((ns.drop a).take b).length ≤ 63 := by
  rw [List.length_take, List.length_drop]; omega
theorem law_true (ns : List Int) (h : ns.length ≤ 63) : m_law [.scr ns] = .ok (.sh (.bl true)) := by
  have c0 : m__law_cell_at [.scr ns, .int 0] = .ok (.sh (.int (ns.getD 0 0))) := cell_at ns (j := 0) (by omega)
  have c1 : m__law_cell_at [.scr ns, .int 1] = .ok (.sh (.int (ns.getD 1 0))) := cell_at ns (j := 1) (by omega)
  generalize ns.getD 0 0 = n0 at *
  generalize ns.getD 1 0 = n1 at *
  obtain ⟨k, many, es, hk⟩ := shape_eq n0
  have k8 : k ≤ 8 := by omega
  have d20 : divOk n1 20 = true := divOk_small (by omega) (by omega)
  obtain ⟨most, em, m60, m0, _⟩ := most_eq (n1.fdiv 20) k 0
  have L1 := cut_len ns 2 80 h
  have L2 := cut_len ns 3 79 h
  have L3 := cut_len ns 4 78 h
  have p200 := pow_eq
  have big : 64 * 2 ^ 200 + 2 ≤ 2 ^ 210 := Nat.le_of_ble_eq_true rfl
  have bnd : ∀ l m : Nat, l ≤ 63 → m ≤ 10 ^ 60 → (l + 1) * m + 2 ≤ 2 ^ 210 := fun l m hl hm => by
    have : (l + 1) * m ≤ 64 * 2 ^ 200 := Nat.mul_le_mul (by omega) (by omega)
    omega
  obtain ⟨ps, rs, eb, rl, pk, pw, plt, gd⟩ := built_eq (cs := (ns.drop 2).take 80) (k := k) (most := most) (by omega) (by omega)
  have gd : ∀ t (ht : t < ps.length), Good k (2 ^ 210) ps[t] (rs.getD t []) := fun t ht => (gd t ht).mono (bnd _ _ L1 m60)
  obtain ⟨dr, ed, dl, d1, d2⟩ := drawn_eq (cs := (ns.drop 3).take 79) (many := rs.length) (k := 1) (most := 10 ^ 60) (by omega) (by omega) (by omega)
  obtain ⟨nr, en, nl, nk, nlow⟩ := drawn_eq (cs := (ns.drop 4).take 78) (many := 1) (k := k) (most := 10 ^ 12) (by omega) (by omega) (by omega)
  obtain ⟨nu, hnu⟩ : ∃ nu, nr.getD 0 [] = nu := ⟨_, rfl⟩
  have num : nu ∈ nr := hnu ▸ getD_mem (by omega)
  obtain ⟨rest, er, rlen, rlow, rr⟩ := rest_eq (rs := rs) (ps := ps) (k := k) (b := 2 ^ 210) (nu := nu) (c := n1) (by omega) (nk _ num) ((nlow _ num).mono (by
    exact Nat.le_trans (Nat.le_succ _) (bnd _ (10 ^ 12) L3 (Nat.pow_le_pow_right (by decide) (by decide))))) (Nat.two_pow_pos _) rl pw plt gd
  obtain ⟨often, ho⟩ : ∃ often, often = dr.map fun r => r.getD 0 0 := ⟨_, rfl⟩
  have ol : often.length = rs.length := by rw [ho, List.length_map, dl]
  have olow : Low (2 ^ 210) often := fun x hx => by
    rw [ho] at hx
    obtain ⟨r, hr, rfl⟩ := List.mem_map.mp hx
    have := (d2 r hr).getD (by omega) 0
    have := bnd _ (10 ^ 60) L2 (Nat.le_refl _)
    omega
  have rmem : ∀ r ∈ rs, ∃ (t : Nat) (ht : t < ps.length), r = rs.getD t [] := fun r hr => by
    obtain ⟨t, ht, rfl⟩ := List.mem_iff_getElem.mp hr
    exact ⟨t, by omega, by rw [List.getD_eq_getElem?_getD, List.getElem?_eq_getElem ht]; rfl⟩
  have rk : ∀ r ∈ rs, r.length = k := fun r hr => by
    obtain ⟨t, ht, rfl⟩ := rmem r hr
    exact (gd t ht).len
  have rlw : ∀ r ∈ rs, Low (2 ^ 210) r := fun r hr => by
    obtain ⟨t, ht, rfl⟩ := rmem r hr
    exact (gd t ht).low
  have rlead : ∀ r ∈ rs, 0 < r.getD (pl r) 0 := fun r hr => by
    obtain ⟨t, ht, rfl⟩ := rmem r hr
    rw [(gd t ht).pl]
    exact (gd t ht).pos
  have rred : ∀ r ∈ rs, 0 ≤ rest.getD (pl r) 0 ∧ rest.getD (pl r) 0 < r.getD (pl r) 0 := fun r hr => by
    obtain ⟨t, ht, rfl⟩ := rmem r hr
    rw [(gd t ht).pl]
    exact rr t ht
  have rpw : rs.Pairwise (fun a b => pl a < pl b) := List.pairwise_iff_getElem.mpr fun i j hi hj hij => by
    have e : ∀ t (ht : t < rs.length), rs[t] = rs.getD t [] := fun t ht => by
      rw [List.getD_eq_getElem?_getD, List.getElem?_eq_getElem ht]; rfl
    rw [e i hi, e j hj, (gd i (by omega)).pl, (gd j (by omega)).pl]
    exact List.pairwise_iff_getElem.mp pw i j (by omega) (by omega) hij
  have moR := mo_of' olow rlw (by omega)
  obtain ⟨mix, hmix⟩ : ∃ mix, mix = mixF often rs k := ⟨_, rfl⟩
  have ml : mix.length = k := by rw [hmix, mixF_length rk]
  obtain ⟨pu, hpu⟩ : ∃ pu, pu = List.zipWith (· + ·) mix rest := ⟨_, rfl⟩
  have pl' : pu.length = k := by rw [hpu, List.length_zipWith, ml, rlen, Nat.min_self]
  have pget : ∀ c, pu.getD c 0 = mix.getD c 0 + rest.getD c 0 := fun c => by
    rw [hpu]
    rw [List.getD_eq_getElem?_getD, List.getD_eq_getElem?_getD, List.getD_eq_getElem?_getD, List.getElem?_zipWith]
    by_cases hc : c < k
    · rw [List.getElem?_eq_getElem (show c < mix.length by omega), List.getElem?_eq_getElem (show c < rest.length by omega)]
      rfl
    · rw [List.getElem?_eq_none (show mix.length ≤ c by omega), List.getElem?_eq_none (show rest.length ≤ c by omega)]
      rfl
  have plow : Low (2 ^ 427) pu := low_of_getD fun i _ => by
    rw [pget]
    have h1 := mixF_low (i := i) (e := 4) rk olow rlw (by omega)
    rw [← hmix] at h1
    have h2 := rlow.getD (Nat.two_pow_pos _) i
    have h3 : 2 ^ (210 + 210 + 4 + 1) + 2 ^ 210 ≤ 2 ^ 427 := Nat.le_of_ble_eq_true rfl
    omega
  have lf : ledF rs pu = (often, rest) := by
    have := led_mix (k := k) rlen rs often pu [] (by omega) pl' rk rpw rred fun c => by
      rw [pget, hmix, mixF_get rk]
    exact this
  have led := (led_eq (rungs := rs) (purse := pu) (a := 427) (b := 210) (by omega) (by omega) (fun r hr => by rw [rk r hr, pl']) rlead rlw plow (by omega) (by omega)).1
  have made := is_made_eq (rungs := rs) (purse := pu) (a := 427) (b := 210) (by omega) (by omega) (fun r hr => by rw [rk r hr, pl']) rlead rlw plow (by omega) (by omega)
  rw [lf] at led made
  have last : (pl rest = k) ↔ (rest = List.replicate k 0) := by
    constructor
    · intro e
      exact ext_getD (by rw [rlen, List.length_replicate]) fun i hi => by
        rw [pl_zero (by omega), List.getD_eq_getElem?_getD, List.getElem?_replicate]
        split <;> rfl
    · intro e
      rcases Nat.lt_or_ge (pl rest) rest.length with z | z
      · have := pl_ne z
        rw [e, List.getD_eq_getElem?_getD, List.getElem?_replicate] at this
        split at this <;> exact absurd rfl this
      · have := pl_le rest
        omega
  have z := rep_zero (k := (k : Int)) (by omega) (by omega)
  rw [Int.toNat_natCast] at z
  show fin (b_law [some (.sh (.scr ns)), none, none, none, none, none, none, none, none, none, none, none, none, none, none]) = _
  unfold b_law
  refine thn_step (setO_step (o := .sh (.int k)) ?_ (Nat.le_of_ble_eq_true rfl)) ?_
  · show mapRs O.sh (bin2 ixD (mapRs O.er (callR 1 m__law_shape (consR (mapRs O.er (callR 2 m__law_cell_at (.ok [.scr ns, .int 0]))) (.ok [])))) (.ok (.int 0))) = _
    rw [call2, c0, mapRs_ok]
    show mapRs O.sh (bin2 ixD (mapRs O.er (callR 1 m__law_shape (.ok [.int n0]))) (.ok (.int 0))) = _
    rw [call1, es]
    rfl
  dsimp only [List.set]
  refine thn_step (setO_step (o := .sh (.int n1)) ?_ (Nat.le_of_ble_eq_true rfl)) ?_
  · show mapRs O.sh (mapRs O.er (callR 2 m__law_cell_at (.ok [.scr ns, .int 1]))) = _
    rw [call2, c1]
    rfl
  dsimp only [List.set]
  refine thn_step (setO_step (o := .sh (lm rs)) ?_ (Nat.le_of_ble_eq_true rfl)) ?_
  · show mapRs O.sh (mapRs O.er (callR 3 m__law_built (consR (mapRs O.er (sliceF (.ok (.scr ns)) (asI (.ok (.int 2))) (asI (.ok (.int 82))))) (consR (.ok (.int k)) (consR (mapRs O.er (callR 3 m__law_most (consR (asPrim (bin2 fdivD (.ok (.int n1)) (.ok (.int 20)))) (.ok [.int k, .int 0])))) (.ok [])))))) = _
    rw [bin2_ok, fdiv_int, if_pos d20, show asPrim (ofO (some (.int (n1.fdiv 20)))) = .ok (.int (n1.fdiv 20)) from rfl, sl_scr ns (by omega) (by omega), mapRs_ok, fo_er]
    simp only [consR_ok]
    rw [call3, show m__law_most [.int (n1.fdiv 20), .int k, .int 0] = _ from em, mapRs_ok]
    show mapRs O.sh (mapRs O.er (callR 3 m__law_built (.ok [li ((ns.drop 2).take 80), .int k, .int most]))) = _
    rw [call3, eb, mapRs_ok, fm_er]
    rfl
  dsimp only [List.set]
  refine thn_step (setO_step (o := .sh (li often)) ?_ (Nat.le_of_ble_eq_true rfl)) ?_
  · show mapRs O.sh (mapRs O.er (lcR (elemsR (mapRs O.er (callR 4 m__law_drawn (consR (mapRs O.er (sliceF (.ok (.scr ns)) (asI (.ok (.int 3))) (asI (.ok (.int 82))))) (consR (asPrim (un1 lenD (.ok (lm rs)))) (consR (.ok (.int 1)) (consR (asPrim (bin2 powD (.ok (.int 10)) (.ok (.int 60)))) (.ok [])))))))) (setN 11) (fun _ => .ok true) e_law_1 [11] _)) = _
    rw [sl_scr ns (by omega) (by omega), mapRs_ok, fo_er, len_lm, show asPrim (bin2 powD (.ok (.int 10)) (.ok (.int 60))) = .ok (.int ((10 ^ 60 : Nat) : Int)) by simp [powOk], show asPrim (.ok (.int (rs.length : Int))) = .ok (.int (rs.length : Int)) from rfl]
    simp only [consR_ok]
    rw [call4, show (3 : Int).toNat = 3 from rfl, show (82 : Int).toNat - 3 = 79 from rfl, show m__law_drawn [li ((ns.drop 3).take 79), .int (rs.length : Nat), .int 1, .int ((10 ^ 60 : Nat) : Int)] = _ from ed, mapRs_ok, fm_er, often_lc (by omega) d1, mapRs_ok, fo_er, ← ho]
    rfl
  dsimp only [List.set]
  refine thn_step (setO_step (o := .sh (li rest)) ?_ (Nat.le_of_ble_eq_true rfl)) ?_
  · show mapRs O.sh (mapRs O.er (callR 4 m__law_rest (consR (.ok (lm rs)) (consR (.ok (.int k)) (consR (bin2 ixD (mapRs O.er (callR 4 m__law_drawn (consR (mapRs O.er (sliceF (.ok (.scr ns)) (asI (.ok (.int 4))) (asI (.ok (.int 82))))) (consR (.ok (.int 1)) (consR (.ok (.int k)) (consR (asPrim (bin2 powD (.ok (.int 10)) (.ok (.int 12)))) (.ok []))))))) (.ok (.int 0))) (.ok [.int n1])))))) = _
    have x0 : bin2 ixD (.ok (lm nr)) (.ok (.int 0)) = .ok (li nu) := hnu ▸ ix_lm (rs := nr) (i := 0) (by omega)
    rw [sl_scr ns (by omega) (by omega), mapRs_ok, fo_er, show asPrim (bin2 powD (.ok (.int 10)) (.ok (.int 12))) = .ok (.int ((10 ^ 12 : Nat) : Int)) by simp [powOk]]
    simp only [consR_ok]
    rw [call4, show (4 : Int).toNat = 4 from rfl, show (82 : Int).toNat - 4 = 78 from rfl, show m__law_drawn [li ((ns.drop 4).take 78), .int 1, .int k, .int ((10 ^ 12 : Nat) : Int)] = _ from en, mapRs_ok, fm_er, x0]
    simp only [consR_ok]
    rw [call4, er, mapRs_ok, fo_er]
    rfl
  dsimp only [List.set]
  refine thn_step (setO_step (o := .sh (li pu)) ?_ (Nat.le_of_ble_eq_true rfl)) ?_
  · show mapRs O.sh (mapRs O.er (lcR (zipR (mapRs O.er (callR 3 m__law_mixed (.ok [li often, lm rs, .int k]))) (.ok (li rest))) (setTup 2 (setCons (setN 12) (setCons (setN 13) setNil))) (fun _ => .ok true) e_law_2 [12, 13] _)) = _
    rw [call3, lmixed_eq (by omega) (by omega) rk moR, mapRs_ok, ← hmix]
    show mapRs O.sh (mapRs O.er (lcR (zipR (.ok (li mix)) (.ok (li rest))) (setTup 2 (setCons (setN 12) (setCons (setN 13) setNil))) (fun _ => .ok true) e_law_2 [12, 13] _)) = _
    rw [purse_lc (by omega), mapRs_ok, fo_er, ← hpu]
    rfl
  dsimp only [List.set]
  refine thn_step (setO_step (o := .sh (lm rs)) ?_ (Nat.le_of_ble_eq_true rfl)) ?_
  · show mapRs O.sh (mapRs O.er (lcR (elemsR (.ok (lm rs))) (setN 14) (fun _ => .ok true) e_law_3 [14] _)) = _
    rw [copy_lc (by omega)]
    rfl
  dsimp only [List.set]
  refine thn_step (setO_step (o := .sh (li pu)) ?_ (Nat.le_of_ble_eq_true rfl)) ?_
  · show mapRs O.sh (mapRs O.er (listF (.ok (li pu)))) = _
    rw [listF_ok, mapRs_ok, sh_er]
    rfl
  dsimp only [List.set]
  refine thn_step (setO_step (o := .sh (.tup [li often, li rest])) ?_ (Nat.le_of_ble_eq_true rfl)) ?_
  · show mapRs O.sh (mapRs O.er (callR 2 m_led (.ok [lm rs, li pu]))) = _
    rw [call2, led]
    rfl
  dsimp only [List.set]
  obtain ⟨st9, h9⟩ : ∃ st : Sl, st = [some (.sh (.scr ns)), some (.sh (.int k)), some (.sh (.int n1)), some (.sh (lm rs)), some (.sh (li often)), some (.sh (li rest)), some (.sh (li pu)), some (.sh (lm rs)), some (.sh (li pu)), some (.sh (.tup [li often, li rest])), none, none, none, none, none] := ⟨_, rfl⟩
  refine thn_step (st' := st9) ?_ ?_
  · rw [h9]
    refine (ifS_no ?_).trans rfl
    show orT (asB (bin2 neD (.ok (lm rs)) (.ok (lm rs)))) (orT (asB (bin2 neD (.ok (li pu)) (.ok (li pu)))) (orT (notT (asB (un1 (isi "tuple") (.ok (.tup [li often, li rest]))))) (asB (bin2 neD (un1 lenD (.ok (.tup [li often, li rest]))) (.ok (.int 2)))))) = _
    rw [bin2_ok, ne_lm, bin2_ok, ne_li]
    simp
  refine thn_step (st' := st9) ?_ ?_
  · rw [h9]
    refine (ifS_no ?_).trans rfl
    show orT (notT (asB (mapRs O.er (callR 2 m__law_numbers (consR (.ok (li often)) (consR (asPrim (un1 lenD (.ok (lm rs)))) (.ok []))))))) (notT (asB (mapRs O.er (callR 2 m__law_numbers (.ok [li rest, .int k]))))) = _
    rw [len_lm, ← ol, show asPrim (.ok (.int (often.length : Int))) = .ok (.int (often.length : Int)) from rfl]
    simp only [consR_ok]
    have n2 := numbers_eq (xs := rest) (by omega)
    rw [rlen] at n2
    rw [call2, call2, numbers_eq (by omega), n2]
    rfl
  refine thn_step (st' := st9) ?_ ?_
  · rw [h9]
    refine (ifS_no ?_).trans rfl
    show asB (bin2 neD (.ok (.tup [li often, li rest])) (.ok (.tup [li often, li rest]))) = _
    rw [bin2_ok, ne_t2]
    rfl
  rw [h9]
  refine thn_step (setO_step (o := .sh (.bl (decide (pl rest = pu.length)))) ?_ (Nat.le_of_ble_eq_true rfl)) ?_
  · show mapRs O.sh (mapRs O.er (callR 2 m_is_made (.ok [lm rs, li pu]))) = _
    rw [call2, made]
    rfl
  dsimp only [List.set]
  refine thn_step (st' := _) ((ifS_no ?_).trans rfl) ?_
  · show orT (asB (bin2 neD (.ok (lm rs)) (.ok (lm rs)))) (asB (bin2 neD (.ok (li pu)) (.ok (li pu)))) = _
    rw [bin2_ok, ne_lm, bin2_ok, ne_li]
    simp
  show fin (retR (mapRs O.sh (asPrim (andV (un1 (isi "bool") (.ok (.bl (decide (pl rest = pu.length))))) (bin2 eqD (.ok (.bl (decide (pl rest = pu.length)))) (bin2 eqD (.ok (li rest)) (mapRs O.er (repF (.ok (.lst [.int 0])) (.ok (.int k)))))))))) = _
  rw [z, mapRs_ok, fo_er, bin2_ok eqD (li rest), eq_li, pl', show decide (pl rest = k) = decide (rest = List.replicate k 0) from decide_eq_decide.mpr last]
  generalize decide (rest = List.replicate k 0) = q
  cases q <;> rfl
end M

namespace M
open PySem L2
section
end
theorem all_mk {P : Program} {w : World} {K : PySem.W.Frag} {h : Heap} {mg : Str → Option Value} {fa : Addr} (X : K.In h) (G : h.Ns mainGlobals mg) (hfa : mg "law" = some (.ref fa))
    {od_blended an_blended : Option Addr} {sl_blended : Array (Option Value)} {oc_blended kV_blended dc_blended pm_blended cd_blended ct_blended : Value} {f_blended : Addr} (a_blended : PySem.W.nsIn K mainGlobals "blended" = some (some (.ref f_blended))) (l_blended : K.lookup f_blended = some ⟨oc_blended, od_blended, .func (PySem.W.fnOf "blended" "blended" (defArgs s_blended) (defBody s_blended) (defScope s_blended) .none kV_blended dc_blended pm_blended an_blended cd_blended ct_blended), sl_blended⟩) (c_blended : PySem.W.codeIn K cd_blended "blended" = true) (k_blended : PySem.W.keepIn K (.ref f_blended) = true)
    {od_place_of an_place_of : Option Addr} {sl_place_of : Array (Option Value)} {oc_place_of kV_place_of dc_place_of pm_place_of cd_place_of ct_place_of : Value} {f_place_of : Addr} (a_place_of : PySem.W.nsIn K mainGlobals "place_of" = some (some (.ref f_place_of))) (l_place_of : K.lookup f_place_of = some ⟨oc_place_of, od_place_of, .func (PySem.W.fnOf "place_of" "place_of" (defArgs s_place_of) (defBody s_place_of) (defScope s_place_of) .none kV_place_of dc_place_of pm_place_of an_place_of cd_place_of ct_place_of), sl_place_of⟩) (c_place_of : PySem.W.codeIn K cd_place_of "place_of" = true) (k_place_of : PySem.W.keepIn K (.ref f_place_of) = true)
    {od__law_cell_at an__law_cell_at : Option Addr} {sl__law_cell_at : Array (Option Value)} {oc__law_cell_at kV__law_cell_at dc__law_cell_at pm__law_cell_at cd__law_cell_at ct__law_cell_at : Value} {f__law_cell_at : Addr} (a__law_cell_at : PySem.W.nsIn K mainGlobals "_law_cell_at" = some (some (.ref f__law_cell_at))) (l__law_cell_at : K.lookup f__law_cell_at = some ⟨oc__law_cell_at, od__law_cell_at, .func (PySem.W.fnOf "_law_cell_at" "_law_cell_at" (defArgs s__law_cell_at) (defBody s__law_cell_at) (defScope s__law_cell_at) .none kV__law_cell_at dc__law_cell_at pm__law_cell_at an__law_cell_at cd__law_cell_at ct__law_cell_at), sl__law_cell_at⟩) (c__law_cell_at : PySem.W.codeIn K cd__law_cell_at "_law_cell_at" = true) (k__law_cell_at : PySem.W.keepIn K (.ref f__law_cell_at) = true)
    {od__law_whole an__law_whole : Option Addr} {sl__law_whole : Array (Option Value)} {oc__law_whole kV__law_whole dc__law_whole pm__law_whole cd__law_whole ct__law_whole : Value} {f__law_whole : Addr} (a__law_whole : PySem.W.nsIn K mainGlobals "_law_whole" = some (some (.ref f__law_whole))) (l__law_whole : K.lookup f__law_whole = some ⟨oc__law_whole, od__law_whole, .func (PySem.W.fnOf "_law_whole" "_law_whole" (defArgs s__law_whole) (defBody s__law_whole) (defScope s__law_whole) .none kV__law_whole dc__law_whole pm__law_whole an__law_whole cd__law_whole ct__law_whole), sl__law_whole⟩) (c__law_whole : PySem.W.codeIn K cd__law_whole "_law_whole" = true) (k__law_whole : PySem.W.keepIn K (.ref f__law_whole) = true)
    {od__law_shape an__law_shape : Option Addr} {sl__law_shape : Array (Option Value)} {oc__law_shape kV__law_shape dc__law_shape pm__law_shape cd__law_shape ct__law_shape : Value} {f__law_shape : Addr} (a__law_shape : PySem.W.nsIn K mainGlobals "_law_shape" = some (some (.ref f__law_shape))) (l__law_shape : K.lookup f__law_shape = some ⟨oc__law_shape, od__law_shape, .func (PySem.W.fnOf "_law_shape" "_law_shape" (defArgs s__law_shape) (defBody s__law_shape) (defScope s__law_shape) .none kV__law_shape dc__law_shape pm__law_shape an__law_shape cd__law_shape ct__law_shape), sl__law_shape⟩) (c__law_shape : PySem.W.codeIn K cd__law_shape "_law_shape" = true) (k__law_shape : PySem.W.keepIn K (.ref f__law_shape) = true)
    {od__law_most an__law_most : Option Addr} {sl__law_most : Array (Option Value)} {oc__law_most kV__law_most dc__law_most pm__law_most cd__law_most ct__law_most : Value} {f__law_most : Addr} (a__law_most : PySem.W.nsIn K mainGlobals "_law_most" = some (some (.ref f__law_most))) (l__law_most : K.lookup f__law_most = some ⟨oc__law_most, od__law_most, .func (PySem.W.fnOf "_law_most" "_law_most" (defArgs s__law_most) (defBody s__law_most) (defScope s__law_most) .none kV__law_most dc__law_most pm__law_most an__law_most cd__law_most ct__law_most), sl__law_most⟩) (c__law_most : PySem.W.codeIn K cd__law_most "_law_most" = true) (k__law_most : PySem.W.keepIn K (.ref f__law_most) = true)
    {od__law_drawn an__law_drawn : Option Addr} {sl__law_drawn : Array (Option Value)} {oc__law_drawn kV__law_drawn dc__law_drawn pm__law_drawn cd__law_drawn ct__law_drawn : Value} {f__law_drawn : Addr} (a__law_drawn : PySem.W.nsIn K mainGlobals "_law_drawn" = some (some (.ref f__law_drawn))) (l__law_drawn : K.lookup f__law_drawn = some ⟨oc__law_drawn, od__law_drawn, .func (PySem.W.fnOf "_law_drawn" "_law_drawn" (defArgs s__law_drawn) (defBody s__law_drawn) (defScope s__law_drawn) .none kV__law_drawn dc__law_drawn pm__law_drawn an__law_drawn cd__law_drawn ct__law_drawn), sl__law_drawn⟩) (c__law_drawn : PySem.W.codeIn K cd__law_drawn "_law_drawn" = true) (k__law_drawn : PySem.W.keepIn K (.ref f__law_drawn) = true)
    {od__law_place an__law_place : Option Addr} {sl__law_place : Array (Option Value)} {oc__law_place kV__law_place dc__law_place pm__law_place cd__law_place ct__law_place : Value} {f__law_place : Addr} (a__law_place : PySem.W.nsIn K mainGlobals "_law_place" = some (some (.ref f__law_place))) (l__law_place : K.lookup f__law_place = some ⟨oc__law_place, od__law_place, .func (PySem.W.fnOf "_law_place" "_law_place" (defArgs s__law_place) (defBody s__law_place) (defScope s__law_place) .none kV__law_place dc__law_place pm__law_place an__law_place cd__law_place ct__law_place), sl__law_place⟩) (c__law_place : PySem.W.codeIn K cd__law_place "_law_place" = true) (k__law_place : PySem.W.keepIn K (.ref f__law_place) = true)
    {od__law_mixed an__law_mixed : Option Addr} {sl__law_mixed : Array (Option Value)} {oc__law_mixed kV__law_mixed dc__law_mixed pm__law_mixed cd__law_mixed ct__law_mixed : Value} {f__law_mixed : Addr} (a__law_mixed : PySem.W.nsIn K mainGlobals "_law_mixed" = some (some (.ref f__law_mixed))) (l__law_mixed : K.lookup f__law_mixed = some ⟨oc__law_mixed, od__law_mixed, .func (PySem.W.fnOf "_law_mixed" "_law_mixed" (defArgs s__law_mixed) (defBody s__law_mixed) (defScope s__law_mixed) .none kV__law_mixed dc__law_mixed pm__law_mixed an__law_mixed cd__law_mixed ct__law_mixed), sl__law_mixed⟩) (c__law_mixed : PySem.W.codeIn K cd__law_mixed "_law_mixed" = true) (k__law_mixed : PySem.W.keepIn K (.ref f__law_mixed) = true)
    {od_led an_led : Option Addr} {sl_led : Array (Option Value)} {oc_led kV_led dc_led pm_led cd_led ct_led : Value} {f_led : Addr} (a_led : PySem.W.nsIn K mainGlobals "led" = some (some (.ref f_led))) (l_led : K.lookup f_led = some ⟨oc_led, od_led, .func (PySem.W.fnOf "led" "led" (defArgs s_led) (defBody s_led) (defScope s_led) .none kV_led dc_led pm_led an_led cd_led ct_led), sl_led⟩) (c_led : PySem.W.codeIn K cd_led "led" = true) (k_led : PySem.W.keepIn K (.ref f_led) = true)
    {od__law_numbers an__law_numbers : Option Addr} {sl__law_numbers : Array (Option Value)} {oc__law_numbers kV__law_numbers dc__law_numbers pm__law_numbers cd__law_numbers ct__law_numbers : Value} {f__law_numbers : Addr} (a__law_numbers : PySem.W.nsIn K mainGlobals "_law_numbers" = some (some (.ref f__law_numbers))) (l__law_numbers : K.lookup f__law_numbers = some ⟨oc__law_numbers, od__law_numbers, .func (PySem.W.fnOf "_law_numbers" "_law_numbers" (defArgs s__law_numbers) (defBody s__law_numbers) (defScope s__law_numbers) .none kV__law_numbers dc__law_numbers pm__law_numbers an__law_numbers cd__law_numbers ct__law_numbers), sl__law_numbers⟩) (c__law_numbers : PySem.W.codeIn K cd__law_numbers "_law_numbers" = true) (k__law_numbers : PySem.W.keepIn K (.ref f__law_numbers) = true)
    {od__law_is_stair an__law_is_stair : Option Addr} {sl__law_is_stair : Array (Option Value)} {oc__law_is_stair kV__law_is_stair dc__law_is_stair pm__law_is_stair cd__law_is_stair ct__law_is_stair : Value} {f__law_is_stair : Addr} (a__law_is_stair : PySem.W.nsIn K mainGlobals "_law_is_stair" = some (some (.ref f__law_is_stair))) (l__law_is_stair : K.lookup f__law_is_stair = some ⟨oc__law_is_stair, od__law_is_stair, .func (PySem.W.fnOf "_law_is_stair" "_law_is_stair" (defArgs s__law_is_stair) (defBody s__law_is_stair) (defScope s__law_is_stair) .none kV__law_is_stair dc__law_is_stair pm__law_is_stair an__law_is_stair cd__law_is_stair ct__law_is_stair), sl__law_is_stair⟩) (c__law_is_stair : PySem.W.codeIn K cd__law_is_stair "_law_is_stair" = true) (k__law_is_stair : PySem.W.keepIn K (.ref f__law_is_stair) = true)
    {od__law_built an__law_built : Option Addr} {sl__law_built : Array (Option Value)} {oc__law_built kV__law_built dc__law_built pm__law_built cd__law_built ct__law_built : Value} {f__law_built : Addr} (a__law_built : PySem.W.nsIn K mainGlobals "_law_built" = some (some (.ref f__law_built))) (l__law_built : K.lookup f__law_built = some ⟨oc__law_built, od__law_built, .func (PySem.W.fnOf "_law_built" "_law_built" (defArgs s__law_built) (defBody s__law_built) (defScope s__law_built) .none kV__law_built dc__law_built pm__law_built an__law_built cd__law_built ct__law_built), sl__law_built⟩) (c__law_built : PySem.W.codeIn K cd__law_built "_law_built" = true) (k__law_built : PySem.W.keepIn K (.ref f__law_built) = true)
    {od__law_rest an__law_rest : Option Addr} {sl__law_rest : Array (Option Value)} {oc__law_rest kV__law_rest dc__law_rest pm__law_rest cd__law_rest ct__law_rest : Value} {f__law_rest : Addr} (a__law_rest : PySem.W.nsIn K mainGlobals "_law_rest" = some (some (.ref f__law_rest))) (l__law_rest : K.lookup f__law_rest = some ⟨oc__law_rest, od__law_rest, .func (PySem.W.fnOf "_law_rest" "_law_rest" (defArgs s__law_rest) (defBody s__law_rest) (defScope s__law_rest) .none kV__law_rest dc__law_rest pm__law_rest an__law_rest cd__law_rest ct__law_rest), sl__law_rest⟩) (c__law_rest : PySem.W.codeIn K cd__law_rest "_law_rest" = true) (k__law_rest : PySem.W.keepIn K (.ref f__law_rest) = true)
    {od_is_made an_is_made : Option Addr} {sl_is_made : Array (Option Value)} {oc_is_made kV_is_made dc_is_made pm_is_made cd_is_made ct_is_made : Value} {f_is_made : Addr} (a_is_made : PySem.W.nsIn K mainGlobals "is_made" = some (some (.ref f_is_made))) (l_is_made : K.lookup f_is_made = some ⟨oc_is_made, od_is_made, .func (PySem.W.fnOf "is_made" "is_made" (defArgs s_is_made) (defBody s_is_made) (defScope s_is_made) .none kV_is_made dc_is_made pm_is_made an_is_made cd_is_made ct_is_made), sl_is_made⟩) (c_is_made : PySem.W.codeIn K cd_is_made "is_made" = true) (k_is_made : PySem.W.keepIn K (.ref f_is_made) = true)
    {od_law an_law : Option Addr} {sl_law : Array (Option Value)} {oc_law kV_law dc_law pm_law cd_law ct_law : Value} {f_law : Addr} (a_law : PySem.W.nsIn K mainGlobals "law" = some (some (.ref f_law))) (l_law : K.lookup f_law = some ⟨oc_law, od_law, .func (PySem.W.fnOf "law" "law" (defArgs s_law) (defBody s_law) (defScope s_law) .none kV_law dc_law pm_law an_law cd_law ct_law), sl_law⟩) (c_law : PySem.W.codeIn K cd_law "law" = true) (k_law : PySem.W.keepIn K (.ref f_law) = true)
    (z_abs : PySem.W.nsIn K mainGlobals "abs" = some none)
    (z_all : PySem.W.nsIn K mainGlobals "all" = some none)
    (z_bool : PySem.W.nsIn K mainGlobals "bool" = some none)
    (z_int : PySem.W.nsIn K mainGlobals "int" = some none)
    (z_isinstance : PySem.W.nsIn K mainGlobals "isinstance" = some none)
    (z_len : PySem.W.nsIn K mainGlobals "len" = some none)
    (z_list : PySem.W.nsIn K mainGlobals "list" = some none)
    (z_max : PySem.W.nsIn K mainGlobals "max" = some none)
    (z_range : PySem.W.nsIn K mainGlobals "range" = some none)
    (z_tuple : PySem.W.nsIn K mainGlobals "tuple" = some none)
    (z_zip : PySem.W.nsIn K mainGlobals "zip" = some none) :
    ∃ fd : FuncData, (∀ (s : Shared) (v : Value), BindsTo s fd ⟨[v], []⟩ [("script", v)]) ∧ ∀ base : Heap, K.In base → base.Ns mainGlobals mg → FnOk P w K mg base (L2.CX P w) 4 fa fd ["script"] (SpD K (fun _ => 0) 1 m_law) := by
  have e := hfa.symm.trans (PySem.W.mg_of X G a_law)
  cases e
  have T : Txt mg := ⟨PySem.W.mg_none_of X G z_abs, PySem.W.mg_none_of X G z_all, PySem.W.mg_none_of X G z_bool, PySem.W.mg_none_of X G z_int, PySem.W.mg_none_of X G z_isinstance, PySem.W.mg_none_of X G z_len, PySem.W.mg_none_of X G z_list, PySem.W.mg_none_of X G z_max, PySem.W.mg_none_of X G z_range, PySem.W.mg_none_of X G z_tuple, PySem.W.mg_none_of X G z_zip⟩
  have F_blended := fun_mk (st := s_blended) l_blended c_blended k_blended
  have B_blended := F_blended.binds (ps := ["one", "many", "other", "often"]) fun _ _ _ _ _ _ us hl => match us, hl with | [_, _, _, _], _ => rfl
  have F_place_of := fun_mk (st := s_place_of) l_place_of c_place_of k_place_of
  have B_place_of := F_place_of.binds (ps := ["row"]) fun _ _ _ _ _ _ us hl => match us, hl with | [_], _ => rfl
  have F__law_cell_at := fun_mk (st := s__law_cell_at) l__law_cell_at c__law_cell_at k__law_cell_at
  have B__law_cell_at := F__law_cell_at.binds (ps := ["script", "k"]) fun _ _ _ _ _ _ us hl => match us, hl with | [_, _], _ => rfl
  have F__law_whole := fun_mk (st := s__law_whole) l__law_whole c__law_whole k__law_whole
  have B__law_whole := F__law_whole.binds (ps := ["found"]) fun _ _ _ _ _ _ us hl => match us, hl with | [_], _ => rfl
  have F__law_shape := fun_mk (st := s__law_shape) l__law_shape c__law_shape k__law_shape
  have B__law_shape := F__law_shape.binds (ps := ["cell"]) fun _ _ _ _ _ _ us hl => match us, hl with | [_], _ => rfl
  have F__law_most := fun_mk (st := s__law_most) l__law_most c__law_most k__law_most
  have B__law_most := F__law_most.binds (ps := ["cell", "k", "many"]) fun _ _ _ _ _ _ us hl => match us, hl with | [_, _, _], _ => rfl
  have F__law_drawn := fun_mk (st := s__law_drawn) l__law_drawn c__law_drawn k__law_drawn
  have B__law_drawn := F__law_drawn.binds (ps := ["cells", "many", "k", "most"]) fun _ _ _ _ _ _ us hl => match us, hl with | [_, _, _, _], _ => rfl
  have F__law_place := fun_mk (st := s__law_place) l__law_place c__law_place k__law_place
  have B__law_place := F__law_place.binds (ps := ["row"]) fun _ _ _ _ _ _ us hl => match us, hl with | [_], _ => rfl
  have F__law_mixed := fun_mk (st := s__law_mixed) l__law_mixed c__law_mixed k__law_mixed
  have B__law_mixed := F__law_mixed.binds (ps := ["counts", "rows", "k"]) fun _ _ _ _ _ _ us hl => match us, hl with | [_, _, _], _ => rfl
  have F_led := fun_mk (st := s_led) l_led c_led k_led
  have B_led := F_led.binds (ps := ["rungs", "purse"]) fun _ _ _ _ _ _ us hl => match us, hl with | [_, _], _ => rfl
  have F__law_numbers := fun_mk (st := s__law_numbers) l__law_numbers c__law_numbers k__law_numbers
  have B__law_numbers := F__law_numbers.binds (ps := ["found", "many"]) fun _ _ _ _ _ _ us hl => match us, hl with | [_, _], _ => rfl
  have F__law_is_stair := fun_mk (st := s__law_is_stair) l__law_is_stair c__law_is_stair k__law_is_stair
  have B__law_is_stair := F__law_is_stair.binds (ps := ["rows"]) fun _ _ _ _ _ _ us hl => match us, hl with | [_], _ => rfl
  have F__law_built := fun_mk (st := s__law_built) l__law_built c__law_built k__law_built
  have B__law_built := F__law_built.binds (ps := ["cells", "k", "most"]) fun _ _ _ _ _ _ us hl => match us, hl with | [_, _, _], _ => rfl
  have F__law_rest := fun_mk (st := s__law_rest) l__law_rest c__law_rest k__law_rest
  have B__law_rest := F__law_rest.binds (ps := ["rungs", "k", "numbers", "cell"]) fun _ _ _ _ _ _ us hl => match us, hl with | [_, _, _, _], _ => rfl
  have F_is_made := fun_mk (st := s_is_made) l_is_made c_is_made k_is_made
  have B_is_made := F_is_made.binds (ps := ["rungs", "purse"]) fun _ _ _ _ _ _ us hl => match us, hl with | [_, _], _ => rfl
  have F_law := fun_mk (st := s_law) l_law c_law k_law
  have B_law := F_law.binds (ps := ["script"]) fun _ _ _ _ _ _ us hl => match us, hl with | [_], _ => rfl
  refine ⟨PySem.W.fnOf "law" "law" (defArgs s_law) (defBody s_law) (defScope s_law) .none kV_law dc_law pm_law an_law cd_law ct_law, fun s v => .of_eq rfl, fun base _ _ => ?_⟩
  have C_blended := d_blended (P := P) (w := w) (base := base) (cl := fun _ => 0) T F_blended (PySem.W.mg_of X G a_blended) B_blended 
  have C_place_of := d_place_of (P := P) (w := w) (base := base) (cl := fun _ => 0) T F_place_of (PySem.W.mg_of X G a_place_of) B_place_of 
  have C__law_cell_at := d__law_cell_at (P := P) (w := w) (base := base) (cl := fun _ => 0) T F__law_cell_at (PySem.W.mg_of X G a__law_cell_at) B__law_cell_at 
  have C__law_whole := d__law_whole (P := P) (w := w) (base := base) (cl := fun _ => 0) T F__law_whole (PySem.W.mg_of X G a__law_whole) B__law_whole 
  have C__law_shape := d__law_shape (P := P) (w := w) (base := base) (cl := fun _ => 0) T F__law_shape (PySem.W.mg_of X G a__law_shape) B__law_shape 
  have C__law_most := d__law_most (P := P) (w := w) (base := base) (cl := fun _ => 0) T F__law_most (PySem.W.mg_of X G a__law_most) B__law_most 
  have C__law_drawn := d__law_drawn (P := P) (w := w) (base := base) (cl := fun _ => 0) T F__law_drawn (PySem.W.mg_of X G a__law_drawn) B__law_drawn 
  have C__law_place := d__law_place (P := P) (w := w) (base := base) (cl := fun _ => 0) T F__law_place (PySem.W.mg_of X G a__law_place) B__law_place 
  have C__law_mixed := d__law_mixed (P := P) (w := w) (base := base) (cl := fun _ => 0) T F__law_mixed (PySem.W.mg_of X G a__law_mixed) B__law_mixed 
  have C_led := d_led (P := P) (w := w) (base := base) (cl := fun _ => 0) T F_led (PySem.W.mg_of X G a_led) B_led C_place_of C_blended
  have C__law_numbers := d__law_numbers (P := P) (w := w) (base := base) (cl := fun _ => 0) T F__law_numbers (PySem.W.mg_of X G a__law_numbers) B__law_numbers C__law_whole
  have C__law_is_stair := d__law_is_stair (P := P) (w := w) (base := base) (cl := fun _ => 0) T F__law_is_stair (PySem.W.mg_of X G a__law_is_stair) B__law_is_stair C__law_place
  have C__law_built := d__law_built (P := P) (w := w) (base := base) (cl := fun _ => 0) T F__law_built (PySem.W.mg_of X G a__law_built) B__law_built C__law_drawn
  have C__law_rest := d__law_rest (P := P) (w := w) (base := base) (cl := fun _ => 0) T F__law_rest (PySem.W.mg_of X G a__law_rest) B__law_rest C__law_place
  have C_is_made := d_is_made (P := P) (w := w) (base := base) (cl := fun _ => 0) T F_is_made (PySem.W.mg_of X G a_is_made) B_is_made C_place_of C_led
  have C_law := d_law (P := P) (w := w) (base := base) (cl := fun _ => 0) T F_law (PySem.W.mg_of X G a_law) B_law C__law_cell_at C__law_built C__law_rest C_led C_is_made C__law_shape C__law_most C__law_drawn C__law_numbers C__law_mixed
  exact C_law.F
theorem walk {l : PySem.W.OpenLaw} {q : Program} {loose : List Str} {XP : (Str → Option Value) → Heap → Prop} {YP : World → Heap → Prop} {d : DefRec} {K : Params → PySem.W.Frag} (hn : l.most = some 63) (hdf : d.params.defaults = [])
    (hlaw : ∀ ns : List Int, ns.length ≤ 63 → m_law [.scr ns] = .ok (.sh (.bl true)))
    (hY : ∀ (w : World) (h : Heap), YP w h → (K w.params).In h)
    (F : ∀ (w : World) (mg : Str → Option Value) (fa : Addr) (h : Heap), (K w.params).In h → h.Ns mainGlobals mg → mg d.name = some (.ref fa) →
      ∃ fd : FuncData, (∀ (s : Shared) (u : Value), BindsTo s fd ⟨[u], []⟩ [("script", u)]) ∧ ∀ base : Heap, (K w.params).In base → base.Ns mainGlobals mg → FnOk l.prog w (K w.params) mg base (L2.CX l.prog w) 4 fa fd ["script"] (SpD (K w.params) (fun _ => 0) 1 m_law)) :
    PySem.W.WalkO q loose XP YP l.row.toRowW d [] (fun f vs => PySem.call f vs) :=
  law_end hn (by decide) hdf ⟨rfl, by decide, by decide⟩ hlaw hY F
end M
open PySem PySem.W PyProof.Rows
set_option maxRecDepth 100000 in
set_option maxHeartbeats 0 in
theorem PySem.Challenge.cw_swapmart_k10_led_down_holds : PySem.Challenge.rw_swapmart_k10_led_down.Holds := by
  w_on; o_law; k_head; (case hw => w_witness2)
  k_fill
  refine M.walk (l := PySem.Challenge.rw_swapmart_k10_led_down) rfl rfl M.law_true (fun w h Y => PySem.W.kIn_of Y) ?F
  case F =>
    intro w mg fa h KX G hmg
    refine' M.all_mk KX G hmg ?a_blended ?l_blended ?c_blended ?k_blended ?a_place_of ?l_place_of ?c_place_of ?k_place_of ?a__law_cell_at ?l__law_cell_at ?c__law_cell_at ?k__law_cell_at ?a__law_whole ?l__law_whole ?c__law_whole ?k__law_whole ?a__law_shape ?l__law_shape ?c__law_shape ?k__law_shape ?a__law_most ?l__law_most ?c__law_most ?k__law_most ?a__law_drawn ?l__law_drawn ?c__law_drawn ?k__law_drawn ?a__law_place ?l__law_place ?c__law_place ?k__law_place ?a__law_mixed ?l__law_mixed ?c__law_mixed ?k__law_mixed ?a_led ?l_led ?c_led ?k_led ?a__law_numbers ?l__law_numbers ?c__law_numbers ?k__law_numbers ?a__law_is_stair ?l__law_is_stair ?c__law_is_stair ?k__law_is_stair ?a__law_built ?l__law_built ?c__law_built ?k__law_built ?a__law_rest ?l__law_rest ?c__law_rest ?k__law_rest ?a_is_made ?l_is_made ?c_is_made ?k_is_made ?a_law ?l_law ?c_law ?k_law ?z_abs ?z_all ?z_bool ?z_int ?z_isinstance ?z_len ?z_list ?z_max ?z_range ?z_tuple ?z_zip
    (case a_blended => k_is); (case l_blended => k_is); (case c_blended => k_is); (case k_blended => k_is)
    (case a_place_of => k_is); (case l_place_of => k_is); (case c_place_of => k_is); (case k_place_of => k_is)
    (case a__law_cell_at => k_is); (case l__law_cell_at => k_is); (case c__law_cell_at => k_is); (case k__law_cell_at => k_is)
    (case a__law_whole => k_is); (case l__law_whole => k_is); (case c__law_whole => k_is); (case k__law_whole => k_is)
    (case a__law_shape => k_is); (case l__law_shape => k_is); (case c__law_shape => k_is); (case k__law_shape => k_is)
    (case a__law_most => k_is); (case l__law_most => k_is); (case c__law_most => k_is); (case k__law_most => k_is)
    (case a__law_drawn => k_is); (case l__law_drawn => k_is); (case c__law_drawn => k_is); (case k__law_drawn => k_is)
    (case a__law_place => k_is); (case l__law_place => k_is); (case c__law_place => k_is); (case k__law_place => k_is)
    (case a__law_mixed => k_is); (case l__law_mixed => k_is); (case c__law_mixed => k_is); (case k__law_mixed => k_is)
    (case a_led => k_is); (case l_led => k_is); (case c_led => k_is); (case k_led => k_is)
    (case a__law_numbers => k_is); (case l__law_numbers => k_is); (case c__law_numbers => k_is); (case k__law_numbers => k_is)
    (case a__law_is_stair => k_is); (case l__law_is_stair => k_is); (case c__law_is_stair => k_is); (case k__law_is_stair => k_is)
    (case a__law_built => k_is); (case l__law_built => k_is); (case c__law_built => k_is); (case k__law_built => k_is)
    (case a__law_rest => k_is); (case l__law_rest => k_is); (case c__law_rest => k_is); (case k__law_rest => k_is)
    (case a_is_made => k_is); (case l_is_made => k_is); (case c_is_made => k_is); (case k_is_made => k_is)
    (case a_law => k_is); (case l_law => k_is); (case c_law => k_is); (case k_law => k_is)
    (case z_abs => k_is)
    (case z_all => k_is)
    (case z_bool => k_is)
    (case z_int => k_is)
    (case z_isinstance => k_is)
    (case z_len => k_is)
    (case z_list => k_is)
    (case z_max => k_is)
    (case z_range => k_is)
    (case z_tuple => k_is)
    (case z_zip => k_is)
