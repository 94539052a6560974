import PyProof.Rows.All
import Wide.All
import OpenK.AllK
import Wide.FinOn
import HandS.ForMost
import HandS.ForExc
import HandS.Wide
import HandS.IsInst
import HandS.TupLe
import PySem.Challenge.RW_swapmart_k03_purses_summed
set_option Elab.async false
set_option linter.all false
set_option maxRecDepth 100000
set_option maxHeartbeats 4000000
/-! Plain data for values; trees whose lists are one's own; the state of a def by slots. -/
namespace M
open PySem L2
/-- a value with all that hangs on it; scr: the script as it was handed in -/
inductive D where
  | non | bl (b : Bool) | int (i : Int) | str (x : Str) | lst (xs : List D) | tup (xs : List D) | scr (ns : List Int)
/-- a tree whose lst and tup knots are nobody else's; sh: a value that is never changed again -/
inductive O where
  | sh (d : D) | lst (xs : List O) | tup (xs : List O)
mutual
def O.er : O → D
  | .sh d => d
  | .lst xs => .lst (erL xs)
  | .tup xs => .tup (erL xs)
def erL : List O → List D
  | [] => []
  | o :: os => o.er :: erL os
end
theorem erL_map : ∀ os : List O, erL os = os.map O.er
  | [] => rfl
  | o :: os => by rw [erL, erL_map os]; rfl
mutual
inductive Rp (K : PySem.W.Frag) (S : Hp) : V → D → Prop
  | non : Rp K S .non .non
  | bl (b : Bool) : Rp K S (.bl b) (.bl b)
  | int (i : Int) : Rp K S (.int i) (.int i)
  | str (x : Str) : Rp K S (.str x) (.str x)
  | lst {a : Addr} {vs : List V} {ds : List D} : S a = some (.lst vs) → RpL K S vs ds → Rp K S (.ref a) (.lst ds)
  | tup {a : Addr} {vs : List V} {ds : List D} : S a = some (.tup vs) → RpL K S vs ds → Rp K S (.ref a) (.tup ds)
  | scr {a : Addr} {ns : List Int} : SqL K S a (ns.map V.int) → Rp K S (.ref a) (.scr ns)
inductive RpL (K : PySem.W.Frag) (S : Hp) : List V → List D → Prop
  | nil : RpL K S [] []
  | cons {v : V} {vs : List V} {d : D} {ds : List D} : Rp K S v d → RpL K S vs ds → RpL K S (v :: vs) (d :: ds)
end
mutual
inductive Ow (K : PySem.W.Frag) (S H : Hp) : V → O → List Addr → Prop
  | sh {v : V} {d : D} : Rp K S v d → Ow K S H v (.sh d) []
  | lst {a : Addr} {vs : List V} {os : List O} {f : List Addr} : H a = some (.lst vs) → OwL K S H vs os f → Ow K S H (.ref a) (.lst os) (a :: f)
  | tup {a : Addr} {vs : List V} {os : List O} {f : List Addr} : H a = some (.tup vs) → OwL K S H vs os f → Ow K S H (.ref a) (.tup os) (a :: f)
inductive OwL (K : PySem.W.Frag) (S H : Hp) : List V → List O → List Addr → Prop
  | nil : OwL K S H [] [] []
  | cons {v : V} {vs : List V} {o : O} {os : List O} {f g : List Addr} : Ow K S H v o f → OwL K S H vs os g → OwL K S H (v :: vs) (o :: os) (f ++ g)
end
section
variable {K : PySem.W.Frag} {S S' H H' : Hp}
mutual
theorem Rp.mono (e : Same S S') : ∀ {v : V} {d : D}, Rp K S v d → Rp K S' v d
  | _, _, .non => .non
  | _, _, .bl b => .bl b
  | _, _, .int i => .int i
  | _, _, .str x => .str x
  | _, _, .lst h r => .lst (e _ _ h) (RpL.mono e r)
  | _, _, .tup h r => .tup (e _ _ h) (RpL.mono e r)
  | _, _, .scr h => .scr (e.seq h)
theorem RpL.mono (e : Same S S') : ∀ {vs : List V} {ds : List D}, RpL K S vs ds → RpL K S' vs ds
  | _, _, .nil => .nil
  | _, _, .cons h r => .cons (Rp.mono e h) (RpL.mono e r)
end
theorem RpL.length : ∀ {vs : List V} {ds : List D}, RpL K S vs ds → vs.length = ds.length
  | _, _, .nil => rfl
  | _, _, .cons _ r => by rw [List.length_cons, List.length_cons, r.length]
theorem RpL.get : ∀ {vs : List V} {ds : List D} {i : Nat} {d : D}, RpL K S vs ds → ds[i]? = some d → ∃ v, vs[i]? = some v ∧ Rp K S v d
  | _, _, _, _, .nil, e => by simp at e
  | _, _, 0, _, .cons h _, e => by simp at e; subst e; exact ⟨_, rfl, h⟩
  | _, _, i + 1, _, .cons _ r, e => by
    obtain ⟨v, h1, h2⟩ := r.get (i := i) (by simpa using e)
    exact ⟨v, by simpa using h1, h2⟩
theorem RpL.get' : ∀ {vs : List V} {ds : List D} {i : Nat} {v : V}, RpL K S vs ds → vs[i]? = some v → ∃ d, ds[i]? = some d ∧ Rp K S v d
  | _, _, _, _, .nil, e => by simp at e
  | _, _, 0, _, .cons h _, e => by simp at e; subst e; exact ⟨_, rfl, h⟩
  | _, _, i + 1, _, .cons _ r, e => by
    obtain ⟨v, h1, h2⟩ := r.get' (i := i) (by simpa using e)
    exact ⟨v, by simpa using h1, h2⟩
theorem RpL.append : ∀ {vs ws : List V} {ds es : List D}, RpL K S vs ds → RpL K S ws es → RpL K S (vs ++ ws) (ds ++ es)
  | _, _, _, _, .nil, s => s
  | _, _, _, _, .cons h r, s => .cons h (r.append s)
theorem RpL.take : ∀ {vs : List V} {ds : List D} (n : Nat), RpL K S vs ds → RpL K S (vs.take n) (ds.take n)
  | _, _, 0, _ => .nil
  | _, _, _ + 1, .nil => .nil
  | _, _, n + 1, .cons h r => .cons h (r.take n)
theorem RpL.drop : ∀ {vs : List V} {ds : List D} (n : Nat), RpL K S vs ds → RpL K S (vs.drop n) (ds.drop n)
  | _, _, 0, r => r
  | _, _, _ + 1, .nil => .nil
  | _, _, n + 1, .cons _ r => r.drop n
theorem RpL.ints : ∀ (ns : List Int), RpL K S (ns.map V.int) (ns.map D.int)
  | [] => .nil
  | n :: ns => .cons (.int n) (RpL.ints ns)
theorem RpL.bools : ∀ (ns : List Bool), RpL K S (ns.map V.bl) (ns.map D.bl)
  | [] => .nil
  | n :: ns => .cons (.bl n) (RpL.bools ns)
theorem RpL.of_ints : ∀ {ns : List Int} {vs : List V}, RpL K S vs (ns.map D.int) → vs = ns.map V.int
  | [], _, .nil => rfl
  | n :: ns, _, .cons h r => by
    cases h
    rw [RpL.of_ints r]
    rfl
theorem RpL.of_bools : ∀ {ns : List Bool} {vs : List V}, RpL K S vs (ns.map D.bl) → vs = ns.map V.bl
  | [], _, .nil => rfl
  | n :: ns, _, .cons h r => by
    cases h
    rw [RpL.of_bools r]
    rfl
mutual
theorem Ow.mono (e : Same S S') : ∀ {v : V} {o : O} {f : List Addr}, Ow K S H v o f → (∀ b ∈ f, H' b = H b) → Ow K S' H' v o f
  | _, _, _, .sh r, _ => .sh (r.mono e)
  | _, _, _, .lst (a := a) h r, k => .lst ((k a (List.mem_cons_self)).trans h) (OwL.mono e r fun b hb => k b (List.mem_cons_of_mem _ hb))
  | _, _, _, .tup (a := a) h r, k => .tup ((k a (List.mem_cons_self)).trans h) (OwL.mono e r fun b hb => k b (List.mem_cons_of_mem _ hb))
theorem OwL.mono (e : Same S S') : ∀ {vs : List V} {os : List O} {f : List Addr}, OwL K S H vs os f → (∀ b ∈ f, H' b = H b) → OwL K S' H' vs os f
  | _, _, _, .nil, _ => .nil
  | _, _, _, .cons h r, k => .cons (Ow.mono e h fun b hb => k b (List.mem_append_left _ hb)) (OwL.mono e r fun b hb => k b (List.mem_append_right _ hb))
end
mutual
theorem Ow.there : ∀ {v : V} {o : O} {f : List Addr}, Ow K S H v o f → ∀ b ∈ f, H b ≠ none
  | _, _, _, .sh r, b, hb => by cases hb
  | _, _, _, .lst h r, b, hb => by
    rcases List.mem_cons.mp hb with rfl | hb
    · rw [h]; simp
    · exact OwL.there r b hb
  | _, _, _, .tup h r, b, hb => by
    rcases List.mem_cons.mp hb with rfl | hb
    · rw [h]; simp
    · exact OwL.there r b hb
theorem OwL.there : ∀ {vs : List V} {os : List O} {f : List Addr}, OwL K S H vs os f → ∀ b ∈ f, H b ≠ none
  | _, _, _, .nil, b, hb => by cases hb
  | _, _, _, .cons h r, b, hb => by
    rcases List.mem_append.mp hb with hb | hb
    · exact Ow.there h b hb
    · exact OwL.there r b hb
end
mutual
theorem Ow.rp {T : Hp} (e : Same S T) : ∀ {v : V} {o : O} {f : List Addr}, Ow K S H v o f → (∀ b ∈ f, T b = H b) → Rp K T v o.er
  | _, _, _, .sh r, _ => r.mono e
  | _, _, _, .lst (a := a) h r, k => .lst ((k a (List.mem_cons_self)).trans h) (OwL.rp e r fun b hb => k b (List.mem_cons_of_mem _ hb))
  | _, _, _, .tup (a := a) h r, k => .tup ((k a (List.mem_cons_self)).trans h) (OwL.rp e r fun b hb => k b (List.mem_cons_of_mem _ hb))
theorem OwL.rp {T : Hp} (e : Same S T) : ∀ {vs : List V} {os : List O} {f : List Addr}, OwL K S H vs os f → (∀ b ∈ f, T b = H b) → RpL K T vs (erL os)
  | _, _, _, .nil, _ => .nil
  | _, _, _, .cons h r, k => .cons (Ow.rp e h fun b hb => k b (List.mem_append_left _ hb)) (OwL.rp e r fun b hb => k b (List.mem_append_right _ hb))
end
theorem OwL.length : ∀ {vs : List V} {os : List O} {f : List Addr}, OwL K S H vs os f → vs.length = os.length
  | _, _, _, .nil => rfl
  | _, _, _, .cons _ r => by rw [List.length_cons, List.length_cons, r.length]
theorem OwL.append : ∀ {vs ws : List V} {os ps : List O} {f g : List Addr}, OwL K S H vs os f → OwL K S H ws ps g → OwL K S H (vs ++ ws) (os ++ ps) (f ++ g)
  | _, _, _, _, _, _, .nil, s => s
  | _, _, _, _, _, _, .cons h r, s => by
    rw [List.append_assoc]
    exact .cons h (r.append s)
theorem OwL.shs : ∀ {vs : List V} {ds : List D}, RpL K S vs ds → OwL K S H vs (ds.map O.sh) []
  | _, _, .nil => .nil
  | _, _, .cons h r => by
    have := OwL.cons (.sh h) (OwL.shs r)
    simpa using this
theorem OwL.get : ∀ {vs : List V} {os : List O} {f : List Addr} {i : Nat} {o : O}, OwL K S H vs os f → os[i]? = some o → ∃ v f1 g f2, vs[i]? = some v ∧ f = f1 ++ g ++ f2 ∧ Ow K S H v o g ∧
    ∀ (S' H' : Hp) (v' : V) (o' : O) (g' : List Addr), Same S S' → (∀ b ∈ f1 ++ f2, H' b = H b) → Ow K S' H' v' o' g' → OwL K S' H' (vs.set i v') (os.set i o') (f1 ++ g' ++ f2)
  | _, _, _, _, _, .nil, e => by simp at e
  | _, _, _, 0, _, .cons (f := f) (g := g) h r, e => by
    simp at e; subst e
    refine ⟨_, [], f, g, rfl, by simp, h, fun S' H' v' o' g' e k w => ?_⟩
    have := OwL.cons w (OwL.mono e r fun b hb => k b (by simpa using hb))
    simpa using this
  | _, _, _, i + 1, _, .cons (f := f) (g := g) h r, e => by
    obtain ⟨v, f1, g1, f2, h1, h2, h3, h4⟩ := r.get (i := i) (by simpa using e)
    refine ⟨v, f ++ f1, g1, f2, by simpa using h1, by rw [h2]; simp, h3, fun S' H' v' o' g' e k w => ?_⟩
    have q := h4 S' H' v' o' g' e (fun b hb => k b (by simp only [List.mem_append] at hb ⊢; rcases hb with z | z; exact .inl (.inr z); exact .inr z)) w
    have := OwL.cons (Ow.mono e h fun b hb => k b (by simp only [List.mem_append]; exact .inl (.inl hb))) q
    simpa [List.append_assoc] using this
/-- a new address in a heap -/
theorem same_upd {H : Hp} {p : Addr} {o : HO} (h : H p = none) : Same H (upd H p o) := fun b u e => by
  rw [upd_ne (ne_of_none e h)]; exact e
theorem upd_keep {H : Hp} {p b : Addr} {o : HO} (h : H p = none) (hb : H b ≠ none) : upd H p o b = H b := upd_ne fun e => hb (e ▸ h)
/-- S with what H has at f -/
def frz (f : List Addr) (S H : Hp) : Hp := fun b => if b ∈ f then H b else S b
theorem frz_in {f : List Addr} {S H : Hp} {b : Addr} (h : b ∈ f) : frz f S H b = H b := if_pos h
theorem frz_out {f : List Addr} {S H : Hp} {b : Addr} (h : b ∉ f) : frz f S H b = S b := if_neg h
theorem frz_same {f : List Addr} {S H : Hp} (h : ∀ b ∈ f, S b = none) : Same S (frz f S H) := fun b o e => by
  by_cases hb : b ∈ f
  · rw [h b hb] at e; cases e
  · rw [frz_out hb]; exact e
theorem frz_low {f : List Addr} {S H : Hp} (e : Same S H) : Same (frz f S H) H := fun b o h => by
  by_cases hb : b ∈ f
  · rw [frz_in hb] at h; exact h
  · rw [frz_out hb] at h; exact e b o h
theorem frz_mono {f : List Addr} {S T H : Hp} (e : Same S T) : Same (frz f S H) (frz f T H) := fun b o h => by
  by_cases hb : b ∈ f
  · rw [frz_in hb] at h ⊢; exact h
  · rw [frz_out hb] at h ⊢; exact e b o h
/-- the slots -/
inductive OwSt (K : PySem.W.Frag) (S H : Hp) : St → List (Option O) → List Addr → Prop
  | nil : OwSt K S H [] [] []
  | none {v : Option V} {σ : St} {st : List (Option O)} {f : List Addr} : OwSt K S H σ st f → OwSt K S H (v :: σ) (none :: st) f
  | some {v : V} {o : O} {σ : St} {st : List (Option O)} {f g : List Addr} : Ow K S H v o f → OwSt K S H σ st g → OwSt K S H (some v :: σ) (some o :: st) (f ++ g)
theorem OwSt.mono (e : Same S S') : ∀ {σ : St} {st : List (Option O)} {f : List Addr}, OwSt K S H σ st f → (∀ b ∈ f, H' b = H b) → OwSt K S' H' σ st f
  | _, _, _, .nil, _ => .nil
  | _, _, _, .none r, k => .none (r.mono e k)
  | _, _, _, .some h r, k => .some (h.mono e fun b hb => k b (List.mem_append_left _ hb)) (r.mono e fun b hb => k b (List.mem_append_right _ hb))
theorem OwSt.there : ∀ {σ : St} {st : List (Option O)} {f : List Addr}, OwSt K S H σ st f → ∀ b ∈ f, H b ≠ Option.none
  | _, _, _, .nil, b, hb => by cases hb
  | _, _, _, .none r, b, hb => r.there b hb
  | _, _, _, .some h r, b, hb => by
    rcases List.mem_append.mp hb with hb | hb
    · exact h.there b hb
    · exact r.there b hb
theorem OwSt.length : ∀ {σ : St} {st : List (Option O)} {f : List Addr}, OwSt K S H σ st f → σ.length = st.length
  | _, _, _, .nil => rfl
  | _, _, _, .none r => by rw [List.length_cons, List.length_cons, r.length]
  | _, _, _, .some _ r => by rw [List.length_cons, List.length_cons, r.length]
theorem OwSt.get : ∀ {σ : St} {st : List (Option O)} {f : List Addr} {i : Nat} {o : O}, OwSt K S H σ st f → st[i]? = Option.some (Option.some o) → ∃ v f1 g f2, σ[i]? = Option.some (Option.some v) ∧ f = f1 ++ g ++ f2 ∧ Ow K S H v o g ∧
    (∀ (S' H' : Hp) (v' : V) (o' : O) (g' : List Addr), Same S S' → (∀ b ∈ f1 ++ f2, H' b = H b) → Ow K S' H' v' o' g' → OwSt K S' H' (σ.set i (Option.some v')) (st.set i (Option.some o')) (f1 ++ g' ++ f2)) ∧
    ∀ (S' H' : Hp) (v' : Option V), Same S S' → (∀ b ∈ f1 ++ f2, H' b = H b) → OwSt K S' H' (σ.set i v') (st.set i Option.none) (f1 ++ f2)
  | _, _, _, _, _, .nil, e => by simp at e
  | _, _, _, 0, _, .none r, e => by simp at e
  | _, _, _, i + 1, _, .none (v := w) r, e => by
    obtain ⟨v, f1, g1, f2, h1, h2, h3, h4, h5⟩ := r.get (i := i) (by simpa using e)
    exact ⟨v, f1, g1, f2, by simpa using h1, h2, h3, fun S' H' v' o' g' e k w' => .none (h4 S' H' v' o' g' e k w'), fun S' H' v' e k => .none (h5 S' H' v' e k)⟩
  | _, _, _, 0, _, .some (f := f) (g := g) h r, e => by
    simp at e; subst e
    refine ⟨_, [], f, g, rfl, by simp, h, fun S' H' v' o' g' e k w => ?_, fun S' H' v' e k => ?_⟩
    · have := OwSt.some w (r.mono e fun b hb => k b (by simpa using hb))
      simpa using this
    · have := OwSt.none (v := v') (r.mono e fun b hb => k b (by simpa using hb))
      simpa using this
  | _, _, _, i + 1, _, .some (f := f) (g := g) h r, e => by
    obtain ⟨v, f1, g1, f2, h1, h2, h3, h4, h5⟩ := r.get (i := i) (by simpa using e)
    refine ⟨v, f ++ f1, g1, f2, by simpa using h1, by rw [h2]; simp, h3, fun S' H' v' o' g' e k w => ?_, fun S' H' v' e k => ?_⟩
    · have q := h4 S' H' v' o' g' e (fun b hb => k b (by simp only [List.mem_append] at hb ⊢; rcases hb with z | z; exact .inl (.inr z); exact .inr z)) w
      have := OwSt.some (h.mono e fun b hb => k b (by simp only [List.mem_append]; exact .inl (.inl hb))) q
      simpa [List.append_assoc] using this
    · have q := h5 S' H' v' e (fun b hb => k b (by simp only [List.mem_append] at hb ⊢; rcases hb with z | z; exact .inl (.inr z); exact .inr z))
      have := OwSt.some (h.mono e fun b hb => k b (by simp only [List.mem_append]; exact .inl (.inl hb))) q
      simpa [List.append_assoc] using this
/-- a slot is filled anew -/
theorem OwSt.set : ∀ {σ : St} {st : List (Option O)} {f : List Addr} {i : Nat}, OwSt K S H σ st f → i < st.length → ∃ f1 g f2, f = f1 ++ g ++ f2 ∧
    (∀ (S' H' : Hp) (v' : V) (o' : O) (g' : List Addr), Same S S' → (∀ b ∈ f1 ++ f2, H' b = H b) → Ow K S' H' v' o' g' → OwSt K S' H' (σ.set i (Option.some v')) (st.set i (Option.some o')) (f1 ++ g' ++ f2)) ∧
    ∀ (S' H' : Hp) (v' : Option V), Same S S' → (∀ b ∈ f1 ++ f2, H' b = H b) → OwSt K S' H' (σ.set i v') (st.set i Option.none) (f1 ++ f2)
  | _, _, _, _, .nil, e => by simp at e
  | _, _, _, 0, .none (f := f) r, e => by
    refine ⟨[], [], f, by simp, fun S' H' v' o' g' e k w => ?_, fun S' H' v' e k => ?_⟩
    · have := OwSt.some w (r.mono e fun b hb => k b (by simpa using hb))
      simpa using this
    · have := OwSt.none (v := v') (r.mono e fun b hb => k b (by simpa using hb))
      simpa using this
  | _, _, _, i + 1, .none r, e => by
    obtain ⟨f1, g1, f2, h2, h4, h5⟩ := r.set (i := i) (by simpa using e)
    exact ⟨f1, g1, f2, h2, fun S' H' v' o' g' e k w' => .none (h4 S' H' v' o' g' e k w'), fun S' H' v' e k => .none (h5 S' H' v' e k)⟩
  | _, _, _, 0, .some (f := f) (g := g) h r, e => by
    refine ⟨[], f, g, by simp, fun S' H' v' o' g' e k w => ?_, fun S' H' v' e k => ?_⟩
    · have := OwSt.some w (r.mono e fun b hb => k b (by simpa using hb))
      simpa using this
    · have := OwSt.none (v := v') (r.mono e fun b hb => k b (by simpa using hb))
      simpa using this
  | _, _, _, i + 1, .some (f := f) (g := g) h r, e => by
    obtain ⟨f1, g1, f2, h2, h4, h5⟩ := r.set (i := i) (by simpa using e)
    refine ⟨f ++ f1, g1, f2, by rw [h2]; simp, fun S' H' v' o' g' e k w => ?_, fun S' H' v' e k => ?_⟩
    · have q := h4 S' H' v' o' g' e (fun b hb => k b (by simp only [List.mem_append] at hb ⊢; rcases hb with z | z; exact .inl (.inr z); exact .inr z)) w
      have := OwSt.some (h.mono e fun b hb => k b (by simp only [List.mem_append]; exact .inl (.inl hb))) q
      simpa [List.append_assoc] using this
    · have q := h5 S' H' v' e (fun b hb => k b (by simp only [List.mem_append] at hb ⊢; rcases hb with z | z; exact .inl (.inr z); exact .inr z))
      have := OwSt.some (h.mono e fun b hb => k b (by simp only [List.mem_append]; exact .inl (.inl hb))) q
      simpa [List.append_assoc] using this
end
/-- S: what is read and stays; T: what is left alone; the slots' own trees stand outside T -/
structure RS (K : PySem.W.Frag) (S T : Hp) (st : List (Option O)) (σ : St) (H : Hp) : Prop where
  lo : Same S T
  th : Same T H
  own : ∃ f, OwSt K S H σ st f ∧ f.Nodup ∧ ∀ b ∈ f, T b = none
theorem RS.sh {K S T st σ H} (r : RS K S T st σ H) : Same S H := r.lo.trans r.th
/-- behind an expression: what is new is read, or left alone -/
structure Ext (S T H S' T' : Hp) : Prop where
  s : Same S S'
  t : Same T T'
  old : ∀ b, H b ≠ none → S' b = S b ∧ T' b = T b
theorem Ext.refl {S T H : Hp} : Ext S T H S T := ⟨Same.refl _, Same.refl _, fun _ _ => ⟨rfl, rfl⟩⟩
theorem Ext.trans {S T H S1 T1 H1 S2 T2 : Hp} (a : Ext S T H S1 T1) (h : Same H H1) (b : Ext S1 T1 H1 S2 T2) : Ext S T H S2 T2 :=
  ⟨a.s.trans b.s, a.t.trans b.t, fun c hc => by
    have h1 : H1 c ≠ none := by
      cases e : H c with
      | none => exact absurd e hc
      | some o => rw [h c o e]; simp
    obtain ⟨p, q⟩ := a.old c hc
    obtain ⟨p', q'⟩ := b.old c h1
    exact ⟨p'.trans p, q'.trans q⟩⟩
/-- behind a statement -/
structure Ex3 (S T S' T' : Hp) : Prop where
  s : Same S S'
  t : Same T T'
  old : ∀ b, T b ≠ none → S' b = S b
theorem Ex3.refl {S T : Hp} : Ex3 S T S T := ⟨Same.refl _, Same.refl _, fun _ _ => rfl⟩
theorem Ex3.trans {S T S1 T1 S2 T2 : Hp} (a : Ex3 S T S1 T1) (b : Ex3 S1 T1 S2 T2) : Ex3 S T S2 T2 :=
  ⟨a.s.trans b.s, a.t.trans b.t, fun c hc => by
    have h1 : T1 c ≠ none := by
      cases e : T c with
      | none => exact absurd e hc
      | some o => rw [a.t c o e]; simp
    exact (b.old c h1).trans (a.old c hc)⟩
theorem Ext.ex3 {S T H S' T' : Hp} (a : Ext S T H S' T') (h : Same T H) : Ex3 S T S' T' := ⟨a.s, a.t, fun b hb => by
  cases e : T b with
  | none => exact absurd e hb
  | some o => exact (a.old b (by rw [h b o e]; simp)).1⟩
theorem RS.mono {K S T st σ H H'} (r : RS K S T st σ H) (h : Same H H') : RS K S T st σ H' := by
  obtain ⟨f, w, nd, k⟩ := r.own
  refine ⟨r.lo, r.th.trans h, f, w.mono (Same.refl _) fun b hb => ?_, nd, k⟩
  have := w.there b hb
  cases e : H b with
  | none => exact absurd e this
  | some o => exact h b o e
theorem RS.ext {K S T st σ H S' T' H'} (r : RS K S T st σ H) (h : Same H H') (x : Ext S T H S' T') (st' : Same S' T') (th' : Same T' H') : RS K S' T' st σ H' := by
  obtain ⟨f, w, nd, k⟩ := r.own
  refine ⟨st', th', f, w.mono x.s fun b hb => ?_, nd, fun b hb => ?_⟩
  · have := w.there b hb
    cases e : H b with
    | none => exact absurd e this
    | some o => exact h b o e
  · rw [(x.old b (w.there b hb)).2]; exact k b hb
theorem same_ne {H H' : Hp} (h : Same H H') {b : Addr} (e : H b ≠ none) : H' b = H b := by
  cases q : H b with
  | none => exact absurd q e
  | some o => exact h b o q
/-- a slot takes a new tree -/
theorem RS.set {K S T st σ H} {i : Nat} {v : V} {o : O} {g : List Addr} (r : RS K S T st σ H) (hi : i < st.length) (w : Ow K S H v o g) (nd : g.Nodup) (hg : ∀ b ∈ g, T b = none)
    (dj : ∀ f, OwSt K S H σ st f → ∀ b ∈ g, b ∉ f) : RS K S T (st.set i (some o)) (σ.set i (some v)) H := by
  obtain ⟨f, ws, ndf, k⟩ := r.own
  obtain ⟨f1, g0, f2, e, h4, h5⟩ := ws.set hi
  have d := dj f ws
  subst e
  refine ⟨r.lo, r.th, f1 ++ g ++ f2, h4 S H v o g (Same.refl _) (fun _ _ => rfl) w, ?_, fun b hb => ?_⟩
  · simp only [List.nodup_append, List.mem_append] at ndf d ⊢
    obtain ⟨⟨n1, n2, n3⟩, n4, n5⟩ := ndf
    refine ⟨⟨n1, nd, fun a ha b hb e => d b hb (e ▸ .inl (.inl ha))⟩, n4, fun a ha b hb e => ?_⟩
    rcases ha with ha | ha
    · exact n5 a (.inl ha) b hb e
    · exact d a ha (e ▸ .inr hb)
  · simp only [List.mem_append] at hb k
    rcases hb with (hb | hb) | hb
    · exact k b (.inl (.inl hb))
    · exact hg b hb
    · exact k b (.inr hb)
theorem RS.setSh {K S T st σ H} {i : Nat} {v : V} {d : D} (r : RS K S T st σ H) (hi : i < st.length) (w : Rp K S v d) : RS K S T (st.set i (some (.sh d))) (σ.set i (some v)) H :=
  r.set hi (.sh w) .nil (fun b hb => by cases hb) fun _ _ b hb => by cases hb
/-- fresh addresses are in no slot -/
theorem OwSt.fresh {K : PySem.W.Frag} {S H H' : Hp} {σ : St} {st : List (Option O)} {f g : List Addr} (w : OwSt K S H' σ st f) (h : ∀ b ∈ g, H b = Option.none) (k : ∀ b ∈ f, H b ≠ Option.none) : ∀ b ∈ g, b ∉ f := fun b hb hf => k b hf (h b hb)
end M

/-! What an expression, a test, a statement is worth over the slots; the judgements. -/
namespace M
open PySem L2
/-- a value, an own error by its class's name, or nothing is told -/
inductive Rs (α : Type) where
  | ok (a : α) | ex (c : Str) | bad
def Rs.bind {α β : Type} : Rs α → (α → Rs β) → Rs β
  | .ok a, f => f a
  | .ex c, _ => .ex c
  | .bad, _ => .bad
instance : Monad Rs where
  pure := .ok
  bind := Rs.bind
theorem ok_bind {α β : Type} (a : α) (f : α → Rs β) : (Rs.ok a >>= f) = f a := rfl
theorem ex_bind {α β : Type} (c : Str) (f : α → Rs β) : ((Rs.ex c : Rs α) >>= f) = .ex c := rfl
theorem bad_bind {α β : Type} (f : α → Rs β) : ((Rs.bad : Rs α) >>= f) = .bad := rfl
abbrev Sl := List (Option O)
inductive Fl where
  | nx (st : Sl) | rt (o : O) | bk (st : Sl) | ct (st : Sl) | ex (c : Str) | bad
def Fl.thn : Fl → (Sl → Fl) → Fl
  | .nx st, f => f st
  | r, _ => r
abbrev Cl := Str → Addr
/-- slots whose value stays; whether one's own tree in slot 0 is handed back -/
structure Ps where
  pi : List Nat
  io : Bool
def Ps.no : Ps := ⟨[], false⟩
def Ps.okAt (sh : Ps) (i : Nat) : Bool := sh.pi.all fun p => p != i
def Pin (sh : Ps) (pv : Nat → V) (σ : St) : Prop := ∀ i ∈ sh.pi, σ[i]? = some (some (pv i))
def RtO (K : PySem.W.Frag) (S H : Hp) (io : Option V) (v : V) (o : O) (g : List Addr) : Prop := match io with
  | none => Ow K S H v o g
  | some u => ∃ os, o = .tup os ∧ OwL K S H [v, u] os g
def ioV (sh : Ps) (pv : Nat → V) : Option V := if sh.io = true then some (pv 0) else none
theorem Pin.set {sh : Ps} {pv : Nat → V} {σ : St} (h : Pin sh pv σ) {i : Nat} (hi : sh.okAt i = true) (v : Option V) : Pin sh pv (σ.set i v) := fun p hp => by
  have := List.all_eq_true.mp hi p hp
  rw [List.getElem?_set_ne fun e => by rw [e] at this; simp at this]
  exact h p hp
theorem Pin.keep {sh : Ps} {pv : Nat → V} {σ σ' : St} (h : Pin sh pv σ) {vs : List Nat} (hv : vs.all (fun i => sh.okAt i) = true) (k : ∀ k, k ∉ vs → σ'[k]? = σ[k]?) : Pin sh pv σ' := fun p hp => by
  rw [k p fun z => by
    have := List.all_eq_true.mp (List.all_eq_true.mp hv p z) p hp
    simp at this]
  exact h p hp
section
variable (K : PySem.W.Frag) (cl : Cl) (W : WX)
def PV (σ : St) (H : Hp) (r : Rs D) (Q : VK) : Prop := match r with
  | .ok d => ∀ v H', Same H H' → Rp K H' v d → Q v H'
  | .ex c => ∀ H', Same H H' → W (.ref (cl c)) none σ H'
  | .bad => False
def PVs (σ : St) (H : Hp) (r : Rs (List D)) (Q : List V → Hp → Prop) : Prop := match r with
  | .ok ds => ∀ vs H', Same H H' → RpL K H' vs ds → Q vs H'
  | .ex c => ∀ H', Same H H' → W (.ref (cl c)) none σ H'
  | .bad => False
def PB (σ : St) (H : Hp) (r : Rs Bool) (Q : Bool → Hp → Prop) : Prop := match r with
  | .ok b => ∀ H', Same H H' → Q b H'
  | .ex c => ∀ H', Same H H' → W (.ref (cl c)) none σ H'
  | .bad => False
def PP (S T : Hp) (σ : St) (H : Hp) (r : Rs D) (Q : VK) : Prop := match r with
  | .ok d => ∀ v S' T' H', Same H H' → Ext S T H S' T' → Same S' T' → Same T' H' → Rp K S' v d → Q v H'
  | .ex c => ∀ H', Same H H' → W (.ref (cl c)) none σ H'
  | .bad => False
def PPs (S T : Hp) (σ : St) (H : Hp) (r : Rs (List D)) (Q : List V → Hp → Prop) : Prop := match r with
  | .ok ds => ∀ vs S' T' H', Same H H' → Ext S T H S' T' → Same S' T' → Same T' H' → RpL K S' vs ds → Q vs H'
  | .ex c => ∀ H', Same H H' → W (.ref (cl c)) none σ H'
  | .bad => False
def PF (S T : Hp) (σ : St) (H : Hp) (r : Rs O) (Q : VK) : Prop := match r with
  | .ok o => ∀ v S' T' H' g, Same H H' → Ext S T H S' T' → Same S' T' → Same T' H' → Ow K S' H' v o g → g.Nodup → (∀ b ∈ g, T' b = none ∧ H b = none) → Q v H'
  | .ex c => ∀ H', Same H H' → W (.ref (cl c)) none σ H'
  | .bad => False
def PFs (S T : Hp) (σ : St) (H : Hp) (r : Rs (List O)) (Q : List V → Hp → Prop) : Prop := match r with
  | .ok os => ∀ vs S' T' H' g, Same H H' → Ext S T H S' T' → Same S' T' → Same T' H' → OwL K S' H' vs os g → g.Nodup → (∀ b ∈ g, T' b = none ∧ H b = none) → Q vs H'
  | .ex c => ∀ H', Same H H' → W (.ref (cl c)) none σ H'
  | .bad => False
def PSt (sh : Ps) (pv : Nat → V) (S T : Hp) (r : Fl) (E : Ends) : Prop := match r with
  | .nx st => ∀ S' T' σ H, Ex3 S T S' T' → RS K S' T' st σ H → Pin sh pv σ → E.nx σ H
  | .bk st => ∀ S' T' σ H, Ex3 S T S' T' → RS K S' T' st σ H → Pin sh pv σ → E.bk σ H
  | .ct st => ∀ S' T' σ H, Ex3 S T S' T' → RS K S' T' st σ H → Pin sh pv σ → E.ct σ H
  | .rt o => ∀ v S' T' H g, Ex3 S T S' T' → Same S' T' → Same T' H → RtO K S' H (ioV sh pv) v o g → g.Nodup → (∀ b ∈ g, T' b = none) → E.rt v H
  | .ex c => ∀ σ T' H, Same T T' → Same T' H → W (.ref (cl c)) none σ H
  | .bad => False
end
section
variable (K : PySem.W.Frag) (W : WX) (cl : Cl)
/-- R t: t is the reading of the expression (R := PE X e), or of a statement around it -/
structure EV (R : TE → Prop) (f : Sl → Rs D) : Prop where
  ex : ∃ t, R t ∧ ∀ S T st σ H Q, RS K S T st σ H → PV K cl W σ H (f st) Q → t σ H Q
structure EVs (R : TA → Prop) (f : Sl → Rs (List D)) : Prop where
  ex : ∃ t, R t ∧ ∀ S T st σ H Q, RS K S T st σ H → PVs K cl W σ H (f st) Q → t σ H Q
structure ET (R : TT → Prop) (f : Sl → Rs Bool) : Prop where
  ex : ∃ t, R t ∧ ∀ S T st σ H Q, RS K S T st σ H → PB cl W σ H (f st) Q → t σ H Q
structure EP (R : TE → Prop) (f : Sl → Rs D) : Prop where
  ex : ∃ t, R t ∧ ∀ S T st σ H Q, RS K S T st σ H → PP K cl W S T σ H (f st) Q → t σ H Q
structure EPs (R : TA → Prop) (f : Sl → Rs (List D)) : Prop where
  ex : ∃ t, R t ∧ ∀ S T st σ H Q, RS K S T st σ H → PPs K cl W S T σ H (f st) Q → t σ H Q
structure EF (R : TE → Prop) (f : Sl → Rs O) : Prop where
  ex : ∃ t, R t ∧ ∀ S T st σ H Q, RS K S T st σ H → PF K cl W S T σ H (f st) Q → t σ H Q
structure EFs (R : TA → Prop) (f : Sl → Rs (List O)) : Prop where
  ex : ∃ t, R t ∧ ∀ S T st σ H Q, RS K S T st σ H → PFs K cl W S T σ H (f st) Q → t σ H Q
end
/-! over a family of contexts (a comprehension's block stands in many) -/
section
variable {ι : Type} (X : ι → Cx)
abbrev PEf (e : Expr) : TE → Prop := fun t => ∀ z, PE (X z) e t
abbrev PTf (e : Expr) : TT → Prop := fun t => ∀ z, PT (X z) e t
abbrev PWf (e : Expr) : TT → Prop := fun t => ∀ z, PW (X z) e t
abbrev PAf (es : List Expr) : TA → Prop := fun t => ∀ z, PA (X z) es t
abbrev POf (e : Option Expr) : TO → Prop := fun t => ∀ z, PO (X z) e t
abbrev PGf (e : Expr) : TG → Prop := fun t => ∀ z, PG (X z) e t
abbrev PGsf (es : List Expr) : TGs → Prop := fun t => ∀ z, PGs (X z) es t
abbrev PIf (tg e : Expr) : TI → Prop := fun t => ∀ z, PI (X z) tg e t
abbrev PTsf (es : List Expr) : TT → Prop := fun t => ∀ z, PTs (X z) es t
abbrev PSf (s : Stmt) : TS → Prop := fun t => ∀ z, PS (X z) s t
abbrev PSsf (s : List Stmt) : TS → Prop := fun t => ∀ z, PSs (X z) s t
end
section
variable (K : PySem.W.Frag) (W : WX) (cl : Cl)
structure SJ (sh : Ps) (R : TS → Prop) (f : Sl → Fl) : Prop where
  ex : ∃ t, R t ∧ ∀ pv S T st σ H E, RS K S T st σ H → Pin sh pv σ → PSt K cl W sh pv S T (f st) E → t E σ H
end
section
variable {X : Cx} {W : WX} {cl : Cl} {K : PySem.W.Frag} {sh : Ps} {pv : Nat → V}
theorem PSt.mono {S T S' T' : Hp} {r : Fl} {E : Ends} (x : Ex3 S T S' T') (h : PSt K cl W sh pv S T r E) : PSt K cl W sh pv S' T' r E := by
  cases r with
  | nx st => exact fun S2 T2 σ H y => h S2 T2 σ H (x.trans y)
  | bk st => exact fun S2 T2 σ H y => h S2 T2 σ H (x.trans y)
  | ct st => exact fun S2 T2 σ H y => h S2 T2 σ H (x.trans y)
  | rt o => exact fun v S2 T2 H g y => h v S2 T2 H g (x.trans y)
  | ex c => exact fun σ T2 H y => h σ T2 H (x.t.trans y)
  | bad => exact h
theorem PV.mono {σ : St} {H H' : Hp} {r : Rs D} {Q : VK} (x : Same H H') (h : PV K cl W σ H r Q) : PV K cl W σ H' r Q := by
  cases r with
  | ok d => exact fun v H2 y => h v H2 (x.trans y)
  | ex c => exact fun H2 y => h H2 (x.trans y)
  | bad => exact h
/-! ### what an expression is worth, taken so or so -/
def prim : D → Bool
  | .non | .bl _ | .int _ | .str _ => true
  | _ => false
def asPrim (r : Rs D) : Rs D := r.bind fun d => if prim d then .ok d else .bad
theorem Rp.prim {S S' : Hp} {v : V} {d : D} (h : Rp K S v d) (p : prim d = true) : Rp K S' v d := by
  cases h with
  | non => exact .non
  | bl b => exact .bl b
  | int i => exact .int i
  | str x => exact .str x
  | lst _ _ => cases p
  | tup _ _ => cases p
  | scr _ => cases p
/-- a number, a truth, a text, None may be kept -/
theorem EV.prm {R : TE → Prop} {f : Sl → Rs D} (h : EV K W cl R f) : EP K W cl R fun st => asPrim (f st) := by
  obtain ⟨t, pt, k⟩ := h.ex
  refine ⟨t, pt, fun S T st σ H Q r q => k S T st σ H Q r ?_⟩
  show PV _ _ _ _ _ _ _
  have q : PP K cl W S T σ H (asPrim (f st)) Q := q
  revert q
  cases f st with
  | bad => exact fun q => q
  | ex c => exact fun q => q
  | ok d =>
    intro q v H' hs rp
    have e1 : asPrim (.ok d) = if prim d = true then .ok d else .bad := rfl
    rw [e1] at q
    by_cases p : prim d = true
    · rw [if_pos p] at q
      exact q v S T H' hs .refl r.lo (r.th.trans hs) (rp.prim p)
    · rw [if_neg p] at q
      exact q.elim
/-- what stays may be looked at -/
theorem EP.v {R : TE → Prop} {f : Sl → Rs D} (h : EP K W cl R f) : EV K W cl R f := by
  obtain ⟨t, pt, k⟩ := h.ex
  refine ⟨t, pt, fun S T st σ H Q r q => k S T st σ H Q r ?_⟩
  revert q
  cases f st with
  | bad => exact fun q => q
  | ex c => exact fun q => q
  | ok d => exact fun q v S' T' H' hs _ h1 h2 rp => q v H' hs (rp.mono (h1.trans h2))
theorem EPs.v {R : TA → Prop} {f : Sl → Rs (List D)} (h : EPs K W cl R f) : EVs K W cl R f := by
  obtain ⟨t, pt, k⟩ := h.ex
  refine ⟨t, pt, fun S T st σ H Q r q => k S T st σ H Q r ?_⟩
  revert q
  cases f st with
  | bad => exact fun q => q
  | ex c => exact fun q => q
  | ok d => exact fun q v S' T' H' hs _ h1 h2 rp => q v H' hs (rp.mono (h1.trans h2))
/-- what stays is a tree without own knots -/
def mapRs {α β : Type} (g : α → β) : Rs α → Rs β
  | .ok a => .ok (g a)
  | .ex c => .ex c
  | .bad => .bad
theorem EP.f {R : TE → Prop} {f : Sl → Rs D} (h : EP K W cl R f) : EF K W cl R fun st => mapRs O.sh (f st) := by
  obtain ⟨t, pt, k⟩ := h.ex
  refine ⟨t, pt, fun S T st σ H Q r q => k S T st σ H Q r ?_⟩
  have q : PF K cl W S T σ H (mapRs O.sh (f st)) Q := q
  revert q
  cases f st with
  | bad => exact fun q => q
  | ex c => exact fun q => q
  | ok d => exact fun q v S' T' H' hs x h1 h2 rp => q v S' T' H' [] hs x h1 h2 (.sh rp) .nil fun b hb => by cases hb
/-- a new tree, frozen -/
theorem frz_ext {S T H S' T' H' : Hp} {g : List Addr} (x : Ext S T H S' T') (hn : ∀ b ∈ g, T' b = none ∧ H b = none) (h1 : Same S' T') (h2 : Same T' H') :
    Ext S T H (frz g S' H') (frz g T' H') ∧ Same (frz g S' H') (frz g T' H') ∧ Same (frz g T' H') H' := by
  have hs : ∀ b ∈ g, S' b = none := fun b hb => by
    cases e : S' b with
    | none => rfl
    | some o => have := h1 b o e; rw [(hn b hb).1] at this; cases this
  refine ⟨⟨x.s.trans (frz_same hs), x.t.trans (frz_same fun b hb => (hn b hb).1), fun b hb => ?_⟩, frz_mono h1, frz_low h2⟩
  have hg : b ∉ g := fun z => hb (hn b z).2
  rw [frz_out hg, frz_out hg]
  exact x.old b hb
theorem EF.p {R : TE → Prop} {f : Sl → Rs O} (h : EF K W cl R f) : EP K W cl R fun st => mapRs O.er (f st) := by
  obtain ⟨t, pt, k⟩ := h.ex
  refine ⟨t, pt, fun S T st σ H Q r q => k S T st σ H Q r ?_⟩
  have q : PP K cl W S T σ H (mapRs O.er (f st)) Q := q
  revert q
  cases f st with
  | bad => exact fun q => q
  | ex c => exact fun q => q
  | ok o =>
    intro q v S' T' H' g hs x h1 h2 w nd hn
    obtain ⟨x2, a, b⟩ := frz_ext x hn h1 h2
    refine q v _ _ H' hs x2 a b (w.rp (frz_same fun b hb => ?_) fun b hb => frz_in hb)
    cases e : S' b with
    | none => rfl
    | some o => have := h1 b o e; rw [(hn b hb).1] at this; cases this
/-! ### statements, one behind the other -/
variable {ι : Type} {Y : ι → Cx}
theorem s_nil : SJ K W cl sh (PSsf Y []) Fl.nx := ⟨_, fun _ => pss_nil, fun pv S T st σ H E r pi q => q S T σ H .refl r pi⟩
theorem s_cons {s : Stmt} {ss : List Stmt} {f g : Sl → Fl} (h : SJ K W cl sh (PSf Y s) f) (k : SJ K W cl sh (PSsf Y ss) g) : SJ K W cl sh (PSsf Y (s :: ss)) fun st => (f st).thn g := by
  obtain ⟨t, pt, a⟩ := h.ex
  obtain ⟨u, pu, b⟩ := k.ex
  refine ⟨_, fun z => pss_cons (pt z) (pu z), fun pv S T st σ H E r pi q => a pv S T st σ H _ r pi ?_⟩
  revert q
  show PSt _ _ _ _ _ _ _ ((f st).thn g) _ → _
  cases f st with
  | nx st' => exact fun q S' T' σ' H' x r' pi' => b pv S' T' st' σ' H' E r' pi' (q.mono x)
  | rt o => exact fun q => q
  | bk st' => exact fun q => q
  | ct st' => exact fun q => q
  | ex c => exact fun q => q
  | bad => exact fun q => q
theorem s_one {s : Stmt} {f : Sl → Fl} (h : SJ K W cl sh (PSf Y s) f) : SJ K W cl sh (PSsf Y [s]) f := by
  obtain ⟨t, pt, a⟩ := h.ex
  exact ⟨_, fun z => pss_one (pt z), a⟩
end
end M

/-! Expressions. -/
namespace M
open PySem L2
def ofO {α : Type} : Option α → Rs α
  | some a => .ok a
  | none => .bad
theorem ofO_ok {α : Type} {o : Option α} {a : α} (h : ofO o = .ok a) : o = some a := by
  cases o with
  | none => cases h
  | some b => cases h; rfl
def getV (i : Nat) (st : Sl) : Rs D := match st[i]? with
  | some (some o) => .ok o.er
  | _ => .bad
/-- a slot that holds what stays -/
def getP (i : Nat) (st : Sl) : Rs D := match st[i]? with
  | some (some (.sh d)) => .ok d
  | _ => .bad
/-! values -/
def addD : D → D → Option D
  | .int i, .int j => some (.int (i + j))
  | .str x, .str y => if x.length + y.length ≤ sizeLine then some (.str (x ++ y)) else none
  | _, _ => none
def subD : D → D → Option D
  | .int i, .int j => some (.int (i - j))
  | _, _ => none
@[irreducible] def mulOk (i j : Int) : Bool := !(decide (Builtin.Int.intBits i > shortFactorBits) && decide (Builtin.Int.intBits j > shortFactorBits) && Builtin.Int.intTooBig (Builtin.Int.intBits i + Builtin.Int.intBits j))
def mulD : D → D → Option D
  | .int i, .int j => if mulOk i j = true then some (.int (i * j)) else none
  | _, _ => none
@[irreducible] def divOk (i j : Int) : Bool := decide (j ≠ 0) && !Builtin.divisionGoesByPylong i j
def fdivD : D → D → Option D
  | .int i, .int j => if divOk i j = true then some (.int (i.fdiv j)) else none
  | _, _ => none
def modD : D → D → Option D
  | .int i, .int j => if j ≠ 0 then some (.int (i.fmod j)) else none
  | _, _ => none
@[irreducible] def powOk (i j : Int) : Bool := decide (0 ≤ j) && decide (j ≤ 1000000) && decide (i.natAbs < 2 ^ 64)
def powD : D → D → Option D
  | .int i, .int j => if powOk i j = true then some (.int (i ^ j.toNat)) else none
  | _, _ => none
def cmpD (p : Int → Int → Bool) : D → D → Option D
  | .int i, .int j => some (.bl (p i j))
  | _, _ => none
def ltD : D → D → Option D := cmpD fun i j => decide (i < j)
def leD : D → D → Option D := cmpD fun i j => decide (i ≤ j)
def gtD : D → D → Option D := cmpD fun i j => decide (j < i)
def geD : D → D → Option D := cmpD fun i j => decide (j ≤ i)
def isND : D → D → Option D
  | .non, .non => some (.bl true)
  | .bl _, .non | .int _, .non | .str _, .non | .lst _, .non | .tup _, .non | .scr _, .non => some (.bl false)
  | _, _ => none
def notND (a b : D) : Option D := match isND a b with
  | some (.bl k) => some (.bl (!k))
  | _ => none
mutual
def D.py : D → PyData
  | .non => .none
  | .bl b => .bool b
  | .int i => .int i
  | .str x => .str x
  | .lst xs => .list (pyL xs)
  | .tup xs => .tuple (pyL xs)
  | .scr ns => .list (ns.map .int)
def pyL : List D → List PyData
  | [] => []
  | d :: ds => d.py :: pyL ds
end
def eqB (a b : D) : Bool := PyData.eqv a.py b.py
def eqOk (a b : D) : Bool := SeqAt.shaped a.py && SeqAt.shaped b.py
def eqD (a b : D) : Option D := if eqOk a b = true then some (.bl (eqB a b)) else none
def neD (a b : D) : Option D := if eqOk a b = true then some (.bl (!eqB a b)) else none
def ixD : D → D → Option D
  | .lst ds, .int i => atI ds i
  | .tup ds, .int i => atI ds i
  | .scr ns, .int i => (atI ns i).map .int
  | _, _ => none
def negD : D → Option D
  | .int i => some (.int (-i))
  | _ => none
def lenD : D → Option D
  | .lst ds => some (.int ds.length)
  | .tup ds => some (.int ds.length)
  | .scr ns => some (.int ns.length)
  | .str x => if x.length ≤ sizeLine then some (.int x.length) else none
  | _ => none
def absD : D → Option D
  | .int i => some (.int (if i < 0 then -i else i))
  | _ => none
def intD : D → Option D
  | .int i => some (.int i)
  | .bl k => some (.int (if k then 1 else 0))
  | _ => none
def max2D : D → D → Option D
  | .int i, .int j => some (.int (if j > i then j else i))
  | _, _ => none
def min2D : D → D → Option D
  | .int i, .int j => some (.int (if j < i then j else i))
  | _, _ => none
def intsD : List D → Option (List Int)
  | [] => some []
  | .int i :: r => (intsD r).map (i :: ·)
  | _ => none
def boolsD : List D → Option (List Bool)
  | [] => some []
  | .bl i :: r => (boolsD r).map (i :: ·)
  | _ => none
def elems : D → Option (List D)
  | .lst ds => some ds
  | .scr ns => some (ns.map .int)
  | _ => none
def sumD (d : D) : Option D := (elems d).bind fun ds => (intsD ds).map fun ns => .int ns.sum
def allD (d : D) : Option D := (elems d).bind fun ds => (boolsD ds).map fun ns => .bl (ns.all id)
def anyD (d : D) : Option D := (elems d).bind fun ds => (boolsD ds).map fun ns => .bl (ns.any id)
def cutL {α : Type} (xs : List α) (lo hi : Option Int) : List α := (xs.drop (HT.sIx xs.length 0 lo)).take (HT.sIx xs.length xs.length hi - HT.sIx xs.length 0 lo)
theorem intsD_eq : ∀ {ds : List D} {ns : List Int}, intsD ds = some ns → ds = ns.map .int
  | [], ns, h => by cases h; rfl
  | .int i :: r, ns, h => by
    cases e : intsD r with
    | none => simp [intsD, e] at h
    | some ms =>
      simp [intsD, e] at h
      subst h
      rw [intsD_eq e]
      rfl
  | .non :: r, ns, h => by simp [intsD] at h
  | .bl _ :: r, ns, h => by simp [intsD] at h
  | .str _ :: r, ns, h => by simp [intsD] at h
  | .lst _ :: r, ns, h => by simp [intsD] at h
  | .tup _ :: r, ns, h => by simp [intsD] at h
  | .scr _ :: r, ns, h => by simp [intsD] at h
theorem boolsD_eq : ∀ {ds : List D} {ns : List Bool}, boolsD ds = some ns → ds = ns.map .bl
  | [], ns, h => by cases h; rfl
  | .bl i :: r, ns, h => by
    cases e : boolsD r with
    | none => simp [boolsD, e] at h
    | some ms =>
      simp [boolsD, e] at h
      subst h
      rw [boolsD_eq e]
      rfl
  | .non :: r, ns, h => by simp [boolsD] at h
  | .int _ :: r, ns, h => by simp [boolsD] at h
  | .str _ :: r, ns, h => by simp [boolsD] at h
  | .lst _ :: r, ns, h => by simp [boolsD] at h
  | .tup _ :: r, ns, h => by simp [boolsD] at h
  | .scr _ :: r, ns, h => by simp [boolsD] at h
section
variable {K : PySem.W.Frag} {S H : Hp}
/-- a list of values is a list of data -/
theorem Rp.seqL {v : V} {d : D} {ds : List D} (h : Rp K S v d) (e : elems d = some ds) : ∃ a vs, v = .ref a ∧ SqL K S a vs ∧ RpL K S vs ds := by
  cases h with
  | lst h r => cases e; exact ⟨_, _, rfl, SqL.of h, r⟩
  | scr h => cases e; exact ⟨_, _, rfl, h, .ints _⟩
  | non => cases e
  | bl _ => cases e
  | int _ => cases e
  | str _ => cases e
  | tup _ _ => cases e
mutual
theorem Rp.dp : ∀ {v : V} {d : D}, Rp K S v d → Dp K S v d.py
  | _, _, .non => .non
  | _, _, .bl b => .bl b
  | _, _, .int i => .int i
  | _, _, .str x => .str x
  | _, _, .lst h r => .lst (SqL.of h) (RpL.dp r)
  | _, _, .tup h r => .tup (SqT.of h) (RpL.dp r)
  | _, _, .scr h => .lst h (dpInts _)
theorem RpL.dp : ∀ {vs : List V} {ds : List D}, RpL K S vs ds → DpAll K S vs (pyL ds)
  | _, _, .nil => .nil
  | _, _, .cons h r => .cons (Rp.dp h) (RpL.dp r)
theorem dpInts : ∀ ns : List Int, DpAll K S (ns.map V.int) (ns.map PyData.int)
  | [] => .nil
  | n :: ns => .cons (.int n) (dpInts ns)
end
end
section
variable {ι : Type} {X : ι → Cx} {W : WX} {cl : Cl} {K : PySem.W.Frag}
/-! ### names, constants -/
theorem v_nm {e : Expr} {i : Nat} (h : PEf X e (tVar i)) : EV K W cl (PEf X e) (getV i) := by
  refine ⟨_, h, fun S T st σ H Q r q => ?_⟩
  have q : PV K cl W σ H (getV i st) Q := q
  unfold getV at q
  revert q
  cases e : st[i]? with
  | none => exact fun q => q.elim
  | some z =>
    cases z with
    | none => exact fun q => q.elim
    | some o =>
      intro q
      obtain ⟨f, w, nd, k⟩ := r.own
      obtain ⟨v, f1, g, f2, h1, h2, h3, _⟩ := w.get e
      exact ⟨v, h1, q v H (Same.refl _) (h3.rp r.sh fun _ _ => rfl)⟩
theorem p_nm {e : Expr} {i : Nat} (h : PEf X e (tVar i)) : EP K W cl (PEf X e) (getP i) := by
  refine ⟨_, h, fun S T st σ H Q r q => ?_⟩
  have q : PP K cl W S T σ H (getP i st) Q := q
  unfold getP at q
  revert q
  cases e : st[i]? with
  | none => exact fun q => q.elim
  | some z =>
    cases z with
    | none => exact fun q => q.elim
    | some o =>
      cases o with
      | lst _ => exact fun q => q.elim
      | tup _ => exact fun q => q.elim
      | sh d =>
        intro q
        obtain ⟨f, w, nd, k⟩ := r.own
        obtain ⟨v, f1, g, f2, h1, h2, h3, _⟩ := w.get e
        cases h3 with
        | sh rp => exact ⟨v, h1, q v S T H (Same.refl _) .refl r.lo r.th rp⟩
theorem v_c {e : Expr} {v : V} {d : D} (h : PEf X e (tC v)) (hd : ∀ H, Rp K H v d) : EV K W cl (PEf X e) fun _ => .ok d :=
  ⟨_, h, fun S T st σ H Q r q => q v H (Same.refl _) (hd H)⟩
theorem v_int {i : Int} {j pos} : EV K W cl (PEf X (.Constant (.int i) j pos)) fun _ => .ok (.int i) := v_c (fun _ => pe_int) fun _ => .int i
theorem v_bl {b : Bool} {j pos} : EV K W cl (PEf X (.Constant (.bool b) j pos)) fun _ => .ok (.bl b) := v_c (fun _ => pe_bl) fun _ => .bl b
theorem v_non {j pos} : EV K W cl (PEf X (.Constant .none j pos)) fun _ => .ok .non := v_c (fun _ => pe_non) fun _ => .non
theorem v_str {x : Str} {j pos} : EV K W cl (PEf X (.Constant (.str x) j pos)) fun _ => .ok (.str x) := v_c (fun _ => pe_str) fun _ => .str x
theorem p_c {e : Expr} {v : V} {d : D} (h : PEf X e (tC v)) (hd : ∀ H, Rp K H v d) : EP K W cl (PEf X e) fun _ => .ok d :=
  ⟨_, h, fun S T st σ H Q r q => q v S T H (Same.refl _) .refl r.lo r.th (hd S)⟩
theorem p_int {i : Int} {j pos} : EP K W cl (PEf X (.Constant (.int i) j pos)) fun _ => .ok (.int i) := p_c (fun _ => pe_int) fun _ => .int i
theorem p_bl {b : Bool} {j pos} : EP K W cl (PEf X (.Constant (.bool b) j pos)) fun _ => .ok (.bl b) := p_c (fun _ => pe_bl) fun _ => .bl b
theorem p_non {j pos} : EP K W cl (PEf X (.Constant .none j pos)) fun _ => .ok .non := p_c (fun _ => pe_non) fun _ => .non
theorem p_str {x : Str} {j pos} : EP K W cl (PEf X (.Constant (.str x) j pos)) fun _ => .ok (.str x) := p_c (fun _ => pe_str) fun _ => .str x
/-! ### operators -/
/-- a rule by values does what g tells -/
def Op2 (K : PySem.W.Frag) (r : R2) (g : D → D → Option D) : Prop := ∀ (H : Hp) (v w : V) (d e z : D) (Q : VK), Rp K H v d → Rp K H w e → g d e = some z → (∀ v' H', Same H H' → Rp K H' v' z → Q v' H') → r v w H Q
def bin2 (g : D → D → Option D) (a b : Rs D) : Rs D := a.bind fun x => b.bind fun y => ofO (g x y)
theorem op2_run {ta tb : TE} {r : R2} {g : D → D → Option D} {fa fb : Sl → Rs D} (hg : Op2 K r g)
    (ka : ∀ S T st σ H Q, RS K S T st σ H → PV K cl W σ H (fa st) Q → ta σ H Q) (kb : ∀ S T st σ H Q, RS K S T st σ H → PV K cl W σ H (fb st) Q → tb σ H Q)
    {S T st σ H Q} (rs : RS K S T st σ H) (q : PV K cl W σ H (bin2 g (fa st) (fb st)) Q) : tOp r ta tb σ H Q := by
  refine ka S T st σ H _ rs ?_
  revert q
  cases fa st with
  | bad => exact fun q => q
  | ex c => exact fun q => q
  | ok d =>
    intro q v H1 h1 r1
    refine kb S T st σ H1 _ (rs.mono h1) ?_
    revert q
    cases fb st with
    | bad => exact fun q => q
    | ex c => exact fun q H2 h2 => q H2 (h1.trans h2)
    | ok e =>
      intro q w H2 h2 r2
      cases ez : g d e with
      | none =>
        have q' : PV K cl W σ H (ofO (g d e)) Q := q
        rw [ez] at q'
        exact q'.elim
      | some z =>
        have q' : PV K cl W σ H (ofO (g d e)) Q := q
        rw [ez] at q'
        exact hg H2 v w d e z Q (r1.mono h2) r2 ez fun v' H3 h3 r3 => q' v' H3 ((h1.trans h2).trans h3) r3
theorem v_op {a b : Expr} {op : Operator} {pos : Pos} {r : R2} {g : D → D → Option D} {fa fb : Sl → Rs D} (ho : ∀ z, OpR (X z) (binaryOp op) r) (hg : Op2 K r g) (ha : EV K W cl (PEf X a) fa) (hb : EV K W cl (PEf X b) fb) :
    EV K W cl (PEf X (.BinOp a op b pos)) fun st => bin2 g (fa st) (fb st) := by
  obtain ⟨ta, pa, ka⟩ := ha.ex
  obtain ⟨tb, pb, kb⟩ := hb.ex
  exact ⟨_, fun z => pe_op (ho z) (pa z) (pb z), fun S T st σ H Q rs q => op2_run hg ka kb rs q⟩
theorem v_cmp {a b : Expr} {op : CmpOp} {pos : Pos} {r : R2} {g : D → D → Option D} {fa fb : Sl → Rs D} (ho : ∀ z, OpR (X z) (compareOp op) r) (hg : Op2 K r g) (hm : behindInMarks op b = false) (ha : EV K W cl (PEf X a) fa) (hb : EV K W cl (PEf X b) fb) :
    EV K W cl (PEf X (.Compare a [op] [b] pos)) fun st => bin2 g (fa st) (fb st) := by
  obtain ⟨ta, pa, ka⟩ := ha.ex
  obtain ⟨tb, pb, kb⟩ := hb.ex
  exact ⟨_, fun z => pe_cmpR (ho z) (pa z) (pb z) hm, fun S T st σ H Q rs q => op2_run hg ka kb rs q⟩
def asB (r : Rs D) : Rs Bool := r.bind fun d => match d with
  | .bl k => .ok k
  | _ => .bad
/-- a truth, as a test -/
theorem t_val {e : Expr} {f : Sl → Rs D} (h : EV K W cl (PEf X e) f) (he : ∀ z whole, isTrue e (X z).env whole = (do let v ← whole; standAt e.pos; holding [v] (truthy v)) := by intro _ _; rfl) : ET K W cl (PTf X e) fun st => asB (f st) := by
  obtain ⟨t, p, k⟩ := h.ex
  refine ⟨_, fun z => pt_val (p z) (he z), fun S T st σ H Q r q => k S T st σ H _ r ?_⟩
  have q : PB cl W σ H (asB (f st)) Q := q
  revert q
  cases f st with
  | bad => exact fun q => q
  | ex c => exact fun q => q
  | ok d =>
    intro q v H1 h1 rp
    cases rp with
    | bl b => exact ⟨b, rfl, q H1 h1⟩
    | non => exact q.elim
    | int _ => exact q.elim
    | str _ => exact q.elim
    | lst _ _ => exact q.elim
    | tup _ _ => exact q.elim
    | scr _ => exact q.elim
theorem t_cmp {a b : Expr} {op : CmpOp} {pos : Pos} {r : R2} {g : D → D → Option D} {fa fb : Sl → Rs D} (ho : ∀ z, OpR (X z) (compareOp op) r) (hg : Op2 K r g) (hm : behindInMarks op b = false) (ha : EV K W cl (PEf X a) fa) (hb : EV K W cl (PEf X b) fb) :
    ET K W cl (PTf X (.Compare a [op] [b] pos)) fun st => asB (bin2 g (fa st) (fb st)) := by
  obtain ⟨ta, pa, ka⟩ := ha.ex
  obtain ⟨tb, pb, kb⟩ := hb.ex
  refine ⟨_, fun z => pt_cmpR (ho z) (pa z) (pb z) hm, fun S T st σ H Q rs q => op2_run (Q := fun x H' => ∃ k, x = .bl k ∧ Q k H') hg ka kb rs ?_⟩
  have q : PB cl W σ H (asB (bin2 g (fa st) (fb st))) Q := q
  revert q
  cases bin2 g (fa st) (fb st) with
  | bad => exact fun q => q
  | ex c => exact fun q => q
  | ok d =>
    intro q v H1 h1 rp
    cases rp with
    | bl b => exact ⟨b, rfl, q H1 h1⟩
    | non => exact q.elim
    | int _ => exact q.elim
    | str _ => exact q.elim
    | lst _ _ => exact q.elim
    | tup _ _ => exact q.elim
    | scr _ => exact q.elim
def notT (r : Rs Bool) : Rs Bool := r.bind fun b => .ok (!b)
def andT (a b : Rs Bool) : Rs Bool := a.bind fun x => if x = true then b else .ok false
def orT (a b : Rs Bool) : Rs Bool := a.bind fun x => if x = true then .ok true else b
theorem t_not {a : Expr} {pos : Pos} {f : Sl → Rs Bool} (h : ET K W cl (PTf X a) f) : ET K W cl (PTf X (.UnaryOp .Not a pos)) fun st => notT (f st) := by
  obtain ⟨t, p, k⟩ := h.ex
  refine ⟨_, fun z => pt_not (p z), fun S T st σ H Q r q => k S T st σ H _ r ?_⟩
  have q : PB cl W σ H (notT (f st)) Q := q
  revert q
  cases f st with
  | bad => exact fun q => q
  | ex c => exact fun q => q
  | ok d => exact fun q H1 h1 => q H1 h1
theorem PB.mono {σ : St} {H H' : Hp} {r : Rs Bool} {Q : Bool → Hp → Prop} (x : Same H H') (h : PB cl W σ H r Q) : PB cl W σ H' r Q := by
  cases r with
  | ok d => exact fun H2 y => h H2 (x.trans y)
  | ex c => exact fun H2 y => h H2 (x.trans y)
  | bad => exact h
theorem w_and1 {a : Expr} {pos : Pos} {f : Sl → Rs Bool} (h : ET K W cl (PTf X a) f) : ET K W cl (PWf X (.BoolOp .And [a] pos)) f := by
  obtain ⟨t, p, k⟩ := h.ex
  exact ⟨_, fun z => pw_and1 (p z), k⟩
theorem w_or1 {a : Expr} {pos : Pos} {f : Sl → Rs Bool} (h : ET K W cl (PTf X a) f) : ET K W cl (PWf X (.BoolOp .Or [a] pos)) f := by
  obtain ⟨t, p, k⟩ := h.ex
  exact ⟨_, fun z => pw_or1 (p z), k⟩
theorem w_and {a b : Expr} {rest : List Expr} {pos : Pos} {f g : Sl → Rs Bool} (h : ET K W cl (PTf X a) f) (h2 : ET K W cl (PWf X (.BoolOp .And (b :: rest) pos)) g) :
    ET K W cl (PWf X (.BoolOp .And (a :: b :: rest) pos)) fun st => andT (f st) (g st) := by
  obtain ⟨t, p, k⟩ := h.ex
  obtain ⟨u, pu, ku⟩ := h2.ex
  refine ⟨_, fun z => pw_and (p z) (pu z), fun S T st σ H Q r q => k S T st σ H _ r ?_⟩
  have q : PB cl W σ H (andT (f st) (g st)) Q := q
  revert q
  cases f st with
  | bad => exact fun q => q
  | ex c => exact fun q => q
  | ok d =>
    cases d with
    | false => exact fun q H1 h1 => iteF (q H1 h1)
    | true => exact fun q H1 h1 => iteT (ku S T st σ H1 Q (r.mono h1) (PB.mono (r := g st) h1 q))
theorem w_or {a b : Expr} {rest : List Expr} {pos : Pos} {f g : Sl → Rs Bool} (h : ET K W cl (PTf X a) f) (h2 : ET K W cl (PWf X (.BoolOp .Or (b :: rest) pos)) g) :
    ET K W cl (PWf X (.BoolOp .Or (a :: b :: rest) pos)) fun st => orT (f st) (g st) := by
  obtain ⟨t, p, k⟩ := h.ex
  obtain ⟨u, pu, ku⟩ := h2.ex
  refine ⟨_, fun z => pw_or (p z) (pu z), fun S T st σ H Q r q => k S T st σ H _ r ?_⟩
  have q : PB cl W σ H (orT (f st) (g st)) Q := q
  revert q
  cases f st with
  | bad => exact fun q => q
  | ex c => exact fun q => q
  | ok d =>
    cases d with
    | true => exact fun q H1 h1 => iteT (q H1 h1)
    | false => exact fun q H1 h1 => iteF (ku S T st σ H1 Q (r.mono h1) (PB.mono (r := g st) h1 q))
theorem t_w {e : Expr} {f : Sl → Rs Bool} (h : ET K W cl (PWf X e) f) : ET K W cl (PTf X e) f := by
  obtain ⟨t, p, k⟩ := h.ex
  exact ⟨_, fun z => (p z).pt, k⟩
/-- truths joined, as a value -/
def andV (a b : Rs D) : Rs D := a.bind fun x => match x with
  | .bl true => b
  | .bl false => .ok (.bl false)
  | _ => .bad
def orV (a b : Rs D) : Rs D := a.bind fun x => match x with
  | .bl false => b
  | .bl true => .ok (.bl true)
  | _ => .bad
def notV (a : Rs D) : Rs D := a.bind fun x => match x with
  | .bl b => .ok (.bl (!b))
  | _ => .bad
theorem v_one {a : Expr} {op : BoolOp} {pos : Pos} {f : Sl → Rs D} (h : EV K W cl (PEf X a) f) : EV K W cl (PEf X (.BoolOp op [a] pos)) f := by
  obtain ⟨t, p, k⟩ := h.ex
  exact ⟨_, fun z => pe_one (p z), k⟩
theorem v_and {a b : Expr} {rest : List Expr} {pos : Pos} {f g : Sl → Rs D} (h : EV K W cl (PEf X a) f) (h2 : EV K W cl (PEf X (.BoolOp .And (b :: rest) pos)) g) :
    EV K W cl (PEf X (.BoolOp .And (a :: b :: rest) pos)) fun st => andV (f st) (g st) := by
  obtain ⟨t, p, k⟩ := h.ex
  obtain ⟨u, pu, ku⟩ := h2.ex
  refine ⟨_, fun z => pe_and (p z) (pu z), fun S T st σ H Q r q => k S T st σ H _ r ?_⟩
  have q : PV K cl W σ H (andV (f st) (g st)) Q := q
  revert q
  cases f st with
  | bad => exact fun q => q
  | ex c => exact fun q => q
  | ok d =>
    intro q v H1 h1 rp
    cases rp with
    | bl b =>
      refine ⟨b, rfl, ?_⟩
      cases b with
      | false => exact iteF (q _ H1 h1 (.bl false))
      | true => exact iteT (ku S T st σ H1 Q (r.mono h1) (PV.mono (r := g st) h1 q))
    | non => exact q.elim
    | int _ => exact q.elim
    | str _ => exact q.elim
    | lst _ _ => exact q.elim
    | tup _ _ => exact q.elim
    | scr _ => exact q.elim
theorem v_or {a b : Expr} {rest : List Expr} {pos : Pos} {f g : Sl → Rs D} (h : EV K W cl (PEf X a) f) (h2 : EV K W cl (PEf X (.BoolOp .Or (b :: rest) pos)) g) :
    EV K W cl (PEf X (.BoolOp .Or (a :: b :: rest) pos)) fun st => orV (f st) (g st) := by
  obtain ⟨t, p, k⟩ := h.ex
  obtain ⟨u, pu, ku⟩ := h2.ex
  refine ⟨_, fun z => pe_or (p z) (pu z), fun S T st σ H Q r q => k S T st σ H _ r ?_⟩
  have q : PV K cl W σ H (orV (f st) (g st)) Q := q
  revert q
  cases f st with
  | bad => exact fun q => q
  | ex c => exact fun q => q
  | ok d =>
    intro q v H1 h1 rp
    cases rp with
    | bl b =>
      refine ⟨b, rfl, ?_⟩
      cases b with
      | true => exact iteT (q _ H1 h1 (.bl true))
      | false => exact iteF (ku S T st σ H1 Q (r.mono h1) (PV.mono (r := g st) h1 q))
    | non => exact q.elim
    | int _ => exact q.elim
    | str _ => exact q.elim
    | lst _ _ => exact q.elim
    | tup _ _ => exact q.elim
    | scr _ => exact q.elim
theorem v_not {a : Expr} {pos : Pos} {f : Sl → Rs D} (h : EV K W cl (PEf X a) f) : EV K W cl (PEf X (.UnaryOp .Not a pos)) fun st => notV (f st) := by
  obtain ⟨t, p, k⟩ := h.ex
  refine ⟨_, fun z => pe_not (p z), fun S T st σ H Q r q => k S T st σ H _ r ?_⟩
  have q : PV K cl W σ H (notV (f st)) Q := q
  revert q
  cases f st with
  | bad => exact fun q => q
  | ex c => exact fun q => q
  | ok d =>
    intro q v H1 h1 rp
    cases rp with
    | bl b => exact ⟨b, rfl, q _ H1 h1 (.bl _)⟩
    | non => exact q.elim
    | int _ => exact q.elim
    | str _ => exact q.elim
    | lst _ _ => exact q.elim
    | tup _ _ => exact q.elim
    | scr _ => exact q.elim
/-! ### the operators' rules -/
theorem op_mulX {X : Cx} : OpR X (binaryOp .Mult) (rI (fun i j => mulOk i j = true) fun i j => .int (i * j)) := opI fun i j _ _ _ _ _ hc q => PyProof.Rows.mul_int q (by
  unfold IntMulOk
  intro z
  unfold mulOk at hc
  rw [z] at hc
  cases hc)
theorem op_fdivX {X : Cx} : OpR X (binaryOp .FloorDiv) (rI (fun i j => divOk i j = true) fun i j => .int (i.fdiv j)) := opI fun i j _ _ _ _ _ hc q => by
  unfold divOk at hc
  rw [Bool.and_eq_true] at hc
  exact PyProof.Rows.floordiv_int (of_decide_eq_true hc.1) q (.inl (by simpa using hc.2))
theorem o2I {C : Int → Int → Prop} {g : D → D → Option D} {h : Int → Int → V} {hd : Int → Int → D} (hh : ∀ i j H, Rp K H (h i j) (hd i j)) (e : ∀ i j z, g (.int i) (.int j) = some z → C i j ∧ z = hd i j) (no : ∀ d d2 z, g d d2 = some z → (∃ i, d = .int i) ∧ ∃ j, d2 = .int j) : Op2 K (rI C h) g := by
  intro H v w d d2 z Q r1 r2 ez q
  obtain ⟨⟨i, rfl⟩, ⟨j, rfl⟩⟩ := no _ _ _ ez
  cases r1
  cases r2
  obtain ⟨c, rfl⟩ := e i j z ez
  exact ⟨i, j, rfl, rfl, c, q _ _ (Same.refl _) (hh _ _ _)⟩
theorem o2I0 {g : D → D → Option D} {h : Int → Int → V} {hd : Int → Int → D} (hh : ∀ i j H, Rp K H (h i j) (hd i j)) (e : ∀ i j z, g (.int i) (.int j) = some z → z = hd i j) (no : ∀ d d2 z, g d d2 = some z → (∃ i, d = .int i) ∧ ∃ j, d2 = .int j) : Op2 K (rI0 h) g := by
  intro H v w d d2 z Q r1 r2 ez q
  obtain ⟨⟨i, rfl⟩, ⟨j, rfl⟩⟩ := no _ _ _ ez
  cases r1
  cases r2
  obtain rfl := e i j z ez
  exact ⟨i, j, rfl, rfl, q _ _ (Same.refl _) (hh _ _ _)⟩
theorem o_sub : Op2 K (rI0 fun i j => .int (i - j)) subD := o2I0 (hd := fun i j => .int (i - j)) (fun i j H => .int _) (fun i j z h => by cases h; rfl) fun d d2 z h => by cases d <;> cases d2 <;> first | exact ⟨⟨_, rfl⟩, ⟨_, rfl⟩⟩ | cases h
theorem o_add : Op2 K (fun v w H Q => rI0 (fun i j => .int (i + j)) v w H Q ∨ ∃ i j, v = .str i ∧ w = .str j ∧ i.length + j.length ≤ sizeLine ∧ Q (.str (i ++ j)) H) addD := by
  intro H v w d d2 z Q r1 r2 ez q
  cases d with
  | int i => cases d2 with
    | int j => cases r1; cases r2; cases ez; exact .inl ⟨i, j, rfl, rfl, q _ _ (Same.refl _) (.int _)⟩
    | _ => cases ez
  | str x => cases d2 with
    | str y =>
      cases r1; cases r2
      have ez : (if x.length + y.length ≤ sizeLine then some (D.str (x ++ y)) else none) = some z := ez
      by_cases c : x.length + y.length ≤ sizeLine
      · rw [if_pos c] at ez
        cases ez
        exact .inr ⟨x, y, rfl, rfl, c, q _ _ (Same.refl _) (.str _)⟩
      · rw [if_neg c] at ez
        cases ez
    | _ => cases ez
  | _ => cases ez
theorem op_addX {X : Cx} : OpR X (binaryOp .Add) (fun v w H Q => rI0 (fun i j => .int (i + j)) v w H Q ∨ ∃ i j, v = .str i ∧ w = .str j ∧ i.length + j.length ≤ sizeLine ∧ Q (.str (i ++ j)) H) := op_add.or op_add_str
theorem o_mul : Op2 K (rI (fun i j => mulOk i j = true) fun i j => .int (i * j)) mulD := o2I (hd := fun i j => .int (i * j)) (fun i j H => .int _) (fun i j z h => by
  have h : (if mulOk i j = true then some (D.int (i * j)) else none) = some z := h
  by_cases c : mulOk i j = true
  · rw [if_pos c] at h; cases h; exact ⟨c, rfl⟩
  · rw [if_neg c] at h; cases h) fun d d2 z h => by cases d <;> cases d2 <;> first | exact ⟨⟨_, rfl⟩, ⟨_, rfl⟩⟩ | cases h
theorem o_fdiv : Op2 K (rI (fun i j => divOk i j = true) fun i j => .int (i.fdiv j)) fdivD := o2I (hd := fun i j => .int (i.fdiv j)) (fun i j H => .int _) (fun i j z h => by
  have h : (if divOk i j = true then some (D.int (i.fdiv j)) else none) = some z := h
  by_cases c : divOk i j = true
  · rw [if_pos c] at h; cases h; exact ⟨c, rfl⟩
  · rw [if_neg c] at h; cases h) fun d d2 z h => by cases d <;> cases d2 <;> first | exact ⟨⟨_, rfl⟩, ⟨_, rfl⟩⟩ | cases h
theorem o_mod : Op2 K (rI (fun _ j => j ≠ 0) fun i j => .int (i.fmod j)) modD := o2I (hd := fun i j => .int (i.fmod j)) (fun i j H => .int _) (fun i j z h => by
  have h : (if j ≠ 0 then some (D.int (i.fmod j)) else none) = some z := h
  by_cases c : j ≠ 0
  · rw [if_pos c] at h; cases h; exact ⟨c, rfl⟩
  · rw [if_neg c] at h; cases h) fun d d2 z h => by cases d <;> cases d2 <;> first | exact ⟨⟨_, rfl⟩, ⟨_, rfl⟩⟩ | cases h
theorem o_pow : Op2 K (rI CPow fun i j => .int (i ^ j.toNat)) powD := o2I (hd := fun i j => .int (i ^ j.toNat)) (fun i j H => .int _) (fun i j z h => by
  have h : (if powOk i j = true then some (D.int (i ^ j.toNat)) else none) = some z := h
  by_cases c : powOk i j = true
  · rw [if_pos c] at h
    cases h
    unfold powOk at c
    simp only [Bool.and_eq_true, decide_eq_true_eq] at c
    exact ⟨⟨c.1.1, c.1.2, c.2⟩, rfl⟩
  · rw [if_neg c] at h; cases h) fun d d2 z h => by cases d <;> cases d2 <;> first | exact ⟨⟨_, rfl⟩, ⟨_, rfl⟩⟩ | cases h
theorem o_cmp {p : Int → Int → Bool} : Op2 K (rI0 fun i j => .bl (p i j)) (cmpD p) := o2I0 (hd := fun i j => .bl (p i j)) (fun i j H => .bl _) (fun i j z h => by cases h; rfl) fun d d2 z h => by cases d <;> cases d2 <;> first | exact ⟨⟨_, rfl⟩, ⟨_, rfl⟩⟩ | cases h
theorem o_eq : Op2 K (rEqD K) eqD := by
  intro H v w d e z Q r1 r2 ez q
  unfold eqD eqOk at ez
  by_cases c : (SeqAt.shaped d.py && SeqAt.shaped e.py) = true
  · rw [if_pos c] at ez
    cases ez
    rw [Bool.and_eq_true] at c
    exact ⟨_, _, r1.dp, r2.dp, c.1, c.2, q _ _ (Same.refl _) (.bl _)⟩
  · rw [if_neg c] at ez
    cases ez
theorem o_ne : Op2 K (rNeD K) neD := by
  intro H v w d e z Q r1 r2 ez q
  unfold neD eqOk at ez
  by_cases c : (SeqAt.shaped d.py && SeqAt.shaped e.py) = true
  · rw [if_pos c] at ez
    cases ez
    rw [Bool.and_eq_true] at c
    exact ⟨_, _, r1.dp, r2.dp, c.1, c.2, q _ _ (Same.refl _) (.bl _)⟩
  · rw [if_neg c] at ez
    cases ez
theorem o_isN : Op2 K (fun x y H Q => y = .non ∧ Q (.bl (decide (x = .non))) H) isND := by
  intro H v w d e z Q r1 r2 ez q
  cases e with
  | non =>
    cases r2
    refine ⟨rfl, ?_⟩
    cases r1 <;> cases ez <;> exact q _ _ (Same.refl _) (.bl _)
  | _ => cases d <;> cases ez
theorem o_notN : Op2 K (fun x y H Q => y = .non ∧ Q (.bl (!decide (x = .non))) H) notND := by
  intro H v w d e z Q r1 r2 ez q
  cases e with
  | non =>
    cases r2
    refine ⟨rfl, ?_⟩
    cases r1 <;> cases ez <;> exact q _ _ (Same.refl _) (.bl _)
  | _ => cases d <;> cases ez
theorem o_ix : Op2 K (rIx K) ixD := by
  intro H v w d e z Q r1 r2 ez q
  have key : ∀ {vs : List V} {ds : List D} {i : Int}, RpL K H vs ds → atI ds i = some z → ∃ u, atI vs i = some u ∧ Rp K H u z := fun {vs ds i} r h => by
    unfold atI at h ⊢
    rw [r.length]
    cases e : ixN ds.length i with
    | none => rw [e] at h; cases h
    | some j =>
      rw [e] at h
      exact r.get h
  cases e with
  | int i =>
    cases r2
    cases r1 with
    | lst h r =>
      obtain ⟨u, h1, h2⟩ := key r ez
      exact .inl ⟨_, _, i, u, rfl, rfl, SqL.of h, h1, q _ _ (Same.refl _) h2⟩
    | tup h r =>
      obtain ⟨u, h1, h2⟩ := key r ez
      exact .inr (.inl ⟨_, _, i, u, rfl, rfl, SqT.of h, h1, q _ _ (Same.refl _) h2⟩)
    | scr h =>
      rename_i a ns
      have ez : (atI ns i).map D.int = some z := ez
      have ez' : atI (ns.map D.int) i = some z := by
        unfold atI at ez ⊢
        rw [List.length_map]
        cases e : ixN ns.length i with
        | none => rw [e] at ez; cases ez
        | some j =>
          rw [e] at ez
          show (ns.map D.int)[j]? = some z
          rw [List.getElem?_map]
          exact ez
      obtain ⟨u, h1, h2⟩ := key (.ints ns) ez'
      exact .inl ⟨_, _, i, u, rfl, rfl, h, h1, q _ _ (Same.refl _) h2⟩
    | _ => cases ez
  | _ => cases d <;> cases ez
theorem v_ix {a b : Expr} {pos : Pos} {fa fb : Sl → Rs D} (ha : EV K W cl (PEf X a) fa) (hb : EV K W cl (PEf X b) fb) (hK : ∀ z, (X z).K = K := by intro _; rfl) (hs : PlainIx b := by exact fun _ _ => rfl) : EV K W cl (PEf X (.Subscript a b pos)) fun st => bin2 ixD (fa st) (fb st) := by
  obtain ⟨ta, pa, ka⟩ := ha.ex
  obtain ⟨tb, pb, kb⟩ := hb.ex
  exact ⟨_, fun z => pe_ix (hK z ▸ ix_seq) (pa z) (pb z) hs, fun S T st σ H Q rs q => op2_run o_ix ka kb rs q⟩
/-- an item of what stays, stays -/
theorem p_ix {a b : Expr} {pos : Pos} {fa fb : Sl → Rs D} (ha : EP K W cl (PEf X a) fa) (hb : EV K W cl (PEf X b) fb) (hK : ∀ z, (X z).K = K := by intro _; rfl) (hs : PlainIx b := by exact fun _ _ => rfl) : EP K W cl (PEf X (.Subscript a b pos)) fun st => bin2 ixD (fa st) (fb st) := by
  obtain ⟨ta, pa, ka⟩ := ha.ex
  obtain ⟨tb, pb, kb⟩ := hb.ex
  refine ⟨_, fun z => pe_ix (hK z ▸ ix_seq) (pa z) (pb z) hs, fun S T st σ H Q rs q => ?_⟩
  refine ka S T st σ H _ rs ?_
  have q : PP K cl W S T σ H (bin2 ixD (fa st) (fb st)) Q := q
  revert q
  cases fa st with
  | bad => exact fun q => q
  | ex c => exact fun q => q
  | ok d =>
    intro q v S1 T1 H1 h1 x1 s1 t1 r1
    refine kb S1 T1 st σ H1 _ (rs.ext h1 x1 s1 t1) ?_
    revert q
    cases fb st with
    | bad => exact fun q => q
    | ex c => exact fun q H2 h2 => q H2 (h1.trans h2)
    | ok e =>
      intro q w H2 h2 r2
      cases ez : ixD d e with
      | none =>
        have q' : PP K cl W S T σ H (ofO (ixD d e)) Q := q
        rw [ez] at q'
        exact q'.elim
      | some z =>
        have q' : PP K cl W S T σ H (ofO (ixD d e)) Q := q
        rw [ez] at q'
        cases e with
        | int i =>
          cases r2
          -- the rule's answer over S1, carried to the heap
          have fin : ∀ {vs : List V} {ds : List D}, RpL K S1 vs ds → atI ds i = some z → ∃ u, atI vs i = some u ∧ Q u H2 := fun {vs ds} r h => by
            unfold atI at h ⊢
            rw [r.length]
            cases e : ixN ds.length i with
            | none => rw [e] at h; cases h
            | some j =>
              rw [e] at h
              obtain ⟨u, h3, h4⟩ := r.get h
              exact ⟨u, h3, q' u S1 T1 H2 (h1.trans h2) x1 s1 (t1.trans h2) h4⟩
          have up : Same S1 H2 := (s1.trans t1).trans h2
          cases r1 with
          | lst h r =>
            obtain ⟨u, h3, h4⟩ := fin r ez
            exact .inl ⟨_, _, i, u, rfl, rfl, SqL.of (up _ _ h), h3, h4⟩
          | tup h r =>
            obtain ⟨u, h3, h4⟩ := fin r ez
            exact .inr (.inl ⟨_, _, i, u, rfl, rfl, SqT.of (up _ _ h), h3, h4⟩)
          | scr h =>
            rename_i a ns
            have ez : (atI ns i).map D.int = some z := ez
            have ez' : atI (ns.map D.int) i = some z := by
              unfold atI at ez ⊢
              rw [List.length_map]
              cases e : ixN ns.length i with
              | none => rw [e] at ez; cases ez
              | some j =>
                rw [e] at ez
                show (ns.map D.int)[j]? = some z
                rw [List.getElem?_map]
                exact ez
            obtain ⟨u, h3, h4⟩ := fin (.ints ns) ez'
            exact .inl ⟨_, _, i, u, rfl, rfl, up.seq h, h3, h4⟩
          | _ => cases ez
        | _ => cases d <;> cases ez
end
end M

/-! Expressions that make lists, calls. -/
namespace M
open PySem L2
section
variable {ι : Type} {X : ι → Cx} {W : WX} {cl : Cl} {K : PySem.W.Frag}
theorem no_low {S T H H' : Hp} (h : Same S H') {p : Addr} (e : H' p = none) : S p = none := h.free e
/-- a new list or tuple over the parts os -/
theorem new_knot {S T S1 T1 H H1 : Hp} {σ : St} {Q : VK} {vs : List V} {os : List O} {g : List Addr} (tp : Bool)
    (q : PF K cl W S T σ H (.ok (if tp then O.tup os else O.lst os)) Q) (hs : Same H H1) (x : Ext S T H S1 T1) (s1 : Same S1 T1) (t1 : Same T1 H1) (w : OwL K S1 H1 vs os g) (nd : g.Nodup) (hn : ∀ b ∈ g, T1 b = none ∧ H b = none)
    {p : Addr} (hp : H1 p = none) : Q (.ref p) (upd H1 p (if tp then .tup vs else .lst vs)) := by
  have hu : Same H1 (upd H1 p (if tp then HO.tup vs else HO.lst vs)) := same_upd hp
  have w2 : OwL K S1 (upd H1 p (if tp then HO.tup vs else HO.lst vs)) vs os g := w.mono (.refl _) fun b hb => upd_keep hp (w.there b hb)
  refine q (.ref p) S1 T1 _ (p :: g) (hs.trans hu) x s1 (t1.trans hu) ?_ ?_ ?_
  · cases tp with
    | false => exact .lst upd_same w2
    | true => exact .tup upd_same w2
  · exact List.nodup_cons.mpr ⟨fun hm => w.there p hm hp, nd⟩
  · intro b hb
    rcases List.mem_cons.mp hb with rfl | hb
    · exact ⟨t1.free hp, hs.free hp⟩
    · exact hn b hb
theorem new_list {S T S1 T1 H H1 : Hp} {σ : St} {Q : VK} {vs : List V} {ds : List D}
    (q : PF K cl W S T σ H (.ok (O.lst (ds.map .sh))) Q) (hs : Same H H1) (x : Ext S T H S1 T1) (s1 : Same S1 T1) (t1 : Same T1 H1) (w : RpL K S1 vs ds) {p : Addr} (hp : H1 p = none) : Q (.ref p) (upd H1 p (.lst vs)) :=
  new_knot (os := ds.map .sh) (g := []) false q hs x s1 t1 (OwL.shs w) .nil (fun b hb => by cases hb) hp
/-! ### arguments -/
theorem vs_nil : EVs K W cl (PAf X []) fun _ => .ok [] := ⟨_, fun _ => pa_nil, fun S T st σ H Q r q => q [] H (.refl _) .nil⟩
def consR {α : Type} (a : Rs α) (b : Rs (List α)) : Rs (List α) := a.bind fun x => b.bind fun xs => .ok (x :: xs)
theorem vs_cons {e : Expr} {es : List Expr} {f : Sl → Rs D} {g : Sl → Rs (List D)} (h : EV K W cl (PEf X e) f) (k : EVs K W cl (PAf X es) g) (hs : ∀ z, starEach (e :: es) (X z).env = (false, eval e (X z).env) :: starEach es (X z).env := by intro _; rfl) :
    EVs K W cl (PAf X (e :: es)) fun st => consR (f st) (g st) := by
  obtain ⟨t, p, ka⟩ := h.ex
  obtain ⟨u, pu, kb⟩ := k.ex
  refine ⟨_, fun z => pa_cons (p z) (pu z) (hs z), fun S T st σ H Q r q => ka S T st σ H _ r ?_⟩
  have q : PVs K cl W σ H (consR (f st) (g st)) Q := q
  revert q
  cases f st with
  | bad => exact fun q => q
  | ex c => exact fun q => q
  | ok d =>
    intro q v H1 h1 r1
    refine kb S T st σ H1 _ (r.mono h1) ?_
    revert q
    cases g st with
    | bad => exact fun q => q
    | ex c => exact fun q H2 h2 => q H2 (h1.trans h2)
    | ok ds => exact fun q vs H2 h2 r2 => q (v :: vs) H2 (h1.trans h2) (.cons (r1.mono h2) r2)
theorem ps_nil : EPs K W cl (PAf X []) fun _ => .ok [] := ⟨_, fun _ => pa_nil, fun S T st σ H Q r q => q [] S T H (.refl _) .refl r.lo r.th .nil⟩
theorem ps_cons {e : Expr} {es : List Expr} {f : Sl → Rs D} {g : Sl → Rs (List D)} (h : EP K W cl (PEf X e) f) (k : EPs K W cl (PAf X es) g) (hs : ∀ z, starEach (e :: es) (X z).env = (false, eval e (X z).env) :: starEach es (X z).env := by intro _; rfl) :
    EPs K W cl (PAf X (e :: es)) fun st => consR (f st) (g st) := by
  obtain ⟨t, p, ka⟩ := h.ex
  obtain ⟨u, pu, kb⟩ := k.ex
  refine ⟨_, fun z => pa_cons (p z) (pu z) (hs z), fun S T st σ H Q r q => ka S T st σ H _ r ?_⟩
  have q : PPs K cl W S T σ H (consR (f st) (g st)) Q := q
  revert q
  cases f st with
  | bad => exact fun q => q
  | ex c => exact fun q => q
  | ok d =>
    intro q v S1 T1 H1 h1 x1 s1 t1 r1
    refine kb S1 T1 st σ H1 _ (r.ext h1 x1 s1 t1) ?_
    revert q
    cases g st with
    | bad => exact fun q => q
    | ex c => exact fun q H2 h2 => q H2 (h1.trans h2)
    | ok ds => exact fun q vs S2 T2 H2 h2 x2 s2 t2 r2 => q (v :: vs) S2 T2 H2 (h1.trans h2) (x1.trans h1 x2) s2 t2 (.cons (r1.mono x2.s) r2)
/-- trees, one behind the other; n of them -/
structure EFn (K : PySem.W.Frag) (W : WX) (cl : Cl) (R : TA → Prop) (n : Nat) (f : Sl → Rs (List O)) : Prop where
  run : EFs K W cl R f
  len : ∀ st os, f st = .ok os → os.length = n
theorem fs_nil : EFn K W cl (PAf X []) 0 fun _ => .ok [] :=
  ⟨⟨_, fun _ => pa_nil, fun S T st σ H Q r q => q [] S T H [] (.refl _) .refl r.lo r.th .nil .nil fun b hb => by cases hb⟩, fun st os h => by cases h; rfl⟩
theorem fs_cons {n : Nat} {e : Expr} {es : List Expr} {f : Sl → Rs O} {g : Sl → Rs (List O)} (h : EF K W cl (PEf X e) f) (k : EFn K W cl (PAf X es) n g) (hs : ∀ z, starEach (e :: es) (X z).env = (false, eval e (X z).env) :: starEach es (X z).env := by intro _; rfl) :
    EFn K W cl (PAf X (e :: es)) (n + 1) fun st => consR (f st) (g st) := by
  obtain ⟨t, p, ka⟩ := h.ex
  obtain ⟨u, pu, kb⟩ := k.run.ex
  refine ⟨⟨_, fun z => pa_cons (p z) (pu z) (hs z), fun S T st σ H Q r q => ka S T st σ H _ r ?_⟩, fun st os h => ?_⟩
  · have q : PFs K cl W S T σ H (consR (f st) (g st)) Q := q
    revert q
    cases f st with
    | bad => exact fun q => q
    | ex c => exact fun q => q
    | ok d =>
      intro q v S1 T1 H1 g1 h1 x1 s1 t1 w1 n1 k1
      refine kb S1 T1 st σ H1 _ (r.ext h1 x1 s1 t1) ?_
      revert q
      cases g st with
      | bad => exact fun q => q
      | ex c => exact fun q H2 h2 => q H2 (h1.trans h2)
      | ok ds =>
        intro q vs S2 T2 H2 g2 h2 x2 s2 t2 w2 n2 k2
        have th := w1.there
        refine q (v :: vs) S2 T2 H2 (g1 ++ g2) (h1.trans h2) (x1.trans h1 x2) s2 t2 (.cons (w1.mono x2.s fun b hb => same_ne h2 (th b hb)) w2) ?_ fun b hb => ?_
        · rw [List.nodup_append]
          refine ⟨n1, n2, fun a ha b hb e => th a ha ?_⟩
          rw [e]
          exact (k2 b hb).2
        · rcases List.mem_append.mp hb with hb | hb
          · exact ⟨by rw [(x2.old b (th b hb)).2]; exact (k1 b hb).1, (k1 b hb).2⟩
          · exact ⟨(k2 b hb).1, h1.free (k2 b hb).2⟩
  · have h : consR (f st) (g st) = .ok os := h
    revert h
    cases f st with
    | bad => intro h; cases h
    | ex c => intro h; cases h
    | ok d =>
      cases e : g st with
      | bad => intro h; cases h
      | ex c => intro h; cases h
      | ok ds =>
        intro h
        cases h
        rw [List.length_cons, k.len st ds e]
theorem f_lst {n : Nat} {es : List Expr} {pos : Pos} {f : Sl → Rs (List O)} (h : EFn K W cl (PAf X es) n f) (hn : n ≤ sizeLine := by decide) : EF K W cl (PEf X (.List es pos)) fun st => mapRs O.lst (f st) := by
  obtain ⟨t, p, ka⟩ := h.run.ex
  refine ⟨_, fun z => pe_lst (p z), fun S T st σ H Q r q => ka S T st σ H _ r ?_⟩
  have q : PF K cl W S T σ H (mapRs O.lst (f st)) Q := q
  have ln := h.len st
  revert q ln
  cases f st with
  | bad => exact fun q _ => q
  | ex c => exact fun q _ => q
  | ok os => exact fun q ln vs S1 T1 H1 g1 h1 x1 s1 t1 w1 n1 k1 => ⟨by rw [w1.length, ln os rfl]; exact hn, fun p hp => new_knot false q h1 x1 s1 t1 w1 n1 k1 hp⟩
theorem f_tup {n : Nat} {es : List Expr} {x1 : Nat} {pos : Pos} {f : Sl → Rs (List O)} (h : EFn K W cl (PAf X es) n f) (hn : n ≤ sizeLine := by decide) : EF K W cl (PEf X (.Tuple es x1 pos)) fun st => mapRs O.tup (f st) := by
  obtain ⟨t, p, ka⟩ := h.run.ex
  refine ⟨_, fun z => pe_tup (p z), fun S T st σ H Q r q => ka S T st σ H _ r ?_⟩
  have q : PF K cl W S T σ H (mapRs O.tup (f st)) Q := q
  have ln := h.len st
  revert q ln
  cases f st with
  | bad => exact fun q _ => q
  | ex c => exact fun q _ => q
  | ok os => exact fun q ln vs S1 T1 H1 g1 h1 x1 s1 t1 w1 n1 k1 => ⟨by rw [w1.length, ln os rfl]; exact hn, fun p hp => new_knot true q h1 x1 s1 t1 w1 n1 k1 hp⟩
/-! ### one operand -/
def Op1 (K : PySem.W.Frag) (r : V → Hp → VK → Prop) (g : D → Option D) : Prop := ∀ (H : Hp) (v : V) (d z : D) (Q : VK), Rp K H v d → g d = some z → (∀ v' H', Same H H' → Rp K H' v' z → Q v' H') → r v H Q
def un1 (g : D → Option D) (a : Rs D) : Rs D := a.bind fun x => ofO (g x)
theorem op1_run {ta : TE} {r : V → Hp → VK → Prop} {g : D → Option D} {fa : Sl → Rs D} (hg : Op1 K r g) (ka : ∀ S T st σ H Q, RS K S T st σ H → PV K cl W σ H (fa st) Q → ta σ H Q)
    {S T st σ H Q} (rs : RS K S T st σ H) (q : PV K cl W σ H (un1 g (fa st)) Q) : ta σ H fun x H1 => r x H1 Q := by
  refine ka S T st σ H _ rs ?_
  revert q
  cases fa st with
  | bad => exact fun q => q
  | ex c => exact fun q => q
  | ok d =>
    intro q v H1 h1 r1
    have q' : PV K cl W σ H (ofO (g d)) Q := q
    cases ez : g d with
    | none => rw [ez] at q'; exact q'.elim
    | some z =>
      rw [ez] at q'
      exact hg H1 v d z Q r1 ez fun v' H3 h3 r3 => q' v' H3 (h1.trans h3) r3
theorem v_un {a : Expr} {op : UnaryOp} {pos : Pos} {r : V → Hp → VK → Prop} {g : D → Option D} {fa : Sl → Rs D} (ho : ∀ z, UnR (X z) (unaryOp op) r) (hg : Op1 K r g) (ha : EV K W cl (PEf X a) fa) : EV K W cl (PEf X (.UnaryOp op a pos)) fun st => un1 g (fa st) := by
  obtain ⟨ta, pa, ka⟩ := ha.ex
  exact ⟨_, fun z => pe_un (ho z) (pa z), fun S T st σ H Q rs q => op1_run hg ka rs q⟩
theorem o_neg : Op1 K (rU fun i => .int (-i)) negD := by
  intro H v d z Q r e q
  cases r with
  | int i => cases e; exact ⟨i, rfl, q _ _ (.refl _) (.int _)⟩
  | _ => cases e
/-- a built-in's call with one argument, by the rule of its values -/
theorem v_call1 {R : TE → Prop} {a : Expr} {r : List V → Hp → VK → Prop} {g : D → Option D} {fa : Sl → Rs D} (hp : ∀ t, PAf X [a] t → R (tCB r t)) (hg : Op1 K (fun x => r [x]) g) (ha : EV K W cl (PEf X a) fa)
    (hs : ∀ z, starEach [a] (X z).env = [(false, eval a (X z).env)] := by intro _; rfl) : EV K W cl R fun st => un1 g (fa st) := by
  obtain ⟨ta, pa, ka⟩ := ha.ex
  exact ⟨_, hp _ fun z => pa_cons (pa z) pa_nil (hs z), fun S T st σ H Q rs q => op1_run (r := fun x => r [x]) hg ka rs q⟩
theorem v_call2 {R : TE → Prop} {a b : Expr} {r : List V → Hp → VK → Prop} {g : D → D → Option D} {fa fb : Sl → Rs D} (hp : ∀ t, PAf X [a, b] t → R (tCB r t)) (hg : Op2 K (fun x y => r [x, y]) g) (ha : EV K W cl (PEf X a) fa) (hb : EV K W cl (PEf X b) fb)
    (hs : ∀ z, starEach [a, b] (X z).env = [(false, eval a (X z).env), (false, eval b (X z).env)] := by intro _; rfl) (hs2 : ∀ z, starEach [b] (X z).env = [(false, eval b (X z).env)] := by intro _; rfl) : EV K W cl R fun st => bin2 g (fa st) (fb st) := by
  obtain ⟨ta, pa, ka⟩ := ha.ex
  obtain ⟨tb, pb, kb⟩ := hb.ex
  exact ⟨_, hp _ fun z => pa_cons (pa z) (pa_cons (pb z) pa_nil (hs2 z)) ((hs z).trans (by rw [← hs2 z])), fun S T st σ H Q rs q => op2_run (r := fun x y => r [x, y]) hg ka kb rs q⟩
abbrev rLen (K : PySem.W.Frag) : List V → Hp → VK → Prop := fun xs H Q => ∃ x n, xs = [x] ∧ LenV K x H n ∧ Q (.int n) H
abbrev rAbs : List V → Hp → VK → Prop := fun xs H Q => ∃ i, xs = [.int i] ∧ Q (.int (if i < 0 then -i else i)) H
abbrev rInt1 : List V → Hp → VK → Prop := fun xs H Q => (∃ i, xs = [.int i] ∧ Q (.int i) H) ∨ ∃ k, xs = [.bl k] ∧ Q (.int (if k then 1 else 0)) H
abbrev rMax2 : List V → Hp → VK → Prop := fun xs H Q => ∃ i j, xs = [.int i, .int j] ∧ Q (.int (if j > i then j else i)) H
abbrev rMin2 : List V → Hp → VK → Prop := fun xs H Q => ∃ i j, xs = [.int i, .int j] ∧ Q (.int (if j < i then j else i)) H
theorem o_len : Op1 K (fun x H Q => ∃ y n, [x] = [y] ∧ LenV K y H n ∧ Q (.int n) H) lenD := by
  intro H v d z Q r e q
  refine ⟨v, ?_⟩
  cases r with
  | lst h r => cases e; exact ⟨_, rfl, .inl ⟨_, SqL.of h, r.length.symm⟩, q _ _ (.refl _) (.int _)⟩
  | tup h r => cases e; exact ⟨_, rfl, .inr ⟨_, SqT.of h, r.length.symm⟩, q _ _ (.refl _) (.int _)⟩
  | scr h =>
    rename_i a ns
    cases e
    exact ⟨ns.length, rfl, .inl ⟨_, h, by rw [List.length_map]⟩, q _ _ (.refl _) (.int _)⟩
  | str x =>
    have e : (if x.length ≤ sizeLine then some (D.int x.length) else none) = some z := e
    by_cases c : x.length ≤ sizeLine
    · rw [if_pos c] at e
      cases e
      exact ⟨x.length, rfl, ⟨c, rfl⟩, q _ _ (.refl _) (.int _)⟩
    · rw [if_neg c] at e
      cases e
  | non => cases e
  | bl _ => cases e
  | int _ => cases e
theorem o_abs : Op1 K (fun x H Q => ∃ i, [x] = [.int i] ∧ Q (.int (if i < 0 then -i else i)) H) absD := by
  intro H v d z Q r e q
  cases r with
  | int i => cases e; exact ⟨i, rfl, q _ _ (.refl _) (.int _)⟩
  | _ => cases e
theorem o_int : Op1 K (fun x H Q => (∃ i, [x] = [.int i] ∧ Q (.int i) H) ∨ ∃ k, [x] = [.bl k] ∧ Q (.int (if k then 1 else 0)) H) intD := by
  intro H v d z Q r e q
  cases r with
  | int i => cases e; exact .inl ⟨i, rfl, q _ _ (.refl _) (.int _)⟩
  | bl k => cases e; exact .inr ⟨k, rfl, q _ _ (.refl _) (.int _)⟩
  | _ => cases e
theorem o_max2 : Op2 K (fun x y H Q => ∃ i j, [x, y] = [.int i, .int j] ∧ Q (.int (if j > i then j else i)) H) max2D := by
  intro H v w d e z Q r1 r2 ez q
  cases d with
  | int i => cases e with
    | int j => cases r1; cases r2; cases ez; exact ⟨i, j, rfl, q _ _ (.refl _) (.int _)⟩
    | _ => cases ez
  | _ => cases ez
theorem o_min2 : Op2 K (fun x y H Q => ∃ i j, [x, y] = [.int i, .int j] ∧ Q (.int (if j < i then j else i)) H) min2D := by
  intro H v w d e z Q r1 r2 ez q
  cases d with
  | int i => cases e with
    | int j => cases r1; cases r2; cases ez; exact ⟨i, j, rfl, q _ _ (.refl _) (.int _)⟩
    | _ => cases ez
  | _ => cases ez
theorem o_sum : Op1 K (fun x => rSum K [x]) sumD := by
  intro H v d z Q r e q
  unfold sumD at e
  cases e1 : elems d with
  | none => rw [e1] at e; cases e
  | some ds =>
    obtain ⟨a, vs, rfl, h, rl⟩ := r.seqL e1
    rw [e1] at e
    have e : (intsD ds).map (fun ns => D.int ns.sum) = some z := e
    cases e2 : intsD ds with
    | none => rw [e2] at e; cases e
    | some ns =>
      rw [e2] at e
      cases e
      rw [intsD_eq e2] at rl
      rw [rl.of_ints] at h
      exact ⟨a, ns, rfl, h, q _ _ (.refl _) (.int _)⟩
theorem o_all : Op1 K (fun x => rAll K [x]) allD := by
  intro H v d z Q r e q
  unfold allD at e
  cases e1 : elems d with
  | none => rw [e1] at e; cases e
  | some ds =>
    obtain ⟨a, vs, rfl, h, rl⟩ := r.seqL e1
    rw [e1] at e
    have e : (boolsD ds).map (fun ns => D.bl (ns.all id)) = some z := e
    cases e2 : boolsD ds with
    | none => rw [e2] at e; cases e
    | some ns =>
      rw [e2] at e
      cases e
      rw [boolsD_eq e2] at rl
      rw [rl.of_bools] at h
      exact ⟨a, ns, rfl, h, q _ _ (.refl _) (.bl _)⟩
theorem o_any : Op1 K (fun x => rAny K [x]) anyD := by
  intro H v d z Q r e q
  unfold anyD at e
  cases e1 : elems d with
  | none => rw [e1] at e; cases e
  | some ds =>
    obtain ⟨a, vs, rfl, h, rl⟩ := r.seqL e1
    rw [e1] at e
    have e : (boolsD ds).map (fun ns => D.bl (ns.any id)) = some z := e
    cases e2 : boolsD ds with
    | none => rw [e2] at e; cases e
    | some ns =>
      rw [e2] at e
      cases e
      rw [boolsD_eq e2] at rl
      rw [rl.of_bools] at h
      exact ⟨a, ns, rfl, h, q _ _ (.refl _) (.bl _)⟩
/-! ### isinstance with a built-in class -/
def tyN : D → String
  | .non => "NoneType" | .bl _ => "bool" | .int _ => "int" | .str _ => "str" | .lst _ => "list" | .tup _ => "tuple" | .scr _ => "list"
def isi (T : String) : D → Option D := fun d => (kitB (tyN d) T).map .bl
theorem Rp.ty {H : Hp} {v : V} {d : D} (h : Rp K H v d) : TyX K H v (.type (tyN d)) := by
  cases h with
  | non => exact .base .non
  | bl b => exact .base (.bl b)
  | int i => exact .base (.int i)
  | str x => exact .base (.str x)
  | lst h _ => exact .base (.lst h)
  | tup h _ => exact .base (.tup h)
  | scr h =>
    rcases h with (h | ⟨o, h⟩) | ⟨o, its, n, h, c, _⟩
    · exact .base (.lst h)
    · exact .base (.frz h)
    · exact .kList h c
theorem o_isi {T : String} : Op1 K (fun x => rIsi K [x, .ty T]) (isi T) := by
  intro H v d z Q r e q
  unfold isi at e
  cases e1 : kitB (tyN d) T with
  | none => rw [e1] at e; cases e
  | some b =>
    rw [e1] at e
    cases e
    exact ⟨v, .ty T, _, _, b, rfl, .ty T, r.ty, kit_ty e1, q _ _ (.refl _) (.bl _)⟩
theorem v_isi {a : Expr} {R : TE → Prop} {T : String} {b : Expr} {fa : Sl → Rs D} (hp : ∀ t, PAf X [a, b] t → R (tCB (rIsi K) t)) (hb : PEf X b (tC (.ty T))) (ha : EV K W cl (PEf X a) fa)
    (hs : ∀ z, starEach [a, b] (X z).env = [(false, eval a (X z).env), (false, eval b (X z).env)] := by intro _; rfl) (hs2 : ∀ z, starEach [b] (X z).env = [(false, eval b (X z).env)] := by intro _; rfl) : EV K W cl R fun st => un1 (isi T) (fa st) := by
  obtain ⟨ta, pa, ka⟩ := ha.ex
  exact ⟨_, hp _ fun z => pa_cons (pa z) (pa_cons (hb z) pa_nil (hs2 z)) ((hs z).trans (by rw [← hs2 z])), fun S T' st σ H Q rs q => op1_run (r := fun x => rIsi K [x, .ty T]) o_isi ka rs q⟩
/-! ### slices -/
structure EO (K : PySem.W.Frag) (W : WX) (cl : Cl) (R : TO → Prop) (f : Sl → Rs (Option Int)) : Prop where
  ex : ∃ t, R t ∧ ∀ S T st σ H (Q : Option Int → Hp → Prop), RS K S T st σ H → (match f st with
    | .ok o => ∀ H', Same H H' → Q o H'
    | .ex c => ∀ H', Same H H' → W (.ref (cl c)) none σ H'
    | .bad => False) → t σ H Q
theorem o_none : EO K W cl (POf X none) fun _ => .ok none := ⟨_, fun _ => po_none, fun S T st σ H Q r q => q H (.refl _)⟩
def asI (r : Rs D) : Rs (Option Int) := r.bind fun d => match d with
  | .int i => .ok (some i)
  | _ => .bad
theorem o_some {e : Expr} {f : Sl → Rs D} (h : EV K W cl (PEf X e) f) : EO K W cl (POf X (some e)) fun st => asI (f st) := by
  obtain ⟨t, p, k⟩ := h.ex
  refine ⟨_, fun z => po_some (p z), fun S T st σ H Q r q => k S T st σ H _ r ?_⟩
  revert q
  cases f st with
  | bad => exact fun q => q
  | ex c => exact fun q => q
  | ok d =>
    intro q v H1 h1 rp
    cases rp with
    | int i => exact ⟨i, rfl, q H1 h1⟩
    | _ => exact q.elim
theorem RpL.cut {S : Hp} {vs : List V} {ds : List D} (r : RpL K S vs ds) (lo hi : Option Int) : RpL K S (cutL vs lo hi) (cutL ds lo hi) := by
  unfold cutL
  rw [r.length]
  exact (r.drop _).take _
def sliceF (d : Rs D) (a b : Rs (Option Int)) : Rs O := d.bind fun d => a.bind fun lo => b.bind fun hi => match elems d with
  | some ds => .ok (.lst ((cutL ds lo hi).map .sh))
  | none => .bad
/-- a slice of a list that stays -/
theorem f_slice {e : Expr} {lo hi : Option Expr} {p2 pos : Pos} {fe : Sl → Rs D} {fl fh : Sl → Rs (Option Int)} (he : EP K W cl (PEf X e) fe) (hl : EO K W cl (POf X lo) fl) (hh : EO K W cl (POf X hi) fh) (hK : ∀ z, (X z).K = K := by intro _; rfl) :
    EF K W cl (PEf X (.Subscript e (.Slice lo hi none p2) pos)) fun st => sliceF (fe st) (fl st) (fh st) := by
  obtain ⟨te, pe, ke⟩ := he.ex
  obtain ⟨tl, pl, kl⟩ := hl.ex
  obtain ⟨th, ph, kh⟩ := hh.ex
  refine ⟨_, fun z => pe_slice (hK z ▸ sl_list) (pe z) (pl z) (ph z), fun S T st σ H Q r q => ke S T st σ H _ r ?_⟩
  have q : PF K cl W S T σ H (sliceF (fe st) (fl st) (fh st)) Q := q
  revert q
  cases fe st with
  | bad => exact fun q => q
  | ex c => exact fun q => q
  | ok d =>
    intro q v S1 T1 H1 h1 x1 s1 t1 r1
    refine kl S1 T1 st σ H1 _ (r.ext h1 x1 s1 t1) ?_
    revert q
    cases fl st with
    | bad => exact fun q => q
    | ex c => exact fun q H2 h2 => q H2 (h1.trans h2)
    | ok l =>
      intro q H2 h2
      refine kh S1 T1 st σ H2 _ ((r.ext h1 x1 s1 t1).mono h2) ?_
      revert q
      cases fh st with
      | bad => exact fun q => q
      | ex c => exact fun q H3 h3 => q H3 ((h1.trans h2).trans h3)
      | ok u =>
        intro q H3 h3
        have q' : PF K cl W S T σ H (match elems d with
          | some ds => .ok (.lst ((cutL ds l u).map .sh))
          | none => .bad) Q := q
        cases e1 : elems d with
        | none => rw [e1] at q'; exact q'.elim
        | some ds =>
          rw [e1] at q'
          obtain ⟨a, vs, rfl, hq, rl⟩ := r1.seqL e1
          have up : Same T1 H3 := (t1.trans h2).trans h3
          exact ⟨a, vs, rfl, (s1.trans up).seq hq, fun p hp => new_list (ds := cutL ds l u) q' ((h1.trans h2).trans h3) x1 s1 up (rl.cut l u) hp⟩
theorem RpL.prims {S S' : Hp} : ∀ {vs : List V} {ds : List D}, RpL K S vs ds → ds.all prim = true → RpL K S' vs ds
  | _, _, .nil, _ => .nil
  | _, _, .cons h r, p => by
    rw [List.all_cons, Bool.and_eq_true] at p
    exact .cons (h.prim p.1) (RpL.prims r p.2)
def sliceV (d : Rs D) (a b : Rs (Option Int)) : Rs O := d.bind fun d => a.bind fun lo => b.bind fun hi => match elems d with
  | some ds => if (cutL ds lo hi).all prim = true then .ok (.lst ((cutL ds lo hi).map .sh)) else .bad
  | none => .bad
/-- a slice, of numbers and the like, of any list -/
theorem f_sliceV {e : Expr} {lo hi : Option Expr} {p2 pos : Pos} {fe : Sl → Rs D} {fl fh : Sl → Rs (Option Int)} (he : EV K W cl (PEf X e) fe) (hl : EO K W cl (POf X lo) fl) (hh : EO K W cl (POf X hi) fh) (hK : ∀ z, (X z).K = K := by intro _; rfl) :
    EF K W cl (PEf X (.Subscript e (.Slice lo hi none p2) pos)) fun st => sliceV (fe st) (fl st) (fh st) := by
  obtain ⟨te, pe, ke⟩ := he.ex
  obtain ⟨tl, pl, kl⟩ := hl.ex
  obtain ⟨th, ph, kh⟩ := hh.ex
  refine ⟨_, fun z => pe_slice (hK z ▸ sl_list) (pe z) (pl z) (ph z), fun S T st σ H Q r q => ke S T st σ H _ r ?_⟩
  have q : PF K cl W S T σ H (sliceV (fe st) (fl st) (fh st)) Q := q
  revert q
  cases fe st with
  | bad => exact fun q => q
  | ex c => exact fun q => q
  | ok d =>
    intro q v H1 h1 r1
    refine kl S T st σ H1 _ (r.mono h1) ?_
    revert q
    cases fl st with
    | bad => exact fun q => q
    | ex c => exact fun q H2 h2 => q H2 (h1.trans h2)
    | ok l =>
      intro q H2 h2
      refine kh S T st σ H2 _ ((r.mono h1).mono h2) ?_
      revert q
      cases fh st with
      | bad => exact fun q => q
      | ex c => exact fun q H3 h3 => q H3 ((h1.trans h2).trans h3)
      | ok u =>
        intro q H3 h3
        have q' : PF K cl W S T σ H (match elems d with
          | some ds => if (cutL ds l u).all prim = true then .ok (.lst ((cutL ds l u).map .sh)) else .bad
          | none => .bad) Q := q
        cases e1 : elems d with
        | none => rw [e1] at q'; exact q'.elim
        | some ds =>
          rw [e1] at q'
          have q' : PF K cl W S T σ H (if (cutL ds l u).all prim = true then .ok (.lst ((cutL ds l u).map .sh)) else .bad) Q := q'
          by_cases c : (cutL ds l u).all prim = true
          · rw [if_pos c] at q'
            obtain ⟨a, vs, rfl, hq, rl⟩ := r1.seqL e1
            have up : Same H H3 := (h1.trans h2).trans h3
            exact ⟨a, vs, rfl, (h2.trans h3).seq hq, fun p hp => new_list (ds := cutL ds l u) q' up .refl r.lo (r.th.trans up) ((rl.cut l u).prims c) hp⟩
          · rw [if_neg c] at q'
            exact q'.elim
/-! ### list(..), + of lists, * -/
def listElems : D → Option (List D)
  | .lst ds => some ds
  | .tup ds => some ds
  | .scr ns => some (ns.map .int)
  | _ => none
theorem Rp.seqLT {S : Hp} {v : V} {d : D} {ds : List D} (h : Rp K S v d) (e : listElems d = some ds) : ∃ a vs, v = .ref a ∧ (SqL K S a vs ∨ SqT K S a vs) ∧ RpL K S vs ds := by
  cases h with
  | lst h r => cases e; exact ⟨_, _, rfl, .inl (SqL.of h), r⟩
  | tup h r => cases e; exact ⟨_, _, rfl, .inr (SqT.of h), r⟩
  | scr h => cases e; exact ⟨_, _, rfl, .inl h, .ints _⟩
  | non => cases e
  | bl _ => cases e
  | int _ => cases e
  | str _ => cases e
theorem Same.seqT {S H : Hp} {a : Addr} {xs : List V} (e : Same S H) (h : SqT K S a xs) : SqT K H a xs := by
  rcases h with (h | ⟨o, h⟩) | h
  · exact .inl (.inl (e _ _ h))
  · exact .inl (.inr ⟨o, e _ _ h⟩)
  · exact .inr h
def listF (a : Rs D) : Rs O := a.bind fun d => match listElems d with
  | some ds => .ok (.lst (ds.map .sh))
  | none => .bad
def listVF (a : Rs D) : Rs O := a.bind fun d => match listElems d with
  | some ds => if ds.all prim = true then .ok (.lst (ds.map .sh)) else .bad
  | none => .bad
abbrev rListOf (K : PySem.W.Frag) : List V → Hp → VK → Prop := fun xs H Q => ∃ p ys, xs = [.ref p] ∧ (SqL K H p ys ∨ SqT K H p ys) ∧ ∀ l, H l = none → Q (.ref l) (upd H l (.lst ys))
theorem f_list {R : TE → Prop} {a : Expr} {fa : Sl → Rs D} (hp : ∀ t, PAf X [a] t → R (tCB (rListOf K) t)) (ha : EP K W cl (PEf X a) fa) (hs : ∀ z, starEach [a] (X z).env = [(false, eval a (X z).env)] := by intro _; rfl) : EF K W cl R fun st => listF (fa st) := by
  obtain ⟨ta, pa, ka⟩ := ha.ex
  refine ⟨_, hp _ fun z => pa_cons (pa z) pa_nil (hs z), fun S T st σ H Q r q => ka S T st σ H _ r ?_⟩
  have q : PF K cl W S T σ H (listF (fa st)) Q := q
  revert q
  cases fa st with
  | bad => exact fun q => q
  | ex c => exact fun q => q
  | ok d =>
    intro q v S1 T1 H1 h1 x1 s1 t1 r1
    have q' : PF K cl W S T σ H (match listElems d with
      | some ds => .ok (.lst (ds.map .sh))
      | none => .bad) Q := q
    cases e1 : listElems d with
    | none => rw [e1] at q'; exact q'.elim
    | some ds =>
      rw [e1] at q'
      obtain ⟨a, vs, rfl, hq, rl⟩ := r1.seqLT e1
      have up := s1.trans t1
      exact ⟨a, vs, rfl, hq.imp up.seq (Same.seqT up), fun p hp => new_list q' h1 x1 s1 t1 rl hp⟩
theorem f_listV {R : TE → Prop} {a : Expr} {fa : Sl → Rs D} (hp : ∀ t, PAf X [a] t → R (tCB (rListOf K) t)) (ha : EV K W cl (PEf X a) fa) (hs : ∀ z, starEach [a] (X z).env = [(false, eval a (X z).env)] := by intro _; rfl) : EF K W cl R fun st => listVF (fa st) := by
  obtain ⟨ta, pa, ka⟩ := ha.ex
  refine ⟨_, hp _ fun z => pa_cons (pa z) pa_nil (hs z), fun S T st σ H Q r q => ka S T st σ H _ r ?_⟩
  have q : PF K cl W S T σ H (listVF (fa st)) Q := q
  revert q
  cases fa st with
  | bad => exact fun q => q
  | ex c => exact fun q => q
  | ok d =>
    intro q v H1 h1 r1
    have q' : PF K cl W S T σ H (match listElems d with
      | some ds => if ds.all prim = true then .ok (.lst (ds.map .sh)) else .bad
      | none => .bad) Q := q
    cases e1 : listElems d with
    | none => rw [e1] at q'; exact q'.elim
    | some ds =>
      rw [e1] at q'
      have q' : PF K cl W S T σ H (if ds.all prim = true then .ok (.lst (ds.map .sh)) else .bad) Q := q'
      by_cases c : ds.all prim = true
      · rw [if_pos c] at q'
        obtain ⟨a, vs, rfl, hq, rl⟩ := r1.seqLT e1
        exact ⟨a, vs, rfl, hq, fun p hp => new_list q' h1 .refl r.lo (r.th.trans h1) (rl.prims c) hp⟩
      · rw [if_neg c] at q'
        exact q'.elim
def catF (a b : Rs D) : Rs O := a.bind fun x => b.bind fun y => match x, y with
  | .lst ds, .lst es => if ds.length + es.length ≤ sizeLine then .ok (.lst ((ds ++ es).map .sh)) else .bad
  | _, _ => .bad
theorem f_cat {a b : Expr} {pos : Pos} {fa fb : Sl → Rs D} (ha : EP K W cl (PEf X a) fa) (hb : EP K W cl (PEf X b) fb) : EF K W cl (PEf X (.BinOp a .Add b pos)) fun st => catF (fa st) (fb st) := by
  obtain ⟨ta, pa, ka⟩ := ha.ex
  obtain ⟨tb, pb, kb⟩ := hb.ex
  refine ⟨_, fun z => pe_op op_cat (pa z) (pb z), fun S T st σ H Q r q => ka S T st σ H _ r ?_⟩
  have q : PF K cl W S T σ H (catF (fa st) (fb st)) Q := q
  revert q
  cases fa st with
  | bad => exact fun q => q
  | ex c => exact fun q => q
  | ok d =>
    intro q v S1 T1 H1 h1 x1 s1 t1 r1
    refine kb S1 T1 st σ H1 _ (r.ext h1 x1 s1 t1) ?_
    revert q
    cases fb st with
    | bad => exact fun q => q
    | ex c => exact fun q H2 h2 => q H2 (h1.trans h2)
    | ok e =>
      intro q w S2 T2 H2 h2 x2 s2 t2 r2
      cases r1 with
      | @lst a1 vs ds l1 q1 =>
        cases r2 with
        | @lst a2 ws es l2 q2 =>
          have q' : PF K cl W S T σ H (if ds.length + es.length ≤ sizeLine then .ok (.lst ((ds ++ es).map .sh)) else .bad) Q := q
          by_cases c : ds.length + es.length ≤ sizeLine
          · rw [if_pos c] at q'
            refine ⟨a1, a2, vs, ws, rfl, rfl, ((s1.trans t1).trans h2) _ _ l1, (s2.trans t2) _ _ l2, by rw [q1.length, q2.length]; exact c, fun p hp => ?_⟩
            exact new_list (ds := ds ++ es) q' (h1.trans h2) (x1.trans h1 x2) s2 t2 ((q1.mono x2.s).append q2) hp
          · rw [if_neg c] at q'
            exact q'.elim
        | _ => exact q.elim
      | _ => exact q.elim
@[irreducible] def repOk (n : Nat) (k : Int) : Bool := decide (-(2 ^ 63) ≤ k) && decide (k < 2 ^ 63) && decide (n * k.toNat ≤ sizeLine)
def repF (a b : Rs D) : Rs O := a.bind fun x => b.bind fun y => match x, y with
  | .lst ds, .int k => if repOk ds.length k = true then .ok (.lst ((List.replicate k.toNat ds).flatten.map .sh)) else .bad
  | _, _ => .bad
theorem RpL.rep {S : Hp} {vs : List V} {ds : List D} (r : RpL K S vs ds) : ∀ n : Nat, RpL K S (List.replicate n vs).flatten (List.replicate n ds).flatten
  | 0 => .nil
  | n + 1 => by
    rw [List.replicate_succ, List.replicate_succ, List.flatten_cons, List.flatten_cons]
    exact r.append (r.rep n)
theorem f_rep {a b : Expr} {pos : Pos} {fa fb : Sl → Rs D} (ha : EP K W cl (PEf X a) fa) (hb : EV K W cl (PEf X b) fb) : EF K W cl (PEf X (.BinOp a .Mult b pos)) fun st => repF (fa st) (fb st) := by
  obtain ⟨ta, pa, ka⟩ := ha.ex
  obtain ⟨tb, pb, kb⟩ := hb.ex
  refine ⟨_, fun z => pe_op op_rep (pa z) (pb z), fun S T st σ H Q r q => ka S T st σ H _ r ?_⟩
  have q : PF K cl W S T σ H (repF (fa st) (fb st)) Q := q
  revert q
  cases fa st with
  | bad => exact fun q => q
  | ex c => exact fun q => q
  | ok d =>
    intro q v S1 T1 H1 h1 x1 s1 t1 r1
    refine kb S1 T1 st σ H1 _ (r.ext h1 x1 s1 t1) ?_
    revert q
    cases fb st with
    | bad => exact fun q => q
    | ex c => exact fun q H2 h2 => q H2 (h1.trans h2)
    | ok e =>
      intro q w H2 h2 r2
      cases r1 with
      | @lst a1 vs ds l1 q1 =>
        cases r2 with
        | int k =>
          have q' : PF K cl W S T σ H (if repOk ds.length k = true then .ok (.lst ((List.replicate k.toNat ds).flatten.map .sh)) else .bad) Q := q
          by_cases c : repOk ds.length k = true
          · rw [if_pos c] at q'
            unfold repOk at c
            simp only [Bool.and_eq_true, decide_eq_true_eq] at c
            refine ⟨a1, k, vs, rfl, rfl, ((s1.trans t1).trans h2) _ _ l1, c.1.1, c.1.2, by rw [q1.length]; exact c.2, fun p hp => ?_⟩
            exact new_list (ds := (List.replicate k.toNat ds).flatten) q' (h1.trans h2) x1 s1 (t1.trans h2) (q1.rep _) hp
          · rw [if_neg c] at q'
            exact q'.elim
        | _ => exact q.elim
      | _ => exact q.elim
/-! ### e1 if t else e2 -/
def ifR {α : Type} (c : Rs Bool) (a b : Rs α) : Rs α := c.bind fun k => if k = true then a else b
theorem v_if {c a b : Expr} {pos : Pos} {fc : Sl → Rs Bool} {fa fb : Sl → Rs D} (hc : ET K W cl (PTf X c) fc) (ha : EV K W cl (PEf X a) fa) (hb : EV K W cl (PEf X b) fb) : EV K W cl (PEf X (.IfExp c a b pos)) fun st => ifR (fc st) (fa st) (fb st) := by
  obtain ⟨tc, pc, kc⟩ := hc.ex
  obtain ⟨ta, pa, ka⟩ := ha.ex
  obtain ⟨tb, pb, kb⟩ := hb.ex
  refine ⟨_, fun z => pe_ifExp (pc z) (pa z) (pb z), fun S T st σ H Q r q => kc S T st σ H _ r ?_⟩
  have q : PV K cl W σ H (ifR (fc st) (fa st) (fb st)) Q := q
  revert q
  cases fc st with
  | bad => exact fun q => q
  | ex c => exact fun q => q
  | ok k =>
    cases k with
    | true => exact fun q H1 h1 => iteT (ka S T st σ H1 Q (r.mono h1) (PV.mono (r := fa st) h1 q))
    | false => exact fun q H1 h1 => iteF (kb S T st σ H1 Q (r.mono h1) (PV.mono (r := fb st) h1 q))
/-! ### an own def called -/
/-- the promise of a def: m tells what it gives -/
def SpD (K : PySem.W.Frag) (cl : Cl) (n : Nat) (m : List D → Rs O) : Sp := fun vs H Q E => ∃ S ds, ds.length = n ∧ Same S H ∧ RpL K S vs ds ∧ match m ds with
  | .ok o => ∀ v S' H' g, Same S S' → Same H H' → (∀ b, H b ≠ none → S' b = S b) → Same S' H' → Ow K S' H' v o g → g.Nodup → (∀ b ∈ g, S' b = none ∧ H b = none) → Q v H'
  | .ex c => ∀ H', Same H H' → E (.ref (cl c)) none H'
  | .bad => False
theorem SpD.len {n : Nat} {m : List D → Rs O} : ∀ vs H Q E, SpD K cl n m vs H Q E → vs.length = n := fun vs H Q E ⟨S, ds, h, _, r, _⟩ => r.length.trans h
def callR {α : Type} (n : Nat) (m : List D → Rs α) (a : Rs (List D)) : Rs α := a.bind fun ds => if ds.length = n then m ds else .bad
theorem f_call {n : Nat} {m : List D → Rs O} {R : TE → Prop} {es : List Expr} {fa : Sl → Rs (List D)} (hp : ∀ t, PAf X es t → R (tCallS (SpD K cl n m) (WE W) t)) (ha : EPs K W cl (PAf X es) fa) : EF K W cl R fun st => callR n m (fa st) := by
  obtain ⟨ta, pa, ka⟩ := ha.ex
  refine ⟨_, hp _ pa, fun S T st σ H Q r q => ka S T st σ H _ r ?_⟩
  have q : PF K cl W S T σ H (callR n m (fa st)) Q := q
  revert q
  cases fa st with
  | bad => exact fun q => q
  | ex c => exact fun q => q
  | ok ds =>
    intro q vs S1 T1 H1 h1 x1 s1 t1 r1
    have q : PF K cl W S T σ H (if ds.length = n then m ds else .bad) Q := q
    by_cases hn : ds.length = n
    · rw [if_pos hn] at q
      refine ⟨S1, ds, hn, s1.trans t1, r1, ?_⟩
      revert q
      cases m ds with
      | bad => exact fun q => q
      | ex c => exact fun q H2 h2 => q H2 (h1.trans h2)
      | ok o =>
        intro q v S2 H2 g e1 e2 e3 e4 w nd hg
        -- what is left alone: T1, and what of S2 is new
        let T2 : Hp := fun b => match H1 b with
          | none => S2 b
          | some _ => T1 b
        have T2n : ∀ b, H1 b = none → T2 b = S2 b := fun b h => by show (match H1 b with | none => S2 b | some _ => T1 b) = S2 b; rw [h]
        have T2s : ∀ b, H1 b ≠ none → T2 b = T1 b := fun b h => by
          show (match H1 b with | none => S2 b | some _ => T1 b) = T1 b
          cases e : H1 b with
          | none => exact absurd e h
          | some u => rfl
        have n1 : ∀ b o, T1 b = some o → H1 b ≠ none := fun b o h => by rw [t1 b o h]; simp
        refine q v S2 T2 H2 g (h1.trans e2) (x1.trans h1 ⟨e1, fun b o h => ?_, fun b hb => ⟨e3 b hb, T2s b hb⟩⟩) (fun b o h => ?_) (fun b o h => ?_) w nd fun b hb => ⟨?_, h1.free (hg b hb).2⟩
        · rw [T2s b (n1 b o h)]; exact h
        · by_cases hb : H1 b = none
          · rw [T2n b hb]; exact h
          · rw [T2s b hb]; rw [e3 b hb] at h; exact s1 b o h
        · by_cases hb : H1 b = none
          · rw [T2n b hb] at h; exact e4 b o h
          · rw [T2s b hb] at h; exact e2 b o (t1 b o h)
        · rw [T2n b (hg b hb).2]; exact (hg b hb).1
    · rw [if_neg hn] at q
      exact q.elim
/-- the same with arguments that are only looked at -/
theorem v_call {n : Nat} {m : List D → Rs O} {R : TE → Prop} {es : List Expr} {fa : Sl → Rs (List D)} (hp : ∀ t, PAf X es t → R (tCallS (SpD K cl n m) (WE W) t)) (ha : EVs K W cl (PAf X es) fa) : EV K W cl R fun st => mapRs O.er (callR n m (fa st)) := by
  obtain ⟨ta, pa, ka⟩ := ha.ex
  refine ⟨_, hp _ pa, fun S T st σ H Q r q => ka S T st σ H _ r ?_⟩
  have q : PV K cl W σ H (mapRs O.er (callR n m (fa st))) Q := q
  revert q
  cases fa st with
  | bad => exact fun q => q
  | ex c => exact fun q => q
  | ok ds =>
    intro q vs H1 h1 r1
    have q : PV K cl W σ H (mapRs O.er (if ds.length = n then m ds else .bad)) Q := q
    by_cases hn : ds.length = n
    · rw [if_pos hn] at q
      refine ⟨H1, ds, hn, .refl _, r1, ?_⟩
      revert q
      cases m ds with
      | bad => exact fun q => q
      | ex c => exact fun q H2 h2 => q H2 (h1.trans h2)
      | ok o => exact fun q v S2 H2 g e1 e2 e3 e4 w nd hg => q v H2 (h1.trans e2) (w.rp e4 fun _ _ => rfl)
    · rw [if_neg hn] at q
      exact q.elim
/-- a tree without what stays, but numbers and the like, from arguments that are only looked at -/
def O.clo : O → Bool
  | .sh d => prim d
  | .lst xs => xs.attach.all fun ⟨x, _⟩ => x.clo
  | .tup xs => xs.attach.all fun ⟨x, _⟩ => x.clo
end
end M

/-! Targets, what is walked, comprehensions. -/
namespace M
open PySem L2
section
variable {ι : Type} {X : ι → Cx} {W : WX} {cl : Cl} {K : PySem.W.Frag}
/-! ### targets; vs: the slots that they fill -/
structure EG (K : PySem.W.Frag) (R : TG → Prop) (vs : List Nat) (f : D → Sl → Option Sl) : Prop where
  ex : ∃ t, R t ∧ ∀ S T st σ H v d st' Q, RS K S T st σ H → Rp K S v d → f d st = some st' → (∀ σ', σ'.length = σ.length → (∀ k, k ∉ vs → σ'[k]? = σ[k]?) → RS K S T st' σ' H → Q σ' H) → t v σ H Q
structure EGs (K : PySem.W.Frag) (R : TGs → Prop) (vs : List Nat) (f : List D → Sl → Option Sl) : Prop where
  ex : ∃ t, R t ∧ ∀ S T st σ H us ds st' Q, RS K S T st σ H → RpL K S us ds → f ds st = some st' → (∀ σ', σ'.length = σ.length → (∀ k, k ∉ vs → σ'[k]? = σ[k]?) → RS K S T st' σ' H → Q σ' H) → t us σ H Q
def setN (i : Nat) (d : D) (st : Sl) : Option Sl := if i < st.length then some (st.set i (some (.sh d))) else none
theorem RS.len {S T : Hp} {st : Sl} {σ : St} {H : Hp} (r : RS K S T st σ H) : σ.length = st.length := by
  obtain ⟨f, w, _⟩ := r.own
  exact w.length
theorem g_nm {e : Expr} {i : Nat} (h : PGf X e (gName i)) : EG K (PGf X e) [i] (setN i) := by
  refine ⟨_, h, fun S T st σ H v d st' Q r rp e q => ?_⟩
  unfold setN at e
  by_cases c : i < st.length
  · rw [if_pos c] at e
    cases e
    refine q (σ.set i (some v)) (List.length_set ..) (fun k hk => ?_) (r.setSh c rp)
    exact List.getElem?_set_ne fun e => hk (by rw [e]; simp)
  · rw [if_neg c] at e
    cases e
def setNil : List D → Sl → Option Sl
  | [], st => some st
  | _, _ => none
def setCons (f : D → Sl → Option Sl) (g : List D → Sl → Option Sl) : List D → Sl → Option Sl
  | d :: ds, st => (f d st).bind (g ds)
  | [], _ => none
theorem gs_nil : EGs K (PGsf X []) [] setNil := by
  refine ⟨_, fun _ => pgs_nil, fun S T st σ H us ds st' Q r rp e q => ?_⟩
  cases rp with
  | nil => cases e; exact ⟨rfl, q σ rfl (fun _ _ => rfl) r⟩
  | cons _ _ => cases e
theorem gs_cons {e : Expr} {es : List Expr} {vs us : List Nat} {f : D → Sl → Option Sl} {g : List D → Sl → Option Sl} (h : EG K (PGf X e) vs f) (k : EGs K (PGsf X es) us g)
    (hs : ∀ z, (assignEach (e :: es) (X z).env).map (·.2) = assign e (X z).env :: (assignEach es (X z).env).map (·.2) := by intro _; rfl) : EGs K (PGsf X (e :: es)) (vs ++ us) (setCons f g) := by
  obtain ⟨t, p, a⟩ := h.ex
  obtain ⟨u, pu, b⟩ := k.ex
  refine ⟨_, fun z => pgs_cons (p z) (pu z) (hs z), fun S T st σ H ws ds st' Q r rp e q => ?_⟩
  cases rp with
  | nil => cases e
  | @cons v vs' d ds' h1 h2 =>
    have e : (f d st).bind (g ds') = some st' := e
    cases e1 : f d st with
    | none => rw [e1] at e; cases e
    | some st1 =>
      rw [e1] at e
      refine ⟨v, vs', rfl, a S T st σ H v d st1 _ r h1 e1 fun σ1 l1 k1 r1 => ?_⟩
      refine b S T st1 σ1 H vs' ds' st' Q r1 h2 e fun σ2 l2 k2 r2 => ?_
      refine q σ2 (l2.trans l1) (fun k hk => ?_) r2
      rw [List.mem_append, not_or] at hk
      exact (k2 k hk.2).trans (k1 k hk.1)
def setTup (n : Nat) (g : List D → Sl → Option Sl) : D → Sl → Option Sl
  | .tup ds, st => if ds.length = n then g ds st else none
  | _, _ => none
theorem g_tup {es : List Expr} {k n : Nat} {pos : Pos} {vs : List Nat} {g : List D → Sl → Option Sl} (hp : ∀ t, PGsf X es t → PGf X (.Tuple es k pos) (gTup K n t)) (h : EGs K (PGsf X es) vs g) :
    EG K (PGf X (.Tuple es k pos)) vs (setTup n g) := by
  obtain ⟨t, p, a⟩ := h.ex
  refine ⟨_, hp _ p, fun S T st σ H v d st' Q r rp e q => ?_⟩
  cases rp with
  | @tup ad ws ds hh rl =>
    have e : (if ds.length = n then g ds st else none) = some st' := e
    by_cases c : ds.length = n
    · rw [if_pos c] at e
      exact ⟨ad, ws, rfl, SqT.of (r.sh _ _ hh), rl.length.trans c, a S T st σ H ws ds st' Q r rl e q⟩
    · rw [if_neg c] at e
      cases e
  | _ => cases e
def setLst (n : Nat) (g : List D → Sl → Option Sl) : D → Sl → Option Sl
  | .lst ds, st => if ds.length = n then g ds st else none
  | _, _ => none
theorem g_lst {es : List Expr} {k n : Nat} {pos : Pos} {vs : List Nat} {g : List D → Sl → Option Sl} (hp : ∀ t, PGsf X es t → PGf X (.Tuple es k pos) (gLst K n t)) (h : EGs K (PGsf X es) vs g) :
    EG K (PGf X (.Tuple es k pos)) vs (setLst n g) := by
  obtain ⟨t, p, a⟩ := h.ex
  refine ⟨_, hp _ p, fun S T st σ H v d st' Q r rp e q => ?_⟩
  cases rp with
  | @lst ad ws ds hh rl =>
    have e : (if ds.length = n then g ds st else none) = some st' := e
    by_cases c : ds.length = n
    · rw [if_pos c] at e
      exact ⟨ad, ws, rfl, SqL.of (r.sh _ _ hh), rl.length.trans c, a S T st σ H ws ds st' Q r rl e q⟩
    · rw [if_neg c] at e
      cases e
  | _ => cases e
/-! ### what is walked -/
/-- an item as it comes: it stood, or it is a new tuple -/
def Yl (K : PySem.W.Frag) (S H : Hp) (x : V) (H' : Hp) (d : D) : Prop := (H' = H ∧ Rp K S x d) ∨ ∃ p us es, x = .ref p ∧ H p = none ∧ H' = upd H p (.tup us) ∧ RpL K S us es ∧ d = .tup es
structure Yields (K : PySem.W.Frag) (J : It) (S : Hp) (ds : List D) : Prop where
  stop : ∀ i H, Same S H → ds.length ≤ i → J.stop i H
  go : ∀ i H, Same S H → i < ds.length → J.go i H
  yld : ∀ i H x H' d, Same S H → ds[i]? = some d → J.yld i H x H' → Yl K S H x H' d
theorem Yields.mono {J : It} {S S' : Hp} {ds : List D} (y : Yields K J S ds) (h : Same S S') : Yields K J S' ds :=
  ⟨fun i H k => y.stop i H (h.trans k), fun i H k => y.go i H (h.trans k), fun i H x H' d k e q => by
    rcases y.yld i H x H' d (h.trans k) e q with ⟨a, b⟩ | ⟨p, us, es, a, b, c, r, e2⟩
    · exact .inl ⟨a, b.mono h⟩
    · exact .inr ⟨p, us, es, a, b, c, r.mono h, e2⟩⟩
/-- behind an item -/
theorem Yl.ext {S T H H' : Hp} {x : V} {d : D} {st : Sl} {σ : St} (y : Yl K S H x H' d) (r : RS K S T st σ H) : ∃ S' T', Same H H' ∧ Ext S T H S' T' ∧ RS K S' T' st σ H' ∧ Rp K S' x d := by
  rcases y with ⟨rfl, h⟩ | ⟨p, us, es, rfl, hp, rfl, h, rfl⟩
  · exact ⟨S, T, .refl _, .refl, r, h⟩
  · have hs := same_upd (o := .tup us) hp
    have sp : S p = none := r.sh.free hp
    have tp : T p = none := r.th.free hp
    have e1 : Same S (upd S p (.tup us)) := same_upd sp
    have e2 : Same T (upd T p (.tup us)) := same_upd tp
    have x : Ext S T H (upd S p (.tup us)) (upd T p (.tup us)) := ⟨e1, e2, fun b hb => ⟨upd_ne fun e => hb (e ▸ hp), upd_ne fun e => hb (e ▸ hp)⟩⟩
    have up : ∀ {A B : Hp}, Same A B → Same (upd A p (.tup us)) (upd B p (.tup us)) := fun {A B} k b o e => by
      by_cases hb : b = p
      · subst hb; rw [upd_same] at e ⊢; exact e
      · rw [upd_ne hb] at e ⊢; exact k b o e
    exact ⟨_, _, hs, x, r.ext hs x (up r.lo) (up r.th), .tup upd_same (h.mono e1)⟩
structure EI (K : PySem.W.Frag) (W : WX) (cl : Cl) (R : TI → Prop) (f : Sl → Rs (List D)) : Prop where
  ex : ∃ t, R t ∧ ∀ S T st σ H (Q : It → Hp → Prop), RS K S T st σ H → (match f st with
    | .ok ds => ∀ J S' T' H', Same H H' → Ext S T H S' T' → RS K S' T' st σ H' → Yields K J S' ds → Q J H'
    | .ex c => ∀ H', Same H H' → W (.ref (cl c)) none σ H'
    | .bad => False) → t σ H Q
def elemsR (a : Rs D) : Rs (List D) := a.bind fun d => ofO (elems d)
theorem RpL.det {S : Hp} {us ws : List V} {ds : List D} (r : RpL K S us ds) (e : us = ws) : RpL K S ws ds := e ▸ r
/-- a list that stays -/
theorem i_list {tg e : Expr} {f : Sl → Rs D} (h : EP K W cl (PEf X e) f) (hK : ∀ z, (X z).K = K := by intro _; rfl) : EI K W cl (PIf X tg e) fun st => elemsR (f st) := by
  obtain ⟨t, p, a⟩ := h.ex
  refine ⟨iList K t, fun z => hK z ▸ pi_list (p z), fun S T st σ H Q r q => a S T st σ H _ r ?_⟩
  revert q
  show (match elemsR (f st) with | .ok ds => _ | .ex c => _ | .bad => _) → _
  cases f st with
  | bad => exact fun q => q
  | ex c => exact fun q => q
  | ok d =>
    show (match ofO (elems d) with | .ok ds => _ | .ex c => _ | .bad => _) → _
    cases e1 : elems d with
    | none => exact fun q => q.elim
    | some ds =>
      intro q v S1 T1 H1 h1 x1 s1 t1 r1
      have q : ∀ J S' T' H', Same H H' → Ext S T H S' T' → RS K S' T' st σ H' → Yields K J S' ds → Q J H' := q
      obtain ⟨ad, us, rfl, hq, rl⟩ := r1.seqL e1
      refine ⟨ad, rfl, ⟨us, (s1.trans t1).seq hq⟩, q (Itl K ad) S1 T1 H1 h1 x1 (r.ext h1 x1 s1 t1) ⟨fun i H2 k hi => ?_, fun i H2 k hi => ?_, fun i H2 x H3 d k e y => ?_⟩⟩
      · exact ⟨us, k.seq hq, by rw [rl.length]; exact hi⟩
      · exact ⟨us, us[i]'(by rw [rl.length]; exact hi), k.seq hq, by simp⟩
      · obtain ⟨y1, y2⟩ := y
        have := y2 us (k.seq hq)
        obtain ⟨u, e2, r2⟩ := rl.get e
        rw [this] at e2
        cases e2
        exact .inl ⟨y1, r2⟩
def rangeL (lo : Int) (n : Nat) : List D := (List.range n).map fun i => D.int (lo + (i : Nat))
theorem range_yields {lo : Int} {n : Nat} {S : Hp} : Yields K (Itr lo n) S (rangeL lo n) := by
  have hl : (rangeL lo n).length = n := by unfold rangeL; rw [List.length_map, List.length_range]
  refine ⟨fun i H k hi => by rw [hl] at hi; exact hi, fun i H k hi => by rw [hl] at hi; exact hi, fun i H x H' d k e y => ?_⟩
  obtain ⟨y1, y2⟩ := y
  have hi : i < n := by
    have := (List.getElem?_eq_some_iff.mp e).1
    rw [hl] at this; exact this
  have e2 : (rangeL lo n)[i]? = some (D.int (lo + (i : Nat))) := by
    unfold rangeL
    rw [List.getElem?_map, List.getElem?_range hi]
    rfl
  rw [e2] at e
  cases e
  rw [y2]
  exact .inl ⟨y1, .int _⟩
@[irreducible] def rngOk (j : Int) : Bool := decide (-(2 ^ 62) ≤ j) && decide (j < 2 ^ 62)
def range1 (a : Rs D) : Rs (List D) := a.bind fun d => match d with
  | .int j => if rngOk j = true then .ok (rangeL 0 j.toNat) else .bad
  | _ => .bad
def range2 (a b : Rs D) : Rs (List D) := a.bind fun d => b.bind fun e => match d, e with
  | .int i, .int j => if (rngOk i && rngOk j) = true then .ok (rangeL i (j - i).toNat) else .bad
  | _, _ => .bad
theorem i_range1 {a : Expr} {R : TI → Prop} {f : Sl → Rs D} (hp : ∀ t, PAf X [a] t → R (iRng1 t)) (h : EV K W cl (PEf X a) f) (hs : ∀ z, starEach [a] (X z).env = [(false, eval a (X z).env)] := by intro _; rfl) : EI K W cl R fun st => range1 (f st) := by
  obtain ⟨t, p, k⟩ := h.ex
  refine ⟨_, hp _ fun z => pa_cons (p z) pa_nil (hs z), fun S T st σ H Q r q => k S T st σ H _ r ?_⟩
  revert q
  show (match range1 (f st) with | .ok ds => _ | .ex c => _ | .bad => _) → _
  cases f st with
  | bad => exact fun q => q
  | ex c => exact fun q => q
  | ok d =>
    cases d with
    | int j =>
      show (match (if rngOk j = true then Rs.ok (rangeL 0 j.toNat) else Rs.bad) with | .ok ds => _ | .ex c => _ | .bad => _) → _
      by_cases c : rngOk j = true
      · rw [if_pos c]
        intro q v H1 h1 r1
        cases r1
        unfold rngOk at c
        simp only [Bool.and_eq_true, decide_eq_true_eq] at c
        exact ⟨j, rfl, c.1, c.2, q (Itr 0 j.toNat) S T H1 h1 .refl (r.mono h1) range_yields⟩
      · rw [if_neg c]
        exact fun q => q.elim
    | _ => exact fun q => q.elim
theorem i_range2 {a b : Expr} {R : TI → Prop} {f g : Sl → Rs D} (hp : ∀ t, PAf X [a, b] t → R (iRng2 t)) (h : EV K W cl (PEf X a) f) (h2 : EV K W cl (PEf X b) g) (hs : ∀ z, starEach [a, b] (X z).env = [(false, eval a (X z).env), (false, eval b (X z).env)] := by intro _; rfl) (hs2 : ∀ z, starEach [b] (X z).env = [(false, eval b (X z).env)] := by intro _; rfl) :
    EI K W cl R fun st => range2 (f st) (g st) := by
  obtain ⟨t, p, k⟩ := h.ex
  obtain ⟨u, pu, ku⟩ := h2.ex
  refine ⟨_, hp _ fun z => pa_cons (p z) (pa_cons (pu z) pa_nil (hs2 z)) ((hs z).trans (by rw [← hs2 z])), fun S T st σ H Q r q => k S T st σ H _ r ?_⟩
  revert q
  show (match range2 (f st) (g st) with | .ok ds => _ | .ex c => _ | .bad => _) → _
  cases f st with
  | bad => exact fun q => q
  | ex c => exact fun q => q
  | ok d =>
    intro q v H1 h1 r1
    refine ku S T st σ H1 _ (r.mono h1) ?_
    revert q
    show (match range2 (.ok d) (g st) with | .ok ds => _ | .ex c => _ | .bad => _) → _
    cases g st with
    | bad => exact fun q => q
    | ex c => exact fun q H2 h2 => q H2 (h1.trans h2)
    | ok e =>
      cases d with
      | int i =>
        cases e with
        | int j =>
          show (match (if (rngOk i && rngOk j) = true then Rs.ok (rangeL i (j - i).toNat) else Rs.bad) with | .ok ds => _ | .ex c => _ | .bad => _) → _
          by_cases c : (rngOk i && rngOk j) = true
          · rw [if_pos c]
            intro q w H2 h2 r2
            cases r1
            cases r2
            unfold rngOk at c
            simp only [Bool.and_eq_true, decide_eq_true_eq] at c
            exact ⟨i, j, rfl, ⟨c.1.1, c.1.2, c.2.1, c.2.2⟩, q (Itr i (j - i).toNat) S T H2 (h1.trans h2) .refl (r.mono (h1.trans h2)) range_yields⟩
          · rw [if_neg c]
            exact fun q => q.elim
        | _ => exact fun q => q.elim
      | _ => exact fun q => q.elim
/-- zip of two lists that stay -/
def zipD (ds es : List D) : List D := (ds.zip es).map fun p => D.tup [p.1, p.2]
def zipR (a b : Rs D) : Rs (List D) := a.bind fun d => b.bind fun e => (ofO (elems d)).bind fun ds => (ofO (elems e)).bind fun es => .ok (zipD ds es)
theorem i_zip {R : TI → Prop} {a b : Expr} {f g : Sl → Rs D} (hp : ∀ t, PAf X [a, b] t → R (iZip K t)) (h : EP K W cl (PEf X a) f) (h2 : EP K W cl (PEf X b) g) (hs : ∀ z, starEach [a, b] (X z).env = [(false, eval a (X z).env), (false, eval b (X z).env)] := by intro _; rfl) (hs2 : ∀ z, starEach [b] (X z).env = [(false, eval b (X z).env)] := by intro _; rfl) :
    EI K W cl R fun st => zipR (f st) (g st) := by
  obtain ⟨t, p, k⟩ := h.ex
  obtain ⟨u, pu, ku⟩ := h2.ex
  refine ⟨_, hp _ fun z => pa_cons (p z) (pa_cons (pu z) pa_nil (hs2 z)) ((hs z).trans (by rw [← hs2 z])), fun S T st σ H Q r q => k S T st σ H _ r ?_⟩
  revert q
  show (match zipR (f st) (g st) with | .ok ds => _ | .ex c => _ | .bad => _) → _
  cases f st with
  | bad => exact fun q => q
  | ex c => exact fun q => q
  | ok d =>
    intro q v S1 T1 H1 h1 x1 s1 t1 r1
    refine ku S1 T1 st σ H1 _ (r.ext h1 x1 s1 t1) ?_
    revert q
    show (match zipR (.ok d) (g st) with | .ok ds => _ | .ex c => _ | .bad => _) → _
    cases g st with
    | bad => exact fun q => q
    | ex c => exact fun q H2 h2 => q H2 (h1.trans h2)
    | ok e =>
      show (match (ofO (elems d)).bind (fun ds => (ofO (elems e)).bind fun es => .ok (zipD ds es)) with | .ok ds => _ | .ex c => _ | .bad => _) → _
      cases e1 : elems d with
      | none => exact fun q => q.elim
      | some ds =>
        cases e2 : elems e with
        | none => exact fun q => q.elim
        | some es =>
          intro q w S2 T2 H2 h2 x2 s2 t2 r2
          have q : ∀ J S' T' H', Same H H' → Ext S T H S' T' → RS K S' T' st σ H' → Yields K J S' (zipD ds es) → Q J H' := q
          obtain ⟨ad, us, rfl, hq, rl⟩ := (r1.mono x2.s).seqL e1
          obtain ⟨bd, ws, rfl, hq2, rl2⟩ := r2.seqL e2
          have rs2 := (r.ext h1 x1 s1 t1).ext h2 x2 s2 t2
          have zl : (zipD ds es).length = min ds.length es.length := by unfold zipD; rw [List.length_map, List.length_zip]
          refine ⟨ad, bd, us, ws, rfl, (s2.trans t2).seq hq, (s2.trans t2).seq hq2, q (Itz K ad bd) S2 T2 H2 (h1.trans h2) (x1.trans h1 x2) rs2 ⟨fun i H3 k hi => ?_, fun i H3 k hi => ?_, fun i H3 x H4 dd k e y => ?_⟩⟩
          · exact ⟨us, ws, k.seq hq, k.seq hq2, by rw [rl.length, rl2.length]; rw [zl] at hi; omega⟩
          · rw [zl] at hi
            exact ⟨us, ws, us[i]'(by rw [rl.length]; omega), ws[i]'(by rw [rl2.length]; omega), k.seq hq, k.seq hq2, by simp, by simp⟩
          · obtain ⟨p, x1', y1', ex, hp, eh, k1, k2⟩ := y
            unfold zipD at e
            rw [List.getElem?_map] at e
            cases e3 : (ds.zip es)[i]? with
            | none => rw [e3] at e; cases e
            | some pr =>
              rw [e3] at e
              cases e
              obtain ⟨d1, d2⟩ := pr
              rw [List.getElem?_zip_eq_some] at e3
              obtain ⟨u1, f1, g1⟩ := rl.get e3.1
              obtain ⟨u2, f2, g2⟩ := rl2.get e3.2
              rw [k1 us (k.seq hq)] at f1
              rw [k2 ws (k.seq hq2)] at f2
              cases f1
              cases f2
              exact .inr ⟨p, _, _, ex, hp, eh, .cons g1 (.cons g2 .nil), rfl⟩
/-- enumerate of a list that stays -/
def enumD (ds : List D) : List D := ds.zipIdx.map fun p => D.tup [.int (p.2 : Nat), p.1]
def enumR (a : Rs D) : Rs (List D) := a.bind fun d => (ofO (elems d)).bind fun ds => .ok (enumD ds)
theorem i_enum {R : TI → Prop} {a : Expr} {f : Sl → Rs D} (hp : ∀ t, PAf X [a] t → R (iEnum K t)) (h : EP K W cl (PEf X a) f) (hs : ∀ z, starEach [a] (X z).env = [(false, eval a (X z).env)] := by intro _; rfl) : EI K W cl R fun st => enumR (f st) := by
  obtain ⟨t, p, k⟩ := h.ex
  refine ⟨_, hp _ fun z => pa_cons (p z) pa_nil (hs z), fun S T st σ H Q r q => k S T st σ H _ r ?_⟩
  revert q
  show (match enumR (f st) with | .ok ds => _ | .ex c => _ | .bad => _) → _
  cases f st with
  | bad => exact fun q => q
  | ex c => exact fun q => q
  | ok d =>
    show (match (ofO (elems d)).bind (fun ds => .ok (enumD ds)) with | .ok ds => _ | .ex c => _ | .bad => _) → _
    cases e1 : elems d with
    | none => exact fun q => q.elim
    | some ds =>
      intro q v S1 T1 H1 h1 x1 s1 t1 r1
      have q : ∀ J S' T' H', Same H H' → Ext S T H S' T' → RS K S' T' st σ H' → Yields K J S' (enumD ds) → Q J H' := q
      obtain ⟨ad, us, rfl, hq, rl⟩ := r1.seqL e1
      have zl : (enumD ds).length = ds.length := by unfold enumD; rw [List.length_map, List.length_zipIdx]
      refine ⟨ad, us, rfl, (s1.trans t1).seq hq, q (Ite K ad) S1 T1 H1 h1 x1 (r.ext h1 x1 s1 t1) ⟨fun i H3 k hi => ?_, fun i H3 k hi => ?_, fun i H3 x H4 dd k e y => ?_⟩⟩
      · exact ⟨us, k.seq hq, by rw [rl.length]; rw [zl] at hi; exact hi⟩
      · rw [zl] at hi
        exact ⟨us, us[i]'(by rw [rl.length]; exact hi), k.seq hq, by simp⟩
      · obtain ⟨p, x1', ex, hp, eh, k1⟩ := y
        unfold enumD at e
        rw [List.getElem?_map, List.getElem?_zipIdx] at e
        cases e3 : ds[i]? with
        | none => rw [e3] at e; cases e
        | some dd =>
          rw [e3] at e
          cases e
          obtain ⟨u1, f1, g1⟩ := rl.get e3
          rw [k1 us (k.seq hq)] at f1
          cases f1
          exact .inr ⟨p, _, _, ex, hp, eh, .cons (by rw [Nat.zero_add]; exact .int _) (.cons g1 .nil), rfl⟩
def revR (a : Rs D) : Rs (List D) := a.bind fun d => (ofO (elems d)).bind fun ds => .ok ds.reverse
theorem i_rev {R : TI → Prop} {a : Expr} {f : Sl → Rs D} (hp : ∀ t, PAf X [a] t → R (iRev K t)) (h : EP K W cl (PEf X a) f) (hs : ∀ z, starEach [a] (X z).env = [(false, eval a (X z).env)] := by intro _; rfl) : EI K W cl R fun st => revR (f st) := by
  obtain ⟨t, p, k⟩ := h.ex
  refine ⟨_, hp _ fun z => pa_cons (p z) pa_nil (hs z), fun S T st σ H Q r q => k S T st σ H _ r ?_⟩
  revert q
  show (match revR (f st) with | .ok ds => _ | .ex c => _ | .bad => _) → _
  cases f st with
  | bad => exact fun q => q
  | ex c => exact fun q => q
  | ok d =>
    show (match (ofO (elems d)).bind (fun ds => .ok ds.reverse) with | .ok ds => _ | .ex c => _ | .bad => _) → _
    cases e1 : elems d with
    | none => exact fun q => q.elim
    | some ds =>
      intro q v S1 T1 H1 h1 x1 s1 t1 r1
      have q : ∀ J S' T' H', Same H H' → Ext S T H S' T' → RS K S' T' st σ H' → Yields K J S' ds.reverse → Q J H' := q
      obtain ⟨ad, us, rfl, hq, rl⟩ := r1.seqL e1
      refine ⟨ad, us, rfl, (s1.trans t1).seq hq, q (Itv K ad us.length) S1 T1 H1 h1 x1 (r.ext h1 x1 s1 t1) ⟨fun i H3 k hi => ?_, fun i H3 k hi => ?_, fun i H3 x H4 dd k e y => ?_⟩⟩
      · rw [List.length_reverse] at hi
        show us.length ≤ i
        rw [rl.length]; exact hi
      · rw [List.length_reverse] at hi
        exact ⟨by rw [rl.length]; exact hi, us, us[us.length - 1 - i]'(by have := rl.length; omega), k.seq hq, by simp⟩
      · obtain ⟨y1, y2⟩ := y
        have hi : i < ds.length := by
          have := (List.getElem?_eq_some_iff.mp e).1
          rw [List.length_reverse] at this; exact this
        rw [List.getElem?_reverse hi] at e
        obtain ⟨u1, f1, g1⟩ := rl.get e
        have := y2 us (k.seq hq)
        rw [rl.length, f1] at this
        cases this
        exact .inl ⟨y1, g1⟩
/-! ### comprehensions -/
def wipeS (st : Sl) : List Nat → Sl
  | [] => st
  | v :: vs => (wipeS st vs).set v none
theorem wipeS_length (st : Sl) : ∀ vs, (wipeS st vs).length = st.length
  | [] => rfl
  | v :: vs => by unfold wipeS; rw [List.length_set, wipeS_length st vs]
theorem wipe_get (σ : St) (k : Nat) : ∀ vs : List Nat, (wipe σ vs)[k]? = if k ∈ vs then (σ[k]?).map fun _ => none else σ[k]?
  | [] => by simp [wipe]
  | v :: vs => by
    unfold wipe
    by_cases hv : v = k
    · subst hv
      rw [if_pos (by simp)]
      by_cases hl : v < σ.length
      · rw [List.getElem?_set_self (by rw [wipe_length]; exact hl)]
        simp [hl]
      · rw [List.getElem?_eq_none (by rw [List.length_set, wipe_length]; omega), List.getElem?_eq_none (by omega)]
        rfl
    · rw [List.getElem?_set_ne hv, wipe_get σ k vs]
      have hkv : ¬ k = v := fun e => hv e.symm
      by_cases hk : k ∈ vs
      · rw [if_pos hk, if_pos (by simp [hk])]
      · rw [if_neg hk, if_neg (by simp [hk, hkv])]
theorem wipe_ext {σ σ' : St} {vs : List Nat} (hl : σ'.length = σ.length) (h : ∀ k, k ∉ vs → σ'[k]? = σ[k]?) : wipe σ' vs = wipe σ vs := by
  apply List.ext_getElem?
  intro k
  rw [wipe_get, wipe_get]
  by_cases hk : k ∈ vs
  · rw [if_pos hk, if_pos hk]
    by_cases hl2 : k < σ.length
    · simp [hl2, hl ▸ hl2]
    · rw [List.getElem?_eq_none (by omega), List.getElem?_eq_none (by omega)]
  · rw [if_neg hk, if_neg hk]
    exact h k hk
theorem wipe_wipe (σ : St) (vs : List Nat) : wipe (wipe σ vs) vs = wipe σ vs := wipe_ext (wipe_length _ _) fun k hk => by rw [wipe_get, if_neg hk]
mutual
theorem Ow.det {S S' H : Hp} : ∀ {v : V} {o : O} {f g : List Addr}, Ow K S H v o f → Ow K S' H v o g → f = g
  | _, _, _, _, .sh _, .sh _ => rfl
  | _, _, _, _, .lst h r, .lst h' r' => by
    rw [h] at h'
    cases h'
    rw [OwL.det r r']
  | _, _, _, _, .tup h r, .tup h' r' => by
    rw [h] at h'
    cases h'
    rw [OwL.det r r']
theorem OwL.det {S S' H : Hp} : ∀ {vs : List V} {os : List O} {f g : List Addr}, OwL K S H vs os f → OwL K S' H vs os g → f = g
  | _, _, _, _, .nil, .nil => rfl
  | _, _, _, _, .cons h r, .cons h' r' => by rw [Ow.det h h', OwL.det r r']
end
theorem OwSt.det {S S' H : Hp} : ∀ {σ : St} {st : Sl} {f g : List Addr}, OwSt K S H σ st f → OwSt K S' H σ st g → f = g
  | _, _, _, _, .nil, .nil => rfl
  | _, _, _, _, .none r, .none r' => r.det r'
  | _, _, _, _, .some h r, .some h' r' => by rw [h.det h', r.det r']
theorem OwSt.unset {S H : Hp} {σ : St} {st : Sl} {f : List Addr} (w : OwSt K S H σ st f) (i : Nat) : ∃ f', OwSt K S H (σ.set i Option.none) (st.set i Option.none) f' ∧ ∀ b ∈ f', b ∈ f ∧ (f.Nodup → f'.Nodup) := by
  by_cases hi : i < st.length
  · obtain ⟨f1, g, f2, e, _, h⟩ := w.set hi
    refine ⟨f1 ++ f2, h S H Option.none (.refl _) fun _ _ => rfl, fun b hb => ?_⟩
    subst e
    refine ⟨by simp only [List.mem_append] at hb ⊢; rcases hb with z | z; exact .inl (.inl z); exact .inr z, fun nd => ?_⟩
    simp only [List.nodup_append, List.mem_append] at nd ⊢
    exact ⟨nd.1.1, nd.2.1, fun a ha b hb => nd.2.2 a (.inl ha) b hb⟩
  · rw [List.set_eq_of_length_le (by rw [w.length]; omega), List.set_eq_of_length_le (by omega)]
    exact ⟨f, w, fun b hb => ⟨hb, id⟩⟩
theorem RS.unset {S T : Hp} {st : Sl} {σ : St} {H : Hp} (r : RS K S T st σ H) (i : Nat) : RS K S T (st.set i none) (σ.set i none) H := by
  obtain ⟨f, w, nd, k⟩ := r.own
  obtain ⟨f', w', h⟩ := w.unset i
  refine ⟨r.lo, r.th, f', w', ?_, fun b hb => k b (h b hb).1⟩
  cases f' with
  | nil => exact .nil
  | cons a l => exact (h a (by simp)).2 nd
theorem RS.wipe {S T : Hp} {st : Sl} {σ : St} {H : Hp} (r : RS K S T st σ H) : ∀ vs : List Nat, RS K S T (wipeS st vs) (L2.wipe σ vs) H
  | [] => r
  | v :: vs => by
    unfold wipeS L2.wipe
    exact (r.wipe vs).unset v
def noEx {α : Type} : Rs α → Rs α
  | .ok a => .ok a
  | _ => .bad
def lcF (tg : D → Sl → Option Sl) (ts : Sl → Rs Bool) (el : Sl → Rs O) (st : Sl) : List D → Rs (List O)
  | [] => .ok []
  | d :: ds => match tg d st with
    | none => .bad
    | some st1 => (noEx (ts st1)).bind fun b => if b = true then (noEx (el st1)).bind fun o => (lcF tg ts el st ds).bind fun os => .ok (o :: os) else lcF tg ts el st ds
abbrev W0 : WX := fun _ _ _ _ => False
/-- the blocks of a comprehension in X -/
abbrev Bk (ι : Type) := ι × Shared × Hp × Addr × List (Str × Addr) × List Addr
abbrev blkf (X : ι → Cx) (scope : Scope) : Bk ι → Cx := fun z => (X z.1).blk z.2.1 z.2.2.1 scope (compEnvC scope z.2.2.2.2.1 z.2.2.2.1 (X z.1).env) z.2.2.2.2.2
def lenOk {α : Type} (r : Rs (List α)) : Rs (List α) := r.bind fun os => if os.length < sizeLine then .ok os else .bad
def lcR (it : Rs (List D)) (tg : D → Sl → Option Sl) (ts : Sl → Rs Bool) (el : Sl → Rs O) (vs : List Nat) (st : Sl) : Rs O := mapRs O.lst (it.bind fun ds => lenOk (lcF tg ts el (wipeS st vs) ds))
theorem f_lc {R : TE → Prop} {elt tgE iter : Expr} {ifs : List Expr} {scope : Scope} {vs us : List Nat} {fi : Sl → Rs (List D)} {tg : D → Sl → Option Sl} {ts : Sl → Rs Bool} {el : Sl → Rs O}
    (hp : ∀ wi g tt te, PIf X tgE iter wi → PGf (blkf X scope) tgE g → PTsf (blkf X scope) ifs tt → PEf (blkf X scope) elt te → R (tLc wi g tt te vs))
    (hi : EI K W cl (PIf X tgE iter) fi) (hg : EG K (PGf (blkf X scope) tgE) us tg) (ht : ET K W0 cl (PTsf (blkf X scope) ifs) ts) (he : EF K W0 cl (PEf (blkf X scope) elt) el) (hu : ∀ k ∈ us, k ∈ vs := by decide) :
    EF K W cl R fun st => lcR (fi st) tg ts el vs st := by
  obtain ⟨wi, pi, ki⟩ := hi.ex
  obtain ⟨g, pg, kg⟩ := hg.ex
  obtain ⟨tt, pt, kt⟩ := ht.ex
  obtain ⟨te, pe, ke⟩ := he.ex
  refine ⟨_, hp _ _ _ _ pi pg pt pe, fun S T st σ H Q r q => ki S T st σ H _ r ?_⟩
  have q : PF K cl W S T σ H (lcR (fi st) tg ts el vs st) Q := q
  revert q
  unfold lcR
  cases fi st with
  | bad => exact fun q => q
  | ex c => exact fun q => q
  | ok ds =>
    intro q J S1 T1 H1 h1 x1 r1 y1 D hD
    have q : PF K cl W S T σ H (mapRs O.lst (lenOk (lcF tg ts el (wipeS st vs) ds))) Q := q
    cases e0 : lcF tg ts el (wipeS st vs) ds with
    | bad => rw [e0] at q; exact q.elim
    | ex c =>
      -- a comprehension lets nothing out
      exfalso
      have noex : ∀ ds c, lcF tg ts el (wipeS st vs) ds ≠ .ex c := by
        intro ds
        induction ds with
        | nil => intro c h; cases h
        | cons d ds ih =>
          intro c h
          unfold lcF at h
          cases e1 : tg d (wipeS st vs) with
          | none => rw [e1] at h; cases h
          | some st1 =>
            rw [e1] at h
            dsimp only at h
            cases e2 : noEx (ts st1) with
            | bad => rw [e2] at h; cases h
            | ex c =>
              cases e3 : ts st1 with
              | ok _ => rw [e3] at e2; cases e2
              | ex _ => rw [e3] at e2; cases e2
              | bad => rw [e3] at e2; cases e2
            | ok b =>
              rw [e2] at h
              cases b with
              | false => exact ih _ h
              | true =>
                have h : ((noEx (el st1)).bind fun o => (lcF tg ts el (wipeS st vs) ds).bind fun os => Rs.ok (o :: os)) = .ex c := h
                cases e3 : noEx (el st1) with
                | bad => rw [e3] at h; cases h
                | ex c =>
                  cases e4 : el st1 with
                  | ok _ => rw [e4] at e3; cases e3
                  | ex _ => rw [e4] at e3; cases e3
                  | bad => rw [e4] at e3; cases e3
                | ok o =>
                  rw [e3] at h
                  have h : (lcF tg ts el (wipeS st vs) ds).bind (fun os => Rs.ok (o :: os)) = .ex c := h
                  cases e4 : lcF tg ts el (wipeS st vs) ds with
                  | bad => rw [e4] at h; cases h
                  | ok _ => rw [e4] at h; cases h
                  | ex c' => exact ih _ e4
      exact noex ds c e0
    | ok all =>
      rw [e0] at q
      have q : PF K cl W S T σ H (mapRs O.lst (if all.length < sizeLine then .ok all else .bad)) Q := q
      by_cases hall : all.length < sizeLine
      · rw [if_pos hall] at q
        have q : PF K cl W S T σ H (.ok (.lst all)) Q := q
        -- the list so far
        let Pv : Nat → Hp → Prop := fun i H2 => ∃ S2 T2 acc os f rest, Same H1 H2 ∧ Ext S1 T1 H1 S2 T2 ∧ RS K S2 T2 (wipeS st vs) (wipe σ vs) H2 ∧ H2 D = some (.lst acc) ∧ OwL K S2 H2 acc os f ∧ (D :: f).Nodup ∧
          (∀ b ∈ D :: f, T2 b = none ∧ H1 b = none) ∧ lcF tg ts el (wipeS st vs) (ds.drop i) = .ok rest ∧ os ++ rest = all
        have st0 : Pv 0 (upd H1 D (.lst [])) := by
          have hu := same_upd (o := .lst []) hD
          refine ⟨S1, T1, [], [], [], all, hu, .refl, (r1.wipe vs).mono hu, upd_same, .nil, by simp, fun b hb => ?_, by rw [List.drop_zero]; exact e0, rfl⟩
          rw [List.mem_singleton] at hb
          subst hb
          exact ⟨r1.th.free hD, hD⟩
        refine ⟨fun i m H2 => m = ds.length - i ∧ i ≤ ds.length ∧ Pv i H2, ⟨ds.length, by simp, Nat.zero_le _, st0⟩, ?_⟩
        rintro i m H2 ⟨rfl, hi, S2, T2, acc, os, f, rest, hs, x2, r2, hl, ow, nd, fr, er, eo⟩
        by_cases hlt : i < ds.length
        · refine .inr ⟨y1.go i H2 (x2.s.trans r2.sh) hlt, fun H3 => Pv (i + 1) H3, fun H3 p3 => ⟨ds.length - (i + 1), by omega, rfl, hlt, p3⟩, fun x H3 y => ?_⟩
          have ed : ds[i]? = some ds[i] := by simp [hlt]
          have yl := (y1.mono x2.s).yld i H2 x H3 ds[i] r2.sh ed y
          obtain ⟨S3, T3, hs3, x3, r3, rp3⟩ := yl.ext r2
          have edrop : ds.drop i = ds[i] :: ds.drop (i + 1) := by rw [List.drop_eq_getElem_cons hlt]
          rw [edrop] at er
          unfold lcF at er
          cases e1 : tg ds[i] (wipeS st vs) with
          | none => rw [e1] at er; cases er
          | some st1 =>
            rw [e1] at er
            dsimp only at er
            refine kg S3 T3 (wipeS st vs) (wipe σ vs) H3 x ds[i] st1 _ r3 rp3 e1 fun σ4 l4 k4 r4 => ⟨?_, ?_⟩
            · rw [← wipe_wipe σ vs]
              exact wipe_ext l4 fun k hk => k4 k fun z => hk (hu k z)
            · refine kt S3 T3 st1 σ4 H3 _ r4 ?_
              cases e2 : ts st1 with
              | bad => rw [e2] at er; cases er
              | ex c => rw [e2] at er; cases er
              | ok b =>
                rw [e2] at er
                intro H4 h4
                have up : Same H1 H4 := hs.trans (hs3.trans h4)
                have x13 : Ext S1 T1 H1 S3 T3 := x2.trans hs x3
                -- what stood of the list stands
                have kept : ∀ {S5 T5 H5 : Hp}, Same H4 H5 → Same S3 S5 → (∀ b, H4 b ≠ none → T5 b = T3 b) → H5 D = some (.lst acc) ∧ OwL K S5 H5 acc os f ∧ (∀ b ∈ D :: f, T5 b = none) := fun {S5 T5 H5} a b c => by
                  have e5 : Same H2 H5 := (hs3.trans h4).trans a
                  refine ⟨e5 _ _ hl, ow.mono (x3.s.trans b) fun z hz => same_ne e5 (ow.there z hz), fun z hz => ?_⟩
                  have hz2 : H2 z ≠ none := by
                    rcases List.mem_cons.mp hz with rfl | hz
                    · rw [hl]; simp
                    · exact ow.there z hz
                  rw [c z (by rw [same_ne (hs3.trans h4) hz2]; exact hz2), (x3.old z hz2).2]
                  exact (fr z hz).1
                cases b with
                | false =>
                  refine iteF ?_
                  obtain ⟨k1, k2, k3⟩ := kept (S5 := S3) (T5 := T3) (.refl H4) (.refl _) fun _ _ => rfl
                  exact ⟨S3, T3, acc, os, f, rest, up, x13, r3.mono h4, k1, k2, nd, fun z hz => ⟨k3 z hz, (fr z hz).2⟩, er, eo⟩
                | true =>
                  refine iteT (ke S3 T3 st1 σ4 H4 _ (r4.mono h4) ?_)
                  have er : ((noEx (el st1)).bind fun o => (lcF tg ts el (wipeS st vs) (ds.drop (i + 1))).bind fun os => Rs.ok (o :: os)) = .ok rest := er
                  cases e3 : el st1 with
                  | bad => rw [e3] at er; cases er
                  | ex c => rw [e3] at er; cases er
                  | ok o =>
                    rw [e3] at er
                    have er : (lcF tg ts el (wipeS st vs) (ds.drop (i + 1))).bind (fun os => Rs.ok (o :: os)) = .ok rest := er
                    cases e4 : lcF tg ts el (wipeS st vs) (ds.drop (i + 1)) with
                    | bad => rw [e4] at er; cases er
                    | ex c => rw [e4] at er; cases er
                    | ok rest' =>
                      rw [e4] at er
                      cases er
                      intro v S5 T5 H5 g5 h5 x5 s5 t5 w5 n5 k5
                      obtain ⟨k1, k2, k3⟩ := kept h5 x5.s fun z hz => (x5.old z hz).2
                      have hln : acc.length = os.length := k2.length
                      have hal : os.length < sizeLine := by
                        have := congrArg List.length eo
                        rw [List.length_append, List.length_cons] at this
                        omega
                      refine ⟨acc, k1, by rw [hln]; exact hal, ?_⟩
                      have Df : D ∉ f := (List.nodup_cons.mp nd).1
                      have Dg : D ∉ g5 := fun z => by
                        have := (k5 D z).2
                        have e6 : H4 D = some (.lst acc) := (hs3.trans h4) _ _ hl
                        rw [e6] at this; cases this
                      have same6 : ∀ b, b ≠ D → (upd H5 D (.lst (acc ++ [v]))) b = H5 b := fun b hb => upd_ne hb
                      have T5D : T5 D = none := k3 D (by simp)
                      have r5 : RS K S5 T5 (wipeS st vs) (wipe σ vs) H5 := (r3.mono h4).ext h5 x5 s5 t5
                      obtain ⟨fs, ws, ns, ks⟩ := r5.own
                      have Dfs : D ∉ fs := fun z => by
                        -- D is new, the slots' trees are old
                        obtain ⟨fs0, ws0, _, _⟩ := (r1.wipe vs).own
                        have th0 := ws0.there
                        have e15 : Same H1 H5 := up.trans h5
                        have := (ws0.mono (.refl _) fun b hb => same_ne e15 (th0 b hb)).det ws
                        subst this
                        exact th0 D z hD
                      refine ⟨S5, T5, acc ++ [v], os ++ [o], f ++ g5, rest', fun b u e => ?_, x13.trans up x5, ⟨s5, fun b u e => ?_, fs, ws.mono (.refl _) fun b hb => same6 b fun e => Dfs (e ▸ hb), ns, ks⟩, upd_same, ?_, ?_, fun b hb => ?_, e4, ?_⟩
                      · rw [same6 b (ne_of_none e hD)]; exact h5 _ _ (up _ _ e)
                      · rw [same6 b fun z => by rw [z, T5D] at e; cases e]; exact t5 _ _ e
                      · have w1 : OwL K S5 (upd H5 D (.lst (acc ++ [v]))) acc os f := k2.mono (.refl _) fun b hb => same6 b fun e => Df (e ▸ hb)
                        have w2 : Ow K S5 (upd H5 D (.lst (acc ++ [v]))) v o g5 := w5.mono (.refl _) fun b hb => same6 b fun e => Dg (e ▸ hb)
                        have := w1.append (.cons w2 .nil)
                        simpa using this
                      · rw [List.nodup_cons, List.mem_append, List.nodup_append]
                        refine ⟨fun z => z.elim Df Dg, (List.nodup_cons.mp nd).2, n5, fun a ha b hb e => ?_⟩
                        have := (k5 b hb).2
                        subst e
                        have th : H2 a ≠ none := ow.there a ha
                        rw [same_ne (hs3.trans h4) th] at this
                        exact th this
                      · rcases List.mem_cons.mp hb with rfl | hb
                        · exact ⟨T5D, hD⟩
                        · rcases List.mem_append.mp hb with hb | hb
                          · exact ⟨k3 b (List.mem_cons_of_mem _ hb), (fr b (List.mem_cons_of_mem _ hb)).2⟩
                          · exact ⟨(k5 b hb).1, up.free (k5 b hb).2⟩
                      · rw [List.append_assoc]; exact eo
        · have e : i = ds.length := by omega
          subst e
          rw [List.drop_length] at er
          cases er
          rw [List.append_nil] at eo
          subst eo
          refine .inl ⟨y1.stop _ H2 (x2.s.trans r2.sh) (Nat.le_refl _), ?_⟩
          exact q (.ref D) S2 T2 H2 (D :: f) (h1.trans hs) (x1.trans h1 x2) r2.lo r2.th (.lst hl ow) nd fun b hb => ⟨(fr b hb).1, h1.free (fr b hb).2⟩
      · rw [if_neg hall] at q
        exact q.elim
end
end M

/-! Statements, loops, defs. -/
namespace M
open PySem L2
section
variable {ι : Type} {X : ι → Cx} {W : WX} {cl : Cl} {K : PySem.W.Frag} {sh : Ps} {pv : Nat → V}
/-- a slot's tree and what may be put in its place -/
theorem RS.focus {S T : Hp} {st : Sl} {σ : St} {H : Hp} {i : Nat} {o : O} (r : RS K S T st σ H) (e : st[i]? = some (some o)) : ∃ v g, σ[i]? = some (some v) ∧ Ow K S H v o g ∧ g.Nodup ∧ (∀ b ∈ g, T b = none) ∧
    (∀ f, OwSt K S H σ st f → ∀ b ∈ g, b ∈ f) ∧
    ∀ (H2 : Hp) (o2 : O) (g2 : List Addr), (∀ b, b ∉ g → H2 b = H b) → Ow K S H2 v o2 g2 → g2.Nodup → (∀ b ∈ g2, b ∈ g ∨ (T b = none ∧ ∀ f, OwSt K S H σ st f → b ∉ f)) → RS K S T (st.set i (some o2)) σ H2 := by
  obtain ⟨f, w, nd, k⟩ := r.own
  obtain ⟨v, f1, g, f2, h1, h2, h3, h4, _⟩ := w.get e
  subst h2
  have nd' := nd
  simp only [List.nodup_append, List.mem_append] at nd'
  obtain ⟨⟨n1, n2, n3⟩, n4, n5⟩ := nd'
  refine ⟨v, g, h1, h3, n2, fun b hb => k b (by simp [hb]), fun f' w' b hb => ?_, fun H2 o2 g2 hk w2 nd2 hg2 => ?_⟩
  · rw [← w.det w']; simp [hb]
  have out : ∀ b ∈ f1 ++ f2, b ∉ g := fun b hb hg => by
    rcases List.mem_append.mp hb with z | z
    · exact n3 b z b hg rfl
    · exact n5 b (.inr hg) b z rfl
  have hσ : σ.set i (some v) = σ := by
    apply List.ext_getElem?
    intro j
    by_cases hj : i = j
    · subst hj
      have := (List.getElem?_eq_some_iff.mp h1).1
      rw [List.getElem?_set_self this, h1]
    · rw [List.getElem?_set_ne hj]
  have w3 := h4 S H2 v o2 g2 (.refl _) (fun b hb => hk b (out b hb)) w2
  rw [hσ] at w3
  refine ⟨r.lo, fun b u e => ?_, _, w3, ?_, fun b hb => ?_⟩
  · rw [hk b fun z => by rw [k b (by simp [z])] at e; cases e]
    exact r.th b u e
  · simp only [List.nodup_append, List.mem_append]
    have dj : ∀ b ∈ g2, b ∉ f1 ∧ b ∉ f2 := fun b hb => by
      rcases hg2 b hb with z | ⟨_, z⟩
      · exact ⟨fun y => n3 b y b z rfl, fun y => n5 b (.inr z) b y rfl⟩
      · have := z _ w
        simp only [List.mem_append, not_or] at this
        exact ⟨this.1.1, this.2⟩
    refine ⟨⟨n1, nd2, fun a ha b hb e => (dj b hb).1 (e ▸ ha)⟩, n4, fun a ha b hb e => ?_⟩
    rcases ha with ha | ha
    · exact n5 a (.inl ha) b hb e
    · exact (dj a ha).2 (e ▸ hb)
  · simp only [List.mem_append] at hb
    rcases hb with (hb | hb) | hb
    · exact k b (by simp [hb])
    · rcases hg2 b hb with z | z
      · exact k b (by simp [z])
      · exact z.1
    · exact k b (by simp [hb])
/-- fresh knots are in no slot's tree -/
theorem RS.fresh {S T S1 T1 : Hp} {st : Sl} {σ : St} {H H1 : Hp} {g : List Addr} (r : RS K S T st σ H) (h : Same H H1) (hn : ∀ b ∈ g, T1 b = none ∧ H b = none) : ∀ b ∈ g, T1 b = none ∧ ∀ f, OwSt K S1 H1 σ st f → b ∉ f := fun b hb => by
  refine ⟨(hn b hb).1, fun f w hf => ?_⟩
  obtain ⟨f0, w0, _, _⟩ := r.own
  have th := w0.there
  have := (w0.mono (H' := H1) (.refl _) fun c hc => same_ne h (th c hc)).det w
  subst this
  exact th b hf (hn b hb).2
def setO (i : Nat) (r : Rs O) (st : Sl) : Fl := match r with
  | .ok o => if i < st.length then .nx (st.set i (some o)) else .bad
  | .ex c => .ex c
  | .bad => .bad
/-- x = e, x takes the tree -/
theorem s_setO {R : TE → Prop} {i : Nat} {s : Stmt} {f : Sl → Rs O} (hp : ∀ t, R t → PSf X s (tAsg t (gName i))) (h : EF K W cl R f) (hpn : sh.okAt i = true := by rfl) : SJ K W cl sh (PSf X s) fun st => setO i (f st) st := by
  obtain ⟨t, p, a⟩ := h.ex
  refine ⟨_, hp _ p, fun pv S T st σ H E r pi q => a S T st σ H _ r ?_⟩
  have q : PSt K cl W sh pv S T (setO i (f st) st) E := q
  revert q
  unfold setO
  cases f st with
  | bad => exact fun q => q
  | ex c => exact fun q H1 h1 => q σ T H1 (.refl _) (r.th.trans h1)
  | ok o =>
    intro q v S1 T1 H1 g h1 x1 s1 t1 w1 n1 k1
    have q : PSt K cl W sh pv S T (if i < st.length then .nx (st.set i (some o)) else .bad) E := q
    by_cases c : i < st.length
    · rw [if_pos c] at q
      have r1 := r.ext h1 x1 s1 t1
      have fr := r.fresh (S1 := S1) h1 k1
      exact q S1 T1 (σ.set i (some v)) H1 (x1.ex3 r.th) (r1.set c w1 n1 (fun b hb => (k1 b hb).1) fun f w b hb => (fr b hb).2 f w) (pi.set hpn _)
    · rw [if_neg c] at q
      exact q.elim
def asgR (g : D → Sl → Option Sl) (r : Rs D) (st : Sl) : Fl := match r with
  | .ok d => match g d st with
    | some st' => .nx st'
    | none => .bad
  | .ex c => .ex c
  | .bad => .bad
/-- target = e, of what stays -/
theorem s_asg {R : TE → Prop} {tg : Expr} {vs : List Nat} {s : Stmt} {f : Sl → Rs D} {g : D → Sl → Option Sl} (hp : ∀ t u, R t → PGf X tg u → PSf X s (tAsg t u)) (hg : EG K (PGf X tg) vs g) (h : EP K W cl R f) (hpn : vs.all (fun i => sh.okAt i) = true := by rfl) : SJ K W cl sh (PSf X s) fun st => asgR g (f st) st := by
  obtain ⟨t, p, a⟩ := h.ex
  obtain ⟨u, pu, b⟩ := hg.ex
  refine ⟨_, hp _ _ p pu, fun pv S T st σ H E r pi q => a S T st σ H _ r ?_⟩
  have q : PSt K cl W sh pv S T (asgR g (f st) st) E := q
  revert q
  unfold asgR
  cases f st with
  | bad => exact fun q => q
  | ex c => exact fun q H1 h1 => q σ T H1 (.refl _) (r.th.trans h1)
  | ok d =>
    intro q v S1 T1 H1 h1 x1 s1 t1 w1
    cases e : g d st with
    | none =>
      have q : PSt K cl W sh pv S T (match g d st with | some st' => .nx st' | none => .bad) E := q
      rw [e] at q
      exact q.elim
    | some st' =>
      have q : PSt K cl W sh pv S T (match g d st with | some st' => .nx st' | none => .bad) E := q
      rw [e] at q
      exact b S1 T1 st σ H1 v d st' _ (r.ext h1 x1 s1 t1) w1 e fun σ' _ k' r' => q S1 T1 σ' H1 (x1.ex3 r.th) r' (pi.keep hpn k')
/-- x = e by the slot -/
theorem s_set {R : TE → Prop} {i : Nat} {s : Stmt} {f : Sl → Rs D} (hp : ∀ t, R t → PSf X s (tAsg t (gName i))) (h : EP K W cl R f) (hpn : sh.okAt i = true := by rfl) : SJ K W cl sh (PSf X s) fun st => setO i (mapRs O.sh (f st)) st := s_setO hp h.f hpn
/-- a, b = e1, e2: two names -/
def parR (i j : Nat) (r : Rs (List D)) (st : Sl) : Fl := match r with
  | .ok [d, e] => if i < st.length ∧ j < st.length then .nx ((st.set i (some (.sh d))).set j (some (.sh e))) else .bad
  | .ok _ => .bad
  | .ex c => .ex c
  | .bad => .bad
theorem s_par {R : TA → Prop} {i j : Nat} {s : Stmt} {f : Sl → Rs (List D)} (hp : ∀ t, R t → PSf X s (tPar i j t)) (h : EPs K W cl R f) (hpn : sh.okAt i = true := by rfl) (hpn2 : sh.okAt j = true := by rfl) : SJ K W cl sh (PSf X s) fun st => parR i j (f st) st := by
  obtain ⟨t, p, a⟩ := h.ex
  refine ⟨_, hp _ p, fun pv S T st σ H E r pi q => a S T st σ H _ r ?_⟩
  have q : PSt K cl W sh pv S T (parR i j (f st) st) E := q
  revert q
  cases f st with
  | bad => exact fun q => q
  | ex c => exact fun q H1 h1 => q σ T H1 (.refl _) (r.th.trans h1)
  | ok ds =>
    intro q vs S1 T1 H1 h1 x1 s1 t1 r1
    cases r1 with
    | nil => exact q.elim
    | cons ha r1 =>
      cases r1 with
      | nil => exact q.elim
      | cons hb r1 =>
        cases r1 with
        | cons _ _ => exact q.elim
        | nil =>
          rename_i v d w e
          have q : PSt K cl W sh pv S T (if i < st.length ∧ j < st.length then .nx ((st.set i (some (.sh d))).set j (some (.sh e))) else .bad) E := q
          by_cases c : i < st.length ∧ j < st.length
          · rw [if_pos c] at q
            exact ⟨v, w, rfl, q S1 T1 _ H1 (x1.ex3 r.th) (((r.ext h1 x1 s1 t1).setSh c.1 ha).setSh (by rw [List.length_set]; exact c.2) hb) ((pi.set hpn _).set hpn2 _)⟩
          · rw [if_neg c] at q
            exact q.elim
def retR (r : Rs O) : Fl := match r with
  | .ok o => .rt o
  | .ex c => .ex c
  | .bad => .bad
theorem rtO {S H : Hp} {v : V} {o : O} {g : List Addr} (hio : sh.io = false) (w : Ow K S H v o g) : RtO K S H (ioV sh pv) v o g := by
  unfold ioV
  rw [hio, if_neg Bool.false_ne_true]
  exact w
theorem s_ret {R : TE → Prop} {s : Stmt} {f : Sl → Rs O} (hp : ∀ t, R t → PSf X s (tRet t)) (h : EF K W cl R f) (hio : sh.io = false := by rfl) : SJ K W cl sh (PSf X s) fun st => retR (f st) := by
  obtain ⟨t, p, a⟩ := h.ex
  refine ⟨_, hp _ p, fun pv S T st σ H E r pi q => a S T st σ H _ r ?_⟩
  have q : PSt K cl W sh pv S T (retR (f st)) E := q
  revert q
  cases f st with
  | bad => exact fun q => q
  | ex c => exact fun q H1 h1 => q σ T H1 (.refl _) (r.th.trans h1)
  | ok o => exact fun q v S1 T1 H1 g h1 x1 s1 t1 w1 n1 k1 => q v S1 T1 H1 g (x1.ex3 r.th) s1 t1 (rtO hio w1) n1 fun b hb => (k1 b hb).1
/-- return x, with its tree -/
def retN (i : Nat) (st : Sl) : Fl := match st[i]? with
  | some (some o) => .rt o
  | _ => .bad
theorem s_retN {i : Nat} {s : Stmt} (hp : PSf X s (tRet (tVar i))) (hio : sh.io = false := by rfl) : SJ K W cl sh (PSf X s) (retN i) := by
  refine ⟨_, hp, fun pv S T st σ H E r pi q => ?_⟩
  unfold retN at q
  revert q
  cases e : st[i]? with
  | none => exact fun q => q.elim
  | some z =>
    cases z with
    | none => exact fun q => q.elim
    | some o =>
      intro q
      obtain ⟨v, g, h1, h2, h3, h4, _⟩ := r.focus e
      exact ⟨v, h1, q v S T H g .refl r.lo r.th (rtO hio h2) h3 h4⟩
theorem s_ret0 {s : Stmt} (hp : PSf X s tRetN) (hio : sh.io = false := by rfl) : SJ K W cl sh (PSf X s) fun _ => .rt (.sh .non) := by
  refine ⟨_, hp, fun pv S T st σ H E r pi q => ?_⟩
  exact q .non S T H [] .refl r.lo r.th (rtO hio (.sh .non)) .nil fun b hb => by cases hb
def ifS (c : Rs Bool) (a b : Fl) : Fl := match c with
  | .ok k => if k = true then a else b
  | .ex c => .ex c
  | .bad => .bad
theorem s_if {c : Expr} {a b : List Stmt} {pos : Pos} {fc : Sl → Rs Bool} {f g : Sl → Fl} (hc : ET K W cl (PTf X c) fc) (ha : SJ K W cl sh (PSsf X a) f) (hb : SJ K W cl sh (PSsf X b) g) : SJ K W cl sh (PSf X (.If c a b pos)) fun st => ifS (fc st) (f st) (g st) := by
  obtain ⟨t, p, k⟩ := hc.ex
  obtain ⟨ta, pa, ka⟩ := ha.ex
  obtain ⟨tb, pb, kb⟩ := hb.ex
  refine ⟨_, fun z => ps_if (p z) (pa z) (pb z), fun pv S T st σ H E r pi q => k S T st σ H _ r ?_⟩
  have q : PSt K cl W sh pv S T (ifS (fc st) (f st) (g st)) E := q
  revert q
  cases fc st with
  | bad => exact fun q => q
  | ex c => exact fun q H1 h1 => q σ T H1 (.refl _) (r.th.trans h1)
  | ok k =>
    cases k with
    | true => exact fun q H1 h1 => iteT (ka pv S T st σ H1 E (r.mono h1) pi q)
    | false => exact fun q H1 h1 => iteF (kb pv S T st σ H1 E (r.mono h1) pi q)
def dropR (r : Rs D) (st : Sl) : Fl := match r with
  | .ok _ => .nx st
  | .ex c => .ex c
  | .bad => .bad
theorem s_expr {R : TE → Prop} {s : Stmt} {f : Sl → Rs D} (hp : ∀ t, R t → PSf X s (tDrop t)) (h : EV K W cl R f) : SJ K W cl sh (PSf X s) fun st => dropR (f st) st := by
  obtain ⟨t, p, a⟩ := h.ex
  refine ⟨_, hp _ p, fun pv S T st σ H E r pi q => a S T st σ H _ r ?_⟩
  have q : PSt K cl W sh pv S T (dropR (f st) st) E := q
  revert q
  cases f st with
  | bad => exact fun q => q
  | ex c => exact fun q H1 h1 => q σ T H1 (.refl _) (r.th.trans h1)
  | ok o => exact fun q v H1 h1 _ => q S T σ H1 .refl (r.mono h1) pi
theorem s_pass {s : Stmt} (hp : PSf X s tNext) : SJ K W cl sh (PSf X s) fun st => .nx st := ⟨_, hp, fun pv S T st σ H E r pi q => q S T σ H .refl r pi⟩
theorem s_break {s : Stmt} (hp : PSf X s tBreak) : SJ K W cl sh (PSf X s) fun st => .bk st := ⟨_, hp, fun pv S T st σ H E r pi q => q S T σ H .refl r pi⟩
theorem s_cont {s : Stmt} (hp : PSf X s tCont) : SJ K W cl sh (PSf X s) fun st => .ct st := ⟨_, hp, fun pv S T st σ H E r pi q => q S T σ H .refl r pi⟩
theorem s_raise {s : Stmt} {c : Str} (hp : PSf X s fun _ σ H => W (.ref (cl c)) none σ H) : SJ K W cl sh (PSf X s) fun _ => .ex c := ⟨_, hp, fun pv S T st σ H E r pi q => q σ T H (.refl _) r.th⟩
/-! ### loops -/
def forF (tg : D → Sl → Option Sl) (body : Sl → Fl) : List D → Sl → Fl
  | [], st => .nx st
  | d :: ds, st => match tg d st with
    | none => .bad
    | some st1 => match body st1 with
      | .nx st2 => forF tg body ds st2
      | .ct st2 => forF tg body ds st2
      | .bk st2 => .nx st2
      | .rt o => .rt o
      | .ex c => .ex c
      | .bad => .bad
def forR (it : Rs (List D)) (tg : D → Sl → Option Sl) (body : Sl → Fl) (st : Sl) : Fl := match it with
  | .ok ds => forF tg body ds st
  | .ex c => .ex c
  | .bad => .bad
theorem s_for {tgE iter : Expr} {bs : List Stmt} {s : Stmt} {us : List Nat} {fi : Sl → Rs (List D)} {tg : D → Sl → Option Sl} {body : Sl → Fl} (hp : ∀ wi g tb, PIf X tgE iter wi → PGf X tgE g → PSsf X bs tb → PSf X s (tFor wi g tb))
    (hi : EI K W cl (PIf X tgE iter) fi) (hg : EG K (PGf X tgE) us tg) (hb : SJ K W cl sh (PSsf X bs) body) (hpn : us.all (fun i => sh.okAt i) = true := by rfl) : SJ K W cl sh (PSf X s) fun st => forR (fi st) tg body st := by
  obtain ⟨wi, pi, ki⟩ := hi.ex
  obtain ⟨g, pg, kg⟩ := hg.ex
  obtain ⟨tb, pb, kb⟩ := hb.ex
  refine ⟨_, hp _ _ _ pi pg pb, fun pv S T st σ H E r pi q => ki S T st σ H _ r ?_⟩
  have q : PSt K cl W sh pv S T (forR (fi st) tg body st) E := q
  revert q
  cases fi st with
  | bad => exact fun q => q
  | ex c => exact fun q H1 h1 => q σ T H1 (.refl _) (r.th.trans h1)
  | ok ds =>
    intro q J S1 T1 H1 h1 x1 r1 y1
    have q : PSt K cl W sh pv S1 T1 (forF tg body ds st) E := PSt.mono (x1.ex3 r.th) q
    refine ⟨fun i m σ2 H2 => m = ds.length - i ∧ i ≤ ds.length ∧ ∃ S2 T2 st2, Ex3 S1 T1 S2 T2 ∧ RS K S2 T2 st2 σ2 H2 ∧ Pin sh pv σ2 ∧ PSt K cl W sh pv S2 T2 (forF tg body (ds.drop i) st2) E, ⟨ds.length, by simp, Nat.zero_le _, S1, T1, st, .refl, r1, pi, by rw [List.drop_zero]; exact q⟩, ?_⟩
    rintro i m σ2 H2 ⟨rfl, hi, S2, T2, st2, x2, r2, p2, q2⟩
    by_cases hlt : i < ds.length
    · have edrop : ds.drop i = ds[i] :: ds.drop (i + 1) := by rw [List.drop_eq_getElem_cons hlt]
      rw [edrop] at q2
      unfold forF at q2
      cases e1 : tg ds[i] st2 with
      | none => rw [e1] at q2; exact q2.elim
      | some st3 =>
        rw [e1] at q2
        dsimp only at q2
        refine .inr ⟨y1.go i H2 (x2.s.trans r2.sh) hlt, fun σ3 H3 => i + 1 ≤ ds.length ∧ ∃ S2 T2 st2, Ex3 S1 T1 S2 T2 ∧ RS K S2 T2 st2 σ3 H3 ∧ Pin sh pv σ3 ∧ PSt K cl W sh pv S2 T2 (forF tg body (ds.drop (i + 1)) st2) E, fun σ3 H3 p3 => ⟨ds.length - (i + 1), by omega, rfl, p3⟩, fun x H3 y => ?_⟩
        have yl := (y1.mono x2.s).yld i H2 x H3 ds[i] r2.sh (by simp [hlt]) y
        obtain ⟨S3, T3, hs3, x3, r3, rp3⟩ := yl.ext r2
        have q3 := PSt.mono (x3.ex3 r2.th) q2
        refine kg S3 T3 st2 σ2 H3 x ds[i] st3 _ r3 rp3 e1 fun σ4 l4 k4 r4 => kb pv S3 T3 st3 σ4 H3 _ r4 (p2.keep hpn k4) ?_
        have x13 := x2.trans (x3.ex3 r2.th)
        revert q3
        cases body st3 with
        | nx st4 => exact fun q3 S5 T5 σ5 H5 x5 r5 p5 => ⟨hlt, S5, T5, st4, x13.trans x5, r5, p5, PSt.mono (r := forF tg body (ds.drop (i + 1)) st4) x5 q3⟩
        | ct st4 => exact fun q3 S5 T5 σ5 H5 x5 r5 p5 => ⟨hlt, S5, T5, st4, x13.trans x5, r5, p5, PSt.mono (r := forF tg body (ds.drop (i + 1)) st4) x5 q3⟩
        | bk st4 => exact fun q3 S5 T5 σ5 H5 x5 r5 p5 => q3 S5 T5 σ5 H5 x5 r5 p5
        | rt o => exact fun q3 => q3
        | ex c => exact fun q3 => q3
        | bad => exact fun q3 => q3
    · have e : i = ds.length := by omega
      subst e
      rw [List.drop_length] at q2
      exact .inl ⟨y1.stop _ H2 (x2.s.trans r2.sh) (Nat.le_refl _), q2 S2 T2 σ2 H2 .refl r2 p2⟩
/-- a while, by fuel -/
def whileN (c : Sl → Rs Bool) (body : Sl → Fl) : Nat → Sl → Fl
  | 0, _ => .bad
  | n + 1, st => match c st with
    | .ex e => .ex e
    | .bad => .bad
    | .ok false => .nx st
    | .ok true => match body st with
      | .nx st2 => whileN c body n st2
      | .ct st2 => whileN c body n st2
      | .bk st2 => .nx st2
      | .rt o => .rt o
      | .ex e => .ex e
      | .bad => .bad
open Classical in
noncomputable def whileF (c : Sl → Rs Bool) (body : Sl → Fl) (st : Sl) : Fl := if h : ∃ n, whileN c body n st ≠ .bad then whileN c body h.choose st else .bad
theorem whileN_succ {c : Sl → Rs Bool} {body : Sl → Fl} : ∀ (n : Nat) (st : Sl), whileN c body n st ≠ .bad → whileN c body (n + 1) st = whileN c body n st
  | 0, st, h => absurd rfl h
  | n + 1, st, h => by
    unfold whileN at h ⊢
    cases e : c st with
    | ex _ => rfl
    | bad => rfl
    | ok b =>
      rw [e] at h
      cases b with
      | false => rfl
      | true =>
        dsimp only at h ⊢
        cases e2 : body st with
        | nx st2 =>
          rw [e2] at h
          exact whileN_succ n st2 h
        | ct st2 =>
          rw [e2] at h
          exact whileN_succ n st2 h
        | bk _ => rfl
        | rt _ => rfl
        | ex _ => rfl
        | bad => rfl
theorem whileN_le {c : Sl → Rs Bool} {body : Sl → Fl} {n : Nat} {st : Sl} (h : whileN c body n st ≠ .bad) : ∀ m, whileN c body (n + m) st = whileN c body n st
  | 0 => rfl
  | m + 1 => by
    have ih := whileN_le h m
    have := whileN_succ (n + m) st (by rw [ih]; exact h)
    exact this.trans ih
theorem whileN_eq {c : Sl → Rs Bool} {body : Sl → Fl} {n m : Nat} {st : Sl} (h : whileN c body n st ≠ .bad) (h2 : whileN c body m st ≠ .bad) : whileN c body n st = whileN c body m st := by
  rcases Nat.le_total n m with k | k
  · obtain ⟨d, rfl⟩ := Nat.exists_eq_add_of_le k
    exact (whileN_le h d).symm
  · obtain ⟨d, rfl⟩ := Nat.exists_eq_add_of_le k
    exact whileN_le h2 d
theorem whileF_of {c : Sl → Rs Bool} {body : Sl → Fl} {n : Nat} {st : Sl} (h : whileN c body n st ≠ .bad) : whileF c body st = whileN c body n st := by
  unfold whileF
  have ex : ∃ n, whileN c body n st ≠ .bad := ⟨n, h⟩
  rw [dif_pos ex]
  exact whileN_eq ex.choose_spec h
theorem whileF_bad {c : Sl → Rs Bool} {body : Sl → Fl} {st : Sl} (h : ∀ n, whileN c body n st = .bad) : whileF c body st = .bad := by
  unfold whileF
  rw [dif_neg fun ⟨n, k⟩ => k (h n)]
/-- one turn -/
theorem whileF_eq (c : Sl → Rs Bool) (body : Sl → Fl) (st : Sl) : whileF c body st = (match c st with
    | .ex e => .ex e
    | .bad => .bad
    | .ok false => .nx st
    | .ok true => match body st with
      | .nx st2 => whileF c body st2
      | .ct st2 => whileF c body st2
      | .bk st2 => .nx st2
      | .rt o => .rt o
      | .ex e => .ex e
      | .bad => .bad) := by
  by_cases h : ∃ n, whileN c body n st ≠ .bad
  · obtain ⟨n, h⟩ := h
    rw [whileF_of h]
    cases n with
    | zero => exact absurd rfl h
    | succ n =>
      unfold whileN at h ⊢
      cases e : c st with
      | ex _ => rfl
      | bad => rfl
      | ok b =>
        rw [e] at h
        cases b with
        | false => rfl
        | true =>
          dsimp only at h ⊢
          cases e2 : body st with
          | nx st2 => rw [e2] at h; exact (whileF_of h).symm
          | ct st2 => rw [e2] at h; exact (whileF_of h).symm
          | bk _ => rfl
          | rt _ => rfl
          | ex _ => rfl
          | bad => rfl
  · have h : ∀ n, whileN c body n st = .bad := fun n => Classical.byContradiction fun k => h ⟨n, k⟩
    rw [whileF_bad h]
    have h1 : ∀ n, whileN c body (n + 1) st = .bad := fun n => h (n + 1)
    unfold whileN at h1
    cases e : c st with
    | ex _ => rw [e] at h1; exact (h1 0).symm
    | bad => rfl
    | ok b =>
      rw [e] at h1
      cases b with
      | false => exact (h1 0).symm
      | true =>
        dsimp only at h1 ⊢
        cases e2 : body st with
        | nx st2 => rw [e2] at h1; exact (whileF_bad h1).symm
        | ct st2 => rw [e2] at h1; exact (whileF_bad h1).symm
        | bk _ => rw [e2] at h1; exact (h1 0).symm
        | rt _ => rw [e2] at h1; exact (h1 0).symm
        | ex _ => rw [e2] at h1; exact (h1 0).symm
        | bad => rfl
theorem s_while {c : Expr} {bs : List Stmt} {s : Stmt} {fc : Sl → Rs Bool} {body : Sl → Fl} (hp : ∀ tc tb, PTf X c tc → PSsf X bs tb → PSf X s (tWhile tc tb)) (hc : ET K W cl (PTf X c) fc) (hb : SJ K W cl sh (PSsf X bs) body) :
    SJ K W cl sh (PSf X s) (whileF fc body) := by
  obtain ⟨tc, pc, kc⟩ := hc.ex
  obtain ⟨tb, pb, kb⟩ := hb.ex
  refine ⟨_, hp _ _ pc pb, fun pv S T st σ H E r pi q => ?_⟩
  by_cases h : ∃ n, whileN fc body n st ≠ .bad
  · obtain ⟨n, h⟩ := h
    rw [whileF_of h] at q
    refine ⟨fun m σ2 H2 => ∃ S2 T2 st2, Ex3 S T S2 T2 ∧ RS K S2 T2 st2 σ2 H2 ∧ Pin sh pv σ2 ∧ PSt K cl W sh pv S2 T2 (whileN fc body m st2) E, ⟨n, S, T, st, .refl, r, pi, q⟩, ?_⟩
    rintro m σ2 H2 ⟨S2, T2, st2, x2, r2, p2, q2⟩
    cases m with
    | zero => exact q2.elim
    | succ m =>
      refine kc S2 T2 st2 σ2 H2 _ r2 ?_
      unfold whileN at q2
      revert q2
      cases fc st2 with
      | bad => exact fun q => q
      | ex c => exact fun q H1 h1 => q σ2 T2 H1 (.refl _) (r2.th.trans h1)
      | ok b =>
        cases b with
        | false => exact fun q H1 h1 => iteF (q S2 T2 σ2 H1 .refl (r2.mono h1) p2)
        | true =>
          intro q H1 h1
          refine iteT ⟨fun σ3 H3 => ∃ S2 T2 st2, Ex3 S T S2 T2 ∧ RS K S2 T2 st2 σ3 H3 ∧ Pin sh pv σ3 ∧ PSt K cl W sh pv S2 T2 (whileN fc body m st2) E, fun σ3 H3 p3 => ⟨m, Nat.lt_succ_self _, p3⟩, kb pv S2 T2 st2 σ2 H1 _ (r2.mono h1) p2 ?_⟩
          revert q
          show PSt K cl W sh pv S2 T2 (match body st2 with
            | .nx st2 => whileN fc body m st2
            | .ct st2 => whileN fc body m st2
            | .bk st2 => .nx st2
            | .rt o => .rt o
            | .ex e => .ex e
            | .bad => .bad) E → _
          cases body st2 with
          | nx st4 => exact fun q3 S5 T5 σ5 H5 x5 r5 p5 => ⟨S5, T5, st4, x2.trans x5, r5, p5, PSt.mono (r := whileN fc body m st4) x5 q3⟩
          | ct st4 => exact fun q3 S5 T5 σ5 H5 x5 r5 p5 => ⟨S5, T5, st4, x2.trans x5, r5, p5, PSt.mono (r := whileN fc body m st4) x5 q3⟩
          | bk st4 => exact fun q3 S5 T5 σ5 H5 x5 r5 p5 => q3 S5 T5 σ5 H5 x5 r5 p5
          | rt o => exact fun q3 => q3
          | ex c => exact fun q3 => q3
          | bad => exact fun q3 => q3
  · have h : ∀ n, whileN fc body n st = .bad := fun n => Classical.byContradiction fun k => h ⟨n, k⟩
    rw [whileF_bad h] at q
    exact q.elim
/-! ### one's own lists changed -/
def appR (i : Nat) (r : Rs O) (st : Sl) : Fl := match st[i]? with
  | some (some (.lst os)) => match r with
    | .ok o => if os.length < sizeLine then .nx (st.set i (some (.lst (os ++ [o])))) else .bad
    | .ex c => .ex c
    | .bad => .bad
  | _ => .bad
theorem s_app {i : Nat} {e : Expr} {s : Stmt} {f : Sl → Rs O} (hp : ∀ t, PAf X [e] t → PSf X s (tDrop (tBM K "list" rAppend (tVar i) t))) (h : EF K W cl (PEf X e) f) (hs : ∀ z, starEach [e] (X z).env = [(false, eval e (X z).env)] := by intro _; rfl) :
    SJ K W cl sh (PSf X s) fun st => appR i (f st) st := by
  obtain ⟨t, p, a⟩ := h.ex
  refine ⟨_, hp _ fun z => pa_cons (p z) pa_nil (hs z), fun pv S T st σ H E r pi q => ?_⟩
  have q : PSt K cl W sh pv S T (appR i (f st) st) E := q
  unfold appR at q
  cases e0 : st[i]? with
  | none => rw [e0] at q; exact q.elim
  | some z =>
    rw [e0] at q
    cases z with
    | none => exact q.elim
    | some o0 =>
      cases o0 with
      | sh _ => exact q.elim
      | tup _ => exact q.elim
      | lst os =>
        dsimp only at q
        obtain ⟨v, g, h1, h2, _⟩ := r.focus e0
        cases h2 with
        | @lst p0 vs _ f0 hl0 ow0 =>
          refine ⟨.ref p0, h1, .inl ⟨rfl, vs, SqL.of hl0⟩, a S T st σ H _ r ?_⟩
          revert q
          cases f st with
          | bad => exact fun q => q
          | ex c => exact fun q H1 h1 => q σ T H1 (.refl _) (r.th.trans h1)
          | ok o =>
            intro q v1 S1 T1 H1 g1 hs1 x1 s1 t1 w1 n1 k1
            have q : PSt K cl W sh pv S T (if os.length < sizeLine then .nx (st.set i (some (.lst (os ++ [o])))) else .bad) E := q
            by_cases c : os.length < sizeLine
            · rw [if_pos c] at q
              have r1 := r.ext hs1 x1 s1 t1
              obtain ⟨v2, g2, e2, w2, n2, k2, inn, put⟩ := r1.focus e0
              rw [h1] at e2
              cases e2
              cases w2 with
              | @lst _ vs2 _ f2 hl2 ow2 =>
                have fr := r.fresh (S1 := S1) hs1 k1
                obtain ⟨fA, wA, _, _⟩ := r1.own
                have pg : ∀ b ∈ g1, b ∉ p0 :: f2 := fun b hb hm => (fr b hb).2 fA wA (inn fA wA b hm)
                have pf : p0 ∉ f2 := (List.nodup_cons.mp n2).1
                have pg1 : p0 ∉ g1 := fun z => pg p0 z (by simp)
                refine ⟨p0, vs2, v1, rfl, rfl, hl2, by rw [ow2.length]; exact c, ?_⟩
                refine q S1 T1 σ _ (x1.ex3 r.th) (put (upd H1 p0 (.lst (vs2 ++ [v1]))) (.lst (os ++ [o])) (p0 :: (f2 ++ g1)) (fun b hb => upd_ne fun e => hb (by rw [e]; simp)) ?_ ?_ fun b hb => ?_) pi
                · have w3 : OwL K S1 (upd H1 p0 (.lst (vs2 ++ [v1]))) vs2 os f2 := ow2.mono (.refl _) fun b hb => upd_ne fun e => pf (e ▸ hb)
                  have w4 : Ow K S1 (upd H1 p0 (.lst (vs2 ++ [v1]))) v1 o g1 := w1.mono (.refl _) fun b hb => upd_ne fun e => pg1 (e ▸ hb)
                  have := w3.append (.cons w4 .nil)
                  rw [List.append_nil] at this
                  exact .lst upd_same this
                · rw [List.nodup_cons, List.mem_append, List.nodup_append]
                  exact ⟨fun z => z.elim pf pg1, (List.nodup_cons.mp n2).2, n1, fun a ha b hb e => pg b hb (by rw [← e]; simp [ha])⟩
                · rcases List.mem_cons.mp hb with rfl | hb
                  · exact .inl (by simp)
                  · rcases List.mem_append.mp hb with hb | hb
                    · exact .inl (by simp [hb])
                    · exact .inr (fr b hb)
            · rw [if_neg c] at q
              exact q.elim
/-- x[k] = e -/
def putR (i : Nat) (r : Rs O) (k : Rs D) (st : Sl) : Fl := match r with
  | .ok o => match st[i]? with
    | some (some (.lst os)) => match k with
      | .ok (.int j) => match ixN os.length j with
        | some m => .nx (st.set i (some (.lst (os.set m o))))
        | none => .bad
      | _ => .bad
    | _ => .bad
  | .ex c => .ex c
  | .bad => .bad
theorem s_put {R : TE → Prop} {i : Nat} {e2 : Expr} {s : Stmt} {f : Sl → Rs O} {k : Sl → Rs D} (hp : ∀ t u, R t → PEf X e2 u → PSf X s (tAsg t (gSub (tVar i) u rSetL))) (h : EF K W cl R f) (hk : EV K W0 cl (PEf X e2) k) :
    SJ K W cl sh (PSf X s) fun st => putR i (f st) (k st) st := by
  obtain ⟨t, p, a⟩ := h.ex
  obtain ⟨u, pu, b⟩ := hk.ex
  refine ⟨_, hp _ _ p pu, fun pv S T st σ H E r pi q => a S T st σ H _ r ?_⟩
  have q : PSt K cl W sh pv S T (putR i (f st) (k st) st) E := q
  revert q
  unfold putR
  cases f st with
  | bad => exact fun q => q
  | ex c => exact fun q H1 h1 => q σ T H1 (.refl _) (r.th.trans h1)
  | ok o =>
    intro q v1 S1 T1 H1 g1 hs1 x1 s1 t1 w1 n1 k1
    dsimp only at q
    cases e0 : st[i]? with
    | none => rw [e0] at q; exact q.elim
    | some z =>
      rw [e0] at q
      cases z with
      | none => exact q.elim
      | some o0 =>
        cases o0 with
        | sh _ => exact q.elim
        | tup _ => exact q.elim
        | lst os =>
          dsimp only at q
          have r1 := r.ext hs1 x1 s1 t1
          obtain ⟨vv, gg, h1, _⟩ := r1.focus e0
          refine ⟨vv, h1, b S1 T1 st σ H1 _ r1 ?_⟩
          revert q
          cases k st with
          | bad => exact fun q => q.elim
          | ex c => exact fun q => q.elim
          | ok d =>
            cases d with
            | int j =>
              intro q w H2 hs2 rw2
              cases rw2
              dsimp only at q
              cases e3 : ixN os.length j with
              | none => rw [e3] at q; exact q.elim
              | some m =>
                rw [e3] at q
                have r2 := r1.mono hs2
                obtain ⟨v2, g2, e2, w2, n2, k2, inn, put⟩ := r2.focus e0
                rw [h1] at e2
                cases e2
                cases w2 with
                | @lst p0 vs2 _ f2 hl2 ow2 =>
                  have fr := r.fresh (S1 := S1) (hs1.trans hs2) k1
                  obtain ⟨fA, wA, _, _⟩ := r2.own
                  have pg : ∀ b ∈ g1, b ∉ p0 :: f2 := fun b hb hm => (fr b hb).2 fA wA (inn fA wA b hm)
                  have pf : p0 ∉ f2 := (List.nodup_cons.mp n2).1
                  have pg1 : p0 ∉ g1 := fun z => pg p0 z (by simp)
                  have hm : m < os.length := (ixN_seq e3).2.1
                  obtain ⟨ov, fa, fb, fc, c1, c2, c3, c4⟩ := ow2.get (i := m) (o := os[m]) (by simp [hm])
                  subst c2
                  refine ⟨p0, vs2, j, m, rfl, rfl, hl2, by rw [ow2.length]; exact e3, ?_⟩
                  have nf := (List.nodup_cons.mp n2).2
                  refine q S1 T1 σ _ (x1.ex3 r.th) (put (upd H2 p0 (.lst (vs2.set m v1))) (.lst (os.set m o)) (p0 :: (fa ++ g1 ++ fc)) (fun b hb => upd_ne fun e => hb (by rw [e]; simp)) ?_ ?_ fun b hb => ?_) pi
                  · have th1 := w1.there
                    have w4 : Ow K S1 (upd H2 p0 (.lst (vs2.set m v1))) v1 o g1 := w1.mono (.refl _) fun b hb => Eq.trans (upd_ne fun (e : b = p0) => pg1 (e ▸ hb)) (same_ne hs2 (th1 b hb))
                    have w5 := c4 S1 (upd H2 p0 (.lst (vs2.set m v1))) v1 o g1 (.refl _) (fun b hb => upd_ne fun e => pf (by rw [← e]; simp only [List.mem_append] at hb ⊢; rcases hb with z | z; exact .inl (.inl z); exact .inr z)) w4
                    exact .lst upd_same w5
                  · simp only [List.nodup_append, List.mem_append] at nf
                    obtain ⟨⟨m1, m2, m3⟩, m4, m5⟩ := nf
                    have da : ∀ b ∈ g1, b ∉ fa ∧ b ∉ fc := fun b hb => by
                      have := pg b hb
                      simp only [List.mem_cons, List.mem_append, not_or] at this
                      exact ⟨this.2.1.1, this.2.2⟩
                    rw [List.nodup_cons]
                    simp only [List.mem_append] at pf
                    refine ⟨fun z => ?_, ?_⟩
                    · simp only [List.mem_append] at z
                      rcases z with (z | z) | z
                      · exact pf (.inl (.inl z))
                      · exact pg1 z
                      · exact pf (.inr z)
                    · simp only [List.nodup_append, List.mem_append]
                      refine ⟨⟨m1, n1, fun a ha b hb e => (da b hb).1 (e ▸ ha)⟩, m4, fun a ha b hb e => ?_⟩
                      rcases ha with ha | ha
                      · exact m5 a (.inl ha) b hb e
                      · exact (da a ha).2 (e ▸ hb)
                  · rcases List.mem_cons.mp hb with rfl | hb
                    · exact .inl (by simp)
                    · simp only [List.mem_append] at hb
                      rcases hb with (hb | hb) | hb
                      · exact .inl (by simp [hb])
                      · exact .inr (fr b hb)
                      · exact .inl (by simp [hb])
            | _ => exact fun q => q.elim
/-! ### one's own tree is left as it is from here on -/
def frzS (i : Nat) (f : Sl → Fl) (st : Sl) : Fl := match st[i]? with
  | some (some o) => f (st.set i (some (.sh o.er)))
  | _ => .bad
theorem s_frz {R : TS → Prop} {f : Sl → Fl} (i : Nat) (h : SJ K W cl sh R f) : SJ K W cl sh R (frzS i f) := by
  obtain ⟨t, p, a⟩ := h.ex
  refine ⟨t, p, fun pv S T st σ H E r pi q => ?_⟩
  unfold frzS at q
  cases e0 : st[i]? with
  | none => rw [e0] at q; exact q.elim
  | some z =>
    rw [e0] at q
    cases z with
    | none => exact q.elim
    | some o =>
      obtain ⟨f, w, nd, k⟩ := r.own
      obtain ⟨v, f1, g, f2, h1, h2, h3, h4, _⟩ := w.get e0
      subst h2
      have kg : ∀ b ∈ g, T b = none := fun b hb => k b (by simp [hb])
      have ks : ∀ b ∈ g, S b = none := fun b hb => r.lo.free (kg b hb)
      have hσ : σ.set i (some v) = σ := by
        apply List.ext_getElem?
        intro j
        by_cases hj : i = j
        · subst hj
          have := (List.getElem?_eq_some_iff.mp h1).1
          rw [List.getElem?_set_self this, h1]
        · rw [List.getElem?_set_ne hj]
      have w3 := h4 (frz g S H) H v (.sh o.er) [] (frz_same ks) (fun _ _ => rfl) (.sh (h3.rp (frz_same ks) fun b hb => frz_in hb))
      rw [hσ] at w3
      have x : Ex3 S T (frz g S H) (frz g T H) := ⟨frz_same ks, frz_same kg, fun b hb => frz_out fun z => hb (kg b z)⟩
      simp only [List.nodup_append, List.mem_append] at nd
      obtain ⟨⟨n1, n2, n3⟩, n4, n5⟩ := nd
      refine a pv (frz g S H) (frz g T H) _ σ H E ⟨frz_mono r.lo, frz_low r.th, _, w3, ?_, fun b hb => ?_⟩ pi (PSt.mono x q)
      · simp only [List.nodup_append, List.mem_append]
        exact ⟨⟨n1, .nil, fun a ha b hb => by cases hb⟩, n4, fun a ha b hb e => ha.elim (fun z => n5 a (.inl z) b hb e) fun z => by cases z⟩
      · simp only [List.mem_append] at hb
        have hg : b ∉ g := fun z => by
          rcases hb with (hb | hb) | hb
          · exact n3 b hb b z rfl
          · cases hb
          · exact n5 b (.inr z) b hb rfl
        rw [frz_out hg]
        rcases hb with (hb | hb) | hb
        · exact k b (by simp [hb])
        · cases hb
        · exact k b (by simp [hb])
end
/-! ### a def -/
def fin : Fl → Rs O
  | .rt o => .ok o
  | .nx _ => .ok (.sh .non)
  | .ex c => .ex c
  | _ => .bad
def runD (N n : Nat) (fb : Sl → Fl) (ds : List D) : Rs O := if ds.length = n then fin (fb (ds.map (fun d => some (.sh d)) ++ List.replicate (N - n) none)) else .bad
theorem st_args {K : PySem.W.Frag} {S H : Hp} {σ : St} {st : Sl} (w : OwSt K S H σ st []) : ∀ {vs : List V} {ds : List D}, RpL K S vs ds → OwSt K S H (vs.map some ++ σ) (ds.map (fun d => some (.sh d)) ++ st) []
  | _, _, .nil => w
  | _, _, .cons h r => by
    have := OwSt.some (.sh h) (st_args w r)
    exact this
theorem st_none {K : PySem.W.Frag} {S H : Hp} : ∀ n : Nat, OwSt K S H (List.replicate n none) (List.replicate n none) []
  | 0 => .nil
  | n + 1 => .none (st_none n)
section
variable {P : Program} {w : World} {K : PySem.W.Frag} {mg : Str → Option Value} {base : Heap} {cl : Cl}
theorem def_ok {x qual : Str} {st : Stmt} {f : Addr} {fd : FuncData} {N ps : List Str} {k : Nat} {fb : Sl → Fl} (F : Fun K x qual st f fd) (Sc : FnScope N ps (defScope st))
    (body : ∀ (cdv : Value) (A : Around) (outer : List Env) (s : Shared) (H : Hp) (E : XK), Room k (A.deeper (PyProof.Rows.envOfC qual (defScope st) s.heap.objs.size f cdv)) →
      SJ K (fun c d _ H => E c d H) cl .no (PSsf (fun _ : Unit => cxOf (L2.CX P w) P w K mg base N qual (defScope st) f cdv A outer s H E) (defBody st)) fb) :
    FnOk P w K mg base (L2.CX P w) (k + 1) f fd ps (SpD K cl ps.length (runD N.length ps.length fb)) := by
  refine F.okX Sc SpD.len fun cdv A outer s H vs Q E hr ⟨S, ds, hl, hs, rl, m⟩ => ?_
  obtain ⟨t, p, a⟩ := (body cdv A outer s H E hr).ex
  have hv : vs.length = ps.length := rl.length.trans hl
  have w0 : OwSt K S H (L2.start N vs) (ds.map (fun d => some (.sh d)) ++ List.replicate (N.length - ps.length) none) [] := by
    unfold L2.start
    rw [hv]
    exact st_args (st_none _) rl
  refine ⟨t, p (), a (fun _ => .non) S H _ _ H _ ⟨hs, .refl _, [], w0, .nil, fun b hb => by cases hb⟩ (fun _ h => nomatch h) ?_⟩
  unfold runD at m
  rw [if_pos hl] at m
  revert m
  cases fb (ds.map (fun d => some (.sh d)) ++ List.replicate (N.length - ps.length) none) with
  | bad => exact fun m => m
  | bk _ => exact fun m => m.elim
  | ct _ => exact fun m => m.elim
  | ex c => exact fun m σ T' H' h1 h2 => m H' (h1.trans h2)
  | nx st' => exact fun m S' T' σ' H' x r' _ => m .non S' H' [] x.s (x.t.trans r'.th) x.old r'.sh (.sh .non) .nil fun b hb => by cases hb
  | rt o => exact fun m v S' T' H' g x h1 h2 w1 nd hg => m v S' H' g x.s (x.t.trans h2) x.old (h1.trans h2) w1 nd fun b hb => ⟨h1.free (hg b hb), x.t.free (hg b hb)⟩
end
end M

/-! What a printed text leans on; the end of a law. -/
namespace M
open PySem L2
section
variable {ι : Type} {X : ι → Cx} {W : WX} {cl : Cl} {K : PySem.W.Frag} {sh : Ps} {pv : Nat → V}
theorem t_none : ET K W cl (PTsf X []) fun _ => .ok true := ⟨_, fun _ => pts_nil, fun S T st σ H Q r q => q H (.refl _)⟩
theorem t_one {c : Expr} {f : Sl → Rs Bool} (h : ET K W cl (PTf X c) f) : ET K W cl (PTsf X [c]) f := by
  obtain ⟨t, p, k⟩ := h.ex
  exact ⟨t, fun z => pts_one (p z), k⟩
theorem s_never {s : Stmt} (hp : PSf X s tNever) : SJ K W cl sh (PSf X s) fun _ => .bad := ⟨_, hp, fun pv S T st σ H E r pi q => q⟩
end
/-- a def of the text, as its callers need it -/
structure CallOk (P : Program) (w : World) (K : PySem.W.Frag) (mg : Str → Option Value) (base : Heap) (cl : Cl) (x : Str) (k n : Nat) (m : List D → Rs O) (f : Addr) (fd : FuncData) (ps : List Str) : Prop where
  F : FnOk P w K mg base (L2.CX P w) k f fd ps (SpD K cl n m)
  g : mg x = some (.ref f)
  kp : PySem.W.keepIn K (.ref f) = true
  b : Binds K fd ps []
theorem law_end {l : PySem.W.OpenLaw} {k : Nat} {q : Program} {loose : List Str} {XP : (Str → Option Value) → Heap → Prop} {YP : World → Heap → Prop} {d : DefRec} {K : Params → PySem.W.Frag} {cl : Cl} {m : List D → Rs O} (hn : l.most = some 63) (h63 : 63 ≤ sizeLine) (hdf : d.params.defaults = [])
    (hr : Room k callerA) (hlaw : ∀ ns : List Int, ns.length ≤ 63 → m [.scr ns] = .ok (.sh (.bl true)))
    (hY : ∀ (w : World) (h : Heap), YP w h → (K w.params).In h)
    (F : ∀ (w : World) (mg : Str → Option Value) (fa : Addr) (h : Heap), (K w.params).In h → h.Ns mainGlobals mg → mg d.name = some (.ref fa) →
      ∃ fd : FuncData, (∀ (s : Shared) (u : Value), BindsTo s fd ⟨[u], []⟩ [("script", u)]) ∧ ∀ base : Heap, (K w.params).In base → base.Ns mainGlobals mg → FnOk l.prog w (K w.params) mg base (L2.CX l.prog w) k fa fd ["script"] (SpD (K w.params) cl 1 m)) :
    PySem.W.WalkO q loose XP YP l.row.toRowW d [] (fun f vs => PySem.call f vs) := by
  refine L2.walk_of (n := 63) (k := k) (x := "script") (CX := fun w => L2.CX l.prog w) (sp := fun w => SpD (K w.params) cl 1 m) hn h63 hdf hr hY F (fun w H a ns hl hO hS => ?_) fun w H s e s' z => ?_
  · refine ⟨H, [.scr ns], rfl, .refl _, .cons (.scr hS) .nil, ?_⟩
    rw [hlaw ns hl]
    intro v S' H' g _ _ _ _ ow _ _
    cases ow with
    | sh r => cases r; rfl
  · obtain ⟨_, _, _, _, _, _, _, _, _, _, _, _, z⟩ := z
    exact z.elim
end M

/-! How the words of a printed text are reckoned: rules for simp. -/
namespace M
open PySem L2
/-- said so that simp rewrites by it, and the kernel does not reckon both sides -/
theorem said {α : Sort u} {a b : α} (h : a = b) : a = b := h
section
variable {α β : Type}
@[simp] theorem bind_ok (a : α) (f : α → Rs β) : (Rs.ok a).bind f = f a := said rfl
@[simp] theorem bind_ex (c : Str) (f : α → Rs β) : (Rs.ex c : Rs α).bind f = .ex c := said rfl
@[simp] theorem bind_bad (f : α → Rs β) : (Rs.bad : Rs α).bind f = .bad := said rfl
@[simp] theorem ofO_some (a : α) : ofO (some a) = .ok a := said rfl
@[simp] theorem ofO_none : ofO (none : Option α) = .bad := said rfl
@[simp] theorem mapRs_ok (g : α → β) (a : α) : mapRs g (.ok a) = .ok (g a) := said rfl
@[simp] theorem mapRs_ex (g : α → β) (c : Str) : mapRs g (.ex c) = .ex c := said rfl
@[simp] theorem mapRs_bad (g : α → β) : mapRs g .bad = .bad := said rfl
@[simp] theorem noEx_ok (a : α) : noEx (.ok a) = .ok a := said rfl
@[simp] theorem bin2_ok (g : D → D → Option D) (a b : D) : bin2 g (.ok a) (.ok b) = ofO (g a b) := said rfl
@[simp] theorem un1_ok (g : D → Option D) (a : D) : un1 g (.ok a) = ofO (g a) := said rfl
@[simp] theorem er_sh (d : D) : (O.sh d).er = d := by rw [O.er]
@[simp] theorem er_lst (os : List O) : (O.lst os).er = .lst (os.map O.er) := by rw [O.er, erL_map]
@[simp] theorem er_tup (os : List O) : (O.tup os).er = .tup (os.map O.er) := by rw [O.er, erL_map]
@[simp] theorem map_er_sh (ds : List D) : (ds.map O.sh).map O.er = ds := by
  induction ds with
  | nil => rfl
  | cons d ds ih => rw [List.map_cons, List.map_cons, ih, er_sh]
@[simp] theorem getV_0 (o : O) (st : Sl) : getV 0 (some o :: st) = .ok o.er := said rfl
@[simp] theorem getV_s (i : Nat) (o : Option O) (st : Sl) : getV (i + 1) (o :: st) = getV i st := said rfl
@[simp] theorem getP_0 (d : D) (st : Sl) : getP 0 (some (.sh d) :: st) = .ok d := said rfl
@[simp] theorem getP_s (i : Nat) (o : Option O) (st : Sl) : getP (i + 1) (o :: st) = getP i st := said rfl
@[simp] theorem add_int (i j : Int) : addD (.int i) (.int j) = some (.int (i + j)) := said rfl
@[simp] theorem sub_int (i j : Int) : subD (.int i) (.int j) = some (.int (i - j)) := said rfl
theorem mul_int (i j : Int) : mulD (.int i) (.int j) = if mulOk i j = true then some (.int (i * j)) else none := said rfl
theorem fdiv_int (i j : Int) : fdivD (.int i) (.int j) = if divOk i j = true then some (.int (i.fdiv j)) else none := said rfl
@[simp] theorem mod_int (i j : Int) : modD (.int i) (.int j) = if j ≠ 0 then some (.int (i.fmod j)) else none := said rfl
@[simp] theorem pow_int (i j : Int) : powD (.int i) (.int j) = if powOk i j = true then some (.int (i ^ j.toNat)) else none := said rfl
@[simp] theorem lt_int (i j : Int) : ltD (.int i) (.int j) = some (.bl (decide (i < j))) := said rfl
@[simp] theorem le_int (i j : Int) : leD (.int i) (.int j) = some (.bl (decide (i ≤ j))) := said rfl
@[simp] theorem gt_int (i j : Int) : gtD (.int i) (.int j) = some (.bl (decide (j < i))) := said rfl
@[simp] theorem ge_int (i j : Int) : geD (.int i) (.int j) = some (.bl (decide (j ≤ i))) := said rfl
@[simp] theorem neg_int (i : Int) : negD (.int i) = some (.int (-i)) := said rfl
@[simp] theorem len_lst (ds : List D) : lenD (.lst ds) = some (.int ds.length) := said rfl
@[simp] theorem len_tup (ds : List D) : lenD (.tup ds) = some (.int ds.length) := said rfl
@[simp] theorem len_scr (ns : List Int) : lenD (.scr ns) = some (.int ns.length) := said rfl
@[simp] theorem abs_int (i : Int) : absD (.int i) = some (.int (if i < 0 then -i else i)) := said rfl
@[simp] theorem int_int (i : Int) : intD (.int i) = some (.int i) := said rfl
@[simp] theorem int_bl (k : Bool) : intD (.bl k) = some (.int (if k then 1 else 0)) := said rfl
@[simp] theorem max2_int (i j : Int) : max2D (.int i) (.int j) = some (.int (if j > i then j else i)) := said rfl
@[simp] theorem min2_int (i j : Int) : min2D (.int i) (.int j) = some (.int (if j < i then j else i)) := said rfl
@[simp] theorem ix_lst (ds : List D) (i : Int) : ixD (.lst ds) (.int i) = atI ds i := said rfl
@[simp] theorem ix_tup' (ds : List D) (i : Int) : ixD (.tup ds) (.int i) = atI ds i := said rfl
@[simp] theorem ix_scr (ns : List Int) (i : Int) : ixD (.scr ns) (.int i) = (atI ns i).map .int := said rfl
@[simp] theorem elems_lst (ds : List D) : elems (.lst ds) = some ds := said rfl
@[simp] theorem elems_scr (ns : List Int) : elems (.scr ns) = some (ns.map .int) := said rfl
@[simp] theorem asB_ok (k : Bool) : asB (.ok (.bl k)) = .ok k := said rfl
@[simp] theorem asB_bad : asB .bad = .bad := said rfl
@[simp] theorem asI_ok (i : Int) : asI (.ok (.int i)) = .ok (some i) := said rfl
@[simp] theorem asPrim_int (i : Int) : asPrim (.ok (.int i)) = .ok (.int i) := said rfl
@[simp] theorem asPrim_bl (k : Bool) : asPrim (.ok (.bl k)) = .ok (.bl k) := said rfl
@[simp] theorem asPrim_str (x : Str) : asPrim (.ok (.str x)) = .ok (.str x) := said rfl
@[simp] theorem asPrim_non : asPrim (.ok .non) = .ok .non := said rfl
@[simp] theorem asPrim_bad : asPrim .bad = .bad := said rfl
@[simp] theorem ifS_ok (k : Bool) (a b : Fl) : ifS (.ok k) a b = if k = true then a else b := said rfl
@[simp] theorem ifR_ok {α : Type} (k : Bool) (a b : Rs α) : ifR (.ok k) a b = if k = true then a else b := said rfl
@[simp] theorem thn_nx (st : Sl) (f : Sl → Fl) : (Fl.nx st).thn f = f st := said rfl
@[simp] theorem thn_rt (o : O) (f : Sl → Fl) : (Fl.rt o).thn f = .rt o := said rfl
@[simp] theorem thn_bk (st : Sl) (f : Sl → Fl) : (Fl.bk st).thn f = .bk st := said rfl
@[simp] theorem thn_ct (st : Sl) (f : Sl → Fl) : (Fl.ct st).thn f = .ct st := said rfl
@[simp] theorem thn_ex (c : Str) (f : Sl → Fl) : (Fl.ex c).thn f = .ex c := said rfl
@[simp] theorem thn_bad (f : Sl → Fl) : Fl.bad.thn f = .bad := said rfl
theorem thn_ite (c : Prop) [Decidable c] (a b : Fl) (f : Sl → Fl) : (if c then a else b).thn f = if c then a.thn f else b.thn f := by split <;> rfl
@[simp] theorem retR_ok (o : O) : retR (.ok o) = .rt o := said rfl
@[simp] theorem retR_bad : retR .bad = .bad := said rfl
@[simp] theorem retN_0 (o : O) (st : Sl) : retN 0 (some o :: st) = .rt o := said rfl
@[simp] theorem retN_s (i : Nat) (o : Option O) (st : Sl) : retN (i + 1) (o :: st) = retN i st := said rfl
@[simp] theorem dropR_ok (d : D) (st : Sl) : dropR (.ok d) st = .nx st := said rfl
@[simp] theorem setO_ok (i : Nat) (o : O) (st : Sl) : setO i (.ok o) st = if i < st.length then .nx (st.set i (some o)) else .bad := said rfl
@[simp] theorem setO_bad (i : Nat) (st : Sl) : setO i .bad st = .bad := said rfl
@[simp] theorem notT_ok (k : Bool) : notT (.ok k) = .ok (!k) := said rfl
@[simp] theorem andT_ok (k : Bool) (b : Rs Bool) : andT (.ok k) b = if k = true then b else .ok false := said rfl
@[simp] theorem orT_ok (k : Bool) (b : Rs Bool) : orT (.ok k) b = if k = true then .ok true else b := said rfl
theorem andV_ok (k : Bool) (b : Rs D) : andV (.ok (.bl k)) b = if k = true then b else .ok (.bl false) := by cases k <;> rfl
@[simp] theorem andV_t (b : Rs D) : andV (.ok (.bl true)) b = b := said rfl
@[simp] theorem andV_f (b : Rs D) : andV (.ok (.bl false)) b = .ok (.bl false) := said rfl
@[simp] theorem andV_bb (k l : Bool) : andV (.ok (.bl k)) (.ok (.bl l)) = .ok (.bl (k && l)) := by cases k <;> rfl
@[simp] theorem orV_t (b : Rs D) : orV (.ok (.bl true)) b = .ok (.bl true) := said rfl
@[simp] theorem orV_f (b : Rs D) : orV (.ok (.bl false)) b = b := said rfl
@[simp] theorem orV_bb (k l : Bool) : orV (.ok (.bl k)) (.ok (.bl l)) = .ok (.bl (k || l)) := by cases k <;> rfl
@[simp] theorem notV_ok (k : Bool) : notV (.ok (.bl k)) = .ok (.bl (!k)) := said rfl
@[simp] theorem consR_ok {α : Type} (a : α) (l : List α) : consR (.ok a) (.ok l) = .ok (a :: l) := said rfl
@[simp] theorem callR_ok {α : Type} (n : Nat) (m : List D → Rs α) (ds : List D) : callR n m (.ok ds) = if ds.length = n then m ds else .bad := said rfl
@[simp] theorem forR_ok (ds : List D) (tg : D → Sl → Option Sl) (body : Sl → Fl) (st : Sl) : forR (.ok ds) tg body st = forF tg body ds st := said rfl
@[simp] theorem elemsR_ok (d : D) : elemsR (.ok d) = ofO (elems d) := said rfl
@[simp] theorem asgR_ok (g : D → Sl → Option Sl) (d : D) (st : Sl) : asgR g (.ok d) st = match g d st with
  | some st' => .nx st'
  | none => .bad := rfl
@[simp] theorem setN_eq (i : Nat) (d : D) (st : Sl) : setN i d st = if i < st.length then some (st.set i (some (.sh d))) else none := said rfl
@[simp] theorem setNil_eq (st : Sl) : setNil [] st = some st := said rfl
@[simp] theorem setCons_eq (f : D → Sl → Option Sl) (g : List D → Sl → Option Sl) (d : D) (ds : List D) (st : Sl) : setCons f g (d :: ds) st = (f d st).bind (g ds) := said rfl
@[simp] theorem setTup_eq (n : Nat) (g : List D → Sl → Option Sl) (ds : List D) (st : Sl) : setTup n g (.tup ds) st = if ds.length = n then g ds st else none := said rfl
@[simp] theorem parR_ok (i j : Nat) (d e : D) (st : Sl) : parR i j (.ok [d, e]) st = if i < st.length ∧ j < st.length then .nx ((st.set i (some (.sh d))).set j (some (.sh e))) else .bad := said rfl
theorem range1_ok (j : Int) : range1 (.ok (.int j)) = if rngOk j = true then .ok (rangeL 0 j.toNat) else .bad := said rfl
theorem range2_ok (i j : Int) : range2 (.ok (.int i)) (.ok (.int j)) = if (rngOk i && rngOk j) = true then .ok (rangeL i (j - i).toNat) else .bad := said rfl
@[simp] theorem zipR_ok (ds es : List D) : zipR (.ok (.lst ds)) (.ok (.lst es)) = .ok (zipD ds es) := said rfl
@[simp] theorem enumR_ok (ds : List D) : enumR (.ok (.lst ds)) = .ok (enumD ds) := said rfl
@[simp] theorem sliceF_ok (ds : List D) (lo hi : Option Int) : sliceF (.ok (.lst ds)) (.ok lo) (.ok hi) = .ok (.lst ((cutL ds lo hi).map .sh)) := said rfl
@[simp] theorem sliceF_scr (ns : List Int) (lo hi : Option Int) : sliceF (.ok (.scr ns)) (.ok lo) (.ok hi) = .ok (.lst ((cutL (ns.map D.int) lo hi).map .sh)) := said rfl
@[simp] theorem listF_ok (ds : List D) : listF (.ok (.lst ds)) = .ok (.lst (ds.map .sh)) := said rfl
@[simp] theorem listF_tup (ds : List D) : listF (.ok (.tup ds)) = .ok (.lst (ds.map .sh)) := said rfl
end
@[simp] theorem fin_rt (o : O) : fin (.rt o) = .ok o := said rfl
@[simp] theorem fin_nx (st : Sl) : fin (.nx st) = .ok (.sh .non) := said rfl
@[simp] theorem fin_ex (c : Str) : fin (.ex c) = .ex c := said rfl
@[simp] theorem fin_bad : fin .bad = .bad := said rfl
theorem fin_ite (c : Prop) [Decidable c] (a b : Fl) : fin (if c then a else b) = if c then fin a else fin b := by split <;> rfl
@[simp] theorem runD_0 (N : Nat) (fb : Sl → Fl) : runD N 0 fb [] = fin (fb (List.replicate N none)) := said rfl
@[simp] theorem runD_1 (N : Nat) (fb : Sl → Fl) (a : D) : runD N 1 fb [a] = fin (fb (some (.sh a) :: List.replicate (N - 1) none)) := said rfl
@[simp] theorem runD_2 (N : Nat) (fb : Sl → Fl) (a b : D) : runD N 2 fb [a, b] = fin (fb (some (.sh a) :: some (.sh b) :: List.replicate (N - 2) none)) := said rfl
@[simp] theorem runD_3 (N : Nat) (fb : Sl → Fl) (a b c : D) : runD N 3 fb [a, b, c] = fin (fb (some (.sh a) :: some (.sh b) :: some (.sh c) :: List.replicate (N - 3) none)) := said rfl
@[simp] theorem runD_4 (N : Nat) (fb : Sl → Fl) (a b c d : D) : runD N 4 fb [a, b, c, d] = fin (fb (some (.sh a) :: some (.sh b) :: some (.sh c) :: some (.sh d) :: List.replicate (N - 4) none)) := said rfl
@[simp] theorem runD_5 (N : Nat) (fb : Sl → Fl) (a b c d e : D) : runD N 5 fb [a, b, c, d, e] = fin (fb (some (.sh a) :: some (.sh b) :: some (.sh c) :: some (.sh d) :: some (.sh e) :: List.replicate (N - 5) none)) := said rfl
/-! equality of numbers, truths, texts -/
@[simp] theorem eqOk_int (i j : Int) : eqOk (.int i) (.int j) = true := said rfl
@[simp] theorem eqB_int (i j : Int) : eqB (.int i) (.int j) = decide (i = j) := by
  show (i == j) = _
  exact Bool.beq_eq_decide_eq i j
@[simp] theorem eq_int (i j : Int) : eqD (.int i) (.int j) = some (.bl (decide (i = j))) := by
  unfold eqD
  rw [if_pos (eqOk_int i j), eqB_int]
@[simp] theorem ne_int (i j : Int) : neD (.int i) (.int j) = some (.bl (!decide (i = j))) := by
  unfold neD
  rw [if_pos (eqOk_int i j), eqB_int]
/-! isinstance -/
theorem kb_int_int : kitB "int" "int" = some true := by decide +kernel
theorem kb_int_bool : kitB "int" "bool" = some false := by decide +kernel
theorem kb_bool_bool : kitB "bool" "bool" = some true := by decide +kernel
theorem kb_bool_int : kitB "bool" "int" = some true := by decide +kernel
theorem kb_list_list : kitB "list" "list" = some true := by decide +kernel
theorem kb_tuple_tuple : kitB "tuple" "tuple" = some true := by decide +kernel
theorem kb_tuple_list : kitB "tuple" "list" = some false := by decide +kernel
theorem kb_list_tuple : kitB "list" "tuple" = some false := by decide +kernel
theorem kb_str_str : kitB "str" "str" = some true := by decide +kernel
theorem kb_list_int : kitB "list" "int" = some false := by decide +kernel
theorem kb_tuple_int : kitB "tuple" "int" = some false := by decide +kernel
theorem kb_str_int : kitB "str" "int" = some false := by decide +kernel
theorem kb_none_int : kitB "NoneType" "int" = some false := by decide +kernel
@[simp] theorem isi_int_int (i : Int) : isi "int" (.int i) = some (.bl true) := by unfold isi tyN; rw [kb_int_int]; rfl
@[simp] theorem isi_bool_int (i : Int) : isi "bool" (.int i) = some (.bl false) := by unfold isi tyN; rw [kb_int_bool]; rfl
@[simp] theorem isi_bool_bl (i : Bool) : isi "bool" (.bl i) = some (.bl true) := by unfold isi tyN; rw [kb_bool_bool]; rfl
@[simp] theorem isi_int_bl (i : Bool) : isi "int" (.bl i) = some (.bl true) := by unfold isi tyN; rw [kb_bool_int]; rfl
@[simp] theorem isi_list_lst (ds : List D) : isi "list" (.lst ds) = some (.bl true) := by unfold isi tyN; rw [kb_list_list]; rfl
@[simp] theorem isi_tup_tup (ds : List D) : isi "tuple" (.tup ds) = some (.bl true) := by unfold isi tyN; rw [kb_tuple_tuple]; rfl
@[simp] theorem isi_list_tup (ds : List D) : isi "list" (.tup ds) = some (.bl false) := by unfold isi tyN; rw [kb_tuple_list]; rfl
@[simp] theorem isi_tup_lst (ds : List D) : isi "tuple" (.lst ds) = some (.bl false) := by unfold isi tyN; rw [kb_list_tuple]; rfl
@[simp] theorem isi_str_str (x : Str) : isi "str" (.str x) = some (.bl true) := by unfold isi tyN; rw [kb_str_str]; rfl
/-! loops -/
@[simp] theorem er_comp_sh : O.er ∘ O.sh = id := funext fun d => er_sh d
@[simp] theorem er_sh_comp {α : Type} (f : α → D) : O.er ∘ O.sh ∘ f = f := funext fun d => er_sh (f d)
theorem rangeL_length (lo : Int) (n : Nat) : (rangeL lo n).length = n := by unfold rangeL; rw [List.length_map, List.length_range]
theorem rangeL_get {lo : Int} {n i : Nat} {d : D} (h : (rangeL lo n)[i]? = some d) : i < n ∧ d = .int (lo + (i : Nat)) := by
  have hi : i < n := by
    have := (List.getElem?_eq_some_iff.mp h).1
    rw [rangeL_length] at this; exact this
  refine ⟨hi, ?_⟩
  unfold rangeL at h
  rw [List.getElem?_map, List.getElem?_range hi] at h
  cases h
  rfl
/-- a loop that goes through: by an invariant over the turn and the slots -/
theorem forF_nx {tg : D → Sl → Option Sl} {body : Sl → Fl} (I : Nat → Sl → Prop) : ∀ (ds : List D) (k : Nat) (st : Sl), I k st →
    (∀ i d st, ds[i]? = some d → I (k + i) st → ∃ st1 st2, tg d st = some st1 ∧ (body st1 = .nx st2 ∨ body st1 = .ct st2) ∧ I (k + i + 1) st2) → ∃ st', forF tg body ds st = .nx st' ∧ I (k + ds.length) st'
  | [], k, st, h0, _ => ⟨st, rfl, h0⟩
  | d :: ds, k, st, h0, step => by
    obtain ⟨st1, st2, e1, e2, h2⟩ := step 0 d st rfl h0
    obtain ⟨st', e3, h3⟩ := forF_nx I ds (k + 1) st2 h2 fun i d' st' hd hi => by
      have := step (i + 1) d' st' (by simpa using hd) (by rw [← Nat.add_assoc, Nat.add_right_comm]; exact hi)
      have e : k + 1 + i + 1 = k + (i + 1) + 1 := by omega
      rw [e]; exact this
    refine ⟨st', ?_, by rw [List.length_cons]; have e : k + (ds.length + 1) = k + 1 + ds.length := by omega
                        rw [e]; exact h3⟩
    unfold forF
    rw [e1]
    rcases e2 with e2 | e2 <;> (dsimp only; rw [e2]; exact e3)
theorem sIx_pos {n d : Nat} {j : Int} (h : 0 ≤ j) : HT.sIx n d (some j) = min j.toNat n := by
  show (if j < 0 then (j + (n : Int)).toNat else min j.toNat n) = _
  rw [if_neg (by omega)]
theorem cutL_to {α : Type} (xs : List α) {j : Int} (h : 0 ≤ j) : cutL xs none (some j) = xs.take j.toNat := by
  unfold cutL
  rw [sIx_pos h]
  show List.take (min j.toNat xs.length - 0) (xs.drop 0) = _
  rw [List.drop_zero, Nat.sub_zero]
  rcases Nat.le_total j.toNat xs.length with c | c
  · rw [Nat.min_eq_left c]
  · rw [Nat.min_eq_right c, List.take_length, List.take_of_length_le c]
theorem cutL_from {α : Type} (xs : List α) {i : Int} (h : 0 ≤ i) : cutL xs (some i) none = xs.drop i.toNat := by
  unfold cutL
  rw [sIx_pos h]
  show List.take (xs.length - _) _ = _
  rcases Nat.le_total i.toNat xs.length with c | c
  · rw [Nat.min_eq_left c, List.take_of_length_le]
    rw [List.length_drop]; exact Nat.le_refl _
  · rw [Nat.min_eq_right c, List.drop_of_length_le c, List.drop_length]
    exact List.take_nil
theorem cutL_mid {α : Type} (xs : List α) {i j : Int} (h : 0 ≤ i) (h2 : 0 ≤ j) : cutL xs (some i) (some j) = (xs.drop i.toNat).take (j.toNat - i.toNat) := by
  unfold cutL
  rw [sIx_pos h, sIx_pos h2]
  rcases Nat.le_total i.toNat xs.length with c | c
  · rw [Nat.min_eq_left c]
    rcases Nat.le_total j.toNat xs.length with d | d
    · rw [Nat.min_eq_left d]
    · rw [Nat.min_eq_right d, List.take_of_length_le (by rw [List.length_drop]; exact Nat.le_refl _), List.take_of_length_le (by rw [List.length_drop]; omega)]
  · rw [Nat.min_eq_right c, List.drop_of_length_le c, List.drop_length, List.take_nil, List.take_nil]
/-! sizes -/
theorem divOk_small {i j : Int} (h : 0 < j) (h2 : j < 1073741824) : divOk i j = true := by
  unfold divOk
  rw [PyProof.noPylong_small (x := i) (y := j) (by omega), decide_eq_true (by omega : j ≠ 0)]
  rfl
theorem divOk_log {i j : Int} (h : j ≠ 0) (h2 : j.natAbs.log2 < 9000) : divOk i j = true := by
  unfold divOk
  rw [PyProof.noPylong_of_log2 (x := i) (y := j) h2, decide_eq_true h]
  rfl
theorem bits_le {i : Int} {a : Nat} (h : i.natAbs < 2 ^ a) : Builtin.Int.intBits i ≤ a := by
  unfold Builtin.Int.intBits
  split
  · exact Nat.zero_le _
  · rename_i hn
    have h0 : i.natAbs ≠ 0 := fun e => by
      apply hn
      rw [beq_iff_eq]
      omega
    have := (Nat.log2_lt h0).mpr h
    omega
theorem mulOk_of {i j : Int} {a b : Nat} (ha : i.natAbs < 2 ^ a) (hb : j.natAbs < 2 ^ b) (h : a + b ≤ 134217728) : mulOk i j = true := by
  have h1 := bits_le ha
  have h2 := bits_le hb
  have e : bitsLine = 134217728 := by decide
  have h4 : Builtin.Int.intTooBig (Builtin.Int.intBits i + Builtin.Int.intBits j) = false := by
    unfold Builtin.Int.intTooBig
    rw [e]
    exact decide_eq_false (by omega)
  unfold mulOk
  rw [h4, Bool.and_false]
  rfl
theorem mulOk_left {i j : Int} (h : i.natAbs < 2 ^ 64) : mulOk i j = true := by
  have h1 := bits_le h
  unfold mulOk
  have e : shortFactorBits = 64 := rfl
  rw [e]
  have h3 : ¬ (Builtin.Int.intBits i > 64) := by omega
  simp [h3]
theorem mulOk_right {i j : Int} (h : j.natAbs < 2 ^ 64) : mulOk i j = true := by
  have h1 := bits_le h
  unfold mulOk
  have e : shortFactorBits = 64 := rfl
  rw [e]
  have h3 : ¬ (Builtin.Int.intBits j > 64) := by omega
  simp [h3]
theorem rngOk_of {j : Int} (h1 : -(2 ^ 62) ≤ j) (h2 : j < 2 ^ 62) : rngOk j = true := by
  unfold rngOk
  rw [decide_eq_true h1, decide_eq_true h2]
  rfl
theorem fdiv_pos {i j : Int} (h : 0 < j) : i.fdiv j = i / j := Int.fdiv_eq_ediv_of_nonneg i (by omega)
theorem fmod_pos {i j : Int} (h : 0 < j) : i.fmod j = i % j := Int.fmod_eq_emod_of_nonneg i (by omega)
theorem atI_ofNat {α : Type} {xs : List α} {j : Nat} (h : j < xs.length) : atI xs (j : Int) = some xs[j] := atI_nat (by simp [h])
end M

/-! Lists within lists of one's own. -/
namespace M
open PySem L2
section
variable {ι : Type} {X : ι → Cx} {W : WX} {cl : Cl} {K : PySem.W.Frag} {sh : Ps} {pv : Nat → V}
/-- x[a][j] = e -/
def put2R (i : Nat) (r : Rs O) (a k : Rs D) (st : Sl) : Fl := match r with
  | .ok o => match st[i]? with
    | some (some (.lst os)) => match a with
      | .ok (.int p) => match atI os p with
        | some (.lst ps) => match k with
          | .ok (.int j) => match ixN os.length p, ixN ps.length j with
            | some m, some n => .nx (st.set i (some (.lst (os.set m (.lst (ps.set n o))))))
            | _, _ => .bad
          | _ => .bad
        | _ => .bad
      | _ => .bad
    | _ => .bad
  | .ex c => .ex c
  | .bad => .bad
/-- the inner list's change, by its knot -/
theorem RS.put2 {S T : Hp} {st : Sl} {σ : St} {H : Hp} {i m n : Nat} {os ps : List O} {o : O} {v1 : V} {g1 : List Addr} (r : RS K S T st σ H) (e : st[i]? = some (some (.lst os))) (e2 : os[m]? = some (.lst ps)) (hn : n < ps.length)
    (w1 : Ow K S H v1 o g1) (n1 : g1.Nodup) (fr : ∀ b ∈ g1, T b = none ∧ ∀ f, OwSt K S H σ st f → b ∉ f) :
    ∃ p0 p1 vs us, σ[i]? = some (some (.ref p0)) ∧ H p0 = some (.lst vs) ∧ vs.length = os.length ∧ vs[m]? = some (.ref p1) ∧ H p1 = some (.lst us) ∧ us.length = ps.length ∧ RpL K H us (ps.map O.er) ∧
      RS K S T (st.set i (some (.lst (os.set m (.lst (ps.set n o)))))) σ (upd H p1 (.lst (us.set n v1))) := by
  obtain ⟨v2, g2, h1, w2, n2, k2, inn, put⟩ := r.focus e
  cases w2 with
  | @lst p0 vs _ f2 hl2 ow2 =>
    obtain ⟨ov, fa, fb, fc, c1, c2, c3, c4⟩ := ow2.get e2
    subst c2
    cases c3 with
    | @lst p1 us _ f3 hl3 ow3 =>
      obtain ⟨ov4, ga, gb, gc, d1, d2, d3, d4⟩ := ow3.get (i := n) (o := ps[n]) (by simp [hn])
      subst d2
      obtain ⟨fA, wA, _, _⟩ := r.own
      have inA := inn fA wA
      have new : ∀ b ∈ g1, b ∉ p0 :: (fa ++ (p1 :: (ga ++ gb ++ gc)) ++ fc) := fun b hb hm => (fr b hb).2 fA wA (inA b hm)
      have nd := n2
      simp only [List.nodup_cons, List.nodup_append, List.mem_append, List.mem_cons, not_or] at nd
      have np1 : p1 ∉ g1 := fun z => new p1 z (by simp)
      have rp : RpL K H us (ps.map O.er) := by
        rw [← erL_map]
        exact ow3.rp r.sh fun _ _ => rfl
      refine ⟨p0, p1, vs, us, h1, hl2, ow2.length, c1, hl3, ow3.length, rp, ?_⟩
      obtain ⟨⟨⟨q1, q2, q3, q3'⟩, q4⟩, ⟨q5, ⟨q6, ⟨q7, q8, q9⟩, q10, q11⟩, q12⟩, q13, q14⟩ := nd
      have u : ∀ b, b ≠ p1 → (upd H p1 (.lst (us.set n v1))) b = H b := fun b hb => upd_ne hb
      have w4 : Ow K S (upd H p1 (.lst (us.set n v1))) v1 o g1 := w1.mono (.refl _) fun b hb => u b fun z => np1 (z ▸ hb)
      have w5 := d4 S (upd H p1 (.lst (us.set n v1))) v1 o g1 (.refl _) (fun b hb => u b fun z => by
        subst z
        rcases List.mem_append.mp hb with z | z
        · exact q6.1.1 z
        · exact q6.2 z) w4
      have w6 : Ow K S (upd H p1 (.lst (us.set n v1))) (.ref p1) (.lst (ps.set n o)) (p1 :: (ga ++ g1 ++ gc)) := .lst upd_same w5
      have w7 := c4 S (upd H p1 (.lst (us.set n v1))) (.ref p1) (.lst (ps.set n o)) _ (.refl _) (fun b hb => u b fun z => by
        subst z
        rcases List.mem_append.mp hb with z | z
        · exact q12 b z b (.inl rfl) rfl
        · exact q14 b (.inr (.inl rfl)) b z rfl) w6
      have hvs : vs.set m (.ref p1) = vs := by
        apply List.ext_getElem?
        intro j
        by_cases hj : m = j
        · subst hj
          rw [List.getElem?_set_self ((List.getElem?_eq_some_iff.mp c1).1), c1]
        · rw [List.getElem?_set_ne hj]
      rw [hvs] at w7
      have p01 : p0 ≠ p1 := q2
      have g1n : ∀ b ∈ g1, b ≠ p0 ∧ b ∉ fa ∧ b ≠ p1 ∧ b ∉ ga ∧ b ∉ gc ∧ b ∉ fc := fun b hb => by
        have := new b hb
        simp only [List.mem_cons, List.mem_append, not_or] at this
        exact ⟨this.1, this.2.1.1, this.2.1.2.1, this.2.1.2.2.1.1, this.2.1.2.2.2, this.2.2⟩
      refine put (upd H p1 (.lst (us.set n v1))) (.lst (os.set m (.lst (ps.set n o)))) (p0 :: (fa ++ (p1 :: (ga ++ g1 ++ gc)) ++ fc)) (fun b hb => u b fun z => hb (by rw [z]; simp)) (.lst ((u p0 p01).trans hl2) w7) ?_ fun b hb => ?_
      · simp only [List.nodup_cons, List.nodup_append, List.mem_append, List.mem_cons, not_or]
        refine ⟨⟨⟨q1, q2, ⟨q3.1, fun z => (g1n p0 z).1 rfl⟩, q3'⟩, q4⟩, ⟨q5, ⟨⟨⟨q6.1.1, np1⟩, q6.2⟩, ⟨q7, n1, fun a ha b hb z => (g1n b hb).2.2.2.1 (z ▸ ha)⟩, q10, fun a ha b hb z => ?_⟩, fun a ha b hb z => ?_⟩, q13, fun a ha b hb z => ?_⟩
        · rcases ha with ha | ha
          · exact q11 a (.inl ha) b hb z
          · exact (g1n a ha).2.2.2.2.1 (z ▸ hb)
        · rcases hb with hb | (hb | hb) | hb
          · exact q12 a ha b (.inl hb) z
          · exact q12 a ha b (.inr (.inl (.inl hb))) z
          · exact (g1n b hb).2.1 (z ▸ ha)
          · exact q12 a ha b (.inr (.inr hb)) z
        · rcases ha with ha | ha | (ha | ha) | ha
          · exact q14 a (.inl ha) b hb z
          · exact q14 a (.inr (.inl ha)) b hb z
          · exact q14 a (.inr (.inr (.inl (.inl ha)))) b hb z
          · exact (g1n a ha).2.2.2.2.2 (z ▸ hb)
          · exact q14 a (.inr (.inr (.inr ha))) b hb z
      · simp only [List.mem_cons, List.mem_append] at hb
        rcases hb with hb | (hb | hb | (hb | hb) | hb) | hb
        · exact .inl (by simp [hb])
        · exact .inl (by simp [hb])
        · exact .inl (by simp [hb])
        · exact .inl (by simp [hb])
        · exact .inr (fr b hb)
        · exact .inl (by simp [hb])
        · exact .inl (by simp [hb])
theorem atI_ix {α : Type} {xs : List α} {i : Int} {x : α} (h : atI xs i = some x) : ∃ m, ixN xs.length i = some m ∧ xs[m]? = some x := by
  unfold atI at h
  cases e : ixN xs.length i with
  | none => rw [e] at h; cases h
  | some m => rw [e] at h; exact ⟨m, rfl, h⟩
theorem ix_atI {α : Type} {xs : List α} {i : Int} {x : α} {m : Nat} (h : ixN xs.length i = some m) (e : xs[m]? = some x) : atI xs i = some x := by
  unfold atI
  rw [h]
  exact e
/-- x[a][j] = e, x one's own with its lists -/
theorem s_put2 {R : TE → Prop} {i : Nat} {ea ek : Expr} {s : Stmt} {f : Sl → Rs O} {fa fk : Sl → Rs D} (hp : ∀ t u v, R t → PEf X ea u → PEf X ek v → PSf X s (tAsg t (gSub (tOp (rIx K) (tVar i) u) v rSetL))) (h : EF K W cl R f) (ha : EV K W0 cl (PEf X ea) fa) (hk : EV K W0 cl (PEf X ek) fk) :
    SJ K W cl sh (PSf X s) fun st => put2R i (f st) (fa st) (fk st) st := by
  obtain ⟨t, p, a⟩ := h.ex
  obtain ⟨u, pu, b⟩ := ha.ex
  obtain ⟨w, pw, c⟩ := hk.ex
  refine ⟨_, hp _ _ _ p pu pw, fun pv S T st σ H E r pi q => a S T st σ H _ r ?_⟩
  have q : PSt K cl W sh pv S T (put2R i (f st) (fa st) (fk st) st) E := q
  revert q
  unfold put2R
  cases f st with
  | bad => exact fun q => q
  | ex c => exact fun q H1 h1 => q σ T H1 (.refl _) (r.th.trans h1)
  | ok o =>
    intro q v1 S1 T1 H1 g1 hs1 x1 s1 t1 w1 n1 k1
    dsimp only at q
    cases e0 : st[i]? with
    | none => rw [e0] at q; exact q.elim
    | some z =>
      rw [e0] at q
      cases z with
      | none => exact q.elim
      | some o0 =>
        cases o0 with
        | sh _ => exact q.elim
        | tup _ => exact q.elim
        | lst os =>
          dsimp only at q
          have r1 := r.ext hs1 x1 s1 t1
          obtain ⟨vv, gg, hv1, _⟩ := r1.focus e0
          refine ⟨vv, hv1, b S1 T1 st σ H1 _ r1 ?_⟩
          revert q
          cases fa st with
          | bad => exact fun q => q.elim
          | ex c => exact fun q => q.elim
          | ok d =>
            cases d with
            | int pI =>
              intro q wv H2 hs2 rw2
              cases rw2
              dsimp only at q
              cases e1 : atI os pI with
              | none => rw [e1] at q; exact q.elim
              | some oi =>
                rw [e1] at q
                cases oi with
                | sh _ => exact q.elim
                | tup _ => exact q.elim
                | lst ps =>
                  dsimp only at q
                  obtain ⟨m, e2, e3⟩ := atI_ix e1
                  have r2 := r1.mono hs2
                  -- the inner list, read
                  obtain ⟨v2, g2, hv2, w2, _⟩ := r2.focus e0
                  rw [hv1] at hv2
                  cases hv2
                  cases w2 with
                  | @lst p0 vs0 _ f2 hl2 ow2 =>
                    obtain ⟨ov, fA, fB, fC, c1, c2, c3, c4⟩ := ow2.get e3
                    refine .inl ⟨p0, vs0, pI, ov, rfl, rfl, SqL.of hl2, ix_atI (by rw [ow2.length]; exact e2) c1, c S1 T1 st σ H2 _ r2 ?_⟩
                    revert q
                    cases fk st with
                    | bad => exact fun q => q.elim
                    | ex c => exact fun q => q.elim
                    | ok dk =>
                      cases dk with
                      | int jI =>
                        intro q wk H3 hs3 rw3
                        cases rw3
                        dsimp only at q
                        cases e4 : ixN ps.length jI with
                        | none => rw [e2, e4] at q; exact q.elim
                        | some n =>
                          rw [e2, e4] at q
                          have r3 := r2.mono hs3
                          have hs13 := hs2.trans hs3
                          have th1 := w1.there
                          have w13 : Ow K S1 H3 v1 o g1 := w1.mono (.refl _) fun b hb => same_ne hs13 (th1 b hb)
                          have fr := r.fresh (S1 := S1) (hs1.trans hs13) k1
                          obtain ⟨q0, q1, ws, us, z1, z2, z3, z4, z5, z6, z7, z8⟩ := r3.put2 e0 e3 (ixN_seq e4).2.1 w13 n1 fr
                          rw [hv1] at z1
                          cases z1
                          have : vs0 = ws := by
                            have := hs3 _ _ hl2
                            rw [this] at z2
                            cases z2
                            rfl
                          subst this
                          rw [c1] at z4
                          cases z4
                          exact ⟨q1, us, jI, n, rfl, rfl, z5, by rw [z6]; exact e4, q S1 T1 σ _ (x1.ex3 r.th) z8 pi⟩
                      | _ => exact fun q => q.elim
            | _ => exact fun q => q.elim
/-- row = rows[k]; row[j] = row[j2] + e: one of the own lists, changed by another name -/
def aliasR (i r : Nat) (a k j : Rs D) (e : Rs D) (st : Sl) : Fl := match st[i]? with
  | some (some (.lst os)) => match a with
    | .ok (.int p) => match atI os p with
      | some (.lst ps) => match k, e, j with
        | .ok (.int k), .ok e, .ok (.int j) => match ixN os.length p, atI ps k, ixN ps.length j with
          | some m, some d, some n => match addD d.er e with
            | some z => if prim z = true then .nx ((st.set r none).set i (some (.lst (os.set m (.lst (ps.set n (.sh z))))))) else .bad
            | none => .bad
          | _, _, _ => .bad
        | _, _, _ => .bad
      | _ => .bad
    | _ => .bad
  | _ => .bad
theorem RS.unsetV {S T : Hp} {st : Sl} {σ : St} {H : Hp} (r : RS K S T st σ H) (i : Nat) (v : Option V) : RS K S T (st.set i none) (σ.set i v) H := by
  obtain ⟨f, w, nd, k⟩ := r.own
  by_cases hi : i < st.length
  · obtain ⟨f1, g, f2, e, _, h⟩ := w.set hi
    subst e
    simp only [List.nodup_append, List.mem_append] at nd
    refine ⟨r.lo, r.th, f1 ++ f2, h S H v (.refl _) fun _ _ => rfl, ?_, fun b hb => k b ?_⟩
    · simp only [List.nodup_append, List.mem_append]
      exact ⟨nd.1.1, nd.2.1, fun a ha b hb => nd.2.2 a (.inl ha) b hb⟩
    · simp only [List.mem_append] at hb ⊢
      rcases hb with z | z
      · exact .inl (.inl z)
      · exact .inr z
  · have h1 : st.set i none = st := List.set_eq_of_length_le (by omega)
    have h2 : σ.set i v = σ := List.set_eq_of_length_le (by rw [w.length]; omega)
    rw [h1, h2]
    exact r
abbrev rAddX : R2 := fun v w H Q => rI0 (fun i j => .int (i + j)) v w H Q ∨ ∃ i j, v = .str i ∧ w = .str j ∧ i.length + j.length ≤ sizeLine ∧ Q (.str (i ++ j)) H
theorem s_alias {i r : Nat} {ea ek ej ee : Expr} {s1 s2 : Stmt} {ss : List Stmt} {fa fk fj fe : Sl → Rs D} {g : Sl → Fl} (hir : i ≠ r) (hp1 : ∀ u, PEf X ea u → PSf X s1 (tAsg (tOp (rIx K) (tVar i) u) (gName r)))
    (hp2 : ∀ u v w, PEf X ek u → PEf X ee v → PEf X ej w → PSf X s2 (tAsg (tOp rAddX (tOp (rIx K) (tVar r) u) v) (gSub (tVar r) w rSetL)))
    (ha : EV K W0 cl (PEf X ea) fa) (hk : EV K W0 cl (PEf X ek) fk) (he : EV K W0 cl (PEf X ee) fe) (hj : EV K W0 cl (PEf X ej) fj) (rest : SJ K W cl sh (PSsf X ss) g) (hpn : sh.okAt r = true := by rfl) :
    SJ K W cl sh (PSsf X (s1 :: s2 :: ss)) fun st => (if r < st.length then aliasR i r (fa st) (fk (st.set r none)) (fj (st.set r none)) (fe (st.set r none)) st else .bad).thn g := by
  obtain ⟨ta, pa, ka⟩ := ha.ex
  obtain ⟨tk, pk, kk⟩ := hk.ex
  obtain ⟨tj, pj, kj⟩ := hj.ex
  obtain ⟨te, pe, ke⟩ := he.ex
  obtain ⟨tr, pr, kr⟩ := rest.ex
  refine ⟨_, fun z => pss_cons (hp1 _ pa z) (pss_cons (hp2 _ _ _ pk pe pj z) (pr z)), fun pv S T st σ H E rs pi q => ?_⟩
  have q : PSt K cl W sh pv S T ((if r < st.length then aliasR i r (fa st) (fk (st.set r none)) (fj (st.set r none)) (fe (st.set r none)) st else .bad).thn g) E := q
  by_cases hrl : r < st.length
  · rw [if_pos hrl] at q
    unfold aliasR at q
    cases e0 : st[i]? with
    | none => rw [e0] at q; exact q.elim
    | some z =>
      rw [e0] at q
      cases z with
      | none => exact q.elim
      | some o0 =>
        cases o0 with
        | sh _ => exact q.elim
        | tup _ => exact q.elim
        | lst os =>
          dsimp only at q
          obtain ⟨vv, gg, hv1, ww, _⟩ := rs.focus e0
          cases ww with
          | @lst p0 vs _ f2 hl2 ow2 =>
            refine ⟨.ref p0, hv1, ka S T st σ H _ rs ?_⟩
            revert q
            cases fa st with
            | bad => exact fun q => q.elim
            | ex c => exact fun q => q.elim
            | ok d =>
              cases d with
              | int pI =>
                intro q wv H2 hs2 rw2
                cases rw2
                dsimp only at q
                cases e1 : atI os pI with
                | none => rw [e1] at q; exact q.elim
                | some oi =>
                  rw [e1] at q
                  cases oi with
                  | sh _ => exact q.elim
                  | tup _ => exact q.elim
                  | lst ps =>
                    dsimp only at q
                    obtain ⟨m, e2, e3⟩ := atI_ix e1
                    obtain ⟨ov, fA, fB, fC, c1, c2, c3, c4⟩ := ow2.get e3
                    cases c3 with
                    | @lst p1 us _ f3 hl3 ow3 =>
                      refine .inl ⟨p0, vs, pI, .ref p1, rfl, rfl, SqL.of (hs2 _ _ hl2), ix_atI (by rw [ow2.length]; exact e2) c1, ?_⟩
                      have hσl : r < σ.length := by rw [rs.len]; exact hrl
                      have r1 : RS K S T (st.set r none) (σ.set r (some (.ref p1))) H2 := (rs.mono hs2).unsetV r _
                      have hσr : (σ.set r (some (V.ref p1)))[r]? = some (some (.ref p1)) := List.getElem?_set_self hσl
                      have rp3 : RpL K H us (erL ps) := ow3.rp rs.sh fun _ _ => rfl
                      refine ⟨.ref p1, hσr, kk S T _ _ H2 _ r1 ?_⟩
                      revert q
                      cases fk (st.set r none) with
                      | bad => exact fun q => q.elim
                      | ex c => exact fun q => q.elim
                      | ok dk =>
                        cases dk with
                        | int kI =>
                          intro q wk H3 hs3 rk
                          cases rk
                          skip
                          cases efe : fe (st.set r none) with
                          | bad => rw [efe] at q; exact q.elim
                          | ex c => rw [efe] at q; exact q.elim
                          | ok dE =>
                            rw [efe] at q
                            cases efj : fj (st.set r none) with
                            | bad => rw [efj] at q; exact q.elim
                            | ex c => rw [efj] at q; exact q.elim
                            | ok dj =>
                              rw [efj] at q
                              cases dj with
                              | int jI =>
                                dsimp only at q
                                rw [e2] at q
                                cases e5 : atI ps kI with
                                | none => rw [e5] at q; exact q.elim
                                | some od =>
                                  rw [e5] at q
                                  cases e6 : ixN ps.length jI with
                                  | none => rw [e6] at q; exact q.elim
                                  | some n =>
                                    rw [e6] at q
                                    dsimp only at q
                                    cases e7 : addD od.er dE with
                                    | none => rw [e7] at q; exact q.elim
                                    | some z =>
                                      rw [e7] at q
                                      dsimp only at q
                                      by_cases pz : prim z = true
                                      · rw [if_pos pz] at q
                                        obtain ⟨kn, e8, e9⟩ := atI_ix e5
                                        have e10 : (erL ps)[kn]? = some od.er := by rw [erL_map, List.getElem?_map, e9]; rfl
                                        obtain ⟨uv, u1, u2⟩ := rp3.get e10
                                        have hs23 := hs2.trans hs3
                                        refine .inl ⟨p1, us, kI, uv, rfl, rfl, SqL.of (hs23 _ _ hl3), ix_atI (by rw [ow3.length]; exact e8) u1, ?_⟩
                                        refine ke S T _ _ H3 _ (r1.mono hs3) ?_
                                        rw [efe]
                                        intro ev H4 hs4 re
                                        refine o_add (K := K) H4 uv ev od.er dE z _ (u2.mono (hs23.trans hs4)) re e7 fun zv H5 hs5 rz => ?_
                                        refine ⟨.ref p1, hσr, kj S T _ _ H5 _ (((r1.mono hs3).mono hs4).mono hs5) ?_⟩
                                        rw [efj]
                                        intro jv H6 hs6 rj
                                        cases rj
                                        have r6 := (((r1.mono hs3).mono hs4).mono hs5).mono hs6
                                        have e11 : (st.set r none)[i]? = some (some (.lst os)) := by rw [List.getElem?_set_ne (Ne.symm hir)]; exact e0
                                        obtain ⟨q0, q1, ws, us2, z1, z2, z3, z4, z5, z6, z7, z8⟩ := r6.put2 (v1 := zv) (g1 := []) (o := .sh z) e11 e3 (ixN_seq e6).2.1 (.sh (rz.prim pz)) .nil fun b hb => by cases hb
                                        have hσi : (σ.set r (some (V.ref p1)))[i]? = some (some (.ref p0)) := by rw [List.getElem?_set_ne (Ne.symm hir)]; exact hv1
                                        rw [hσi] at z1
                                        cases z1
                                        have hs26 : Same H H6 := ((hs23.trans hs4).trans hs5).trans hs6
                                        have a1 := hs26 _ _ hl2
                                        rw [a1] at z2
                                        cases z2
                                        rw [c1] at z4
                                        cases z4
                                        refine ⟨p1, us2, jI, n, rfl, rfl, z5, by rw [z6]; exact e6, ?_⟩
                                        exact kr pv S T _ _ _ E z8 (pi.set hpn _) q
                                      · rw [if_neg pz] at q
                                        exact q.elim
                              | _ => exact q.elim
                        | _ => exact fun q => q.elim
              | _ => exact fun q => q.elim
  · rw [if_neg hrl] at q
    exact q.elim
/-- x.append(y), y's own tree goes over -/
def appNR (i j : Nat) (st : Sl) : Fl := match st[i]?, st[j]? with
  | some (some (.lst os)), some (some o) => if os.length < sizeLine ∧ i ≠ j then .nx ((st.set j none).set i (some (.lst (os ++ [o])))) else .bad
  | _, _ => .bad
theorem s_appN {i j : Nat} {s : Stmt} (hp : PSf X s (tDrop (tBM K "list" rAppend (tVar i) (tCons (tVar j) tNil)))) : SJ K W cl sh (PSf X s) (appNR i j) := by
  refine ⟨_, hp, fun pv S T st σ H E r pi q => ?_⟩
  unfold appNR at q
  cases e0 : st[i]? with
  | none => rw [e0] at q; exact q.elim
  | some z =>
    rw [e0] at q
    cases z with
    | none => exact q.elim
    | some o0 =>
      cases o0 with
      | sh _ => exact q.elim
      | tup _ => exact q.elim
      | lst os =>
        cases e1 : st[j]? with
        | none => rw [e1] at q; exact q.elim
        | some y =>
          rw [e1] at q
          cases y with
          | none => exact q.elim
          | some o =>
            dsimp only at q
            by_cases c : os.length < sizeLine ∧ i ≠ j
            · rw [if_pos c] at q
              obtain ⟨vj, gj, h1, w1, n1, k1, in1, _⟩ := r.focus e1
              obtain ⟨f, wf, nf, kf⟩ := r.own
              have r2 := r.unsetV j (some vj)
              have hσ : σ.set j (some vj) = σ := by
                apply List.ext_getElem?
                intro m
                by_cases hm : j = m
                · subst hm
                  rw [List.getElem?_set_self (List.getElem?_eq_some_iff.mp h1).1, h1]
                · rw [List.getElem?_set_ne hm]
              rw [hσ] at r2
              have e2 : (st.set j none)[i]? = some (some (.lst os)) := by rw [List.getElem?_set_ne (Ne.symm c.2)]; exact e0
              obtain ⟨vi, gi, h2, w2, n2, k2, in2, put⟩ := r2.focus e2
              -- y's knots are in no other slot
              have apart : ∀ b ∈ gj, ∀ f', OwSt K S H σ (st.set j none) f' → b ∉ f' := fun b hb f' w' hf' => by
                obtain ⟨v3, f1, g3, f2, a1, a2, a3, a4, a5⟩ := wf.get e1
                rw [h1] at a1
                cases a1
                have := a3.det w1
                subst this
                have w5 := a5 S H (some vj) (.refl _) fun _ _ => rfl
                rw [hσ] at w5
                rw [← w5.det w'] at hf'
                subst a2
                simp only [List.nodup_append, List.mem_append] at nf hf'
                rcases hf' with z | z
                · exact nf.1.2.2 b z b hb rfl
                · exact nf.2.2 b (.inr hb) b z rfl
              cases w2 with
              | @lst p0 vs _ f2 hl2 ow2 =>
                obtain ⟨fB, wB, _, _⟩ := r2.own
                have pg : ∀ b ∈ gj, b ∉ p0 :: f2 := fun b hb hm => apart b hb fB wB (in2 fB wB b hm)
                have pf : p0 ∉ f2 := (List.nodup_cons.mp n2).1
                have pj : p0 ∉ gj := fun z => pg p0 z (by simp)
                refine ⟨.ref p0, h2, .inl ⟨rfl, vs, SqL.of hl2⟩, vj, h1, p0, vs, vj, rfl, rfl, hl2, by rw [ow2.length]; exact c.1, ?_⟩
                refine q S T σ _ .refl (put (upd H p0 (.lst (vs ++ [vj]))) (.lst (os ++ [o])) (p0 :: (f2 ++ gj)) (fun b hb => upd_ne fun e => hb (by rw [e]; simp)) ?_ ?_ fun b hb => ?_) pi
                · have w3 : OwL K S (upd H p0 (.lst (vs ++ [vj]))) vs os f2 := ow2.mono (.refl _) fun b hb => upd_ne fun e => pf (e ▸ hb)
                  have w4 : Ow K S (upd H p0 (.lst (vs ++ [vj]))) vj o gj := w1.mono (.refl _) fun b hb => upd_ne fun e => pj (e ▸ hb)
                  have := w3.append (.cons w4 .nil)
                  rw [List.append_nil] at this
                  exact .lst upd_same this
                · rw [List.nodup_cons, List.mem_append, List.nodup_append]
                  exact ⟨fun z => z.elim pf pj, (List.nodup_cons.mp n2).2, n1, fun a ha b hb e => pg b hb (by rw [← e]; simp [ha])⟩
                · rcases List.mem_cons.mp hb with rfl | hb
                  · exact .inl (by simp)
                  · rcases List.mem_append.mp hb with hb | hb
                    · exact .inl (by simp [hb])
                    · exact .inr ⟨k1 b hb, apart b hb⟩
            · rw [if_neg c] at q
              exact q.elim
def elemsT (a : Rs D) : Rs (List D) := a.bind fun d => match d with
  | .tup ds => .ok ds
  | _ => .bad
@[simp] theorem elemsT_ok (ds : List D) : elemsT (.ok (.tup ds)) = .ok ds := rfl
/-- a tuple that stays, walked -/
theorem i_tup {tg e : Expr} {f : Sl → Rs D} (h : EP K W cl (PEf X e) f) (hK : ∀ z, (X z).K = K := by intro _; rfl) : EI K W cl (PIf X tg e) fun st => elemsT (f st) := by
  obtain ⟨t, p, a⟩ := h.ex
  refine ⟨iTup K t, fun z => hK z ▸ pi_tup (p z), fun S T st σ H Q r q => a S T st σ H _ r ?_⟩
  revert q
  show (match elemsT (f st) with | .ok ds => _ | .ex c => _ | .bad => _) → _
  cases f st with
  | bad => exact fun q => q
  | ex c => exact fun q => q
  | ok d =>
    intro q v S1 T1 H1 h1 x1 s1 t1 r1
    cases r1 with
    | @tup ad us ds hq rl =>
      have q : ∀ J S' T' H', Same H H' → Ext S T H S' T' → RS K S' T' st σ H' → Yields K J S' ds → Q J H' := q
      refine ⟨ad, rfl, ⟨us, SqT.of ((s1.trans t1) _ _ hq)⟩, q (Itt K ad) S1 T1 H1 h1 x1 (r.ext h1 x1 s1 t1) ⟨fun i H2 k hi => ?_, fun i H2 k hi => ?_, fun i H2 x H3 d k e y => ?_⟩⟩
      · exact ⟨us, SqT.of (k _ _ hq), by rw [rl.length]; exact hi⟩
      · exact ⟨us, us[i]'(by rw [rl.length]; exact hi), SqT.of (k _ _ hq), by simp⟩
      · obtain ⟨y1, y2⟩ := y
        have := y2 us (SqT.of (k _ _ hq))
        obtain ⟨u, e2, r2⟩ := rl.get e
        rw [this] at e2
        cases e2
        exact .inl ⟨y1, r2⟩
    | _ => exact q.elim
end
end M

/-! Lists of numbers, comprehensions, loops: what they come to. -/
namespace M
open PySem L2
/-- a list of numbers; a new one -/
abbrev li (xs : List Int) : D := .lst (xs.map D.int)
abbrev fo (xs : List Int) : O := .lst (xs.map fun x => O.sh (D.int x))
@[simp] theorem er_comp_int : (O.er ∘ fun x => O.sh (D.int x)) = D.int := funext fun x => er_sh _
theorem fo_er (xs : List Int) : (fo xs).er = li xs := by simp
/-- rows -/
abbrev lm (rs : List (List Int)) : D := .lst (rs.map li)
theorem lcF_map {α : Type} {tg : D → Sl → Option Sl} {ts : Sl → Rs Bool} {el : Sl → Rs O} {st : Sl} {f : α → D} {g : α → O} : ∀ {xs : List α}, (∀ a ∈ xs, ∃ st1, tg (f a) st = some st1 ∧ ts st1 = .ok true ∧ el st1 = .ok (g a)) → lcF tg ts el st (xs.map f) = .ok (xs.map g)
  | [], _ => rfl
  | a :: xs, h => by
    obtain ⟨st1, e1, e2, e3⟩ := h a (by simp)
    have ih := lcF_map (xs := xs) fun b hb => h b (by simp [hb])
    rw [List.map_cons, List.map_cons]
    unfold lcF
    rw [e1]
    dsimp only
    rw [e2, e3, ih]
    rfl
theorem lcR_map {α : Type} {it : Rs (List D)} {tg : D → Sl → Option Sl} {ts : Sl → Rs Bool} {el : Sl → Rs O} {vs : List Nat} {st : Sl} {xs : List α} {f : α → D} {g : α → O} (hi : it = .ok (xs.map f)) (hl : xs.length < 16000000)
    (h : ∀ a ∈ xs, ∃ st1, tg (f a) (wipeS st vs) = some st1 ∧ ts st1 = .ok true ∧ el st1 = .ok (g a)) : lcR it tg ts el vs st = .ok (.lst (xs.map g)) := by
  subst hi
  unfold lcR
  rw [bind_ok, lcF_map h]
  unfold lenOk
  rw [bind_ok, if_pos (by rw [List.length_map, sizeLine_eq]; omega)]
  rfl
/-- with a test -/
theorem lcF_filter {α : Type} {tg : D → Sl → Option Sl} {ts : Sl → Rs Bool} {el : Sl → Rs O} {st : Sl} {f : α → D} {g : α → O} {p : α → Bool} : ∀ {xs : List α}, (∀ a ∈ xs, ∃ st1, tg (f a) st = some st1 ∧ ts st1 = .ok (p a) ∧ (p a = true → el st1 = .ok (g a))) → lcF tg ts el st (xs.map f) = .ok ((xs.filter p).map g)
  | [], _ => rfl
  | a :: xs, h => by
    obtain ⟨st1, e1, e2, e3⟩ := h a (by simp)
    have ih := lcF_filter (xs := xs) fun b hb => h b (by simp [hb])
    rw [List.map_cons]
    unfold lcF
    rw [e1]
    dsimp only
    rw [e2]
    cases hp : p a with
    | true =>
      rw [List.filter_cons_of_pos hp, List.map_cons, e3 hp, ih]
      rfl
    | false =>
      rw [List.filter_cons_of_neg (by rw [hp]; exact Bool.false_ne_true)]
      exact ih
theorem lcR_filter {α : Type} {it : Rs (List D)} {tg : D → Sl → Option Sl} {ts : Sl → Rs Bool} {el : Sl → Rs O} {vs : List Nat} {st : Sl} {xs : List α} {f : α → D} {g : α → O} {p : α → Bool} (hi : it = .ok (xs.map f)) (hl : xs.length < 16000000)
    (h : ∀ a ∈ xs, ∃ st1, tg (f a) (wipeS st vs) = some st1 ∧ ts st1 = .ok (p a) ∧ (p a = true → el st1 = .ok (g a))) : lcR it tg ts el vs st = .ok (.lst ((xs.filter p).map g)) := by
  subst hi
  unfold lcR
  rw [bind_ok, lcF_filter h]
  unfold lenOk
  have := List.length_filter_le p xs
  rw [bind_ok, if_pos (by rw [List.length_map, sizeLine_eq]; omega)]
  rfl
theorem range1_nat {n : Nat} (h : n < 16000000) : range1 (.ok (.int (n : Int))) = .ok ((List.range n).map fun (i : Nat) => D.int i) := by
  rw [range1_ok, if_pos (rngOk_of (by omega) (by omega))]
  show Rs.ok ((List.range (n : Int).toNat).map _) = _
  rw [Int.toNat_natCast]
  congr 1
  apply List.map_congr_left
  intro i _
  rw [Int.zero_add]
theorem atI_map {α β : Type} {xs : List α} {f : α → β} {j : Nat} (h : j < xs.length) : atI (xs.map f) (j : Int) = some (f xs[j]) := by
  rw [atI_ofNat (by rw [List.length_map]; exact h), List.getElem_map]
theorem zipD_map {α β : Type} (xs : List α) (ys : List β) (f : α → D) (g : β → D) : zipD (xs.map f) (ys.map g) = (xs.zip ys).map fun p => D.tup [f p.1, g p.2] := by
  unfold zipD
  rw [List.zip_map, List.map_map]
  rfl
/-- a loop that goes through, by a fold over what it walks -/
theorem forF_fold {α σ : Type} {tg : D → Sl → Option Sl} {body : Sl → Fl} {f : α → D} {S : σ → Option O → Sl} {step : σ → α → σ} {P : σ → Prop} : ∀ (xs : List α) (s : σ) (o : Option O), P s →
    (∀ a ∈ xs, ∀ s o, P s → P (step s a) ∧ ∃ st1 o', tg (f a) (S s o) = some st1 ∧ body st1 = .nx (S (step s a) o')) → ∃ o', forF tg body (xs.map f) (S s o) = .nx (S (xs.foldl step s) o') ∧ P (xs.foldl step s)
  | [], s, o, p, _ => ⟨o, rfl, p⟩
  | a :: xs, s, o, p, h => by
    obtain ⟨p', st1, o', e1, e2⟩ := h a (by simp) s o p
    obtain ⟨o2, e3, p2⟩ := forF_fold xs (step s a) o' p' fun b hb => h b (by simp [hb])
    refine ⟨o2, ?_, p2⟩
    rw [List.map_cons]
    unfold forF
    rw [e1]
    dsimp only
    rw [e2]
    exact e3
/-! equality of lists of numbers -/
theorem pyL_map : ∀ ds : List D, pyL ds = ds.map D.py
  | [] => rfl
  | d :: ds => by rw [pyL, pyL_map ds]; rfl
theorem py_li (xs : List Int) : (li xs).py = .list (xs.map PyData.int) := by
  show PyData.list (pyL (xs.map D.int)) = _
  rw [pyL_map, List.map_map]
  rfl
theorem lay_ints : ∀ xs : List Int, PyData.canLayAll0 (xs.map PyData.int) = true
  | [] => rfl
  | x :: xs => by
    rw [List.map_cons, PyData.canLayAll0, lay_ints xs]
    rfl
theorem depth_ints : ∀ xs : List Int, PyData.depthAll (xs.map PyData.int) ≤ 1
  | [] => by decide
  | x :: xs => by
    have := depth_ints xs
    rw [List.map_cons, PyData.depthAll]
    have : PyData.depth (.int x) ≤ 1 := by unfold PyData.depth; decide
    omega
theorem eqv_ints : ∀ xs ys : List Int, PyData.eqvAll (xs.map PyData.int) (ys.map PyData.int) = decide (xs = ys)
  | [], [] => rfl
  | [], _ :: _ => rfl
  | _ :: _, [] => rfl
  | x :: xs, y :: ys => by
    rw [List.map_cons, List.map_cons, PyData.eqvAll, eqv_ints xs ys]
    have : PyData.eqv (.int x) (.int y) = decide (x = y) := Bool.beq_eq_decide_eq x y
    rw [this]
    by_cases h1 : x = y <;> by_cases h2 : xs = ys <;> simp [h1, h2]
theorem shaped_li (xs : List Int) : SeqAt.shaped (li xs).py = true := by
  rw [py_li]
  unfold SeqAt.shaped
  have h1 : PyData.canLay0 (.list (xs.map PyData.int)) = true := by rw [PyData.canLay0]; exact lay_ints xs
  have h2 : PyData.depth (.list (xs.map PyData.int)) ≤ 64 := by
    have := depth_ints xs
    rw [PyData.depth]
    omega
  rw [h1, decide_eq_true h2]
  rfl
theorem eq_li (xs ys : List Int) : eqD (li xs) (li ys) = some (.bl (decide (xs = ys))) := by
  unfold eqD eqOk
  rw [shaped_li, shaped_li, if_pos (show (true && true) = true from rfl)]
  unfold eqB
  rw [py_li, py_li, PyData.eqv, eqv_ints]
theorem ne_li (xs ys : List Int) : neD (li xs) (li ys) = some (.bl (!decide (xs = ys))) := by
  unfold neD eqOk
  rw [shaped_li, shaped_li, if_pos (show (true && true) = true from rfl)]
  unfold eqB
  rw [py_li, py_li, PyData.eqv, eqv_ints]
/-! rows -/
theorem py_lm (rs : List (List Int)) : (lm rs).py = .list (rs.map fun xs => .list (xs.map PyData.int)) := by
  show PyData.list (pyL (rs.map li)) = _
  rw [pyL_map, List.map_map]
  congr 1
  apply List.map_congr_left
  intro xs _
  exact py_li xs
theorem lay_rows : ∀ rs : List (List Int), PyData.canLayAll0 (rs.map fun xs => .list (xs.map PyData.int)) = true
  | [] => rfl
  | x :: xs => by
    rw [List.map_cons, PyData.canLayAll0, lay_rows xs, PyData.canLay0, lay_ints]
    rfl
theorem depth_rows : ∀ rs : List (List Int), PyData.depthAll (rs.map fun xs => .list (xs.map PyData.int)) ≤ 2
  | [] => by decide
  | x :: xs => by
    have := depth_rows xs
    have := depth_ints x
    rw [List.map_cons, PyData.depthAll, PyData.depth]
    omega
theorem eqv_rows : ∀ xs ys : List (List Int), PyData.eqvAll (xs.map fun xs => .list (xs.map PyData.int)) (ys.map fun xs => .list (xs.map PyData.int)) = decide (xs = ys)
  | [], [] => rfl
  | [], _ :: _ => rfl
  | _ :: _, [] => rfl
  | x :: xs, y :: ys => by
    rw [List.map_cons, List.map_cons, PyData.eqvAll, eqv_rows xs ys, PyData.eqv, eqv_ints]
    by_cases h1 : x = y <;> by_cases h2 : xs = ys <;> simp [h1, h2]
theorem shaped_lm (rs : List (List Int)) : SeqAt.shaped (lm rs).py = true := by
  rw [py_lm]
  unfold SeqAt.shaped
  have h1 : PyData.canLay0 (.list (rs.map fun xs => .list (xs.map PyData.int))) = true := by rw [PyData.canLay0]; exact lay_rows rs
  have h2 : PyData.depth (.list (rs.map fun xs => .list (xs.map PyData.int))) ≤ 64 := by
    have := depth_rows rs
    rw [PyData.depth]
    omega
  rw [h1, decide_eq_true h2]
  rfl
theorem eq_lm (xs ys : List (List Int)) : eqD (lm xs) (lm ys) = some (.bl (decide (xs = ys))) := by
  unfold eqD eqOk
  rw [shaped_lm, shaped_lm, if_pos (show (true && true) = true from rfl)]
  unfold eqB
  rw [py_lm, py_lm, PyData.eqv, eqv_rows]
theorem ne_lm (xs ys : List (List Int)) : neD (lm xs) (lm ys) = some (.bl (!decide (xs = ys))) := by
  unfold neD eqOk
  rw [shaped_lm, shaped_lm, if_pos (show (true && true) = true from rfl)]
  unfold eqB
  rw [py_lm, py_lm, PyData.eqv, eqv_rows]
theorem intsD_map : ∀ xs : List Int, intsD (xs.map D.int) = some xs
  | [] => rfl
  | x :: xs => by rw [List.map_cons, intsD, intsD_map xs]; rfl
theorem boolsD_map : ∀ xs : List Bool, boolsD (xs.map D.bl) = some xs
  | [] => rfl
  | x :: xs => by rw [List.map_cons, boolsD, boolsD_map xs]; rfl
theorem sum_li (xs : List Int) : sumD (li xs) = some (.int xs.sum) := by
  unfold sumD
  show (intsD (xs.map D.int)).map _ = _
  rw [intsD_map]
  rfl
theorem all_bl (xs : List Bool) : allD (.lst (xs.map D.bl)) = some (.bl (xs.all id)) := by
  unfold allD
  show (boolsD (xs.map D.bl)).map _ = _
  rw [boolsD_map]
  rfl
theorem any_bl (xs : List Bool) : anyD (.lst (xs.map D.bl)) = some (.bl (xs.any id)) := by
  unfold anyD
  show (boolsD (xs.map D.bl)).map _ = _
  rw [boolsD_map]
  rfl
theorem rep_zero {k : Int} (h0 : 0 ≤ k) (h1 : k < 16000000) : repF (.ok (.lst [.int 0])) (.ok (.int k)) = .ok (fo (List.replicate k.toNat 0)) := by
  have c : repOk 1 k = true := by
    unfold repOk
    rw [decide_eq_true (by omega), decide_eq_true (by omega), decide_eq_true (by rw [sizeLine_eq]; omega)]
    rfl
  have e : (List.replicate k.toNat [D.int 0]).flatten = List.replicate k.toNat (D.int 0) := by
    generalize k.toNat = n
    induction n with
    | zero => rfl
    | succ n ih => rw [List.replicate_succ, List.replicate_succ, List.flatten_cons, ih]; rfl
  show (if repOk 1 k = true then Rs.ok (O.lst ((List.replicate k.toNat [D.int 0]).flatten.map .sh)) else .bad) = _
  rw [if_pos c, e, List.map_replicate]
  unfold fo
  rw [List.map_replicate]
end M

/-! A call that only looks at what it is handed, and gives a tree of its own. -/
namespace M
open PySem L2
mutual
def O.own : O → Bool
  | .sh d => prim d
  | .lst xs => ownL xs
  | .tup xs => ownL xs
def ownL : List O → Bool
  | [] => true
  | o :: os => o.own && ownL os
end
theorem ownL_all : ∀ os : List O, ownL os = os.all O.own
  | [] => rfl
  | o :: os => by rw [ownL, ownL_all os]; rfl
section
variable {K : PySem.W.Frag} {S S' H : Hp}
mutual
theorem Ow.free : ∀ {v : V} {o : O} {f : List Addr}, Ow K S H v o f → o.own = true → Ow K S' H v o f
  | _, _, _, .sh h, e => .sh (h.prim (by rw [O.own] at e; exact e))
  | _, _, _, .lst h r, e => .lst h (OwL.free r (by rw [O.own] at e; exact e))
  | _, _, _, .tup h r, e => .tup h (OwL.free r (by rw [O.own] at e; exact e))
theorem OwL.free : ∀ {vs : List V} {os : List O} {f : List Addr}, OwL K S H vs os f → ownL os = true → OwL K S' H vs os f
  | _, _, _, .nil, _ => .nil
  | _, _, _, .cons h r, e => by
    rw [ownL, Bool.and_eq_true] at e
    exact .cons (Ow.free h e.1) (OwL.free r e.2)
end
end
section
variable {ι : Type} {X : ι → Cx} {W : WX} {cl : Cl} {K : PySem.W.Frag}
def ownR (r : Rs O) : Rs O := r.bind fun o => if o.own = true then .ok o else .bad
theorem f_callV {n : Nat} {m : List D → Rs O} {R : TE → Prop} {es : List Expr} {fa : Sl → Rs (List D)} (hp : ∀ t, PAf X es t → R (tCallS (SpD K cl n m) (WE W) t)) (ha : EVs K W cl (PAf X es) fa) : EF K W cl R fun st => ownR (callR n m (fa st)) := by
  obtain ⟨ta, pa, ka⟩ := ha.ex
  refine ⟨_, hp _ pa, fun S T st σ H Q r q => ka S T st σ H _ r ?_⟩
  have q : PF K cl W S T σ H (ownR (callR n m (fa st))) Q := q
  revert q
  cases fa st with
  | bad => exact fun q => q
  | ex c => exact fun q => q
  | ok ds =>
    intro q vs H1 h1 r1
    have q : PF K cl W S T σ H (ownR (if ds.length = n then m ds else .bad)) Q := q
    by_cases hn : ds.length = n
    · rw [if_pos hn] at q
      refine ⟨H1, ds, hn, .refl _, r1, ?_⟩
      revert q
      cases m ds with
      | bad => exact fun q => q
      | ex c => exact fun q H2 h2 => q H2 (h1.trans h2)
      | ok o =>
        intro q v S2 H2 g e1 e2 e3 e4 w nd hg
        have q : PF K cl W S T σ H (if o.own = true then .ok o else .bad) Q := q
        by_cases ho : o.own = true
        · rw [if_pos ho] at q
          refine q v S T H2 g (h1.trans e2) (.refl) r.lo (r.th.trans (h1.trans e2)) (w.free ho) nd fun b hb => ?_
          have hH : H b = none := h1.free (hg b hb).2
          refine ⟨?_, hH⟩
          cases e : T b with
          | none => rfl
          | some u => rw [r.th b u e] at hH; cases hH
        · rw [if_neg ho] at q
          exact q.elim
    · rw [if_neg hn] at q
      exact q.elim
end
/-- an item of a list of one's own, where it is a thing that stays -/
def ixO (i : Nat) (k : Rs D) (st : Sl) : Rs D := match st[i]? with
  | some (some (.lst os)) => k.bind fun d => match d with
    | .int j => match atI os j with
      | some (.sh d) => .ok d
      | _ => .bad
    | _ => .bad
  | _ => .bad
section
variable {ι : Type} {X : ι → Cx} {W : WX} {cl : Cl} {K : PySem.W.Frag}
theorem p_ixO {i : Nat} {R : TE → Prop} {eb : Expr} {fb : Sl → Rs D} (hp : ∀ u, PEf X eb u → R (tOp (rIx K) (tVar i) u)) (hb : EV K W cl (PEf X eb) fb) : EP K W cl R fun st => ixO i (fb st) st := by
  obtain ⟨tb, pb, kb⟩ := hb.ex
  refine ⟨_, hp _ pb, fun S T st σ H Q rs q => ?_⟩
  have q : PP K cl W S T σ H (ixO i (fb st) st) Q := q
  unfold ixO at q
  cases e0 : st[i]? with
  | none => rw [e0] at q; exact q.elim
  | some z =>
    rw [e0] at q
    cases z with
    | none => exact q.elim
    | some o0 =>
      cases o0 with
      | sh _ => exact q.elim
      | tup _ => exact q.elim
      | lst os =>
        dsimp only at q
        obtain ⟨vv, gg, hv1, ww, _⟩ := rs.focus e0
        cases ww with
        | @lst p0 vs _ f2 hl2 ow2 =>
          refine ⟨.ref p0, hv1, kb S T st σ H _ rs ?_⟩
          revert q
          cases fb st with
          | bad => exact fun q => q
          | ex c => exact fun q => q
          | ok d =>
            cases d with
            | int pI =>
              intro q wv H2 hs2 rw2
              cases rw2
              have q : PP K cl W S T σ H (match atI os pI with
                | some (.sh d) => .ok d
                | _ => .bad) Q := q
              cases e1 : atI os pI with
              | none => rw [e1] at q; exact q.elim
              | some oi =>
                rw [e1] at q
                cases oi with
                | lst _ => exact q.elim
                | tup _ => exact q.elim
                | sh d =>
                  dsimp only at q
                  obtain ⟨m, e2, e3⟩ := atI_ix e1
                  obtain ⟨ov, fA, fB, fC, c1, c2, c3, c4⟩ := ow2.get e3
                  cases c3 with
                  | sh rd =>
                    refine .inl ⟨p0, vs, pI, ov, rfl, rfl, SqL.of (hs2 _ _ hl2), ix_atI (by rw [ow2.length]; exact e2) c1, ?_⟩
                    exact q ov S T H2 hs2 .refl rs.lo (rs.th.trans hs2) rd
            | _ => exact fun q => q.elim
end
def isBD : D → D → Option D
  | .bl a, .bl b => some (.bl (decide (a = b)))
  | _, _ => none
def isntBD : D → D → Option D
  | .bl a, .bl b => some (.bl (!decide (a = b)))
  | _, _ => none
theorem o_isB {K : PySem.W.Frag} : Op2 K (fun x y H Q => ∃ a b, x = .bl a ∧ y = .bl b ∧ Q (.bl (decide (a = b))) H) isBD := by
  intro H v w d e z Q r1 r2 ez q
  cases r1 <;> cases r2 <;> first
    | cases ez
    | skip
  exact ⟨_, _, rfl, rfl, q _ _ (Same.refl _) (.bl _)⟩
theorem o_isntB {K : PySem.W.Frag} : Op2 K (fun x y H Q => ∃ a b, x = .bl a ∧ y = .bl b ∧ Q (.bl (!decide (a = b))) H) isntBD := by
  intro H v w d e z Q r1 r2 ez q
  cases r1 <;> cases r2 <;> first
    | cases ez
    | skip
  exact ⟨_, _, rfl, rfl, q _ _ (Same.refl _) (.bl _)⟩
@[simp] theorem is_bl (a b : Bool) : isBD (.bl a) (.bl b) = some (.bl (decide (a = b))) := said rfl
@[simp] theorem isnt_bl (a b : Bool) : isntBD (.bl a) (.bl b) = some (.bl (!decide (a = b))) := said rfl
theorem ownR_fo (xs : List Int) : ownR (.ok (fo xs)) = .ok (fo xs) := by
  have e : (fo xs).own = true := by
    show O.own (.lst _) = true
    rw [O.own, ownL_all, List.all_map, List.all_eq_true]
    intro x _
    show O.own (.sh (.int x)) = true
    rw [O.own]
    rfl
  show (if (fo xs).own = true then Rs.ok (fo xs) else .bad) = _
  rw [if_pos e]
end M

/-! max, min of a list; e1 if t else e2 of lists; two items changing places. -/
namespace M
open PySem L2
def maxL : Int → List Int → Int
  | m, [] => m
  | m, x :: r => maxL (if m < x then x else m) r
def minL : Int → List Int → Int
  | m, [] => m
  | m, x :: r => minL (if x < m then x else m) r
theorem maxL_mem : ∀ (r : List Int) (m : Int), maxL m r = m ∨ maxL m r ∈ r
  | [], m => .inl rfl
  | x :: r, m => by
    unfold maxL
    rcases maxL_mem r (if m < x then x else m) with h | h
    · rw [h]; split
      · exact .inr (by simp)
      · exact .inl rfl
    · exact .inr (by simp [h])
theorem maxL_ge : ∀ (r : List Int) (m : Int), m ≤ maxL m r ∧ ∀ y ∈ r, y ≤ maxL m r
  | [], m => ⟨Int.le_refl _, fun y h => by cases h⟩
  | x :: r, m => by
    unfold maxL
    obtain ⟨h1, h2⟩ := maxL_ge r (if m < x then x else m)
    have h3 : m ≤ (if m < x then x else m) ∧ x ≤ (if m < x then x else m) := by split <;> omega
    refine ⟨Int.le_trans h3.1 h1, fun y hy => ?_⟩
    rcases List.mem_cons.mp hy with rfl | hy
    · exact Int.le_trans h3.2 h1
    · exact h2 y hy
theorem minL_mem : ∀ (r : List Int) (m : Int), minL m r = m ∨ minL m r ∈ r
  | [], m => .inl rfl
  | x :: r, m => by
    unfold minL
    rcases minL_mem r (if x < m then x else m) with h | h
    · rw [h]; split
      · exact .inr (by simp)
      · exact .inl rfl
    · exact .inr (by simp [h])
theorem minL_le : ∀ (r : List Int) (m : Int), minL m r ≤ m ∧ ∀ y ∈ r, minL m r ≤ y
  | [], m => ⟨Int.le_refl _, fun y h => by cases h⟩
  | x :: r, m => by
    unfold minL
    obtain ⟨h1, h2⟩ := minL_le r (if x < m then x else m)
    have h3 : (if x < m then x else m) ≤ m ∧ (if x < m then x else m) ≤ x := by split <;> omega
    refine ⟨Int.le_trans h1 h3.1, fun y hy => ?_⟩
    rcases List.mem_cons.mp hy with rfl | hy
    · exact Int.le_trans h1 h3.2
    · exact h2 y hy
def max1I : List Int → Option Int
  | [] => none
  | x :: r => some (maxL x r)
def min1I : List Int → Option Int
  | [] => none
  | x :: r => some (minL x r)
def max1D (d : D) : Option D := (elems d).bind fun ds => (intsD ds).bind fun ns => (max1I ns).map .int
def min1D (d : D) : Option D := (elems d).bind fun ds => (intsD ds).bind fun ns => (min1I ns).map .int
theorem max1_li (x : Int) (r : List Int) : max1D (li (x :: r)) = some (.int (maxL x r)) := by
  unfold max1D
  show (intsD ((x :: r).map D.int)).bind _ = _
  rw [intsD_map]
  rfl
theorem min1_li (x : Int) (r : List Int) : min1D (li (x :: r)) = some (.int (minL x r)) := by
  unfold min1D
  show (intsD ((x :: r).map D.int)).bind _ = _
  rw [intsD_map]
  rfl
section
variable {ι : Type} {X : ι → Cx} {W : WX} {cl : Cl} {K : PySem.W.Frag} {sh : Ps} {pv : Nat → V}
theorem o_max1 : Op1 K (fun x => rMax K [x]) max1D := by
  intro H v d z Q r e q
  unfold max1D at e
  cases e1 : elems d with
  | none => rw [e1] at e; cases e
  | some ds =>
    obtain ⟨a, vs, rfl, h, rl⟩ := r.seqL e1
    rw [e1] at e
    have e : (intsD ds).bind (fun ns => (max1I ns).map D.int) = some z := e
    cases e2 : intsD ds with
    | none => rw [e2] at e; cases e
    | some ns =>
      rw [e2] at e
      rw [intsD_eq e2] at rl
      rw [rl.of_ints] at h
      cases ns with
      | nil => cases e
      | cons x r =>
        cases e
        refine ⟨a, x :: r, rfl, h, by simp, fun m h1 h2 => ?_⟩
        obtain ⟨h3, h4⟩ := maxL_ge r x
        have e3 : m = maxL x r := by
          have h5 : m ≤ maxL x r := by
            rcases List.mem_cons.mp h1 with rfl | h1
            · exact h3
            · exact h4 m h1
          have h6 : maxL x r ≤ m := h2 _ (by
            rcases maxL_mem r x with h | h
            · rw [h]; simp
            · simp [h])
          omega
        rw [e3]
        exact q _ _ (.refl _) (.int _)
theorem o_min1 : Op1 K (fun x => rMin K [x]) min1D := by
  intro H v d z Q r e q
  unfold min1D at e
  cases e1 : elems d with
  | none => rw [e1] at e; cases e
  | some ds =>
    obtain ⟨a, vs, rfl, h, rl⟩ := r.seqL e1
    rw [e1] at e
    have e : (intsD ds).bind (fun ns => (min1I ns).map D.int) = some z := e
    cases e2 : intsD ds with
    | none => rw [e2] at e; cases e
    | some ns =>
      rw [e2] at e
      rw [intsD_eq e2] at rl
      rw [rl.of_ints] at h
      cases ns with
      | nil => cases e
      | cons x r =>
        cases e
        refine ⟨a, x :: r, rfl, h, by simp, fun m h1 h2 => ?_⟩
        obtain ⟨h3, h4⟩ := minL_le r x
        have e3 : m = minL x r := by
          have h5 : minL x r ≤ m := by
            rcases List.mem_cons.mp h1 with rfl | h1
            · exact h3
            · exact h4 m h1
          have h6 : m ≤ minL x r := h2 _ (by
            rcases minL_mem r x with h | h
            · rw [h]; simp
            · simp [h])
          omega
        rw [e3]
        exact q _ _ (.refl _) (.int _)
/-! ### e1 if t else e2, of what is new -/
theorem Ext.low {S T H H1 S' T' : Hp} (h : Same H H1) (x : Ext S T H1 S' T') : Ext S T H S' T' := ⟨x.s, x.t, fun b hb => x.old b (by
  cases e : H b with
  | none => exact absurd e hb
  | some o => rw [h b o e]; simp)⟩
theorem PF.mono {S T : Hp} {σ : St} {H H' : Hp} {r : Rs O} {Q : VK} (x : Same H H') (h : PF K cl W S T σ H r Q) : PF K cl W S T σ H' r Q := by
  cases r with
  | ok d => exact fun v S' T' H2 g y e s t w n k => h v S' T' H2 g (x.trans y) (e.low x) s t w n fun b hb => ⟨(k b hb).1, x.free (k b hb).2⟩
  | ex c => exact fun H2 y => h H2 (x.trans y)
  | bad => exact h
theorem PP.mono {S T : Hp} {σ : St} {H H' : Hp} {r : Rs D} {Q : VK} (x : Same H H') (h : PP K cl W S T σ H r Q) : PP K cl W S T σ H' r Q := by
  cases r with
  | ok d => exact fun v S' T' H2 y e s t w => h v S' T' H2 (x.trans y) (e.low x) s t w
  | ex c => exact fun H2 y => h H2 (x.trans y)
  | bad => exact h
theorem f_if {c a b : Expr} {pos : Pos} {fc : Sl → Rs Bool} {fa fb : Sl → Rs O} (hc : ET K W cl (PTf X c) fc) (ha : EF K W cl (PEf X a) fa) (hb : EF K W cl (PEf X b) fb) : EF K W cl (PEf X (.IfExp c a b pos)) fun st => ifR (fc st) (fa st) (fb st) := by
  obtain ⟨tc, pc, kc⟩ := hc.ex
  obtain ⟨ta, pa, ka⟩ := ha.ex
  obtain ⟨tb, pb, kb⟩ := hb.ex
  refine ⟨_, fun z => pe_ifExp (pc z) (pa z) (pb z), fun S T st σ H Q r q => kc S T st σ H _ r ?_⟩
  have q : PF K cl W S T σ H (ifR (fc st) (fa st) (fb st)) Q := q
  revert q
  cases fc st with
  | bad => exact fun q => q
  | ex c => exact fun q => q
  | ok k =>
    cases k with
    | true => exact fun q H1 h1 => iteT (ka S T st σ H1 Q (r.mono h1) (PF.mono (r := fa st) h1 q))
    | false => exact fun q H1 h1 => iteF (kb S T st σ H1 Q (r.mono h1) (PF.mono (r := fb st) h1 q))
theorem p_if {c a b : Expr} {pos : Pos} {fc : Sl → Rs Bool} {fa fb : Sl → Rs D} (hc : ET K W cl (PTf X c) fc) (ha : EP K W cl (PEf X a) fa) (hb : EP K W cl (PEf X b) fb) : EP K W cl (PEf X (.IfExp c a b pos)) fun st => ifR (fc st) (fa st) (fb st) := by
  obtain ⟨tc, pc, kc⟩ := hc.ex
  obtain ⟨ta, pa, ka⟩ := ha.ex
  obtain ⟨tb, pb, kb⟩ := hb.ex
  refine ⟨_, fun z => pe_ifExp (pc z) (pa z) (pb z), fun S T st σ H Q r q => kc S T st σ H _ r ?_⟩
  have q : PP K cl W S T σ H (ifR (fc st) (fa st) (fb st)) Q := q
  revert q
  cases fc st with
  | bad => exact fun q => q
  | ex c => exact fun q => q
  | ok k =>
    cases k with
    | true => exact fun q H1 h1 => iteT (ka S T st σ H1 Q (r.mono h1) (PP.mono (r := fa st) h1 q))
    | false => exact fun q H1 h1 => iteF (kb S T st σ H1 Q (r.mono h1) (PP.mono (r := fb st) h1 q))
end
/-! ### x[a], x[b] = (x[b], x[a]) -/
theorem perm_mid {α : Type} (a b c : List α) : (a ++ b ++ c).Perm (b ++ (a ++ c)) := by
  have h1 : (a ++ b ++ c).Perm (b ++ a ++ c) := List.Perm.append_right c List.perm_append_comm
  rwa [List.append_assoc b a c] at h1
theorem OwL.swap {K : PySem.W.Frag} {S H : Hp} {vs : List V} {os : List O} {f : List Addr} {m n : Nat} {x y : O} (w : OwL K S H vs os f) (hx : os[m]? = some x) (hy : os[n]? = some y) :
    ∃ a b g, vs[m]? = some a ∧ vs[n]? = some b ∧ OwL K S H ((vs.set m b).set n a) ((os.set m y).set n x) g ∧ g.Perm f := by
  obtain ⟨a, f1, g1, f2, e1, e2, e3, e4⟩ := w.get hx
  obtain ⟨b, h1, g2, h2, e5, e6, e7, _⟩ := w.get hy
  have hm : m < os.length := (List.getElem?_eq_some_iff.mp hx).1
  have hn : n < os.length := (List.getElem?_eq_some_iff.mp hy).1
  have hl := w.length
  have w1 := e4 S H b y g2 (.refl _) (fun _ _ => rfl) e7
  have hy2 : (os.set m y)[n]? = some y := by
    by_cases c : m = n
    · subst c; rw [List.getElem?_set_self hm]
    · rw [List.getElem?_set_ne c]; exact hy
  have hb2 : (vs.set m b)[n]? = some b := by
    by_cases c : m = n
    · subst c; rw [List.getElem?_set_self (by omega)]
    · rw [List.getElem?_set_ne c]; exact e5
  obtain ⟨b', k1, g3, k2, q1, q2, q3, q4⟩ := w1.get hy2
  rw [hb2] at q1
  cases q1
  have e8 := q3.det e7
  subst e8
  refine ⟨a, b, _, e1, e5, q4 S H a x g1 (.refl _) (fun _ _ => rfl) e3, ?_⟩
  have p1 := perm_mid f1 g3 f2
  have p2 := perm_mid k1 g3 k2
  rw [q2] at p1
  have p3 : (k1 ++ k2).Perm (f1 ++ f2) := (List.perm_append_left_iff g3).mp (p2.symm.trans p1)
  rw [e2]
  exact (perm_mid k1 g1 k2).trans (((List.perm_append_left_iff g1).mpr p3).trans (perm_mid f1 g1 f2).symm)
def swapR (i j k : Nat) (st : Sl) : Fl := match st[i]?, st[j]?, st[k]? with
  | some (some (.lst os)), some (some (.sh (.int p))), some (some (.sh (.int q))) => match ixN os.length p, ixN os.length q with
    | some m, some n => match os[m]?, os[n]? with
      | some x, some y => .nx (st.set i (some (.lst ((os.set m y).set n x))))
      | _, _ => .bad
    | _, _ => .bad
  | _, _, _ => .bad
section
variable {ι : Type} {X : ι → Cx} {W : WX} {cl : Cl} {K : PySem.W.Frag} {sh : Ps} {pv : Nat → V}
theorem RS.num {S T : Hp} {st : Sl} {σ : St} {H : Hp} {j : Nat} {p : Int} (r : RS K S T st σ H) (e : st[j]? = some (some (.sh (.int p)))) : σ[j]? = some (some (.int p)) := by
  obtain ⟨v, g, h1, h2, _⟩ := r.focus e
  cases h2 with
  | sh rp => cases rp; exact h1
theorem s_swap {i j k : Nat} {s : Stmt} (hp : PSf X s (tAsg (tTup (tCons (tOp (rIx K) (tVar i) (tVar k)) (tCons (tOp (rIx K) (tVar i) (tVar j)) tNil))) (gTup K 2 (gCons (gSub (tVar i) (tVar j) rSetL) (gCons (gSub (tVar i) (tVar k) rSetL) gNil))))) :
    SJ K W cl sh (PSf X s) fun st => swapR i j k st := by
  refine ⟨_, hp, fun pv S T st σ H E r pi q => ?_⟩
  have q : PSt K cl W sh pv S T (swapR i j k st) E := q
  unfold swapR at q
  split at q
  case h_2 => exact q.elim
  case h_1 os p pq ei ej ek =>
    split at q
    case h_2 => exact q.elim
    case h_1 m n em en =>
      split at q
      case h_2 => exact q.elim
      case h_1 x y ex ey =>
        have vj := r.num ej
        have vk := r.num ek
        obtain ⟨v, g, hv, w, nd, kg, inn, put⟩ := r.focus ei
        cases w with
        | @lst p0 vs _ f hl ow =>
          obtain ⟨a, b, g2, ha, hb, ow2, pm⟩ := ow.swap ex ey
          have hlen := ow.length
          have am : atI vs p = some a := ix_atI (by rw [hlen]; exact em) ha
          have bn : atI vs pq = some b := ix_atI (by rw [hlen]; exact en) hb
          have np : p0 ∉ f := (List.nodup_cons.mp nd).1
          refine ⟨.ref p0, hv, .int pq, vk, .inl ⟨p0, vs, pq, b, rfl, rfl, SqL.of hl, bn, .ref p0, hv, .int p, vj, .inl ⟨p0, vs, p, a, rfl, rfl, SqL.of hl, am, (by show 2 ≤ sizeLine; rw [sizeLine_eq]; omega), fun t ht => ?_⟩⟩⟩
          have p0t : p0 ≠ t := fun e => by rw [← e, hl] at ht; cases ht
          have hl1 : upd H t (.tup [b, a]) p0 = some (.lst vs) := (upd_ne p0t).trans hl
          refine ⟨t, [b, a], rfl, SqT.of upd_same, rfl, b, [a], rfl, .ref p0, hv, .int p, vj, p0, vs, p, m, rfl, rfl, hl1, by rw [hlen]; exact em, a, [], rfl, .ref p0, hv, .int pq, vk, p0, _, pq, n, rfl, rfl, upd_same, by rw [List.length_set, hlen]; exact en, rfl, ?_⟩
          have rt : RS K S T st σ (upd H t (.tup [b, a])) := r.mono (same_upd ht)
          obtain ⟨v2, g3, hv2, w2, nd2, kg2, inn2, put2⟩ := rt.focus ei
          rw [hv] at hv2
          cases hv2
          cases w2 with
          | @lst _ vs2 _ f2 hl2 ow3 =>
            rw [hl1] at hl2
            cases hl2
            have ef := (ow.mono (S' := S) (H' := upd H t (.tup [b, a])) (.refl _) fun c hc => upd_keep ht (ow.there c hc)).det ow3
            subst ef
            have hm : ∀ c, c ≠ p0 → (upd (upd (upd H t (.tup [b, a])) p0 (.lst (vs.set m b))) p0 (.lst ((vs.set m b).set n a))) c = upd H t (.tup [b, a]) c := fun c hc => (upd_ne hc).trans (upd_ne hc)
            refine q S T σ _ .refl (put2 _ (.lst ((os.set m y).set n x)) (p0 :: g2) (fun c hc => hm c fun e => hc (by rw [e]; simp)) (.lst upd_same (ow2.mono (.refl _) fun c hc => ?_)) ?_ fun c hc => ?_) pi
            · have hcf : c ∈ f := pm.mem_iff.mp hc
              rw [hm c fun e => np (e ▸ hcf)]
              exact upd_keep ht (ow.there c hcf)
            · rw [List.nodup_cons]
              exact ⟨fun z => np (pm.mem_iff.mp z), pm.nodup_iff.mpr (List.nodup_cons.mp nd).2⟩
            · rcases List.mem_cons.mp hc with rfl | hc
              · exact .inl (by simp)
              · exact .inl (by simp [pm.mem_iff.mp hc])
end
/-! ### a tree of one's own looked at as a whole -/
def lookR (i : Nat) (f : Sl → Rs O) (st : Sl) : Rs O := match st[i]? with
  | some (some o) => ownR (f (st.set i (some (.sh o.er))))
  | _ => .bad
section
variable {ι : Type} {X : ι → Cx} {W : WX} {cl : Cl} {K : PySem.W.Frag} {sh : Ps} {pv : Nat → V}
theorem RS.frz {S T : Hp} {st : Sl} {σ : St} {H : Hp} {i : Nat} {o : O} (r : RS K S T st σ H) (e0 : st[i]? = some (some o)) : ∃ g, RS K (M.frz g S H) (M.frz g T H) (st.set i (some (.sh o.er))) σ H := by
  obtain ⟨f, w, nd, k⟩ := r.own
  obtain ⟨v, f1, g, f2, h1, h2, h3, h4, _⟩ := w.get e0
  subst h2
  have kg : ∀ b ∈ g, T b = none := fun b hb => k b (by simp [hb])
  have ks : ∀ b ∈ g, S b = none := fun b hb => r.lo.free (kg b hb)
  have hσ : σ.set i (some v) = σ := by
    apply List.ext_getElem?
    intro j
    by_cases hj : i = j
    · subst hj
      have := (List.getElem?_eq_some_iff.mp h1).1
      rw [List.getElem?_set_self this, h1]
    · rw [List.getElem?_set_ne hj]
  have w3 := h4 (M.frz g S H) H v (.sh o.er) [] (frz_same ks) (fun _ _ => rfl) (.sh (h3.rp (frz_same ks) fun b hb => frz_in hb))
  rw [hσ] at w3
  simp only [List.nodup_append, List.mem_append] at nd
  obtain ⟨⟨n1, n2, n3⟩, n4, n5⟩ := nd
  refine ⟨g, frz_mono r.lo, frz_low r.th, _, w3, ?_, fun b hb => ?_⟩
  · simp only [List.nodup_append, List.mem_append]
    exact ⟨⟨n1, .nil, fun a ha b hb => by cases hb⟩, n4, fun a ha b hb e => ha.elim (fun z => n5 a (.inl z) b hb e) fun z => by cases z⟩
  · simp only [List.mem_append] at hb
    have hg : b ∉ g := fun z => by
      rcases hb with (hb | hb) | hb
      · exact n3 b hb b z rfl
      · cases hb
      · exact n5 b (.inr z) b hb rfl
    rw [frz_out hg]
    rcases hb with (hb | hb) | hb
    · exact k b (by simp [hb])
    · cases hb
    · exact k b (by simp [hb])
theorem f_look {R : TE → Prop} {f : Sl → Rs O} (i : Nat) (h : EF K W cl R f) : EF K W cl R fun st => lookR i f st := by
  obtain ⟨t, p, a⟩ := h.ex
  refine ⟨t, p, fun S T st σ H Q r q => ?_⟩
  have q : PF K cl W S T σ H (lookR i f st) Q := q
  unfold lookR at q
  cases e0 : st[i]? with
  | none => rw [e0] at q; exact q.elim
  | some z =>
    rw [e0] at q
    cases z with
    | none => exact q.elim
    | some o =>
      obtain ⟨g, r2⟩ := r.frz e0
      refine a _ _ _ σ H Q r2 ?_
      dsimp only at q
      revert q
      cases f (st.set i (some (.sh o.er))) with
      | bad => exact fun q => q
      | ex c => exact fun q => q
      | ok o' =>
        intro q v S' T' H' g' e1 e2 e3 e4 w nd hg
        have q : PF K cl W S T σ H (if o'.own = true then .ok o' else .bad) Q := q
        by_cases ho : o'.own = true
        · rw [if_pos ho] at q
          refine q v S T H' g' e1 .refl r.lo (r.th.trans e1) (w.free ho) nd fun b hb => ?_
          have hH : H b = none := (hg b hb).2
          exact ⟨r.th.free hH, hH⟩
        · rw [if_neg ho] at q
          exact q.elim
end
end M

/-! Calls that change one's own tree; expressions through which the slots' trees go on. -/
namespace M
open PySem L2
section
variable (K : PySem.W.Frag) (cl : Cl) (W : WX)
def PX (S T : Hp) (σ : St) (r : Rs (D × Sl)) (Q : VK) : Prop := match r with
  | .ok (d, st') => ∀ v S' T' H', Ex3 S T S' T' → RS K S' T' st' σ H' → Rp K S' v d → Q v H'
  | .ex c => ∀ T' H', Same T T' → Same T' H' → W (.ref (cl c)) none σ H'
  | .bad => False
def PXs (S T : Hp) (σ : St) (r : Rs (List D × Sl)) (Q : List V → Hp → Prop) : Prop := match r with
  | .ok (ds, st') => ∀ vs S' T' H', Ex3 S T S' T' → RS K S' T' st' σ H' → RpL K S' vs ds → Q vs H'
  | .ex c => ∀ T' H', Same T T' → Same T' H' → W (.ref (cl c)) none σ H'
  | .bad => False
def PXb (S T : Hp) (σ : St) (r : Rs (Bool × Sl)) (Q : Bool → Hp → Prop) : Prop := match r with
  | .ok (b, st') => ∀ S' T' H', Ex3 S T S' T' → RS K S' T' st' σ H' → Q b H'
  | .ex c => ∀ T' H', Same T T' → Same T' H' → W (.ref (cl c)) none σ H'
  | .bad => False
def PXo (S T : Hp) (σ : St) (r : Rs (O × Sl)) (Q : VK) : Prop := match r with
  | .ok (o, st') => ∀ v S' T' H' g, Ex3 S T S' T' → RS K S' T' st' σ H' → Ow K S' H' v o g → g.Nodup → (∀ b ∈ g, T' b = none ∧ ∀ f, OwSt K S' H' σ st' f → b ∉ f) → Q v H'
  | .ex c => ∀ T' H', Same T T' → Same T' H' → W (.ref (cl c)) none σ H'
  | .bad => False
end
section
variable (K : PySem.W.Frag) (W : WX) (cl : Cl)
structure EX (R : TE → Prop) (f : Sl → Rs (D × Sl)) : Prop where
  ex : ∃ t, R t ∧ ∀ S T st σ H Q, RS K S T st σ H → PX K cl W S T σ (f st) Q → t σ H Q
structure EXs (R : TA → Prop) (f : Sl → Rs (List D × Sl)) : Prop where
  ex : ∃ t, R t ∧ ∀ S T st σ H Q, RS K S T st σ H → PXs K cl W S T σ (f st) Q → t σ H Q
structure XT (R : TT → Prop) (f : Sl → Rs (Bool × Sl)) : Prop where
  ex : ∃ t, R t ∧ ∀ S T st σ H Q, RS K S T st σ H → PXb K cl W S T σ (f st) Q → t σ H Q
structure EXo (R : TE → Prop) (f : Sl → Rs (O × Sl)) : Prop where
  ex : ∃ t, R t ∧ ∀ S T st σ H Q, RS K S T st σ H → PXo K cl W S T σ (f st) Q → t σ H Q
structure EXi (R : TI → Prop) (f : Sl → Rs (List D × Sl)) : Prop where
  ex : ∃ t, R t ∧ ∀ S T st σ H (Q : It → Hp → Prop), RS K S T st σ H → (match f st with
    | .ok (ds, st') => ∀ J S' T' H', Ex3 S T S' T' → RS K S' T' st' σ H' → Yields K J S' ds → Q J H'
    | .ex c => ∀ T' H', Same T T' → Same T' H' → W (.ref (cl c)) none σ H'
    | .bad => False) → t σ H Q
end
section
variable {ι : Type} {X : ι → Cx} {W : WX} {cl : Cl} {K : PySem.W.Frag} {sh : Ps} {pv : Nat → V}
theorem PX.mono {S T S1 T1 : Hp} {σ : St} {r : Rs (D × Sl)} {Q : VK} (x : Ex3 S T S1 T1) (h : PX K cl W S T σ r Q) : PX K cl W S1 T1 σ r Q := by
  cases r with
  | ok p => exact fun v S' T' H' y => h v S' T' H' (x.trans y)
  | ex c => exact fun T' H' y => h T' H' (x.t.trans y)
  | bad => exact h
theorem PXs.mono {S T S1 T1 : Hp} {σ : St} {r : Rs (List D × Sl)} {Q : List V → Hp → Prop} (x : Ex3 S T S1 T1) (h : PXs K cl W S T σ r Q) : PXs K cl W S1 T1 σ r Q := by
  cases r with
  | ok p => exact fun v S' T' H' y => h v S' T' H' (x.trans y)
  | ex c => exact fun T' H' y => h T' H' (x.t.trans y)
  | bad => exact h
theorem PXb.mono {S T S1 T1 : Hp} {σ : St} {r : Rs (Bool × Sl)} {Q : Bool → Hp → Prop} (x : Ex3 S T S1 T1) (h : PXb K cl W S T σ r Q) : PXb K cl W S1 T1 σ r Q := by
  cases r with
  | ok p => exact fun S' T' H' y => h S' T' H' (x.trans y)
  | ex c => exact fun T' H' y => h T' H' (x.t.trans y)
  | bad => exact h
theorem PXo.mono {S T S1 T1 : Hp} {σ : St} {r : Rs (O × Sl)} {Q : VK} (x : Ex3 S T S1 T1) (h : PXo K cl W S T σ r Q) : PXo K cl W S1 T1 σ r Q := by
  cases r with
  | ok p => exact fun v S' T' H' g y => h v S' T' H' g (x.trans y)
  | ex c => exact fun T' H' y => h T' H' (x.t.trans y)
  | bad => exact h
/-- the value with the slots as they are -/
def keepX {α : Type} (r : Rs α) (st : Sl) : Rs (α × Sl) := r.bind fun a => .ok (a, st)
theorem x_p {R : TE → Prop} {f : Sl → Rs D} (h : EP K W cl R f) : EX K W cl R fun st => keepX (f st) st := by
  obtain ⟨t, p, a⟩ := h.ex
  refine ⟨t, p, fun S T st σ H Q r q => a S T st σ H _ r ?_⟩
  have q : PX K cl W S T σ (keepX (f st) st) Q := q
  revert q
  cases f st with
  | bad => exact fun q => q
  | ex c => exact fun q H1 h1 => q T H1 (.refl _) (r.th.trans h1)
  | ok d => exact fun q v S' T' H' hs x h1 h2 w => q v S' T' H' (x.ex3 r.th) (r.ext hs x h1 h2) w
theorem xo_f {R : TE → Prop} {f : Sl → Rs O} (h : EF K W cl R f) : EXo K W cl R fun st => keepX (f st) st := by
  obtain ⟨t, p, a⟩ := h.ex
  refine ⟨t, p, fun S T st σ H Q r q => a S T st σ H _ r ?_⟩
  have q : PXo K cl W S T σ (keepX (f st) st) Q := q
  revert q
  cases f st with
  | bad => exact fun q => q
  | ex c => exact fun q H1 h1 => q T H1 (.refl _) (r.th.trans h1)
  | ok d => exact fun q v S' T' H' g hs x h1 h2 w nd hg => q v S' T' H' g (x.ex3 r.th) (r.ext hs x h1 h2) w nd (r.fresh hs hg)
theorem x_t {R : TT → Prop} {f : Sl → Rs Bool} (h : ET K W cl R f) : XT K W cl R fun st => keepX (f st) st := by
  obtain ⟨t, p, a⟩ := h.ex
  refine ⟨t, p, fun S T st σ H Q r q => a S T st σ H _ r ?_⟩
  have q : PXb K cl W S T σ (keepX (f st) st) Q := q
  revert q
  cases f st with
  | bad => exact fun q => q
  | ex c => exact fun q H1 h1 => q T H1 (.refl _) (r.th.trans h1)
  | ok d => exact fun q H1 h1 => q S T H1 .refl (r.mono h1)
theorem xi_i {R : TI → Prop} {f : Sl → Rs (List D)} (h : EI K W cl R f) : EXi K W cl R fun st => keepX (f st) st := by
  obtain ⟨t, p, a⟩ := h.ex
  refine ⟨t, p, fun S T st σ H Q r q => a S T st σ H _ r ?_⟩
  revert q
  show (match keepX (f st) st with | .ok (ds, st') => _ | .ex c => _ | .bad => _) → _
  cases f st with
  | bad => exact fun q => q
  | ex c => exact fun q H1 h1 => q T H1 (.refl _) (r.th.trans h1)
  | ok d => exact fun q J S' T' H' hs x r' y => q J S' T' H' (x.ex3 r.th) r' y
def mapX {α β : Type} (g : α → β) (r : Rs (α × Sl)) : Rs (β × Sl) := r.bind fun p => .ok (g p.1, p.2)
/-- what stays is a tree without own knots -/
theorem x_o {R : TE → Prop} {f : Sl → Rs (D × Sl)} (h : EX K W cl R f) : EXo K W cl R fun st => mapX O.sh (f st) := by
  obtain ⟨t, p, a⟩ := h.ex
  refine ⟨t, p, fun S T st σ H Q r q => a S T st σ H _ r ?_⟩
  have q : PXo K cl W S T σ (mapX O.sh (f st)) Q := q
  revert q
  cases f st with
  | bad => exact fun q => q
  | ex c => exact fun q => q
  | ok d => exact fun q v S' T' H' x r' w => q v S' T' H' [] x r' (.sh w) .nil fun b hb => by cases hb
/-- a new tree, frozen -/
theorem xo_x {R : TE → Prop} {f : Sl → Rs (O × Sl)} (h : EXo K W cl R f) : EX K W cl R fun st => mapX O.er (f st) := by
  obtain ⟨t, p, a⟩ := h.ex
  refine ⟨t, p, fun S T st σ H Q r q => a S T st σ H _ r ?_⟩
  have q : PX K cl W S T σ (mapX O.er (f st)) Q := q
  revert q
  cases f st with
  | bad => exact fun q => q
  | ex c => exact fun q => q
  | ok p =>
    intro q v S' T' H' g x r' w nd hg
    have hs : ∀ b ∈ g, S' b = none := fun b hb => r'.lo.free (hg b hb).1
    have e1 : Ex3 S' T' (frz g S' H') (frz g T' H') := ⟨frz_same hs, frz_same fun b hb => (hg b hb).1, fun b hb => frz_out fun z => hb (hg b z).1⟩
    obtain ⟨f0, w0, n0, k0⟩ := r'.own
    have dj : ∀ b ∈ f0, b ∉ g := fun b hb hm => (hg b hm).2 f0 w0 hb
    refine q v _ _ H' (x.trans e1) ⟨frz_mono r'.lo, frz_low r'.th, f0, w0.mono (frz_same hs) (fun _ _ => rfl), n0, fun b hb => ?_⟩ (w.rp (frz_same hs) fun b hb => frz_in hb)
    rw [frz_out (dj b hb)]
    exact k0 b hb
/-! ### operators -/
def opX (g : D → D → Option D) (fa fb : Sl → Rs (D × Sl)) (st : Sl) : Rs (D × Sl) := (fa st).bind fun p => (fb p.2).bind fun q => keepX (asPrim (ofO (g p.1 q.1))) q.2
def ixX (fa fb : Sl → Rs (D × Sl)) (st : Sl) : Rs (D × Sl) := (fa st).bind fun p => (fb p.2).bind fun q => keepX (ofO (ixD p.1 q.1)) q.2
def unX (g : D → Option D) (fa : Sl → Rs (D × Sl)) (st : Sl) : Rs (D × Sl) := (fa st).bind fun p => keepX (asPrim (ofO (g p.1))) p.2
def callX (n : Nat) (m : List D → Rs O) (fa : Sl → Rs (List D × Sl)) (st : Sl) : Rs (O × Sl) := (fa st).bind fun p => keepX (if p.1.length = n then m p.1 else .bad) p.2
theorem x_op {a b : Expr} {op : Operator} {pos : Pos} {r : R2} {g : D → D → Option D} {fa fb : Sl → Rs (D × Sl)} (ho : ∀ z, OpR (X z) (binaryOp op) r) (hg : Op2 K r g) (ha : EX K W cl (PEf X a) fa) (hb : EX K W cl (PEf X b) fb) :
    EX K W cl (PEf X (.BinOp a op b pos)) fun st => opX g fa fb st := by
  obtain ⟨ta, pa, ka⟩ := ha.ex
  obtain ⟨tb, pb, kb⟩ := hb.ex
  refine ⟨_, fun z => pe_op (ho z) (pa z) (pb z), fun S T st σ H Q rs q => ka S T st σ H _ rs ?_⟩
  have q : PX K cl W S T σ ((fa st).bind fun p => (fb p.2).bind fun q => keepX (asPrim (ofO (g p.1 q.1))) q.2) Q := q
  revert q
  cases fa st with
  | bad => exact fun q => q
  | ex c => exact fun q => q
  | ok p =>
    intro q v S1 T1 H1 x1 r1 w1
    refine kb S1 T1 p.2 σ H1 _ r1 ?_
    have q : PX K cl W S T σ ((fb p.2).bind fun q => keepX (asPrim (ofO (g p.1 q.1))) q.2) Q := q
    revert q
    cases fb p.2 with
    | bad => exact fun q => q
    | ex c => exact fun q T2 H2 y => q T2 H2 (x1.t.trans y)
    | ok p2 =>
      intro q v2 S2 T2 H2 x2 r2 w2
      have q : PX K cl W S T σ (keepX (asPrim (ofO (g p.1 p2.1))) p2.2) Q := q
      cases ez : g p.1 p2.1 with
      | none => rw [ez] at q; exact q.elim
      | some z =>
        rw [ez] at q
        have q : PX K cl W S T σ (keepX (if prim z = true then .ok z else .bad) p2.2) Q := q
        by_cases pz : prim z = true
        · rw [if_pos pz] at q
          refine hg H2 v v2 p.1 p2.1 z Q ((w1.mono x2.s).mono r2.sh) (w2.mono r2.sh) ez fun v' H3 h3 w3 => ?_
          exact q v' S2 T2 H3 (x1.trans x2) (r2.mono h3) (w3.prim pz)
        · rw [if_neg pz] at q
          exact q.elim
theorem x_cmp {a b : Expr} {op : CmpOp} {pos : Pos} {r : R2} {g : D → D → Option D} {fa fb : Sl → Rs (D × Sl)} (ho : ∀ z, OpR (X z) (compareOp op) r) (hg : Op2 K r g) (hm : behindInMarks op b = false) (ha : EX K W cl (PEf X a) fa) (hb : EX K W cl (PEf X b) fb) :
    EX K W cl (PEf X (.Compare a [op] [b] pos)) fun st => opX g fa fb st := by
  obtain ⟨ta, pa, ka⟩ := ha.ex
  obtain ⟨tb, pb, kb⟩ := hb.ex
  refine ⟨_, fun z => pe_cmpR (ho z) (pa z) (pb z) hm, fun S T st σ H Q rs q => ka S T st σ H _ rs ?_⟩
  have q : PX K cl W S T σ ((fa st).bind fun p => (fb p.2).bind fun q => keepX (asPrim (ofO (g p.1 q.1))) q.2) Q := q
  revert q
  cases fa st with
  | bad => exact fun q => q
  | ex c => exact fun q => q
  | ok p =>
    intro q v S1 T1 H1 x1 r1 w1
    refine kb S1 T1 p.2 σ H1 _ r1 ?_
    have q : PX K cl W S T σ ((fb p.2).bind fun q => keepX (asPrim (ofO (g p.1 q.1))) q.2) Q := q
    revert q
    cases fb p.2 with
    | bad => exact fun q => q
    | ex c => exact fun q T2 H2 y => q T2 H2 (x1.t.trans y)
    | ok p2 =>
      intro q v2 S2 T2 H2 x2 r2 w2
      have q : PX K cl W S T σ (keepX (asPrim (ofO (g p.1 p2.1))) p2.2) Q := q
      cases ez : g p.1 p2.1 with
      | none => rw [ez] at q; exact q.elim
      | some z =>
        rw [ez] at q
        have q : PX K cl W S T σ (keepX (if prim z = true then .ok z else .bad) p2.2) Q := q
        by_cases pz : prim z = true
        · rw [if_pos pz] at q
          refine hg H2 v v2 p.1 p2.1 z Q ((w1.mono x2.s).mono r2.sh) (w2.mono r2.sh) ez fun v' H3 h3 w3 => ?_
          exact q v' S2 T2 H3 (x1.trans x2) (r2.mono h3) (w3.prim pz)
        · rw [if_neg pz] at q
          exact q.elim
/-- one value in, by a rule of one -/
theorem x_call1 {R : TE → Prop} {a : Expr} {r : List V → Hp → VK → Prop} {g : D → Option D} {fa : Sl → Rs (D × Sl)} (hp : ∀ t, PAf X [a] t → R (tCB r t)) (hg : Op1 K (fun x => r [x]) g) (ha : EX K W cl (PEf X a) fa)
    (hs : ∀ z, starEach [a] (X z).env = [(false, eval a (X z).env)] := by intro _; rfl) : EX K W cl R fun st => unX g fa st := by
  obtain ⟨ta, pa, ka⟩ := ha.ex
  refine ⟨_, hp _ fun z => pa_cons (pa z) pa_nil (hs z), fun S T st σ H Q rs q => ka S T st σ H _ rs ?_⟩
  have q : PX K cl W S T σ ((fa st).bind fun p => keepX (asPrim (ofO (g p.1))) p.2) Q := q
  revert q
  cases fa st with
  | bad => exact fun q => q
  | ex c => exact fun q => q
  | ok p =>
    intro q v S1 T1 H1 x1 r1 w1
    have q : PX K cl W S T σ (keepX (asPrim (ofO (g p.1))) p.2) Q := q
    cases ez : g p.1 with
    | none => rw [ez] at q; exact q.elim
    | some z =>
      rw [ez] at q
      have q : PX K cl W S T σ (keepX (if prim z = true then .ok z else .bad) p.2) Q := q
      by_cases pz : prim z = true
      · rw [if_pos pz] at q
        exact hg H1 v p.1 z Q (w1.mono r1.sh) ez fun v' H3 h3 w3 => q v' S1 T1 H3 x1 (r1.mono h3) (w3.prim pz)
      · rw [if_neg pz] at q
        exact q.elim
theorem ix_run {S H : Hp} {v : V} {d z : D} {i : Int} {Q : VK} (h : Rp K S v d) (up : Same S H) (ez : ixD d (.int i) = some z) (q : ∀ u, Rp K S u z → Q u H) : rIx K v (.int i) H Q := by
  have fin : ∀ {vs : List V} {ds : List D}, RpL K S vs ds → atI ds i = some z → ∃ u, atI vs i = some u ∧ Q u H := fun {vs ds} r h => by
    unfold atI at h ⊢
    rw [r.length]
    cases e : ixN ds.length i with
    | none => rw [e] at h; cases h
    | some j =>
      rw [e] at h
      obtain ⟨u, h3, h4⟩ := r.get h
      exact ⟨u, h3, q u h4⟩
  cases h with
  | lst h r =>
    obtain ⟨u, h3, h4⟩ := fin r ez
    exact .inl ⟨_, _, i, u, rfl, rfl, SqL.of (up _ _ h), h3, h4⟩
  | tup h r =>
    obtain ⟨u, h3, h4⟩ := fin r ez
    exact .inr (.inl ⟨_, _, i, u, rfl, rfl, SqT.of (up _ _ h), h3, h4⟩)
  | scr h =>
    rename_i a ns
    have ez : (atI ns i).map D.int = some z := ez
    have ez' : atI (ns.map D.int) i = some z := by
      unfold atI at ez ⊢
      rw [List.length_map]
      cases e : ixN ns.length i with
      | none => rw [e] at ez; cases ez
      | some j =>
        rw [e] at ez
        show (ns.map D.int)[j]? = some z
        rw [List.getElem?_map]
        exact ez
    obtain ⟨u, h3, h4⟩ := fin (.ints ns) ez'
    exact .inl ⟨_, _, i, u, rfl, rfl, up.seq h, h3, h4⟩
  | _ => cases ez
theorem ixD_int {d e z : D} (h : ixD d e = some z) : ∃ i, e = .int i := by
  cases e with
  | int i => exact ⟨i, rfl⟩
  | _ => cases d <;> cases h
theorem x_ix {a b : Expr} {pos : Pos} {fa fb : Sl → Rs (D × Sl)} (ha : EX K W cl (PEf X a) fa) (hb : EX K W cl (PEf X b) fb) (hK : ∀ z, (X z).K = K := by intro _; rfl) (hs : PlainIx b := by exact fun _ _ => rfl) :
    EX K W cl (PEf X (.Subscript a b pos)) fun st => ixX fa fb st := by
  obtain ⟨ta, pa, ka⟩ := ha.ex
  obtain ⟨tb, pb, kb⟩ := hb.ex
  refine ⟨_, fun z => pe_ix (hK z ▸ ix_seq) (pa z) (pb z) hs, fun S T st σ H Q rs q => ka S T st σ H _ rs ?_⟩
  have q : PX K cl W S T σ ((fa st).bind fun p => (fb p.2).bind fun q => keepX (ofO (ixD p.1 q.1)) q.2) Q := q
  revert q
  cases fa st with
  | bad => exact fun q => q
  | ex c => exact fun q => q
  | ok p =>
    intro q v S1 T1 H1 x1 r1 w1
    refine kb S1 T1 p.2 σ H1 _ r1 ?_
    have q : PX K cl W S T σ ((fb p.2).bind fun q => keepX (ofO (ixD p.1 q.1)) q.2) Q := q
    revert q
    cases fb p.2 with
    | bad => exact fun q => q
    | ex c => exact fun q T2 H2 y => q T2 H2 (x1.t.trans y)
    | ok p2 =>
      intro q v2 S2 T2 H2 x2 r2 w2
      have q : PX K cl W S T σ (keepX (ofO (ixD p.1 p2.1)) p2.2) Q := q
      cases ez : ixD p.1 p2.1 with
      | none => rw [ez] at q; exact q.elim
      | some z =>
        rw [ez] at q
        obtain ⟨i, ei⟩ := ixD_int ez
        rw [ei] at ez w2
        cases w2
        exact ix_run (w1.mono x2.s) r2.sh ez fun u wu => q u S2 T2 H2 (x1.trans x2) r2 wu
/-! ### arguments -/
theorem xs_nil : EXs K W cl (PAf X []) fun st => .ok ([], st) := ⟨_, fun _ => pa_nil, fun S T st σ H Q r q => q [] S T H .refl r .nil⟩
def consX {α : Type} (a : Sl → Rs (α × Sl)) (b : Sl → Rs (List α × Sl)) (st : Sl) : Rs (List α × Sl) := (a st).bind fun p => (b p.2).bind fun q => .ok (p.1 :: q.1, q.2)
theorem xs_cons {e : Expr} {es : List Expr} {f : Sl → Rs (D × Sl)} {g : Sl → Rs (List D × Sl)} (h : EX K W cl (PEf X e) f) (k : EXs K W cl (PAf X es) g) (hs : ∀ z, starEach (e :: es) (X z).env = (false, eval e (X z).env) :: starEach es (X z).env := by intro _; rfl) :
    EXs K W cl (PAf X (e :: es)) fun st => consX f g st := by
  obtain ⟨t, p, ka⟩ := h.ex
  obtain ⟨u, pu, kb⟩ := k.ex
  refine ⟨_, fun z => pa_cons (p z) (pu z) (hs z), fun S T st σ H Q r q => ka S T st σ H _ r ?_⟩
  have q : PXs K cl W S T σ ((f st).bind fun p => (g p.2).bind fun q => .ok (p.1 :: q.1, q.2)) Q := q
  revert q
  cases f st with
  | bad => exact fun q => q
  | ex c => exact fun q => q
  | ok p =>
    intro q v S1 T1 H1 x1 r1 w1
    refine kb S1 T1 p.2 σ H1 _ r1 ?_
    have q : PXs K cl W S T σ ((g p.2).bind fun q => .ok (p.1 :: q.1, q.2)) Q := q
    revert q
    cases g p.2 with
    | bad => exact fun q => q
    | ex c => exact fun q T2 H2 y => q T2 H2 (x1.t.trans y)
    | ok p2 => exact fun q vs S2 T2 H2 x2 r2 w2 => q (v :: vs) S2 T2 H2 (x1.trans x2) r2 (.cons (w1.mono x2.s) w2)
def lenX (n : Nat) (f : Sl → Rs (List D × Sl)) : Prop := ∀ st p, f st = .ok p → p.1.length = n
theorem lenX_nil : lenX 0 fun st => .ok ([], st) := fun st p e => by cases e; rfl
theorem lenX_cons {n : Nat} {f : Sl → Rs (D × Sl)} {g : Sl → Rs (List D × Sl)} (h : lenX n g) : lenX (n + 1) fun st => consX f g st := fun st p e => by
  have e : ((f st).bind fun p => (g p.2).bind fun q => Rs.ok (p.1 :: q.1, q.2)) = .ok p := e
  cases e1 : f st with
  | bad => rw [e1] at e; cases e
  | ex c => rw [e1] at e; cases e
  | ok r =>
    rw [e1] at e
    have e : ((g r.2).bind fun q => Rs.ok (r.1 :: q.1, q.2)) = .ok p := e
    cases e2 : g r.2 with
    | bad => rw [e2] at e; cases e
    | ex c => rw [e2] at e; cases e
    | ok q =>
      rw [e2] at e
      cases e
      rw [List.length_cons, h _ _ e2]
theorem lenX_le {n : Nat} {f : Sl → Rs (List D × Sl)} (h : lenX n f) (k : n ≤ 1000) : ∀ st p, f st = .ok p → p.1.length ≤ 1000 := fun st p e => by rw [h st p e]; exact k
/-- a display of what stays -/
theorem x_lst {n : Nat} {es : List Expr} {pos : Pos} {f : Sl → Rs (List D × Sl)} (h : EXs K W cl (PAf X es) f) (hl : ∀ st p, f st = .ok p → p.1.length ≤ 1000) : EXo K W cl (PEf X (.List es pos)) fun st => mapX (fun ds => O.lst (ds.map .sh)) (f st) := by
  obtain ⟨t, p, a⟩ := h.ex
  refine ⟨_, fun z => pe_lst (p z), fun S T st σ H Q r q => a S T st σ H _ r ?_⟩
  have q : PXo K cl W S T σ (mapX (fun ds => O.lst (ds.map .sh)) (f st)) Q := q
  have hl := hl st
  revert q hl
  cases f st with
  | bad => exact fun q _ => q
  | ex c => exact fun q _ => q
  | ok p =>
    intro q hl vs S' T' H' x r' w
    refine ⟨by rw [w.length]; exact Nat.le_trans (hl p rfl) (by rw [sizeLine_eq]; omega), fun l hn => ?_⟩
    have hu := same_upd (o := .lst vs) hn
    obtain ⟨f0, w0, n0, k0⟩ := r'.own
    refine q (.ref l) S' T' _ [l] x (r'.mono hu) (.lst upd_same (OwL.shs w)) (by simp) fun b hb => ?_
    rw [List.mem_singleton] at hb
    subst hb
    refine ⟨r'.th.free hn, fun f wf hf => ?_⟩
    have := (w0.mono (.refl _) fun c hc => upd_keep hn (w0.there c hc)).det wf
    subst this
    exact w0.there b hf hn
theorem x_tup {n : Nat} {es : List Expr} {x1 : Nat} {pos : Pos} {f : Sl → Rs (List D × Sl)} (h : EXs K W cl (PAf X es) f) (hl : ∀ st p, f st = .ok p → p.1.length ≤ 1000) : EXo K W cl (PEf X (.Tuple es x1 pos)) fun st => mapX (fun ds => O.tup (ds.map .sh)) (f st) := by
  obtain ⟨t, p, a⟩ := h.ex
  refine ⟨_, fun z => pe_tup (p z), fun S T st σ H Q r q => a S T st σ H _ r ?_⟩
  have q : PXo K cl W S T σ (mapX (fun ds => O.tup (ds.map .sh)) (f st)) Q := q
  have hl := hl st
  revert q hl
  cases f st with
  | bad => exact fun q _ => q
  | ex c => exact fun q _ => q
  | ok p =>
    intro q hl vs S' T' H' x r' w
    refine ⟨by rw [w.length]; exact Nat.le_trans (hl p rfl) (by rw [sizeLine_eq]; omega), fun l hn => ?_⟩
    have hu := same_upd (o := .tup vs) hn
    obtain ⟨f0, w0, n0, k0⟩ := r'.own
    refine q (.ref l) S' T' _ [l] x (r'.mono hu) (.tup upd_same (OwL.shs w)) (by simp) fun b hb => ?_
    rw [List.mem_singleton] at hb
    subst hb
    refine ⟨r'.th.free hn, fun f wf hf => ?_⟩
    have := (w0.mono (.refl _) fun c hc => upd_keep hn (w0.there c hc)).det wf
    subst this
    exact w0.there b hf hn
/-! ### calls -/
theorem x_call {n : Nat} {m : List D → Rs O} {R : TE → Prop} {es : List Expr} {fa : Sl → Rs (List D × Sl)} (hp : ∀ t, PAf X es t → R (tCallS (SpD K cl n m) (WE W) t)) (ha : EXs K W cl (PAf X es) fa) :
    EXo K W cl R fun st => callX n m fa st := by
  obtain ⟨ta, pa, ka⟩ := ha.ex
  refine ⟨_, hp _ pa, fun S T st σ H Q r q => ka S T st σ H _ r ?_⟩
  have q : PXo K cl W S T σ ((fa st).bind fun p => keepX (if p.1.length = n then m p.1 else .bad) p.2) Q := q
  revert q
  cases fa st with
  | bad => exact fun q => q
  | ex c => exact fun q => q
  | ok p =>
    intro q vs S1 T1 H1 x1 r1 w1
    have q : PXo K cl W S T σ (keepX (if p.1.length = n then m p.1 else .bad) p.2) Q := q
    by_cases hn : p.1.length = n
    · rw [if_pos hn] at q
      refine ⟨S1, p.1, hn, r1.sh, w1, ?_⟩
      revert q
      cases m p.1 with
      | bad => exact fun q => q
      | ex c => exact fun q H2 h2 => q T1 H2 x1.t (r1.th.trans h2)
      | ok o =>
        intro q v S2 H2 g e1 e2 e3 e4 w nd hg
        let T2 : Hp := fun b => match H1 b with
          | none => S2 b
          | some _ => T1 b
        have T2n : ∀ b, H1 b = none → T2 b = S2 b := fun b h => by show (match H1 b with | none => S2 b | some _ => T1 b) = S2 b; rw [h]
        have T2s : ∀ b, H1 b ≠ none → T2 b = T1 b := fun b h => by
          show (match H1 b with | none => S2 b | some _ => T1 b) = T1 b
          cases e : H1 b with
          | none => exact absurd e h
          | some u => rfl
        have n1 : ∀ b o, T1 b = some o → H1 b ≠ none := fun b o h => by rw [r1.th b o h]; simp
        have xx : Ext S1 T1 H1 S2 T2 := ⟨e1, fun b o h => by rw [T2s b (n1 b o h)]; exact h, fun b hb => ⟨e3 b hb, T2s b hb⟩⟩
        have l2 : Same S2 T2 := fun b o h => by
          by_cases hb : H1 b = none
          · rw [T2n b hb]; exact h
          · rw [T2s b hb]; rw [e3 b hb] at h; exact r1.lo b o h
        have t2 : Same T2 H2 := fun b o h => by
          by_cases hb : H1 b = none
          · rw [T2n b hb] at h; exact e4 b o h
          · rw [T2s b hb] at h; exact e2 b o (r1.th b o h)
        refine q v S2 T2 H2 g (x1.trans (xx.ex3 r1.th)) (r1.ext e2 xx l2 t2) w nd (r1.fresh e2 fun b hb => ⟨?_, (hg b hb).2⟩)
        rw [T2n b (hg b hb).2]; exact (hg b hb).1
    · rw [if_neg hn] at q
      exact q.elim
/-- a def that changes its first argument -/
def SpIO (K : PySem.W.Frag) (cl : Cl) (n : Nat) (m : O → List D → Rs O) : Sp := fun vs H Q E => ∃ S u ws o ds f, vs = u :: ws ∧ ds.length = n ∧ Same S H ∧ RpL K S ws ds ∧ Ow K S H u o f ∧ f.Nodup ∧ (∀ b ∈ f, S b = none) ∧ match m o ds with
  | .ok r => ∀ v S' H' g rr o', r = .tup [rr, o'] → Same S S' → (∀ b x, b ∉ f → H b = some x → H' b = some x) → (∀ b, H b ≠ none → b ∉ f → S' b = S b) → Same S' H' → OwL K S' H' [v, u] [rr, o'] g → g.Nodup → (∀ b ∈ g, S' b = none ∧ (b ∈ f ∨ H b = none)) → Q v H'
  | .ex c => ∀ H', (∀ b x, b ∉ f → H b = some x → H' b = some x) → E (.ref (cl c)) none H'
  | .bad => False
theorem SpIO.len {n : Nat} {m : O → List D → Rs O} : ∀ vs H Q E, SpIO K cl n m vs H Q E → vs.length = n + 1 := fun vs H Q E ⟨S, u, ws, o, ds, f, e, h, _, r, _⟩ => by rw [e, List.length_cons, r.length, h]
def unTup : O → Option (O × O)
  | .tup [a, b] => some (a, b)
  | _ => none
/-- f(own, args): what is told, and the tree put back -/
def callIO (j n : Nat) (m : O → List D → Rs O) (fa : Sl → Rs (List D × Sl)) (st : Sl) : Rs (O × Sl) := match st[j]? with
  | some (some _) => (fa st).bind fun p => if p.1.length = n then match p.2[j]? with
    | some (some o) => (m o p.1).bind fun r => match unTup r with
      | some (rr, o') => .ok (rr, p.2.set j (some o'))
      | none => .bad
    | _ => .bad
    else .bad
  | _ => .bad
theorem unTup_eq {r : O} {p : O × O} (h : unTup r = some p) : r = .tup [p.1, p.2] := by
  unfold unTup at h
  split at h
  · cases h; rfl
  · cases h
theorem x_callIO {j n : Nat} {m : O → List D → Rs O} {R : TE → Prop} {es : List Expr} {fa : Sl → Rs (List D × Sl)} (hp : ∀ t, PAf X es t → R (tCallS (SpIO K cl n m) (WE W) (tCons (tVar j) t))) (ha : EXs K W cl (PAf X es) fa) :
    EXo K W cl R fun st => callIO j n m fa st := by
  obtain ⟨ta, pa, ka⟩ := ha.ex
  refine ⟨_, hp _ pa, fun S T st σ H Q r q => ?_⟩
  have q : PXo K cl W S T σ (callIO j n m fa st) Q := q
  unfold callIO at q
  cases e0 : st[j]? with
  | none => rw [e0] at q; exact q.elim
  | some z =>
    rw [e0] at q
    cases z with
    | none => exact q.elim
    | some o0 =>
      dsimp only at q
      obtain ⟨u, g0, hu, _⟩ := r.focus e0
      refine ⟨u, hu, ka S T st σ H _ r ?_⟩
      revert q
      cases fa st with
      | bad => exact fun q => q
      | ex c => exact fun q => q
      | ok p =>
        intro q ws S1 T1 H1 x1 r1 w1
        have q : PXo K cl W S T σ (if p.1.length = n then match p.2[j]? with
          | some (some o) => (m o p.1).bind fun r => match unTup r with
            | some (rr, o') => .ok (rr, p.2.set j (some o'))
            | none => .bad
          | _ => .bad
          else .bad) Q := q
        by_cases hn : p.1.length = n
        · rw [if_pos hn] at q
          cases e1 : p.2[j]? with
          | none => rw [e1] at q; exact q.elim
          | some z =>
            rw [e1] at q
            cases z with
            | none => exact q.elim
            | some o =>
              dsimp only at q
              obtain ⟨fs, ws0, nds, ks⟩ := r1.own
              obtain ⟨u', f1, g, f2, hu', efs, hw, put, _⟩ := ws0.get e1
              rw [hu] at hu'
              cases hu'
              subst efs
              simp only [List.nodup_append, List.mem_append] at nds
              obtain ⟨⟨n1, n2, n3⟩, n4, n5⟩ := nds
              have kg : ∀ b ∈ g, T1 b = none := fun b hb => ks b (by simp [hb])
              have thr := ws0.there
              have hσ : σ.set j (some u) = σ := by
                apply List.ext_getElem?
                intro i
                by_cases hi : j = i
                · subst hi
                  rw [List.getElem?_set_self ((List.getElem?_eq_some_iff.mp hu).1), hu]
                · rw [List.getElem?_set_ne hi]
              refine ⟨S1, u, ws, o, p.1, g, rfl, hn, r1.sh, w1, hw, n2, fun b hb => r1.lo.free (kg b hb), ?_⟩
              revert q
              cases m o p.1 with
              | bad => exact fun q => q
              | ex c =>
                intro q H2 h2
                exact q T1 H2 x1.t fun b x e => h2 b x (fun hb => by rw [kg b hb] at e; cases e) (r1.th b x e)
              | ok rt =>
                intro q v S2 H2 gg rr o' ert e1 e2 e3 e4 w nd hg
                subst ert
                have q : PXo K cl W S T σ (.ok (rr, p.2.set j (some o'))) Q := q
                cases w with
                | @cons _ _ _ _ ga _ wa wb =>
                  cases wb with
                  | @cons _ _ _ _ gb _ wb wn =>
                    cases wn
                    rw [List.append_nil] at nd hg
                    let T2 : Hp := fun b => match T1 b with
                      | some x => some x
                      | none => S2 b
                    have T2n : ∀ b, T1 b = none → T2 b = S2 b := fun b h => by show (match T1 b with | some x => some x | none => S2 b) = S2 b; rw [h]
                    have T2s : ∀ b x, T1 b = some x → T2 b = some x := fun b x h => by show (match T1 b with | some x => some x | none => S2 b) = some x; rw [h]
                    have ng : ∀ b x, T1 b = some x → b ∉ g := fun b x h hb => by rw [kg b hb] at h; cases h
                    have t2 : Same T2 H2 := fun b x h => by
                      cases eb : T1 b with
                      | none => rw [T2n b eb] at h; exact e4 b x h
                      | some y =>
                        rw [T2s b y eb] at h
                        cases h
                        exact e2 b _ (ng b _ eb) (r1.th b _ eb)
                    have l2 : Same S2 T2 := fun b x h => by
                      cases eb : T1 b with
                      | none => rw [T2n b eb]; exact h
                      | some y =>
                        have a1 := e2 b y (ng b y eb) (r1.th b y eb)
                        rw [e4 b x h] at a1
                        cases a1
                        exact T2s b x eb
                    have x2 : Ex3 S1 T1 S2 T2 := ⟨e1, fun b x h => T2s b x h, fun b hb => by
                      cases eb : T1 b with
                      | none => exact absurd eb hb
                      | some y => exact e3 b (by rw [r1.th b y eb]; simp) (ng b y eb)⟩
                    have off : ∀ b, b ∈ f1 ++ f2 → b ∉ g := fun b hb hm => by
                      rcases List.mem_append.mp hb with z | z
                      · exact n3 b z b hm rfl
                      · exact n5 b (.inr hm) b z rfl
                    have thf : ∀ b, b ∈ f1 ++ f2 → H1 b ≠ none := fun b hb => thr b (by rcases List.mem_append.mp hb with z | z <;> simp [z])
                    have kept : ∀ b ∈ f1 ++ f2, H2 b = H1 b := fun b hb => by
                      cases eb : H1 b with
                      | none => exact absurd eb (thf b hb)
                      | some y => exact e2 b y (off b hb) eb
                    have w3 := put S2 H2 u o' gb e1 kept wb
                    rw [hσ] at w3
                    have gout : ∀ b, (b ∈ ga ∨ b ∈ gb) → b ∉ f1 ∧ b ∉ f2 := fun b hb => by
                      have := (hg b (by rcases hb with z | z <;> simp [z])).2
                      refine ⟨fun z => ?_, fun z => ?_⟩
                      · rcases this with y | y
                        · exact off b (by simp [z]) y
                        · exact thf b (by simp [z]) y
                      · rcases this with y | y
                        · exact off b (by simp [z]) y
                        · exact thf b (by simp [z]) y
                    have gT : ∀ b, (b ∈ ga ∨ b ∈ gb) → T2 b = none := fun b hb => by
                      have h := hg b (by rcases hb with z | z <;> simp [z])
                      have : T1 b = none := by
                        rcases h.2 with y | y
                        · exact kg b y
                        · exact r1.th.free y
                      rw [T2n b this]; exact h.1
                    rw [List.nodup_append] at nd
                    refine q v S2 T2 H2 ga (x1.trans x2) ⟨l2, t2, _, w3, ?_, fun b hb => ?_⟩ wa nd.1 fun b hb => ⟨gT b (.inl hb), fun f' wf hf => ?_⟩
                    · simp only [List.nodup_append, List.mem_append]
                      exact ⟨⟨n1, nd.2.1, fun a ha b hb z => (gout b (.inr hb)).1 (z ▸ ha)⟩, n4, fun a ha b hb z => by
                        rcases ha with ha | ha
                        · exact n5 a (.inl ha) b hb z
                        · exact (gout a (.inr ha)).2 (z ▸ hb)⟩
                    · simp only [List.mem_append] at hb
                      have fT : ∀ b, b ∈ f1 ++ f2 → T2 b = none := fun b hb => by
                        have a1 : T1 b = none := ks b (by rcases List.mem_append.mp hb with z | z <;> simp [z])
                        rw [T2n b a1, e3 b (thf b hb) (off b hb)]
                        exact r1.lo.free a1
                      rcases hb with (hb | hb) | hb
                      · exact fT b (by simp [hb])
                      · exact gT b (.inr hb)
                      · exact fT b (by simp [hb])
                    · have := w3.det wf
                      subst this
                      simp only [List.mem_append] at hf
                      rcases hf with (hf | hf) | hf
                      · exact (gout b (.inl hb)).1 hf
                      · exact nd.2.2 b hb b hf rfl
                      · exact (gout b (.inl hb)).2 hf
        · rw [if_neg hn] at q
          exact q.elim
end
end M

/-! Statements over expressions through which the slots' trees go on; defs that change their first argument. -/
namespace M
open PySem L2
section
variable {ι : Type} {X : ι → Cx} {W : WX} {cl : Cl} {K : PySem.W.Frag} {sh : Ps} {pv : Nat → V}
/-! ### tests -/
def boolX (r : Rs (D × Sl)) : Rs (Bool × Sl) := r.bind fun p => match p.1 with
  | .bl k => .ok (k, p.2)
  | _ => .bad
theorem xt_val {e : Expr} {f : Sl → Rs (D × Sl)} (h : EX K W cl (PEf X e) f) (he : ∀ z whole, isTrue e (X z).env whole = (do let v ← whole; standAt e.pos; holding [v] (truthy v)) := by intro _ _; rfl) : XT K W cl (PTf X e) fun st => boolX (f st) := by
  obtain ⟨t, p, k⟩ := h.ex
  refine ⟨_, fun z => pt_val (p z) (he z), fun S T st σ H Q r q => k S T st σ H _ r ?_⟩
  have q : PXb K cl W S T σ (boolX (f st)) Q := q
  revert q
  cases f st with
  | bad => exact fun q => q
  | ex c => exact fun q => q
  | ok p =>
    obtain ⟨d, st'⟩ := p
    intro q v S1 T1 H1 x r1 rp
    cases rp with
    | bl b => exact ⟨b, rfl, q S1 T1 H1 x r1⟩
    | _ => exact q.elim
theorem xt_cmp {a b : Expr} {op : CmpOp} {pos : Pos} {r : R2} {g : D → D → Option D} {fa fb : Sl → Rs (D × Sl)} (ho : ∀ z, OpR (X z) (compareOp op) r) (hg : Op2 K r g) (hm : behindInMarks op b = false) (ha : EX K W cl (PEf X a) fa) (hb : EX K W cl (PEf X b) fb) :
    XT K W cl (PTf X (.Compare a [op] [b] pos)) fun st => boolX (opX g fa fb st) := by
  obtain ⟨ta, pa, ka⟩ := ha.ex
  obtain ⟨tb, pb, kb⟩ := hb.ex
  refine ⟨_, fun z => pt_cmpR (ho z) (pa z) (pb z) hm, fun S T st σ H Q rs q => ka S T st σ H _ rs ?_⟩
  have q : PXb K cl W S T σ (boolX ((fa st).bind fun p => (fb p.2).bind fun q => keepX (asPrim (ofO (g p.1 q.1))) q.2)) Q := q
  revert q
  cases fa st with
  | bad => exact fun q => q
  | ex c => exact fun q => q
  | ok p =>
    intro q v S1 T1 H1 x1 r1 w1
    refine kb S1 T1 p.2 σ H1 _ r1 ?_
    have q : PXb K cl W S T σ (boolX ((fb p.2).bind fun q => keepX (asPrim (ofO (g p.1 q.1))) q.2)) Q := q
    revert q
    cases fb p.2 with
    | bad => exact fun q => q
    | ex c => exact fun q T2 H2 y => q T2 H2 (x1.t.trans y)
    | ok p2 =>
      intro q v2 S2 T2 H2 x2 r2 w2
      have q : PXb K cl W S T σ (boolX (keepX (asPrim (ofO (g p.1 p2.1))) p2.2)) Q := q
      cases ez : g p.1 p2.1 with
      | none => rw [ez] at q; exact q.elim
      | some z =>
        rw [ez] at q
        have q : PXb K cl W S T σ (boolX (keepX (if prim z = true then .ok z else .bad) p2.2)) Q := q
        by_cases pz : prim z = true
        · rw [if_pos pz] at q
          refine hg H2 v v2 p.1 p2.1 z _ ((w1.mono x2.s).mono r2.sh) (w2.mono r2.sh) ez fun v' H3 h3 w3 => ?_
          cases w3 with
          | bl b => exact ⟨b, rfl, q S2 T2 H3 (x1.trans x2) (r2.mono h3)⟩
          | _ => exact q.elim
        · rw [if_neg pz] at q
          exact q.elim
theorem xt_not {a : Expr} {pos : Pos} {f : Sl → Rs (Bool × Sl)} (h : XT K W cl (PTf X a) f) : XT K W cl (PTf X (.UnaryOp .Not a pos)) fun st => mapX (!·) (f st) := by
  obtain ⟨t, p, k⟩ := h.ex
  refine ⟨_, fun z => pt_not (p z), fun S T st σ H Q r q => k S T st σ H _ r ?_⟩
  have q : PXb K cl W S T σ (mapX (!·) (f st)) Q := q
  revert q
  cases f st with
  | bad => exact fun q => q
  | ex c => exact fun q => q
  | ok d => exact fun q S1 T1 H1 x r1 => q S1 T1 H1 x r1
theorem xw_and1 {a : Expr} {pos : Pos} {f : Sl → Rs (Bool × Sl)} (h : XT K W cl (PTf X a) f) : XT K W cl (PWf X (.BoolOp .And [a] pos)) f := by
  obtain ⟨t, p, k⟩ := h.ex
  exact ⟨_, fun z => pw_and1 (p z), k⟩
theorem xw_or1 {a : Expr} {pos : Pos} {f : Sl → Rs (Bool × Sl)} (h : XT K W cl (PTf X a) f) : XT K W cl (PWf X (.BoolOp .Or [a] pos)) f := by
  obtain ⟨t, p, k⟩ := h.ex
  exact ⟨_, fun z => pw_or1 (p z), k⟩
theorem xt_w {e : Expr} {f : Sl → Rs (Bool × Sl)} (h : XT K W cl (PWf X e) f) : XT K W cl (PTf X e) f := by
  obtain ⟨t, p, k⟩ := h.ex
  exact ⟨_, fun z => (p z).pt, k⟩
def andX (a b : Sl → Rs (Bool × Sl)) (st : Sl) : Rs (Bool × Sl) := (a st).bind fun p => if p.1 = true then b p.2 else .ok (false, p.2)
def orX (a b : Sl → Rs (Bool × Sl)) (st : Sl) : Rs (Bool × Sl) := (a st).bind fun p => if p.1 = true then .ok (true, p.2) else b p.2
theorem xw_and {a b : Expr} {rest : List Expr} {pos : Pos} {f g : Sl → Rs (Bool × Sl)} (h : XT K W cl (PTf X a) f) (h2 : XT K W cl (PWf X (.BoolOp .And (b :: rest) pos)) g) :
    XT K W cl (PWf X (.BoolOp .And (a :: b :: rest) pos)) fun st => andX f g st := by
  obtain ⟨t, p, k⟩ := h.ex
  obtain ⟨u, pu, ku⟩ := h2.ex
  refine ⟨_, fun z => pw_and (p z) (pu z), fun S T st σ H Q r q => k S T st σ H _ r ?_⟩
  have q : PXb K cl W S T σ ((f st).bind fun p => if p.1 = true then g p.2 else .ok (false, p.2)) Q := q
  revert q
  cases f st with
  | bad => exact fun q => q
  | ex c => exact fun q => q
  | ok p =>
    obtain ⟨b, st'⟩ := p
    cases b with
    | false => exact fun q S1 T1 H1 x r1 => iteF (q S1 T1 H1 x r1)
    | true => exact fun q S1 T1 H1 x r1 => iteT (ku S1 T1 st' σ H1 Q r1 (PXb.mono (r := g st') x q))
theorem xw_or {a b : Expr} {rest : List Expr} {pos : Pos} {f g : Sl → Rs (Bool × Sl)} (h : XT K W cl (PTf X a) f) (h2 : XT K W cl (PWf X (.BoolOp .Or (b :: rest) pos)) g) :
    XT K W cl (PWf X (.BoolOp .Or (a :: b :: rest) pos)) fun st => orX f g st := by
  obtain ⟨t, p, k⟩ := h.ex
  obtain ⟨u, pu, ku⟩ := h2.ex
  refine ⟨_, fun z => pw_or (p z) (pu z), fun S T st σ H Q r q => k S T st σ H _ r ?_⟩
  have q : PXb K cl W S T σ ((f st).bind fun p => if p.1 = true then .ok (true, p.2) else g p.2) Q := q
  revert q
  cases f st with
  | bad => exact fun q => q
  | ex c => exact fun q => q
  | ok p =>
    obtain ⟨b, st'⟩ := p
    cases b with
    | true => exact fun q S1 T1 H1 x r1 => iteT (q S1 T1 H1 x r1)
    | false => exact fun q S1 T1 H1 x r1 => iteF (ku S1 T1 st' σ H1 Q r1 (PXb.mono (r := g st') x q))
/-! ### what is walked -/
def rangeX (r : Rs (D × Sl)) : Rs (List D × Sl) := r.bind fun p => match p.1 with
  | .int j => if rngOk j = true then .ok (rangeL 0 j.toNat, p.2) else .bad
  | _ => .bad
theorem xi_range1 {a : Expr} {R : TI → Prop} {f : Sl → Rs (D × Sl)} (hp : ∀ t, PAf X [a] t → R (iRng1 t)) (h : EX K W cl (PEf X a) f) (hs : ∀ z, starEach [a] (X z).env = [(false, eval a (X z).env)] := by intro _; rfl) : EXi K W cl R fun st => rangeX (f st) := by
  obtain ⟨t, p, k⟩ := h.ex
  refine ⟨_, hp _ fun z => pa_cons (p z) pa_nil (hs z), fun S T st σ H Q r q => k S T st σ H _ r ?_⟩
  revert q
  show (match rangeX (f st) with | .ok (ds, st') => _ | .ex c => _ | .bad => _) → _
  cases f st with
  | bad => exact fun q => q
  | ex c => exact fun q => q
  | ok p =>
    obtain ⟨d, st'⟩ := p
    cases d with
    | int j =>
      show (match (if rngOk j = true then Rs.ok (rangeL 0 j.toNat, st') else Rs.bad) with | .ok (ds, st') => _ | .ex c => _ | .bad => _) → _
      by_cases c : rngOk j = true
      · rw [if_pos c]
        intro q v S1 T1 H1 x r1 w1
        cases w1
        unfold rngOk at c
        simp only [Bool.and_eq_true, decide_eq_true_eq] at c
        exact ⟨j, rfl, c.1, c.2, q (Itr 0 j.toNat) S1 T1 H1 x r1 range_yields⟩
      · rw [if_neg c]
        exact fun q => q.elim
    | _ => exact fun q => q.elim
def elemsX (r : Rs (D × Sl)) : Rs (List D × Sl) := r.bind fun p => (ofO (elems p.1)).bind fun ds => .ok (ds, p.2)
theorem xi_list {tg e : Expr} {f : Sl → Rs (D × Sl)} (h : EX K W cl (PEf X e) f) (hK : ∀ z, (X z).K = K := by intro _; rfl) : EXi K W cl (PIf X tg e) fun st => elemsX (f st) := by
  obtain ⟨t, p, a⟩ := h.ex
  refine ⟨iList K t, fun z => hK z ▸ pi_list (p z), fun S T st σ H Q r q => a S T st σ H _ r ?_⟩
  revert q
  show (match elemsX (f st) with | .ok (ds, st') => _ | .ex c => _ | .bad => _) → _
  cases f st with
  | bad => exact fun q => q
  | ex c => exact fun q => q
  | ok p =>
    obtain ⟨d, st'⟩ := p
    show (match (ofO (elems d)).bind (fun ds => Rs.ok (ds, st')) with | .ok (ds, st') => _ | .ex c => _ | .bad => _) → _
    cases e1 : elems d with
    | none => exact fun q => q.elim
    | some ds =>
      intro q v S1 T1 H1 x r1 w1
      obtain ⟨ad, us, rfl, hq, rl⟩ := w1.seqL e1
      refine ⟨ad, rfl, ⟨us, r1.sh.seq hq⟩, q (Itl K ad) S1 T1 H1 x r1 ⟨fun i H2 k hi => ?_, fun i H2 k hi => ?_, fun i H2 x H3 d k e y => ?_⟩⟩
      · exact ⟨us, k.seq hq, by rw [rl.length]; exact hi⟩
      · exact ⟨us, us[i]'(by rw [rl.length]; exact hi), k.seq hq, by simp⟩
      · obtain ⟨y1, y2⟩ := y
        have := y2 us (k.seq hq)
        obtain ⟨u, e2, r2⟩ := rl.get e
        rw [this] at e2
        cases e2
        exact .inl ⟨y1, r2⟩
/-! ### statements -/
theorem PSt.low {S T S1 T1 : Hp} {r : Fl} {E : Ends} (x : Ex3 S T S1 T1) (h : PSt K cl W sh pv S T r E) : PSt K cl W sh pv S1 T1 r E := PSt.mono x h
def setX (i : Nat) (r : Rs (O × Sl)) : Fl := match r with
  | .ok (o, st) => if i < st.length then .nx (st.set i (some o)) else .bad
  | .ex c => .ex c
  | .bad => .bad
theorem s_setX {R : TE → Prop} {i : Nat} {s : Stmt} {f : Sl → Rs (O × Sl)} (hp : ∀ t, R t → PSf X s (tAsg t (gName i))) (h : EXo K W cl R f) (hpn : sh.okAt i = true := by rfl) : SJ K W cl sh (PSf X s) fun st => setX i (f st) := by
  obtain ⟨t, p, a⟩ := h.ex
  refine ⟨_, hp _ p, fun pv S T st σ H E r pi q => a S T st σ H _ r ?_⟩
  have q : PSt K cl W sh pv S T (setX i (f st)) E := q
  revert q
  unfold setX
  cases f st with
  | bad => exact fun q => q
  | ex c => exact fun q T1 H1 h1 h2 => q σ T1 H1 h1 h2
  | ok p =>
    obtain ⟨o, st'⟩ := p
    intro q v S1 T1 H1 g x1 r1 w1 n1 k1
    have q : PSt K cl W sh pv S T (if i < st'.length then .nx (st'.set i (some o)) else .bad) E := q
    by_cases c : i < st'.length
    · rw [if_pos c] at q
      exact q S1 T1 (σ.set i (some v)) H1 x1 (r1.set c w1 n1 (fun b hb => (k1 b hb).1) fun f w b hb => (k1 b hb).2 f w) (pi.set hpn _)
    · rw [if_neg c] at q
      exact q.elim
def asgX (g : D → Sl → Option Sl) (r : Rs (D × Sl)) : Fl := match r with
  | .ok (d, st) => match g d st with
    | some st' => .nx st'
    | none => .bad
  | .ex c => .ex c
  | .bad => .bad
theorem s_asgX {R : TE → Prop} {tg : Expr} {vs : List Nat} {s : Stmt} {f : Sl → Rs (D × Sl)} {g : D → Sl → Option Sl} (hp : ∀ t u, R t → PGf X tg u → PSf X s (tAsg t u)) (hg : EG K (PGf X tg) vs g) (h : EX K W cl R f) (hpn : vs.all (fun i => sh.okAt i) = true := by rfl) :
    SJ K W cl sh (PSf X s) fun st => asgX g (f st) := by
  obtain ⟨t, p, a⟩ := h.ex
  obtain ⟨u, pu, b⟩ := hg.ex
  refine ⟨_, hp _ _ p pu, fun pv S T st σ H E r pi q => a S T st σ H _ r ?_⟩
  have q : PSt K cl W sh pv S T (asgX g (f st)) E := q
  revert q
  unfold asgX
  cases f st with
  | bad => exact fun q => q
  | ex c => exact fun q T1 H1 h1 h2 => q σ T1 H1 h1 h2
  | ok p =>
    obtain ⟨d, st'⟩ := p
    intro q v S1 T1 H1 x1 r1 w1
    have q : PSt K cl W sh pv S T (match g d st' with | some st' => .nx st' | none => .bad) E := q
    cases e : g d st' with
    | none => rw [e] at q; exact q.elim
    | some st2 =>
      rw [e] at q
      exact b S1 T1 st' σ H1 v d st2 _ r1 w1 e fun σ' _ k' r' => q S1 T1 σ' H1 x1 r' (pi.keep hpn k')
def parX (i j : Nat) (r : Rs (List D × Sl)) : Fl := match r with
  | .ok ([d, e], st) => if i < st.length ∧ j < st.length then .nx ((st.set i (some (.sh d))).set j (some (.sh e))) else .bad
  | .ok _ => .bad
  | .ex c => .ex c
  | .bad => .bad
theorem s_parX {R : TA → Prop} {i j : Nat} {s : Stmt} {f : Sl → Rs (List D × Sl)} (hp : ∀ t, R t → PSf X s (tPar i j t)) (h : EXs K W cl R f) (hpn : sh.okAt i = true := by rfl) (hpn2 : sh.okAt j = true := by rfl) : SJ K W cl sh (PSf X s) fun st => parX i j (f st) := by
  obtain ⟨t, p, a⟩ := h.ex
  refine ⟨_, hp _ p, fun pv S T st σ H E r pi q => a S T st σ H _ r ?_⟩
  have q : PSt K cl W sh pv S T (parX i j (f st)) E := q
  revert q
  cases f st with
  | bad => exact fun q => q
  | ex c => exact fun q T1 H1 h1 h2 => q σ T1 H1 h1 h2
  | ok p =>
    obtain ⟨ds, st'⟩ := p
    intro q vs S1 T1 H1 x1 r1 w1
    cases w1 with
    | nil => exact q.elim
    | cons ha w1 =>
      cases w1 with
      | nil => exact q.elim
      | cons hb w1 =>
        cases w1 with
        | cons _ _ => exact q.elim
        | nil =>
          rename_i v d w e
          have q : PSt K cl W sh pv S T (if i < st'.length ∧ j < st'.length then .nx ((st'.set i (some (.sh d))).set j (some (.sh e))) else .bad) E := q
          by_cases c : i < st'.length ∧ j < st'.length
          · rw [if_pos c] at q
            exact ⟨v, w, rfl, q S1 T1 _ H1 x1 ((r1.setSh c.1 ha).setSh (by rw [List.length_set]; exact c.2) hb) ((pi.set hpn _).set hpn2 _)⟩
          · rw [if_neg c] at q
            exact q.elim
def dropX {α : Type} (r : Rs (α × Sl)) : Fl := match r with
  | .ok (_, st) => .nx st
  | .ex c => .ex c
  | .bad => .bad
theorem s_exprX {R : TE → Prop} {s : Stmt} {f : Sl → Rs (O × Sl)} (hp : ∀ t, R t → PSf X s (tDrop t)) (h : EXo K W cl R f) : SJ K W cl sh (PSf X s) fun st => dropX (f st) := by
  obtain ⟨t, p, a⟩ := h.ex
  refine ⟨_, hp _ p, fun pv S T st σ H E r pi q => a S T st σ H _ r ?_⟩
  have q : PSt K cl W sh pv S T (dropX (f st)) E := q
  revert q
  cases f st with
  | bad => exact fun q => q
  | ex c => exact fun q T1 H1 h1 h2 => q σ T1 H1 h1 h2
  | ok p => exact fun q v S1 T1 H1 g x1 r1 _ _ _ => q S1 T1 σ H1 x1 r1 pi
def ifX (c : Rs (Bool × Sl)) (a b : Sl → Fl) : Fl := match c with
  | .ok (k, st) => if k = true then a st else b st
  | .ex c => .ex c
  | .bad => .bad
theorem s_ifX {c : Expr} {a b : List Stmt} {pos : Pos} {fc : Sl → Rs (Bool × Sl)} {f g : Sl → Fl} (hc : XT K W cl (PTf X c) fc) (ha : SJ K W cl sh (PSsf X a) f) (hb : SJ K W cl sh (PSsf X b) g) : SJ K W cl sh (PSf X (.If c a b pos)) fun st => ifX (fc st) f g := by
  obtain ⟨t, p, k⟩ := hc.ex
  obtain ⟨ta, pa, ka⟩ := ha.ex
  obtain ⟨tb, pb, kb⟩ := hb.ex
  refine ⟨_, fun z => ps_if (p z) (pa z) (pb z), fun pv S T st σ H E r pi q => k S T st σ H _ r ?_⟩
  have q : PSt K cl W sh pv S T (ifX (fc st) f g) E := q
  revert q
  cases fc st with
  | bad => exact fun q => q
  | ex c => exact fun q T1 H1 h1 h2 => q σ T1 H1 h1 h2
  | ok p =>
    obtain ⟨k, st'⟩ := p
    cases k with
    | true => exact fun q S1 T1 H1 x1 r1 => iteT (ka pv S1 T1 st' σ H1 E r1 pi (PSt.mono (r := f st') x1 q))
    | false => exact fun q S1 T1 H1 x1 r1 => iteF (kb pv S1 T1 st' σ H1 E r1 pi (PSt.mono (r := g st') x1 q))
/-- a loop over what a state's expression tells -/
def forX (it : Rs (List D × Sl)) (tg : D → Sl → Option Sl) (body : Sl → Fl) : Fl := match it with
  | .ok (ds, st) => forF tg body ds st
  | .ex c => .ex c
  | .bad => .bad
theorem s_forX {tgE iter : Expr} {bs : List Stmt} {s : Stmt} {us : List Nat} {fi : Sl → Rs (List D × Sl)} {tg : D → Sl → Option Sl} {body : Sl → Fl} (hp : ∀ wi g tb, PIf X tgE iter wi → PGf X tgE g → PSsf X bs tb → PSf X s (tFor wi g tb))
    (hi : EXi K W cl (PIf X tgE iter) fi) (hg : EG K (PGf X tgE) us tg) (hb : SJ K W cl sh (PSsf X bs) body) (hpn : us.all (fun i => sh.okAt i) = true := by rfl) : SJ K W cl sh (PSf X s) fun st => forX (fi st) tg body := by
  obtain ⟨wi, pi_, ki⟩ := hi.ex
  obtain ⟨g, pg, kg⟩ := hg.ex
  obtain ⟨tb, pb, kb⟩ := hb.ex
  refine ⟨_, hp _ _ _ pi_ pg pb, fun pv S T st σ H E r pi q => ki S T st σ H _ r ?_⟩
  have q : PSt K cl W sh pv S T (forX (fi st) tg body) E := q
  revert q
  cases fi st with
  | bad => exact fun q => q
  | ex c => exact fun q T1 H1 h1 h2 => q σ T1 H1 h1 h2
  | ok p =>
    obtain ⟨ds, st⟩ := p
    intro q J S1 T1 H1 x1 r1 y1
    have q : PSt K cl W sh pv S1 T1 (forF tg body ds st) E := PSt.mono x1 q
    refine ⟨fun i m σ2 H2 => m = ds.length - i ∧ i ≤ ds.length ∧ ∃ S2 T2 st2, Ex3 S1 T1 S2 T2 ∧ RS K S2 T2 st2 σ2 H2 ∧ Pin sh pv σ2 ∧ PSt K cl W sh pv S2 T2 (forF tg body (ds.drop i) st2) E, ⟨ds.length, by simp, Nat.zero_le _, S1, T1, st, .refl, r1, pi, by rw [List.drop_zero]; exact q⟩, ?_⟩
    rintro i m σ2 H2 ⟨rfl, hi, S2, T2, st2, x2, r2, p2, q2⟩
    by_cases hlt : i < ds.length
    · have edrop : ds.drop i = ds[i] :: ds.drop (i + 1) := by rw [List.drop_eq_getElem_cons hlt]
      rw [edrop] at q2
      unfold forF at q2
      cases e1 : tg ds[i] st2 with
      | none => rw [e1] at q2; exact q2.elim
      | some st3 =>
        rw [e1] at q2
        dsimp only at q2
        refine .inr ⟨y1.go i H2 (x2.s.trans r2.sh) hlt, fun σ3 H3 => i + 1 ≤ ds.length ∧ ∃ S2 T2 st2, Ex3 S1 T1 S2 T2 ∧ RS K S2 T2 st2 σ3 H3 ∧ Pin sh pv σ3 ∧ PSt K cl W sh pv S2 T2 (forF tg body (ds.drop (i + 1)) st2) E, fun σ3 H3 p3 => ⟨ds.length - (i + 1), by omega, rfl, p3⟩, fun x H3 y => ?_⟩
        have yl := (y1.mono x2.s).yld i H2 x H3 ds[i] r2.sh (by simp [hlt]) y
        obtain ⟨S3, T3, hs3, x3, r3, rp3⟩ := yl.ext r2
        have q3 := PSt.mono (x3.ex3 r2.th) q2
        refine kg S3 T3 st2 σ2 H3 x ds[i] st3 _ r3 rp3 e1 fun σ4 l4 k4 r4 => kb pv S3 T3 st3 σ4 H3 _ r4 (p2.keep hpn k4) ?_
        have x13 := x2.trans (x3.ex3 r2.th)
        revert q3
        cases body st3 with
        | nx st4 => exact fun q3 S5 T5 σ5 H5 x5 r5 p5 => ⟨hlt, S5, T5, st4, x13.trans x5, r5, p5, PSt.mono (r := forF tg body (ds.drop (i + 1)) st4) x5 q3⟩
        | ct st4 => exact fun q3 S5 T5 σ5 H5 x5 r5 p5 => ⟨hlt, S5, T5, st4, x13.trans x5, r5, p5, PSt.mono (r := forF tg body (ds.drop (i + 1)) st4) x5 q3⟩
        | bk st4 => exact fun q3 S5 T5 σ5 H5 x5 r5 p5 => q3 S5 T5 σ5 H5 x5 r5 p5
        | rt o => exact fun q3 => q3
        | ex c => exact fun q3 => q3
        | bad => exact fun q3 => q3
    · have e : i = ds.length := by omega
      subst e
      rw [List.drop_length] at q2
      exact .inl ⟨y1.stop _ H2 (x2.s.trans r2.sh) (Nat.le_refl _), q2 S2 T2 σ2 H2 .refl r2 p2⟩
/-- x.append(e) -/
def appX (i : Nat) (r : Rs (O × Sl)) : Fl := match r with
  | .ok (o, st) => match st[i]? with
    | some (some (.lst os)) => if os.length < sizeLine then .nx (st.set i (some (.lst (os ++ [o])))) else .bad
    | _ => .bad
  | .ex c => .ex c
  | .bad => .bad
def hasL (i : Nat) (st : Sl) : Bool := match st[i]? with
  | some (some (.lst _)) => true
  | _ => false
theorem hasL_eq {i : Nat} {st : Sl} (h : hasL i st = true) : ∃ os, st[i]? = some (some (.lst os)) := by
  unfold hasL at h
  split at h
  · next os e => exact ⟨os, e⟩
  · cases h
theorem s_appX {i : Nat} {e : Expr} {s : Stmt} {f : Sl → Rs (O × Sl)} (hp : ∀ t, PAf X [e] t → PSf X s (tDrop (tBM K "list" rAppend (tVar i) t))) (h : EXo K W cl (PEf X e) f) (hs : ∀ z, starEach [e] (X z).env = [(false, eval e (X z).env)] := by intro _; rfl) :
    SJ K W cl sh (PSf X s) fun st => if hasL i st = true then appX i (f st) else .bad := by
  obtain ⟨t, p, a⟩ := h.ex
  refine ⟨_, hp _ fun z => pa_cons (p z) pa_nil (hs z), fun pv S T st σ H E r pi q => ?_⟩
  by_cases hl : hasL i st = true
  rotate_left
  · rw [if_neg hl] at q; exact q.elim
  rw [if_pos hl] at q
  obtain ⟨os0, e0⟩ := hasL_eq hl
  obtain ⟨v, g, h1, h2, _⟩ := r.focus e0
  cases h2 with
  | @lst p0 vs _ f0 hl0 ow0 =>
    refine ⟨.ref p0, h1, .inl ⟨rfl, vs, SqL.of hl0⟩, a S T st σ H _ r ?_⟩
    revert q
    unfold appX
    cases f st with
    | bad => exact fun q => q
    | ex c => exact fun q T1 H1 h1 h2 => q σ T1 H1 h1 h2
    | ok pp =>
      obtain ⟨o, st'⟩ := pp
      intro q v1 S1 T1 H1 g1 x1 r1 w1 n1 k1
      dsimp only at q
      split at q
      case h_2 => exact q.elim
      case h_1 os e1 =>
        by_cases c : os.length < sizeLine
        · rw [if_pos c] at q
          obtain ⟨v2, g2, e2, w2, n2, k2, inn, put⟩ := r1.focus e1
          rw [h1] at e2
          cases e2
          cases w2 with
          | @lst _ vs2 _ f2 hl2 ow2 =>
            obtain ⟨fA, wA, _, _⟩ := r1.own
            have pg : ∀ b ∈ g1, b ∉ p0 :: f2 := fun b hb hm => (k1 b hb).2 fA wA (inn fA wA b hm)
            have pf : p0 ∉ f2 := (List.nodup_cons.mp n2).1
            have pg1 : p0 ∉ g1 := fun z => pg p0 z (by simp)
            refine ⟨p0, vs2, v1, rfl, rfl, hl2, by rw [ow2.length]; exact c, ?_⟩
            refine q S1 T1 σ _ x1 (put (upd H1 p0 (.lst (vs2 ++ [v1]))) (.lst (os ++ [o])) (p0 :: (f2 ++ g1)) (fun b hb => upd_ne fun e => hb (by rw [e]; simp)) ?_ ?_ fun b hb => ?_) pi
            · have w3 : OwL K S1 (upd H1 p0 (.lst (vs2 ++ [v1]))) vs2 os f2 := ow2.mono (.refl _) fun b hb => upd_ne fun e => pf (e ▸ hb)
              have w4 : Ow K S1 (upd H1 p0 (.lst (vs2 ++ [v1]))) v1 o g1 := w1.mono (.refl _) fun b hb => upd_ne fun e => pg1 (e ▸ hb)
              have := w3.append (.cons w4 .nil)
              rw [List.append_nil] at this
              exact .lst upd_same this
            · rw [List.nodup_cons, List.mem_append, List.nodup_append]
              exact ⟨fun z => z.elim pf pg1, (List.nodup_cons.mp n2).2, n1, fun a ha b hb e => pg b hb (by rw [← e]; simp [ha])⟩
            · rcases List.mem_cons.mp hb with rfl | hb
              · exact .inl (by simp)
              · rcases List.mem_append.mp hb with hb | hb
                · exact .inl (by simp [hb])
                · exact .inr (k1 b hb)
        · rw [if_neg c] at q
          exact q.elim
/-- x[k] = e, the index looked at behind -/
def putX (i : Nat) (r : Rs (O × Sl)) (k : Sl → Rs D) : Fl := match r with
  | .ok (o, st) => putR i (.ok o) (k st) st
  | .ex c => .ex c
  | .bad => .bad
theorem s_putX {R : TE → Prop} {i : Nat} {e2 : Expr} {s : Stmt} {f : Sl → Rs (O × Sl)} {k : Sl → Rs D} (hp : ∀ t u, R t → PEf X e2 u → PSf X s (tAsg t (gSub (tVar i) u rSetL))) (h : EXo K W cl R f) (hk : EV K W0 cl (PEf X e2) k) :
    SJ K W cl sh (PSf X s) fun st => putX i (f st) k := by
  obtain ⟨t, p, a⟩ := h.ex
  obtain ⟨u, pu, b⟩ := hk.ex
  refine ⟨_, hp _ _ p pu, fun pv S T st σ H E r pi q => a S T st σ H _ r ?_⟩
  have q : PSt K cl W sh pv S T (putX i (f st) k) E := q
  revert q
  unfold putX
  cases f st with
  | bad => exact fun q => q
  | ex c => exact fun q T1 H1 h1 h2 => q σ T1 H1 h1 h2
  | ok pp =>
    obtain ⟨o, st'⟩ := pp
    intro q v1 S1 T1 H1 g1 x1 r1 w1 n1 k1
    dsimp only at q
    unfold putR at q
    dsimp only at q
    cases e0 : st'[i]? with
    | none => rw [e0] at q; exact q.elim
    | some z =>
      rw [e0] at q
      cases z with
      | none => exact q.elim
      | some o0 =>
        cases o0 with
        | sh _ => exact q.elim
        | tup _ => exact q.elim
        | lst os =>
          dsimp only at q
          obtain ⟨vv, gg, h1, _⟩ := r1.focus e0
          refine ⟨vv, h1, b S1 T1 st' σ H1 _ r1 ?_⟩
          revert q
          cases k st' with
          | bad => exact fun q => q.elim
          | ex c => exact fun q => q.elim
          | ok d =>
            cases d with
            | int j =>
              intro q w H2 hs2 rw2
              cases rw2
              dsimp only at q
              cases e3 : ixN os.length j with
              | none => rw [e3] at q; exact q.elim
              | some m =>
                rw [e3] at q
                have r2 := r1.mono hs2
                obtain ⟨v2, g2, e2, w2, n2, k2, inn, put⟩ := r2.focus e0
                rw [h1] at e2
                cases e2
                cases w2 with
                | @lst p0 vs2 _ f2 hl2 ow2 =>
                  have fr : ∀ b ∈ g1, T1 b = none ∧ ∀ f, OwSt K S1 H2 σ st' f → b ∉ f := fun b hb => ⟨(k1 b hb).1, fun f wf => by
                    obtain ⟨f0, w0, _, _⟩ := r1.own
                    have := (w0.mono (.refl _) fun c hc => same_ne hs2 (w0.there c hc)).det wf
                    subst this
                    exact (k1 b hb).2 f0 w0⟩
                  obtain ⟨fA, wA, _, _⟩ := r2.own
                  have pg : ∀ b ∈ g1, b ∉ p0 :: f2 := fun b hb hm => (fr b hb).2 fA wA (inn fA wA b hm)
                  have pf : p0 ∉ f2 := (List.nodup_cons.mp n2).1
                  have pg1 : p0 ∉ g1 := fun z => pg p0 z (by simp)
                  have hm : m < os.length := (ixN_seq e3).2.1
                  obtain ⟨ov, fa, fb, fc, c1, c2, c3, c4⟩ := ow2.get (i := m) (o := os[m]) (by simp [hm])
                  subst c2
                  refine ⟨p0, vs2, j, m, rfl, rfl, hl2, by rw [ow2.length]; exact e3, ?_⟩
                  have nf := (List.nodup_cons.mp n2).2
                  refine q S1 T1 σ _ x1 (put (upd H2 p0 (.lst (vs2.set m v1))) (.lst (os.set m o)) (p0 :: (fa ++ g1 ++ fc)) (fun b hb => upd_ne fun e => hb (by rw [e]; simp)) ?_ ?_ fun b hb => ?_) pi
                  · have th1 := w1.there
                    have w4 : Ow K S1 (upd H2 p0 (.lst (vs2.set m v1))) v1 o g1 := w1.mono (.refl _) fun b hb => Eq.trans (upd_ne fun (e : b = p0) => pg1 (e ▸ hb)) (same_ne hs2 (th1 b hb))
                    have w5 := c4 S1 (upd H2 p0 (.lst (vs2.set m v1))) v1 o g1 (.refl _) (fun b hb => upd_ne fun e => pf (by rw [← e]; simp only [List.mem_append] at hb ⊢; rcases hb with z | z; exact .inl (.inl z); exact .inr z)) w4
                    exact .lst upd_same w5
                  · simp only [List.nodup_append, List.mem_append] at nf
                    obtain ⟨⟨m1, m2, m3⟩, m4, m5⟩ := nf
                    have da : ∀ b ∈ g1, b ∉ fa ∧ b ∉ fc := fun b hb => by
                      have := pg b hb
                      simp only [List.mem_cons, List.mem_append, not_or] at this
                      exact ⟨this.2.1.1, this.2.2⟩
                    rw [List.nodup_cons]
                    simp only [List.mem_append] at pf
                    refine ⟨fun z => ?_, ?_⟩
                    · simp only [List.mem_append] at z
                      rcases z with (z | z) | z
                      · exact pf (.inl (.inl z))
                      · exact pg1 z
                      · exact pf (.inr z)
                    · simp only [List.nodup_append, List.mem_append]
                      refine ⟨⟨m1, n1, fun a ha b hb e => (da b hb).1 (e ▸ ha)⟩, m4, fun a ha b hb e => ?_⟩
                      rcases ha with ha | ha
                      · exact m5 a (.inl ha) b hb e
                      · exact (da a ha).2 (e ▸ hb)
                  · rcases List.mem_cons.mp hb with rfl | hb
                    · exact .inl (by simp)
                    · simp only [List.mem_append] at hb
                      rcases hb with (hb | hb) | hb
                      · exact .inl (by simp [hb])
                      · exact .inr (fr b hb)
                      · exact .inl (by simp [hb])
            | _ => exact fun q => q.elim
/-! ### return, by a def that hands its first argument back changed, or none -/
def retX (r : Rs (O × Sl)) : Fl := match r with
  | .ok (o, _) => .rt o
  | .ex c => .ex c
  | .bad => .bad
theorem s_retX {R : TE → Prop} {s : Stmt} {f : Sl → Rs (O × Sl)} (hp : ∀ t, R t → PSf X s (tRet t)) (h : EXo K W cl R f) (hio : sh.io = false := by rfl) : SJ K W cl sh (PSf X s) fun st => retX (f st) := by
  obtain ⟨t, p, a⟩ := h.ex
  refine ⟨_, hp _ p, fun pv S T st σ H E r pi q => a S T st σ H _ r ?_⟩
  have q : PSt K cl W sh pv S T (retX (f st)) E := q
  revert q
  cases f st with
  | bad => exact fun q => q
  | ex c => exact fun q T1 H1 h1 h2 => q σ T1 H1 h1 h2
  | ok p => exact fun q v S1 T1 H1 g x1 r1 w1 n1 k1 => q v S1 T1 H1 g x1 r1.lo r1.th (rtO hio w1) n1 fun b hb => (k1 b hb).1
def retIO (r : Rs (O × Sl)) : Fl := match r with
  | .ok (o, st) => match st[0]? with
    | some (some o0) => .rt (.tup [o, o0])
    | _ => .bad
  | .ex c => .ex c
  | .bad => .bad
/-- what a def that changes its first argument knows of its slots -/
def Ps.own : Ps := ⟨[0], true⟩
theorem s_retIO {R : TE → Prop} {s : Stmt} {f : Sl → Rs (O × Sl)} (hp : ∀ t, R t → PSf X s (tRet t)) (h : EXo K W cl R f) : SJ K W cl .own (PSf X s) fun st => retIO (f st) := by
  obtain ⟨t, p, a⟩ := h.ex
  refine ⟨_, hp _ p, fun pv S T st σ H E r pi q => a S T st σ H _ r ?_⟩
  have q : PSt K cl W .own pv S T (retIO (f st)) E := q
  revert q
  unfold retIO
  cases f st with
  | bad => exact fun q => q
  | ex c => exact fun q T1 H1 h1 h2 => q σ T1 H1 h1 h2
  | ok pp =>
    obtain ⟨o, st'⟩ := pp
    intro q v S1 T1 H1 g x1 r1 w1 n1 k1
    dsimp only at q
    cases e0 : st'[0]? with
    | none => rw [e0] at q; exact q.elim
    | some z =>
      rw [e0] at q
      cases z with
      | none => exact q.elim
      | some o0 =>
        obtain ⟨v2, g2, e2, w2, n2, k2, inn, _⟩ := r1.focus e0
        have hv : σ[0]? = some (some (pv 0)) := pi 0 (by simp [Ps.own])
        rw [hv] at e2
        cases e2
        obtain ⟨fA, wA, _, _⟩ := r1.own
        refine q v S1 T1 H1 (g ++ (g2 ++ [])) x1 r1.lo r1.th ⟨[o, o0], rfl, .cons w1 (.cons w2 .nil)⟩ ?_ fun b hb => ?_
        · rw [List.append_nil, List.nodup_append]
          exact ⟨n1, n2, fun a ha b hb e => (k1 a ha).2 fA wA (inn fA wA a (e ▸ hb))⟩
        · rw [List.append_nil, List.mem_append] at hb
          rcases hb with hb | hb
          · exact (k1 b hb).1
          · exact k2 b hb
end
/-! ### a def that changes its first argument -/
def finIO : Fl → Rs O
  | .rt o => .ok o
  | .nx st => match st[0]? with
    | some (some o0) => .ok (.tup [.sh .non, o0])
    | _ => .bad
  | .ex c => .ex c
  | _ => .bad
def runIO (N n : Nat) (fb : Sl → Fl) (o : O) (ds : List D) : Rs O := if ds.length = n then finIO (fb (some o :: (ds.map (fun d => some (.sh d)) ++ List.replicate (N - (n + 1)) none))) else .bad
section
variable {P : Program} {w : World} {K : PySem.W.Frag} {mg : Str → Option Value} {base : Heap} {cl : Cl}
theorem def_okIO {x qual : Str} {st : Stmt} {f : Addr} {fd : FuncData} {N ps : List Str} {k n : Nat} {fb : Sl → Fl} (F : Fun K x qual st f fd) (Sc : FnScope N ps (defScope st)) (hn : ps.length = n + 1)
    (body : ∀ (cdv : Value) (A : Around) (outer : List Env) (s : Shared) (H : Hp) (E : XK), Room k (A.deeper (PyProof.Rows.envOfC qual (defScope st) s.heap.objs.size f cdv)) →
      SJ K (fun c d _ H => E c d H) cl .own (PSsf (fun _ : Unit => cxOf (L2.CX P w) P w K mg base N qual (defScope st) f cdv A outer s H E) (defBody st)) fb) :
    FnOk P w K mg base (L2.CX P w) (k + 1) f fd ps (SpIO K cl n (runIO N.length n fb)) := by
  refine F.okX Sc (fun vs H Q E h => (SpIO.len vs H Q E h).trans hn.symm) fun cdv A outer s H vs Q E hr ⟨S, u, ws, o, ds, f0, ev, hl, hs, rl, ow, nd, hf, m⟩ => ?_
  obtain ⟨t, p, a⟩ := (body cdv A outer s H E hr).ex
  subst ev
  have hv : (u :: ws).length = ps.length := by rw [List.length_cons, rl.length, hl, hn]
  -- what is left alone: what stands but the tree
  let T : Hp := fun b => if b ∈ f0 then none else H b
  have Tin : ∀ b, b ∈ f0 → T b = none := fun b h => if_pos h
  have Tout : ∀ b, b ∉ f0 → T b = H b := fun b h => if_neg h
  have w0 : OwSt K S H (L2.start N (u :: ws)) (some o :: (ds.map (fun d => some (.sh d)) ++ List.replicate (N.length - (n + 1)) none)) (f0 ++ []) := by
    unfold L2.start
    rw [hv, hn]
    exact .some ow (st_args (st_none _) rl)
  have lo : Same S T := fun b x h => by
    rw [Tout b fun z => by rw [hf b z] at h; cases h]
    exact hs b x h
  have th : Same T H := fun b x h => by
    by_cases z : b ∈ f0
    · rw [Tin b z] at h; cases h
    · rw [Tout b z] at h; exact h
  refine ⟨t, p (), a (fun _ => u) S T _ _ H _ ⟨lo, th, f0 ++ [], w0, by rw [List.append_nil]; exact nd, fun b hb => Tin b (by simpa using hb)⟩ (fun q hq => ?_) ?_⟩
  · rw [show q = 0 by simpa [Ps.own] using hq]
    unfold L2.start
    rfl
  have fr : ∀ {S' T' H' : Hp}, Ex3 S T S' T' → Same T' H' → (∀ b x, b ∉ f0 → H b = some x → H' b = some x) := fun x h b y hb e => h b y (x.t b y (by rw [Tout b hb]; exact e))
  have fo : ∀ {S' T' : Hp}, Ex3 S T S' T' → (∀ b, H b ≠ none → b ∉ f0 → S' b = S b) := fun x b hb hf' => x.old b (by rw [Tout b hf']; exact hb)
  have gg : ∀ {S' T' : Hp} {g : List Addr}, Ex3 S T S' T' → Same S' T' → (∀ b ∈ g, T' b = none) → ∀ b ∈ g, S' b = none ∧ (b ∈ f0 ∨ H b = none) := fun {S' T' g} x h hg b hb => by
    refine ⟨h.free (hg b hb), ?_⟩
    by_cases z : b ∈ f0
    · exact .inl z
    · refine .inr ?_
      have := x.t.free (hg b hb)
      rwa [Tout b z] at this
  unfold runIO at m
  rw [if_pos hl] at m
  revert m
  cases fb (some o :: (ds.map (fun d => some (.sh d)) ++ List.replicate (N.length - (n + 1)) none)) with
  | bad => exact fun m => m
  | bk _ => exact fun m => m.elim
  | ct _ => exact fun m => m.elim
  | ex c => exact fun m σ T' H' h1 h2 => m H' fun b y hb e => h2 b y (h1 b y (by rw [Tout b hb]; exact e))
  | nx st' =>
    intro m S' T' σ' H' x r' pi'
    cases e0 : st'[0]? with
    | none =>
      unfold finIO at m
      dsimp only at m
      rw [e0] at m
      exact m.elim
    | some z =>
      unfold finIO at m
      dsimp only at m
      rw [e0] at m
      cases z with
      | none => exact m.elim
      | some o0 =>
        obtain ⟨v2, g2, e2, w2, n2, k2, _⟩ := r'.focus e0
        have hv : σ'[0]? = some (some u) := pi' 0 (by simp [Ps.own])
        rw [hv] at e2
        cases e2
        exact m .non S' H' g2 (.sh .non) o0 rfl x.s (fr x r'.th) (fo x) r'.sh (by have := OwL.cons (.sh .non) (.cons w2 .nil) (K := K) (S := S') (H := H'); simpa using this) n2 (gg x r'.lo k2)
  | rt r =>
    intro m v S' T' H' g x h1 h2 w1 nd2 hg
    obtain ⟨os, e, wl⟩ := w1
    subst e
    cases wl with
    | @cons _ _ rr _ _ _ wa wb =>
      cases wb with
      | @cons _ _ oo _ _ _ wb wn =>
        cases wn
        exact m v S' H' _ rr oo rfl x.s (fr x h2) (fo x) (h1.trans h2) (.cons wa (.cons wb .nil)) nd2 (gg x h1 hg)
end
/-- a def of the text that changes its first argument, as its callers need it -/
structure CallIO (P : Program) (w : World) (K : PySem.W.Frag) (mg : Str → Option Value) (base : Heap) (cl : Cl) (x : Str) (k n : Nat) (m : O → List D → Rs O) (f : Addr) (fd : FuncData) (ps : List Str) : Prop where
  F : FnOk P w K mg base (L2.CX P w) k f fd ps (SpIO K cl n m)
  g : mg x = some (.ref f)
  kp : PySem.W.keepIn K (.ref f) = true
  b : Binds K fd ps []
end M

/-! A comprehension whose items change one's own trees; a walk over one's own list whose items are changed. -/
namespace M
open PySem L2
section
variable {ι : Type} {X : ι → Cx} {W : WX} {cl : Cl} {K : PySem.W.Frag} {sh : Ps}
theorem OwSt.vals {S H : Hp} : ∀ {σ : St} {st : Sl} {f : List Addr} {σ' : St}, OwSt K S H σ st f → σ'.length = σ.length → (∀ (i : Nat) (o : O), st[i]? = Option.some (Option.some o) → σ'[i]? = σ[i]?) → OwSt K S H σ' st f
  | _, _, _, σ', .nil, hl, _ => by
    cases σ' with
    | nil => exact .nil
    | cons _ _ => cases hl
  | _, _, _, σ', .none r, hl, h => by
    cases σ' with
    | nil => cases hl
    | cons v τ => exact .none (r.vals (by simpa using hl) fun i o e => by simpa using h (i + 1) o (by simpa using e))
  | _, _, _, σ', .some w r, hl, h => by
    cases σ' with
    | nil => cases hl
    | cons v τ =>
      have h0 := h 0 _ rfl
      simp at h0
      subst h0
      exact .some w (r.vals (by simpa using hl) fun i o e => by simpa using h (i + 1) o (by simpa using e))
theorem wipeS_get (st : Sl) (vs : List Nat) {i : Nat} {o : O} (h : (wipeS st vs)[i]? = some (some o)) : i ∉ vs := by
  induction vs with
  | nil => simp
  | cons v vs ih =>
    unfold wipeS at h
    by_cases e : v = i
    · subst e
      rw [List.getElem?_set] at h
      simp at h
    · rw [List.getElem?_set_ne e] at h
      simp only [List.mem_cons, not_or]
      exact ⟨fun z => e z.symm, ih h⟩
theorem RS.unwipe {S T : Hp} {st : Sl} {σ : St} {H : Hp} {vs : List Nat} (r : RS K S T st (L2.wipe σ vs) H) (h : wipeS st vs = st) : RS K S T st σ H := by
  obtain ⟨f, w, nd, k⟩ := r.own
  refine ⟨r.lo, r.th, f, w.vals (wipe_length _ _).symm fun i o e => ?_, nd, k⟩
  rw [← h] at e
  rw [wipe_get, if_neg (wipeS_get st vs e)]
theorem set_self_get {α : Type} (st : List α) {v : Nat} {a : α} (h : ∀ x, st[v]? = some x → x = a) : st.set v a = st := by
  apply List.ext_getElem?
  intro j
  rw [List.getElem?_set]
  by_cases e : v = j
  · subst e
    by_cases hl : v < st.length
    · have := h _ (List.getElem?_eq_getElem hl)
      rw [if_pos rfl, if_pos hl, List.getElem?_eq_getElem hl, this]
    · rw [if_pos rfl, if_neg hl, List.getElem?_eq_none (by omega)]
  · rw [if_neg e]
theorem wipeS_at (st : Sl) : ∀ (vs : List Nat) (v : Nat), v ∈ vs → ∀ x, (wipeS st vs)[v]? = some x → x = none
  | [], v, h, x, e => by cases h
  | w :: vs, v, h, x, e => by
    unfold wipeS at e
    rw [List.getElem?_set] at e
    by_cases z : w = v
    · rw [if_pos z] at e
      split at e
      · cases e; rfl
      · cases e
    · rw [if_neg z] at e
      rcases List.mem_cons.mp h with y | y
      · exact absurd y.symm z
      · exact wipeS_at st vs v y x e
theorem wipeS_fix (st : Sl) : ∀ vs : List Nat, (∀ v ∈ vs, ∀ x, st[v]? = some x → x = none) → wipeS st vs = st
  | [], _ => rfl
  | v :: vs, h => by
    unfold wipeS
    rw [wipeS_fix st vs fun w hw => h w (by simp [hw])]
    exact set_self_get st (h v (by simp))
theorem wipeS_wipeS (st : Sl) (vs : List Nat) : wipeS (wipeS st vs) vs = wipeS st vs := wipeS_fix _ _ fun v hv => wipeS_at st vs v hv
def lcFX (tg : D → Sl → Option Sl) (el : Sl → Rs (D × Sl)) (vs : List Nat) : Sl → List D → Rs (List D × Sl)
  | st, [] => .ok ([], st)
  | st, d :: ds => match tg d st with
    | none => .bad
    | some st1 => (noEx (el st1)).bind fun p => (lcFX tg el vs (wipeS p.2 vs) ds).bind fun q => .ok (p.1 :: q.1, q.2)
def lcX (it : Rs (List D)) (tg : D → Sl → Option Sl) (el : Sl → Rs (D × Sl)) (vs : List Nat) (st : Sl) : Rs (O × Sl) := it.bind fun ds => (noEx (lcFX tg el vs (wipeS st vs) ds)).bind fun p => if p.1.length < sizeLine then .ok (.lst (p.1.map .sh), p.2) else .bad
theorem lcFX_fix {tg : D → Sl → Option Sl} {el : Sl → Rs (D × Sl)} {vs : List Nat} : ∀ (ds : List D) (st : Sl) (p : List D × Sl), wipeS st vs = st → lcFX tg el vs st ds = .ok p → wipeS p.2 vs = p.2
  | [], st, p, h, e => by cases e; exact h
  | d :: ds, st, p, h, e => by
    unfold lcFX at e
    split at e
    · cases e
    · next st1 _ =>
      cases e1 : noEx (el st1) with
      | bad => rw [e1] at e; cases e
      | ex c => rw [e1] at e; cases e
      | ok r =>
        rw [e1] at e
        have e : (lcFX tg el vs (wipeS r.2 vs) ds).bind (fun q => Rs.ok (r.1 :: q.1, q.2)) = .ok p := e
        cases e2 : lcFX tg el vs (wipeS r.2 vs) ds with
        | bad => rw [e2] at e; cases e
        | ex c => rw [e2] at e; cases e
        | ok q =>
          rw [e2] at e
          cases e
          exact lcFX_fix ds _ q (wipeS_wipeS _ _) e2
theorem noEx_of {α : Type} {r : Rs α} {a : α} (h : noEx r = .ok a) : r = .ok a := by
  cases r with
  | ok b => exact h
  | ex c => cases h
  | bad => cases h
theorem RpL.snoc {S : Hp} {vs : List V} {ds : List D} {v : V} {d : D} (h : RpL K S vs ds) (w : Rp K S v d) : RpL K S (vs ++ [v]) (ds ++ [d]) := h.append (.cons w .nil)
theorem x_lc {R : TE → Prop} {elt tgE iter : Expr} {scope : Scope} {vs us : List Nat} {fi : Sl → Rs (List D)} {tg : D → Sl → Option Sl} {el : Sl → Rs (D × Sl)}
    (hp : ∀ wi g tt te, PIf X tgE iter wi → PGf (blkf X scope) tgE g → PTsf (blkf X scope) [] tt → PEf (blkf X scope) elt te → R (tLc wi g tt te vs))
    (hi : EI K W cl (PIf X tgE iter) fi) (hg : EG K (PGf (blkf X scope) tgE) us tg) (he : EX K W0 cl (PEf (blkf X scope) elt) el) (hu : ∀ k ∈ us, k ∈ vs := by decide) :
    EXo K W cl R fun st => lcX (fi st) tg el vs st := by
  obtain ⟨wi, pi, ki⟩ := hi.ex
  obtain ⟨g, pg, kg⟩ := hg.ex
  obtain ⟨tt, pt, kt⟩ := (t_none (X := blkf X scope) (W := W0) (cl := cl) (K := K)).ex
  obtain ⟨te, pe, ke⟩ := he.ex
  refine ⟨_, hp _ _ _ _ pi pg pt pe, fun S T st σ H Q r q => ki S T st σ H _ r ?_⟩
  have q : PXo K cl W S T σ (lcX (fi st) tg el vs st) Q := q
  revert q
  unfold lcX
  cases fi st with
  | bad => exact fun q => q
  | ex c => exact fun q H1 h1 => q T H1 (.refl _) (r.th.trans h1)
  | ok ds =>
    intro q J S1 T1 H1 h1 x1 r1 y1 Dl hD
    have q : PXo K cl W S T σ ((noEx (lcFX tg el vs (wipeS st vs) ds)).bind fun p => if p.1.length < sizeLine then .ok (.lst (p.1.map .sh), p.2) else .bad) Q := q
    cases e0 : noEx (lcFX tg el vs (wipeS st vs) ds) with
    | bad => rw [e0] at q; exact q.elim
    | ex c =>
      exfalso
      cases e1 : lcFX tg el vs (wipeS st vs) ds <;> rw [e1] at e0 <;> cases e0
    | ok all =>
      rw [e0] at q
      have e0 := noEx_of e0
      have q : PXo K cl W S T σ (if all.1.length < sizeLine then .ok (.lst (all.1.map .sh), all.2) else .bad) Q := q
      by_cases hall : all.1.length < sizeLine
      · rw [if_pos hall] at q
        have afix := lcFX_fix ds _ all (wipeS_wipeS st vs) e0
        let Pv : Nat → Hp → Prop := fun i H2 => ∃ S2 T2 st2 acc dd rest, Ex3 S1 T1 S2 T2 ∧ T2 Dl = none ∧ Same S2 T2 ∧ RS K S2 (upd T2 Dl (.lst acc)) st2 (wipe σ vs) H2 ∧ RpL K S2 acc dd ∧ lcFX tg el vs st2 (ds.drop i) = .ok rest ∧ dd ++ rest.1 = all.1 ∧ rest.2 = all.2
        have TD : T1 Dl = none := r1.th.free hD
        have st0 : Pv 0 (upd H1 Dl (.lst [])) := by
          have rw1 := r1.wipe vs
          have hu := same_upd (o := .lst []) hD
          obtain ⟨f, w, nd, k⟩ := rw1.own
          refine ⟨S1, T1, wipeS st vs, [], [], all, .refl, TD, r1.lo, ⟨fun b x e => ?_, fun b x e => ?_, f, w.mono (.refl _) (fun b hb => upd_keep hD (w.there b hb)), nd, fun b hb => ?_⟩, .nil, by rw [List.drop_zero]; exact e0, rfl, rfl⟩
          · rw [upd_ne fun z => by rw [z, r1.lo.free TD] at e; cases e]
            exact r1.lo b x e
          · by_cases z : b = Dl
            · subst z; rw [upd_same] at e ⊢; exact e
            · rw [upd_ne z] at e ⊢; exact r1.th b x e
          · rw [upd_ne fun (z : b = Dl) => w.there b hb (by rw [z]; exact hD)]
            exact k b hb
        refine ⟨fun i m H2 => m = ds.length - i ∧ i ≤ ds.length ∧ Pv i H2, ⟨ds.length, by simp, Nat.zero_le _, st0⟩, ?_⟩
        rintro i m H2 ⟨rfl, hi, S2, T2, st2, acc, dd, rest, x2, tD, sT, r2, rp, er, eo, es⟩
        have hln := rp.length
        by_cases hlt : i < ds.length
        · refine .inr ⟨y1.go i H2 (x2.s.trans r2.sh) hlt, fun H3 => Pv (i + 1) H3, fun H3 p3 => ⟨ds.length - (i + 1), by omega, rfl, hlt, p3⟩, fun x H3 y => ?_⟩
          have yl := (y1.mono x2.s).yld i H2 x H3 ds[i] r2.sh (by simp [hlt]) y
          obtain ⟨S3, T3, hs3, x3, r3, rp3⟩ := yl.ext r2
          have edrop : ds.drop i = ds[i] :: ds.drop (i + 1) := by rw [List.drop_eq_getElem_cons hlt]
          rw [edrop] at er
          unfold lcFX at er
          cases e1 : tg ds[i] st2 with
          | none => rw [e1] at er; cases er
          | some st1 =>
            rw [e1] at er
            dsimp only at er
            refine kg S3 T3 st2 (wipe σ vs) H3 x ds[i] st1 _ r3 rp3 e1 fun σ4 l4 k4 r4 => ⟨?_, ?_⟩
            · rw [← wipe_wipe σ vs]
              exact wipe_ext l4 fun k hk => k4 k fun z => hk (hu k z)
            · have ew : wipe σ4 vs = wipe σ vs := by
                rw [← wipe_wipe σ vs]
                exact wipe_ext l4 fun k hk => k4 k fun z => hk (hu k z)
              refine kt S3 T3 st1 σ4 H3 _ r4 fun H4 h4 => iteT (ke S3 T3 st1 σ4 H4 _ (r4.mono h4) ?_)
              cases e3 : noEx (el st1) with
              | bad => rw [e3] at er; cases er
              | ex c => rw [e3] at er; cases er
              | ok p =>
                rw [e3] at er
                have er : (lcFX tg el vs (wipeS p.2 vs) (ds.drop (i + 1))).bind (fun q => Rs.ok (p.1 :: q.1, q.2)) = .ok rest := er
                cases e4 : lcFX tg el vs (wipeS p.2 vs) (ds.drop (i + 1)) with
                | bad => rw [e4] at er; cases er
                | ex c => rw [e4] at er; cases er
                | ok rest' =>
                  rw [e4] at er
                  cases er
                  rw [noEx_of e3]
                  intro v S5 T5 H5 x5 r5 w5
                  have a1 : T3 Dl = some (.lst acc) := x3.t _ _ upd_same
                  have a2 : T5 Dl = some (.lst acc) := x5.t _ _ a1
                  have a3 : H5 Dl = some (.lst acc) := r5.th _ _ a2
                  have s2 : S2 Dl = none := sT.free tD
                  have s3 : S3 Dl = none := by
                    rw [(x3.old Dl (by rw [r2.th _ _ upd_same]; simp)).1]; exact s2
                  have s5 : S5 Dl = none := by
                    rw [x5.old Dl (by rw [a1]; simp)]; exact s3
                  have hal : acc.length < sizeLine := by
                    have := congrArg List.length eo
                    simp only [List.length_append, List.length_cons] at this
                    omega
                  refine ⟨acc, a3, hal, ?_⟩
                  let T6 : Hp := fun b => if b = Dl then none else T5 b
                  have T6D : T6 Dl = none := if_pos rfl
                  have T6n : ∀ b, b ≠ Dl → T6 b = T5 b := fun b h => if_neg h
                  have r6 := r5.wipe vs
                  rw [ew] at r6
                  obtain ⟨f, w, nd, k⟩ := r6.own
                  have Df : Dl ∉ f := fun z => by rw [k Dl z] at a2; cases a2
                  have x25 : Ex3 S2 (upd T2 Dl (.lst acc)) S5 T5 := (x3.ex3 r2.th).trans x5
                  refine ⟨S5, T6, wipeS p.2 vs, acc ++ [v], dd ++ [p.1], rest', ⟨x2.s.trans x25.s, fun b o e => ?_, fun b hb => ?_⟩, T6D, fun b o e => ?_, ⟨fun b o e => ?_, fun b o e => ?_, f, w.mono (.refl _) (fun b hb => upd_ne fun z => Df (z ▸ hb)), nd, fun b hb => ?_⟩, (rp.mono x25.s).snoc w5, e4, by rw [List.append_assoc]; exact eo, es⟩
                  · have nb : b ≠ Dl := fun z => by rw [z, TD] at e; cases e
                    rw [T6n b nb]
                    exact x25.t b o (by rw [upd_ne nb]; exact x2.t b o e)
                  · have nb : b ≠ Dl := fun z => hb (by rw [z]; exact TD)
                    rw [x25.old b (by
                      rw [upd_ne nb]
                      cases e : T1 b with
                      | none => exact absurd e hb
                      | some o => rw [x2.t b o e]; simp)]
                    exact x2.old b hb
                  · have nb : b ≠ Dl := fun z => by rw [z, s5] at e; cases e
                    rw [T6n b nb]
                    exact r5.lo b o e
                  · have nb : b ≠ Dl := fun z => by rw [z, s5] at e; cases e
                    rw [upd_ne nb, T6n b nb]
                    exact r5.lo b o e
                  · by_cases nb : b = Dl
                    · subst nb; rw [upd_same] at e ⊢; exact e
                    · rw [upd_ne nb] at e ⊢
                      rw [T6n b nb] at e
                      exact r5.th b o e
                  · have nb : b ≠ Dl := fun z => Df (z ▸ hb)
                    rw [upd_ne nb, T6n b nb]
                    exact k b hb
        · have e : i = ds.length := by omega
          subst e
          rw [List.drop_length] at er
          cases er
          rw [List.append_nil] at eo
          refine .inl ⟨y1.stop _ H2 (x2.s.trans r2.sh) (Nat.le_refl _), ?_⟩
          have hDl : H2 Dl = some (.lst acc) := r2.th _ _ upd_same
          have es : st2 = all.2 := es
          subst es
          have r3 := r2.unwipe afix
          obtain ⟨f, w, nd, k⟩ := r3.own
          have Df : Dl ∉ f := fun z => by
            have := k Dl z
            rw [upd_same] at this; cases this
          subst eo
          refine q (.ref Dl) S2 T2 H2 [Dl] ((x1.ex3 r.th).trans x2) ⟨sT, fun b o e => ?_, f, w, nd, fun b hb => ?_⟩ (.lst hDl (OwL.shs rp)) (by simp) fun b hb => ?_
          · have nb : b ≠ Dl := fun z => by rw [z, tD] at e; cases e
            exact r2.th b o (by rw [upd_ne nb]; exact e)
          · have nb : b ≠ Dl := fun z => Df (z ▸ hb)
            have := k b hb
            rwa [upd_ne nb] at this
          · rw [List.mem_singleton] at hb
            subst hb
            exact ⟨tD, fun f' wf hf => by rw [← w.det wf] at hf; exact Df hf⟩
      · rw [if_neg hall] at q
        exact q.elim
/-! ### for x in xs, xs one's own: the items are lent to x -/
def lendF (i x : Nat) (body : Sl → Fl) : Nat → Nat → Sl → Fl
  | 0, _, st => .nx st
  | m + 1, a, st => match st[i]? with
    | some (some (.lst os)) => match os[a]? with
      | some o => if x < st.length then match body ((st.set i none).set x (some o)) with
        | .nx st2 => match st2[x]? with
          | some (some o2) => lendF i x body m (a + 1) ((st2.set x none).set i (some (.lst (os.set a o2))))
          | _ => .bad
        | .ct st2 => match st2[x]? with
          | some (some o2) => lendF i x body m (a + 1) ((st2.set x none).set i (some (.lst (os.set a o2))))
          | _ => .bad
        | .rt o => .rt o
        | .ex c => .ex c
        | _ => .bad
        else .bad
      | none => .bad
    | _ => .bad
def lendR (i x : Nat) (body : Sl → Fl) (st : Sl) : Fl := match st[i]? with
  | some (some (.lst os)) => lendF i x body os.length 0 st
  | _ => .bad
/-- behind a lent item's turn -/
theorem lend_back {S T S5 T5 : Hp} {st : Sl} {σ σ5 : St} {H H5 : Hp} {i x a : Nat} {os : List O} {p0 : Addr} {us : List V} {f1 g f2 fs1 fs2 : List Addr} {va : V} {st5 : Sl} {o2 : O} (hix : i ≠ x)
    (r5 : RS K S5 T5 st5 σ5 H5) (e5 : st5[x]? = some (some o2)) (hx : σ5[x]? = some (some va)) (hi5 : σ5[i]? = some (some (.ref p0))) (hi : i < st5.length)
    (fz : ∀ b ∈ p0 :: (f1 ++ f2), T5 b = H b) (hp0 : H p0 = some (.lst us)) (hva : us[a]? = some va) (x5 : Same S S5) (ow : OwL K S H us os (f1 ++ g ++ f2))
    (put : ∀ (S' H' : Hp) (v' : V) (o' : O) (g' : List Addr), Same S S' → (∀ b ∈ f1 ++ f2, H' b = H b) → Ow K S' H' v' o' g' → OwL K S' H' (us.set a v') (os.set a o') (f1 ++ g' ++ f2))
    (nd : (p0 :: (f1 ++ f2)).Nodup) (tn : ∀ b ∈ p0 :: (f1 ++ f2), T b = none) (sn : ∀ b ∈ p0 :: (f1 ++ f2), S5 b = none) (lT : Same T T5) :
    RS K S5 (fun b => if b ∈ p0 :: (f1 ++ f2) then none else T5 b) ((st5.set x none).set i (some (.lst (os.set a o2)))) σ5 H5 := by
  have hl : ∀ b, b ∈ p0 :: (f1 ++ f2) → (if b ∈ p0 :: (f1 ++ f2) then none else T5 b) = none := fun b h => if_pos h
  have ho : ∀ b, b ∉ p0 :: (f1 ++ f2) → (if b ∈ p0 :: (f1 ++ f2) then none else T5 b) = T5 b := fun b h => if_neg h
  obtain ⟨f, w, ndf, k⟩ := r5.own
  obtain ⟨v2, g1, g2, g3, h1, h2, h3, h4, h5⟩ := w.get e5
  rw [hx] at h1
  cases h1
  subst h2
  have w6 := h5 S5 H5 (some va) (.refl _) fun _ _ => rfl
  have hσ : σ5.set x (some va) = σ5 := set_self_get σ5 fun y hy => by rw [hx] at hy; cases hy; rfl
  rw [hσ] at w6
  -- the slot i, none so far
  have hfr : ∀ b ∈ g1 ++ g2 ++ g3, b ∉ p0 :: (f1 ++ f2) := fun b hb hm => by
    have a1 := k b hb
    rw [fz b hm] at a1
    rcases List.mem_cons.mp hm with z | z
    · rw [z, hp0] at a1; cases a1
    · exact ow.there b (by simp only [List.mem_append] at z ⊢; rcases z with z | z <;> simp [z]) a1
  have keep : ∀ b ∈ f1 ++ f2, H5 b = H b := fun b hb => by
    cases e : H b with
    | none => exact absurd e (ow.there b (by simp only [List.mem_append] at hb ⊢; rcases hb with z | z <;> simp [z]))
    | some o => exact r5.th b o (by rw [fz b (List.mem_cons_of_mem _ hb)]; exact e)
  have hp5 : H5 p0 = some (.lst us) := r5.th p0 _ (by rw [fz p0 (by simp)]; exact hp0)
  have w7 := put S5 H5 va o2 g2 x5 keep h3
  have hus : us.set a va = us := set_self_get us fun y hy => by rw [hva] at hy; cases hy; rfl
  rw [hus] at w7
  have w8 : Ow K S5 H5 (.ref p0) (.lst (os.set a o2)) (p0 :: (f1 ++ g2 ++ f2)) := .lst hp5 w7
  have hi6 : i < (st5.set x none).length := by rw [List.length_set]; exact hi
  simp only [List.nodup_append, List.mem_append] at ndf
  obtain ⟨⟨n1, n2, n3⟩, n4, n5⟩ := ndf
  have rs0 : RS K S5 (fun b => if b ∈ p0 :: (f1 ++ f2) then none else T5 b) (st5.set x none) σ5 H5 := by
    refine ⟨fun b o e => ?_, fun b o e => ?_, g1 ++ g3, w6, ?_, fun b hb => ?_⟩
    · by_cases z : b ∈ p0 :: (f1 ++ f2)
      · rw [sn b z] at e; cases e
      · show (if _ then _ else _) = _
        rw [ho b z]; exact r5.lo b o e
    · by_cases z : b ∈ p0 :: (f1 ++ f2)
      · have e : (if b ∈ p0 :: (f1 ++ f2) then none else T5 b) = some o := e
        rw [hl b z] at e; cases e
      · have e : (if b ∈ p0 :: (f1 ++ f2) then none else T5 b) = some o := e
        rw [ho b z] at e; exact r5.th b o e
    · rw [List.nodup_append]
      exact ⟨n1, n4, fun a ha b hb e => n5 a (.inl ha) b hb e⟩
    · show (if _ then _ else _) = _
      have z : b ∉ p0 :: (f1 ++ f2) := hfr b (by simp only [List.mem_append] at hb ⊢; rcases hb with z | z <;> simp [z])
      rw [ho b z]
      exact k b (by simp only [List.mem_append] at hb ⊢; rcases hb with z | z <;> simp [z])
  have hσi : σ5.set i (some (.ref p0)) = σ5 := set_self_get σ5 fun y hy => by rw [hi5] at hy; cases hy; rfl
  have fin := rs0.set (i := i) (v := .ref p0) hi6 w8 ?_ (fun b hb => ?_) fun f wf b hb => ?_
  · rwa [hσi] at fin
  · simp only [List.nodup_cons, List.nodup_append, List.mem_append, not_or] at nd ⊢
    have g2o : ∀ b ∈ g2, b ≠ p0 ∧ b ∉ f1 ∧ b ∉ f2 := fun b hb => by
      have := hfr b (by simp [hb])
      simp only [List.mem_cons, List.mem_append, not_or] at this
      exact ⟨this.1, this.2.1, this.2.2⟩
    exact ⟨⟨⟨nd.1.1, fun z => (g2o p0 z).1 rfl⟩, nd.1.2⟩, ⟨nd.2.1, n2, fun a ha b hb e => (g2o b hb).2.1 (e ▸ ha)⟩, nd.2.2.1, fun a ha b hb e => by
      rcases ha with ha | ha
      · exact nd.2.2.2 a ha b hb e
      · exact (g2o a ha).2.2 (e ▸ hb)⟩
  · show (if _ then _ else _) = _
    simp only [List.mem_cons, List.mem_append] at hb
    rcases hb with hb | (hb | hb) | hb
    · exact hl b (by simp [hb])
    · exact hl b (by simp [hb])
    · have z : b ∉ p0 :: (f1 ++ f2) := hfr b (by simp [hb])
      rw [ho b z]; exact k b (by simp [hb])
    · exact hl b (by simp [hb])
  · have := w6.det wf
    subst this
    intro hm
    simp only [List.mem_cons, List.mem_append] at hb hm
    rcases hb with hb | (hb | hb) | hb
    · exact hfr b (by rcases hm with z | z <;> simp [z]) (by simp [hb])
    · exact hfr b (by rcases hm with z | z <;> simp [z]) (by simp [hb])
    · rcases hm with z | z
      · exact n3 b z b hb rfl
      · exact n5 b (.inr hb) b z rfl
    · exact hfr b (by rcases hm with z | z <;> simp [z]) (by simp [hb])
theorem s_lend {i x : Nat} {bs : List Stmt} {s : Stmt} {body : Sl → Fl} (hix : i ≠ x) (hp : ∀ tb, PSsf X bs tb → PSf X s (tFor (iList K (tVar i)) (gName x) tb))
    (hb : SJ K W cl ⟨x :: i :: sh.pi, sh.io⟩ (PSsf X bs) body) (hpn : sh.okAt x = true := by rfl) (hio : (!sh.io || sh.pi.contains 0) = true := by rfl) : SJ K W cl sh (PSf X s) fun st => lendR i x body st := by
  obtain ⟨tb, pb, kb⟩ := hb.ex
  refine ⟨_, hp _ pb, fun pv S T st σ H E r pi q => ?_⟩
  have q : PSt K cl W sh pv S T (lendR i x body st) E := q
  unfold lendR at q
  split at q
  case h_2 => exact q.elim
  case h_1 os0 e0 =>
    obtain ⟨v, g, hv, w, _⟩ := r.focus e0
    cases w with
    | @lst p0 us0 _ f0 hl0 ow0 =>
      refine ⟨.ref p0, hv, p0, rfl, ⟨us0, SqL.of hl0⟩, fun a m σ2 H2 => m = os0.length - a ∧ a ≤ os0.length ∧ ∃ S2 T2 st2 os, Ex3 S T S2 T2 ∧ RS K S2 T2 st2 σ2 H2 ∧ Pin sh pv σ2 ∧ σ2[i]? = some (some (.ref p0)) ∧ st2[i]? = some (some (.lst os)) ∧ os.length = os0.length ∧ PSt K cl W sh pv S2 T2 (lendF i x body (os0.length - a) a st2) E,
        ⟨os0.length, by simp, Nat.zero_le _, S, T, st, os0, .refl, r, pi, hv, e0, rfl, by rw [Nat.sub_zero]; exact q⟩, ?_⟩
      rintro a m σ2 H2 ⟨rfl, ha, S2, T2, st2, os, x2, r2, p2, hv2, e2, hlen, q2⟩
      obtain ⟨fs, ws, nds, ks⟩ := r2.own
      obtain ⟨v2, fs1, gs, fs2, h1, hfs, w2, _, unset⟩ := ws.get e2
      rw [hv2] at h1
      cases h1
      cases w2 with
      | @lst _ us _ f hl ow =>
        have hul := ow.length
        by_cases hlt : a < os0.length
        · have ho : os[a]? = some (os[a]'(by omega)) := by simp [hlen, hlt]
          obtain ⟨va, f1, g, f2, hva, ef, wa, put⟩ := ow.get ho
          subst ef
          obtain ⟨o, hoe⟩ : ∃ o, o = os[a]'(by omega) := ⟨_, rfl⟩
          rw [← hoe] at ho wa
          have hm : os0.length - a = (os0.length - (a + 1)) + 1 := by omega
          rw [hm] at q2
          unfold lendF at q2
          rw [e2] at q2
          dsimp only at q2
          rw [ho] at q2
          dsimp only at q2
          refine .inr ⟨⟨us, va, SqL.of hl, hva⟩, fun σ3 H3 => a + 1 ≤ os0.length ∧ ∃ S2 T2 st2 os, Ex3 S T S2 T2 ∧ RS K S2 T2 st2 σ3 H3 ∧ Pin sh pv σ3 ∧ σ3[i]? = some (some (.ref p0)) ∧ st2[i]? = some (some (.lst os)) ∧ os.length = os0.length ∧ PSt K cl W sh pv S2 T2 (lendF i x body (os0.length - (a + 1)) (a + 1) st2) E, fun σ3 H3 p3 => ⟨os0.length - (a + 1), by omega, rfl, p3⟩, fun y H3 hy => ?_⟩
          obtain ⟨rfl, hy⟩ := hy
          have := hy us (SqL.of hl)
          rw [hva] at this
          cases this
          by_cases hx : x < st2.length
          rotate_left
          · rw [if_neg hx] at q2; exact q2.elim
          rw [if_pos hx] at q2
          -- the frame
          subst hfs
          simp only [List.nodup_append, List.mem_append, List.nodup_cons, List.mem_cons, not_or] at nds
          obtain ⟨⟨n1, ⟨⟨⟨m1, m2⟩, m3⟩, ⟨k1, k2, k3⟩, k4, k5⟩, n3⟩, n4, n5⟩ := nds
          let F : List Addr := p0 :: (f1 ++ f2)
          let T3 : Hp := fun b => if b ∈ F then H3 b else T2 b
          have T3i : ∀ b, b ∈ F → T3 b = H3 b := fun b h => if_pos h
          have T3o : ∀ b, b ∉ F → T3 b = T2 b := fun b h => if_neg h
          have inF : ∀ b, b ∈ F → b = p0 ∨ b ∈ f1 ∨ b ∈ f2 := fun b h => by simpa [F] using h
          have Tn : ∀ b, b ∈ F → T2 b = none := fun b h => ks b (by
            rcases inF b h with z | z | z
            · simp [z]
            · simp [z]
            · simp [z])
          have Hn : ∀ b, b ∈ F → H3 b ≠ none := fun b h => by
            rcases inF b h with z | z | z
            · rw [z, hl]; simp
            · exact ow.there b (by simp [z])
            · exact ow.there b (by simp [z])
          have Sn : ∀ b, b ∈ F → S2 b = none := fun b h => r2.lo.free (Tn b h)
          have x23 : Ex3 S2 T2 S2 T3 := ⟨.refl _, fun b y h => by rw [T3o b fun z => by rw [Tn b z] at h; cases h]; exact h, fun _ _ => rfl⟩
          have wu := unset S2 H3 (some (.ref p0)) (.refl _) fun _ _ => rfl
          have hσ : σ2.set i (some (.ref p0)) = σ2 := set_self_get σ2 fun y hy => by rw [hv2] at hy; cases hy; rfl
          rw [hσ] at wu
          have rA : RS K S2 T3 (st2.set i none) σ2 H3 := by
            refine ⟨fun b y h => ?_, fun b y h => ?_, fs1 ++ fs2, wu, ?_, fun b hb => ?_⟩
            · rw [T3o b fun z => by rw [Sn b z] at h; cases h]
              exact r2.lo b y h
            · by_cases z : b ∈ F
              · rw [T3i b z] at h; exact h
              · rw [T3o b z] at h; exact r2.th b y h
            · rw [List.nodup_append]
              exact ⟨n1, n4, fun a ha b hb => n5 a (.inl ha) b hb⟩
            · have nF : b ∉ F := fun z => by
                have z := inF b z
                rcases List.mem_append.mp hb with hb | hb
                · rcases z with z | z | z
                  · exact n3 b hb b (.inl z) rfl
                  · exact n3 b hb b (.inr (.inl (.inl z))) rfl
                  · exact n3 b hb b (.inr (.inr z)) rfl
                · rcases z with z | z | z
                  · exact n5 b (.inr (.inl z)) b hb rfl
                  · exact n5 b (.inr (.inr (.inl (.inl z)))) b hb rfl
                  · exact n5 b (.inr (.inr (.inr z))) b hb rfl
              rw [T3o b nF]
              exact ks b (by rcases List.mem_append.mp hb with z | z <;> simp [z])
          have gF : ∀ b ∈ g, b ∉ F := fun b hb z => by
            rcases inF b z with z | z | z
            · exact m2 (z ▸ hb)
            · exact k3 b z b hb rfl
            · exact k5 b (.inr hb) b z rfl
          have rB : RS K S2 T3 ((st2.set i none).set x (some o)) (σ2.set x (some va)) H3 := rA.set (by rw [List.length_set]; exact hx) wa k2 (fun b hb => by rw [T3o b (gF b hb)]; exact ks b (by simp [hb])) fun f' wf b hb => by
            rw [← wu.det wf]
            intro z
            rcases List.mem_append.mp z with z | z
            · exact n3 b z b (.inr (.inl (.inr hb))) rfl
            · exact n5 b (.inr (.inr (.inl (.inr hb)))) b z rfl
          let pv' : Nat → V := fun k => if k = x then va else if k = i then .ref p0 else pv k
          have pvx : pv' x = va := if_pos rfl
          have pvi : pv' i = .ref p0 := (if_neg hix).trans (if_pos rfl)
          have pvj : ∀ j, j ∈ sh.pi → pv' j = pv j := fun j hj => by
            have jx : j ≠ x := by have := List.all_eq_true.mp hpn j hj; simpa using this
            show (if j = x then va else if j = i then .ref p0 else pv j) = pv j
            rw [if_neg jx]
            by_cases ji : j = i
            · subst ji
              rw [if_pos rfl]
              have := p2 j hj
              rw [hv2] at this
              exact Option.some.inj (Option.some.inj this)
            · rw [if_neg ji]
          have hxσ : x < σ2.length := by rw [r2.len]; exact hx
          have pi3 : Pin ⟨x :: i :: sh.pi, sh.io⟩ pv' (σ2.set x (some va)) := fun j hj => by
            have hj : j = x ∨ j = i ∨ j ∈ sh.pi := by simpa using hj
            rcases hj with rfl | rfl | hj
            · rw [pvx, List.getElem?_set_self hxσ]
            · rw [pvi, List.getElem?_set_ne (Ne.symm hix), hv2]
            · rw [pvj j hj]
              exact (p2.set hpn _) j hj
          have eio : ioV ⟨x :: i :: sh.pi, sh.io⟩ pv' = ioV sh pv := by
            unfold ioV
            by_cases c : sh.io = true
            · rw [if_pos c, if_pos c, pvj 0]
              rw [c] at hio
              simpa using hio
            · rw [if_neg c, if_neg c]
          refine kb pv' S2 T3 _ _ H3 _ rB pi3 ?_
          have back : ∀ {st5 o2}, st5[x]? = some (some o2) → PSt K cl W sh pv S2 T2 (lendF i x body (os0.length - (a + 1)) (a + 1) ((st5.set x none).set i (some (.lst (os.set a o2))))) E → ∀ S5 T5 σ5 H5, Ex3 S2 T3 S5 T5 → RS K S5 T5 st5 σ5 H5 → Pin ⟨x :: i :: sh.pi, sh.io⟩ pv' σ5 →
              a + 1 ≤ os0.length ∧ ∃ S2 T2 st2 os, Ex3 S T S2 T2 ∧ RS K S2 T2 st2 σ5 H5 ∧ Pin sh pv σ5 ∧ σ5[i]? = some (some (.ref p0)) ∧ st2[i]? = some (some (.lst os)) ∧ os.length = os0.length ∧ PSt K cl W sh pv S2 T2 (lendF i x body (os0.length - (a + 1)) (a + 1) st2) E := fun {st5 o2} e5 q5 S5 T5 σ5 H5 x5 r5 p5 => by
            have hx5 : σ5[x]? = some (some va) := by rw [← pvx]; exact p5 x (by simp)
            have hi5 : σ5[i]? = some (some (.ref p0)) := by rw [← pvi]; exact p5 i (by simp)
            have hi5l : i < st5.length := by rw [← r5.len]; exact (List.getElem?_eq_some_iff.mp hi5).1
            have T3n : ∀ b, b ∈ F → T3 b ≠ none := fun b h => by rw [T3i b h]; exact Hn b h
            have fz : ∀ b ∈ F, T5 b = H3 b := fun b h => by
              cases e : H3 b with
              | none => exact absurd e (Hn b h)
              | some y => exact x5.t b y (by rw [T3i b h]; exact e)
            have sn5 : ∀ b ∈ F, S5 b = none := fun b h => by rw [x5.old b (T3n b h)]; exact Sn b h
            have r6 := lend_back (S := S2) (T := T2) (σ := σ2) (st := st2) (fs1 := fs1) (fs2 := fs2) hix r5 e5 hx5 hi5 hi5l fz hl hva x5.s ow put (by
              rw [List.nodup_cons, List.nodup_append]
              exact ⟨fun z => by rcases List.mem_append.mp z with z | z; exact m1 z; exact m3 z, k1, k4, fun a ha b hb => k5 a (.inl ha) b hb⟩) Tn sn5 (x23.t.trans x5.t)
            have x26 : Ex3 S2 T2 S5 (fun b => if b ∈ p0 :: (f1 ++ f2) then none else T5 b) := ⟨x5.s, fun b y h => by
              have nF : b ∉ F := fun z => by rw [Tn b z] at h; cases h
              show (if b ∈ F then none else T5 b) = _
              rw [if_neg nF]
              exact x5.t b y (by rw [T3o b nF]; exact h), fun b hb => x5.old b (by
                have nF : b ∉ F := fun z => hb (Tn b z)
                rw [T3o b nF]; exact hb)⟩
            exact ⟨hlt, S5, _, _, os.set a o2, x2.trans x26, r6, fun j hj => by rw [← pvj j hj]; exact p5 j (by simp [hj]), hi5, by rw [List.getElem?_set_self (by rw [List.length_set]; exact hi5l)], by rw [List.length_set]; exact hlen, PSt.mono x26 q5⟩
          revert q2
          cases body ((st2.set i none).set x (some o)) with
          | nx st5 =>
            intro q2
            dsimp only at q2
            cases e5 : st5[x]? with
            | none => rw [e5] at q2; exact q2.elim
            | some z =>
              rw [e5] at q2
              cases z with
              | none => exact q2.elim
              | some o2 => exact back e5 q2
          | ct st5 =>
            intro q2
            dsimp only at q2
            cases e5 : st5[x]? with
            | none => rw [e5] at q2; exact q2.elim
            | some z =>
              rw [e5] at q2
              cases z with
              | none => exact q2.elim
              | some o2 => exact back e5 q2
          | bk st5 => exact fun q2 => q2.elim
          | rt o2 => exact fun q2 v S5 T5 H5 g5 x5 h1 h2 w5 => q2 v S5 T5 H5 g5 (x23.trans x5) h1 h2 (by rw [← eio]; exact w5)
          | ex c => exact fun q2 σ5 T5 H5 h1 => q2 σ5 T5 H5 (x23.t.trans h1)
          | bad => exact fun q2 => q2.elim
        · have e : a = os0.length := by omega
          subst e
          rw [Nat.sub_self] at q2
          exact .inl ⟨⟨us, SqL.of hl, by omega⟩, q2 S2 T2 σ2 H2 .refl r2 p2⟩
/-! ### the items of one's own list are left as they are from here on -/
def frzI (i : Nat) (f : Sl → Fl) (st : Sl) : Fl := match st[i]? with
  | some (some (.lst os)) => f (st.set i (some (.lst (os.map fun o => .sh o.er))))
  | _ => .bad
theorem s_frzI {R : TS → Prop} {f : Sl → Fl} (i : Nat) (h : SJ K W cl sh R f) : SJ K W cl sh R (frzI i f) := by
  obtain ⟨t, p, a⟩ := h.ex
  refine ⟨t, p, fun pv S T st σ H E r pi q => ?_⟩
  unfold frzI at q
  split at q
  case h_2 => exact q.elim
  case h_1 os e0 =>
    obtain ⟨f, w, nd, k⟩ := r.own
    obtain ⟨v, f1, g, f2, h1, h2, h3, h4, _⟩ := w.get e0
    subst h2
    cases h3 with
    | @lst p0 vs _ g hl ow =>
      have kg : ∀ b ∈ g, T b = none := fun b hb => k b (by simp [hb])
      have ks : ∀ b ∈ g, S b = none := fun b hb => r.lo.free (kg b hb)
      have hσ : σ.set i (some (.ref p0)) = σ := set_self_get σ fun y hy => by rw [h1] at hy; cases hy; rfl
      have rp : RpL K (M.frz g S H) vs (erL os) := ow.rp (frz_same ks) fun b hb => frz_in hb
      have rs : OwL K (M.frz g S H) H vs (os.map fun o => .sh o.er) [] := by
        have := OwL.shs (H := H) rp
        rwa [erL_map, List.map_map] at this
      have w3 := h4 (M.frz g S H) H (.ref p0) (.lst (os.map fun o => .sh o.er)) [p0] (frz_same ks) (fun _ _ => rfl) (.lst hl rs)
      rw [hσ] at w3
      have x : Ex3 S T (M.frz g S H) (M.frz g T H) := ⟨frz_same ks, frz_same kg, fun b hb => frz_out fun z => hb (kg b z)⟩
      simp only [List.nodup_append, List.mem_append, List.nodup_cons, List.mem_cons] at nd
      obtain ⟨⟨n1, ⟨m1, n2⟩, n3⟩, n4, n5⟩ := nd
      refine a pv (M.frz g S H) (M.frz g T H) _ σ H E ⟨frz_mono r.lo, frz_low r.th, _, w3, ?_, fun b hb => ?_⟩ pi (PSt.mono x q)
      · simp only [List.nodup_append, List.mem_append, List.mem_singleton]
        exact ⟨⟨n1, by simp, fun a ha b hb e => n3 a ha b (.inl hb) e⟩, n4, fun a ha b hb e => ha.elim (fun z => n5 a (.inl z) b hb e) fun z => n5 a (.inr (.inl z)) b hb e⟩
      · simp only [List.mem_append, List.mem_singleton] at hb
        have hg : b ∉ g := fun z => by
          rcases hb with (hb | hb) | hb
          · exact n3 b hb b (.inr z) rfl
          · exact m1 (hb ▸ z)
          · exact n5 b (.inr (.inr z)) b hb rfl
        rw [frz_out hg]
        rcases hb with (hb | hb) | hb
        · exact k b (by simp [hb])
        · exact k b (by simp [hb])
        · exact k b (by simp [hb])
end
end M

/-! Typed readings: what a printed text comes to, over numbers, lists and pairs of Lean's own. -/
namespace M
open PySem L2
/-- the plain reading d is what the typed one tells, where that tells anything -/
def Rf {α β : Type} (g : α → β) (d : Rs β) (r : Rs α) : Prop := match r with
  | .ok a => d = .ok (g a)
  | .ex c => d = .ex c
  | .bad => True
def Ro {α β : Type} (p : α → β → Prop) (d : Rs β) (r : Rs α) : Prop := match r with
  | .ok a => ∃ o, d = .ok o ∧ p a o
  | .ex c => d = .ex c
  | .bad => True
def Fa {α β : Type} (p : α → β → Prop) : List α → List β → Prop
  | [], [] => True
  | a :: as, b :: bs => p a b ∧ Fa p as bs
  | _, _ => False
section
variable {α β γ δ : Type}
theorem Fa.mono {p q : α → β → Prop} (h : ∀ a b, p a b → q a b) : ∀ {as : List α} {bs : List β}, Fa p as bs → Fa q as bs
  | [], [], _ => trivial
  | _ :: _, _ :: _, ⟨x, y⟩ => ⟨h _ _ x, Fa.mono h y⟩
  | [], _ :: _, x => x.elim
  | _ :: _, [], x => x.elim
theorem Fa.length {p : α → β → Prop} : ∀ {as : List α} {bs : List β}, Fa p as bs → bs.length = as.length
  | [], [], _ => rfl
  | _ :: _, _ :: _, ⟨_, y⟩ => by rw [List.length_cons, List.length_cons, Fa.length y]
  | [], _ :: _, x => x.elim
  | _ :: _, [], x => x.elim
theorem Fa.append {p : α → β → Prop} : ∀ {as as' : List α} {bs bs' : List β}, Fa p as bs → Fa p as' bs' → Fa p (as ++ as') (bs ++ bs')
  | [], _, [], _, _, y => y
  | _ :: _, _, _ :: _, _, ⟨x, z⟩, y => ⟨x, Fa.append z y⟩
  | [], _, _ :: _, _, x, _ => x.elim
  | _ :: _, _, [], _, x, _ => x.elim
theorem Fa.set {p : α → β → Prop} : ∀ {as : List α} {bs : List β} {i : Nat} {a : α} {b : β}, Fa p as bs → p a b → Fa p (as.set i a) (bs.set i b)
  | [], [], _, _, _, _, _ => trivial
  | _ :: _, _ :: _, 0, _, _, ⟨_, z⟩, y => ⟨y, z⟩
  | _ :: _, _ :: _, i + 1, _, _, ⟨x, z⟩, y => ⟨x, Fa.set z y⟩
  | [], _ :: _, _, _, _, x, _ => x.elim
  | _ :: _, [], _, _, _, x, _ => x.elim
theorem Fa.get {p : α → β → Prop} : ∀ {as : List α} {bs : List β} {i : Nat} {a : α}, Fa p as bs → as[i]? = some a → ∃ b, bs[i]? = some b ∧ p a b
  | [], [], _, _, _, e => by simp at e
  | _ :: _, _ :: _, 0, _, ⟨x, _⟩, e => by simp at e; subst e; exact ⟨_, rfl, x⟩
  | _ :: _, _ :: _, i + 1, _, ⟨_, z⟩, e => by
    obtain ⟨b, h1, h2⟩ := Fa.get z (i := i) (by simpa using e)
    exact ⟨b, by simpa using h1, h2⟩
  | [], _ :: _, _, _, x, _ => x.elim
  | _ :: _, [], _, _, x, _ => x.elim
theorem Fa.map {p : α → β → Prop} {f : γ → α} {g : γ → β} (h : ∀ c, p (f c) (g c)) : ∀ cs : List γ, Fa p (cs.map f) (cs.map g)
  | [] => trivial
  | c :: cs => ⟨h c, Fa.map h cs⟩
theorem Fa.self {p : α → β → Prop} {g : α → β} (h : ∀ c, p c (g c)) : ∀ cs : List α, Fa p cs (cs.map g)
  | [] => trivial
  | c :: cs => ⟨h c, Fa.self h cs⟩
theorem Fa.er {p : α → O → Prop} {f : α → D} (h : ∀ a o, p a o → o.er = f a) : ∀ {as : List α} {os : List O}, Fa p as os → os.map O.er = as.map f
  | [], [], _ => rfl
  | _ :: _, _ :: _, ⟨x, y⟩ => by rw [List.map_cons, List.map_cons, h _ _ x, Fa.er h y]
  | [], _ :: _, x => x.elim
  | _ :: _, [], x => x.elim
end
/-- how a typed thing stands as data, and as a tree of one's own -/
structure Cd (α : Type) where
  en : α → D
  ro : α → O → Prop
  er : ∀ a o, ro a o → o.er = en a
  de : D → Option α
  de_en : ∀ a, de (en a) = some a
  en_de : ∀ d a, de d = some a → d = en a
section
variable {α β γ δ ε : Type}
/-- handed about, never changed -/
def sh (c : Cd α) : Cd α := ⟨c.en, fun a o => o = .sh (c.en a), fun a o h => by rw [h, er_sh], c.de, c.de_en, c.en_de⟩
/-- whatever tree -/
def any (c : Cd α) : Cd α := ⟨c.en, fun a o => o.er = c.en a, fun a o h => h, c.de, c.de_en, c.en_de⟩
def cI : Cd Int := ⟨.int, fun a o => o = .sh (.int a), fun a o h => by rw [h, er_sh], fun d => match d with | .int i => some i | _ => none, fun _ => rfl, fun d a h => by cases d <;> simp_all⟩
def cB : Cd Bool := ⟨.bl, fun a o => o = .sh (.bl a), fun a o h => by rw [h, er_sh], fun d => match d with | .bl i => some i | _ => none, fun _ => rfl, fun d a h => by cases d <;> simp_all⟩
def cS : Cd Str := ⟨.str, fun a o => o = .sh (.str a), fun a o h => by rw [h, er_sh], fun d => match d with | .str i => some i | _ => none, fun _ => rfl, fun d a h => by cases d <;> simp_all⟩
def cN : Cd Unit := ⟨fun _ => .non, fun a o => o = .sh .non, fun a o h => by rw [h, er_sh], fun d => match d with | .non => some () | _ => none, fun _ => rfl, fun d a h => by cases d <;> simp_all⟩
def cD : Cd D := ⟨id, fun a o => o = .sh a, fun a o h => by rw [h, er_sh]; rfl, some, fun _ => rfl, fun d a h => by cases h; rfl⟩
def cX : Cd (List Int) := ⟨.scr, fun a o => o = .sh (.scr a), fun a o h => by rw [h, er_sh], fun d => match d with | .scr i => some i | _ => none, fun _ => rfl, fun d a h => by cases d <;> simp_all⟩
def deL (f : D → Option α) : List D → Option (List α)
  | [] => some []
  | d :: ds => match f d, deL f ds with
    | some a, some as => some (a :: as)
    | _, _ => none
theorem deL_en (c : Cd α) : ∀ as : List α, deL c.de (as.map c.en) = some as
  | [] => rfl
  | a :: as => by rw [List.map_cons, deL, c.de_en, deL_en c as]
theorem en_deL (c : Cd α) : ∀ (ds : List D) (as : List α), deL c.de ds = some as → ds = as.map c.en
  | [], as, h => by cases h; rfl
  | d :: ds, as, h => by
    unfold deL at h
    cases e1 : c.de d with
    | none => rw [e1] at h; cases h
    | some a =>
      cases e2 : deL c.de ds with
      | none => rw [e1, e2] at h; cases h
      | some bs =>
        rw [e1, e2] at h
        cases h
        rw [List.map_cons, ← c.en_de d a e1, ← en_deL c ds bs e2]
/-- a list of one's own -/
def cL (c : Cd α) : Cd (List α) := ⟨fun as => .lst (as.map c.en), fun as o => ∃ os, o = .lst os ∧ Fa c.ro as os, fun as o ⟨os, e, h⟩ => by rw [e, er_lst, h.er c.er],
  fun d => match d with | .lst ds => deL c.de ds | _ => none, fun as => deL_en c as, fun d as h => by
    cases d <;> simp at h
    rw [en_deL c _ _ h]⟩
def cT2 (a : Cd α) (b : Cd β) : Cd (α × β) := ⟨fun p => .tup [a.en p.1, b.en p.2], fun p o => ∃ x y, o = .tup [x, y] ∧ a.ro p.1 x ∧ b.ro p.2 y, fun p o ⟨x, y, e, h1, h2⟩ => by rw [e, er_tup, List.map_cons, List.map_cons, a.er _ _ h1, b.er _ _ h2]; rfl,
  fun d => match d with | .tup [x, y] => (match a.de x, b.de y with | some p, some q => some (p, q) | _, _ => none) | _ => none, fun p => by simp [a.de_en, b.de_en], fun d p h => by
    split at h
    · split at h
      · rename_i e1 e2
        cases h
        rw [← a.en_de _ _ e1, ← b.en_de _ _ e2]
      · cases h
    · cases h⟩
def cT3 (a : Cd α) (b : Cd β) (c : Cd γ) : Cd (α × β × γ) := ⟨fun p => .tup [a.en p.1, b.en p.2.1, c.en p.2.2], fun p o => ∃ x y z, o = .tup [x, y, z] ∧ a.ro p.1 x ∧ b.ro p.2.1 y ∧ c.ro p.2.2 z, fun p o ⟨x, y, z, e, h1, h2, h3⟩ => by rw [e, er_tup, List.map_cons, List.map_cons, List.map_cons, a.er _ _ h1, b.er _ _ h2, c.er _ _ h3]; rfl,
  fun d => match d with | .tup [x, y, z] => (match a.de x, b.de y, c.de z with | some p, some q, some r => some (p, q, r) | _, _, _ => none) | _ => none, fun p => by simp [a.de_en, b.de_en, c.de_en], fun d p h => by
    split at h
    · split at h
      · rename_i e1 e2 e3
        cases h
        rw [← a.en_de _ _ e1, ← b.en_de _ _ e2, ← c.en_de _ _ e3]
      · cases h
    · cases h⟩
def cT4 (a : Cd α) (b : Cd β) (c : Cd γ) (d : Cd δ) : Cd (α × β × γ × δ) := ⟨fun p => .tup [a.en p.1, b.en p.2.1, c.en p.2.2.1, d.en p.2.2.2], fun p o => ∃ x y z w, o = .tup [x, y, z, w] ∧ a.ro p.1 x ∧ b.ro p.2.1 y ∧ c.ro p.2.2.1 z ∧ d.ro p.2.2.2 w, fun p o ⟨x, y, z, w, e, h1, h2, h3, h4⟩ => by rw [e, er_tup, List.map_cons, List.map_cons, List.map_cons, List.map_cons, a.er _ _ h1, b.er _ _ h2, c.er _ _ h3, d.er _ _ h4]; rfl,
  fun e => match e with | .tup [x, y, z, w] => (match a.de x, b.de y, c.de z, d.de w with | some p, some q, some r, some s => some (p, q, r, s) | _, _, _, _ => none) | _ => none, fun p => by simp [a.de_en, b.de_en, c.de_en, d.de_en], fun e p h => by
    split at h
    · split at h
      · rename_i e1 e2 e3 e4
        cases h
        rw [← a.en_de _ _ e1, ← b.en_de _ _ e2, ← c.en_de _ _ e3, ← d.en_de _ _ e4]
      · cases h
    · cases h⟩
/-- None, or a thing that never stands as None -/
def nonD : D → Bool
  | .non => true
  | _ => false
def cO (c : Cd α) (h : ∀ a, nonD (c.en a) = false) : Cd (Option α) := ⟨fun x => match x with | none => .non | some a => c.en a, fun x o => match x with | none => o = .sh .non | some a => c.ro a o, fun x o k => by
    cases x with
    | none => rw [show o = .sh .non from k, er_sh]
    | some a => exact c.er a o k,
  fun d => if nonD d = true then some none else (c.de d).map some, fun x => by
    cases x with
    | none => rfl
    | some a => simp [h a, c.de_en], fun d x k => by
    by_cases e : nonD d = true
    · rw [if_pos e] at k
      cases k
      cases d <;> simp_all [nonD]
    · rw [if_neg e] at k
      cases e1 : c.de d with
      | none => rw [e1] at k; cases k
      | some a => rw [e1] at k; cases k; exact c.en_de d a e1⟩
/-! a tree of one kind is one of another -/
abbrev Su (c d : Cd α) : Prop := ∀ a o, c.ro a o → d.ro a o
theorem su_refl (c : Cd α) : Su c c := fun _ _ h => h
theorem su_any (c : Cd α) : Su c (any c) := fun a o h => c.er a o h
theorem su_any' {c d : Cd α} (e : d.en = c.en) : Su d (any c) := fun a o h => by
  have := d.er a o h
  rw [e] at this
  exact this
theorem su_L {c d : Cd α} (h : Su c d) : Su (cL c) (cL d) := fun a o ⟨os, e, k⟩ => ⟨os, e, k.mono h⟩
theorem su_T2 {a a' : Cd α} {b b' : Cd β} (h : Su a a') (k : Su b b') : Su (cT2 a b) (cT2 a' b') := fun p o ⟨x, y, e, h1, h2⟩ => ⟨x, y, e, h _ _ h1, k _ _ h2⟩
theorem su_T3 {a a' : Cd α} {b b' : Cd β} {c c' : Cd γ} (h : Su a a') (k : Su b b') (l : Su c c') : Su (cT3 a b c) (cT3 a' b' c') := fun p o ⟨x, y, z, e, h1, h2, h3⟩ => ⟨x, y, z, e, h _ _ h1, k _ _ h2, l _ _ h3⟩
theorem su_T4 {a a' : Cd α} {b b' : Cd β} {c c' : Cd γ} {d d' : Cd δ} (h : Su a a') (k : Su b b') (l : Su c c') (m : Su d d') : Su (cT4 a b c d) (cT4 a' b' c' d') := fun p o ⟨x, y, z, w, e, h1, h2, h3, h4⟩ => ⟨x, y, z, w, e, h _ _ h1, k _ _ h2, l _ _ h3, m _ _ h4⟩
/-! ### values -/
theorem Rf.ok {g : α → β} {a : α} {d : Rs β} (h : d = .ok (g a)) : Rf g d (.ok a) := h
theorem Rf.bind {g : α → β} {g' : γ → δ} {d : Rs β} {r : Rs α} {f : β → Rs δ} {k : α → Rs γ} (h : Rf g d r) (q : ∀ a, Rf g' (f (g a)) (k a)) : Rf g' (d.bind f) (r.bind k) := by
  cases r with
  | ok a => rw [show d = .ok (g a) from h]; exact q a
  | ex c => rw [show d = .ex c from h]; rfl
  | bad => trivial
theorem Rf.bindo {g : α → β} {p : γ → δ → Prop} {d : Rs β} {r : Rs α} {f : β → Rs δ} {k : α → Rs γ} (h : Rf g d r) (q : ∀ a, Ro p (f (g a)) (k a)) : Ro p (d.bind f) (r.bind k) := by
  cases r with
  | ok a => rw [show d = .ok (g a) from h]; exact q a
  | ex c => rw [show d = .ex c from h]; rfl
  | bad => trivial
theorem Ro.bind {p : α → β → Prop} {q : γ → δ → Prop} {d : Rs β} {r : Rs α} {f : β → Rs δ} {k : α → Rs γ} (h : Ro p d r) (z : ∀ a b, p a b → Ro q (f b) (k a)) : Ro q (d.bind f) (r.bind k) := by
  cases r with
  | ok a => obtain ⟨b, e, x⟩ := h; rw [e]; exact z a b x
  | ex c => rw [show d = .ex c from h]; rfl
  | bad => trivial
theorem Ro.mono {p q : α → β → Prop} {d : Rs β} {r : Rs α} (h : Ro p d r) (k : ∀ a o, p a o → q a o) : Ro q d r := by
  cases r with
  | ok a => obtain ⟨o, e, x⟩ := h; exact ⟨o, e, k _ _ x⟩
  | ex c => exact h
  | bad => trivial
theorem Ro.rf {p : α → β → Prop} {g : α → γ} {e : β → γ} {d : Rs β} {r : Rs α} (h : Ro p d r) (k : ∀ a o, p a o → e o = g a) : Rf g (mapRs e d) r := by
  cases r with
  | ok a => obtain ⟨o, e1, x⟩ := h; rw [e1]; exact congrArg Rs.ok (k _ _ x)
  | ex c => rw [show d = .ex c from h]; rfl
  | bad => trivial
/-- a tree, as what it reads -/
theorem q_er {c : Cd α} {d : Rs O} {r : Rs α} (h : Ro c.ro d r) : Rf c.en (mapRs O.er d) r := h.rf c.er
/-- what is handed about -/
theorem q_sh {c : Cd α} {d : Rs D} {r : Rs α} (h : Rf c.en d r) : Ro (sh c).ro (mapRs O.sh d) r := by
  cases r with
  | ok a => rw [show d = .ok (c.en a) from h]; exact ⟨_, rfl, rfl⟩
  | ex c => rw [show d = .ex c from h]; rfl
  | bad => trivial
theorem q_shI {d : Rs D} {r : Rs Int} (h : Rf cI.en d r) : Ro cI.ro (mapRs O.sh d) r := q_sh h
theorem q_shB {d : Rs D} {r : Rs Bool} (h : Rf cB.en d r) : Ro cB.ro (mapRs O.sh d) r := q_sh h
theorem q_shS {d : Rs D} {r : Rs Str} (h : Rf cS.en d r) : Ro cS.ro (mapRs O.sh d) r := q_sh h
theorem q_shN {d : Rs D} {r : Rs Unit} (h : Rf cN.en d r) : Ro cN.ro (mapRs O.sh d) r := q_sh h
theorem q_shD {d : Rs D} {r : Rs D} (h : Rf cD.en d r) : Ro cD.ro (mapRs O.sh d) r := q_sh h
theorem q_shX {d : Rs D} {r : Rs (List Int)} (h : Rf cX.en d r) : Ro cX.ro (mapRs O.sh d) r := q_sh h
/-- dynamic: typed to data, and back -/
def toD (c : Cd α) (r : Rs α) : Rs D := r.bind fun a => .ok (c.en a)
def ofD (c : Cd α) (r : Rs D) : Rs α := r.bind fun d => match c.de d with
  | some a => .ok a
  | none => .bad
theorem q_toD {c : Cd α} {d : Rs D} {r : Rs α} (h : Rf c.en d r) : Rf cD.en d (toD c r) := by
  cases r with
  | ok a => exact h
  | ex c => exact h
  | bad => trivial
theorem q_ofD {c : Cd α} {d : Rs D} {r : Rs D} (h : Rf cD.en d r) : Rf c.en d (ofD c r) := by
  cases r with
  | ok a =>
    show Rf c.en d (match c.de a with | some a => .ok a | none => .bad)
    cases e : c.de a with
    | none => trivial
    | some b => rw [show d = .ok a from h, c.en_de a b e]; rfl
  | ex c => exact h
  | bad => trivial
@[simp] theorem toD_ok (c : Cd α) (a : α) : toD c (.ok a) = .ok (c.en a) := said rfl
@[simp] theorem ofD_en (c : Cd α) (a : α) : ofD c (.ok (c.en a)) = .ok a := by
  show (match c.de (c.en a) with | some a => Rs.ok a | none => .bad) = _
  rw [c.de_en]
/-- typed to typed-or-None -/
def toSome (r : Rs α) : Rs (Option α) := r.bind fun a => .ok (some a)
@[simp] theorem toSome_ok (a : α) : toSome (.ok a) = .ok (some a) := said rfl
theorem q_toSome {c : Cd α} {h : ∀ a, nonD (c.en a) = false} {d : Rs D} {r : Rs α} (k : Rf c.en d r) : Rf (cO c h).en d (toSome r) := by
  cases r with
  | ok a => exact k
  | ex c => exact k
  | bad => trivial
theorem q_toNone {c : Cd α} {h : ∀ a, nonD (c.en a) = false} : Rf (cO c h).en (.ok .non) (.ok (none : Option α)) := rfl
def ofSome (r : Rs (Option α)) : Rs α := r.bind fun x => match x with
  | some a => .ok a
  | none => .bad
@[simp] theorem ofSome_ok (a : α) : ofSome (.ok (some a)) = .ok a := said rfl
theorem q_ofSome {c : Cd α} {h : ∀ a, nonD (c.en a) = false} {d : Rs D} {r : Rs (Option α)} (k : Rf (cO c h).en d r) : Rf c.en d (ofSome r) := by
  cases r with
  | ok a => cases a with
    | none => trivial
    | some a => exact k
  | ex c => exact k
  | bad => trivial
def isNo (r : Rs (Option α)) : Rs Bool := r.bind fun x => .ok x.isNone
def isSo (r : Rs (Option α)) : Rs Bool := r.bind fun x => .ok x.isSome
@[simp] theorem isNo_ok (a : Option α) : isNo (.ok a) = .ok a.isNone := said rfl
@[simp] theorem isSo_ok (a : Option α) : isSo (.ok a) = .ok a.isSome := said rfl
/-- which kinds of data answer at once whether they are None -/
def noTup : D → Bool
  | .non => true | .bl _ => true | .int _ => true | .str _ => true | .lst _ => true | .tup _ => true | .scr _ => true
theorem isN_of {d : D} (h : nonD d = false) : isND d .non = some (.bl false) := by cases d <;> simp_all [nonD, isND]
theorem q_isNo {c : Cd α} {h : ∀ a, nonD (c.en a) = false} {d : Rs D} {r : Rs (Option α)} (k : Rf (cO c h).en d r) : Rf cB.en (bin2 isND d (.ok .non)) (isNo r) := by
  cases r with
  | ok a =>
    rw [show d = .ok ((cO c h).en a) from k]
    cases a with
    | none => rfl
    | some a => show ofO (isND (c.en a) .non) = _; rw [isN_of (h a)]; rfl
  | ex c => rw [show d = .ex c from k]; rfl
  | bad => trivial
theorem q_isSo {c : Cd α} {h : ∀ a, nonD (c.en a) = false} {d : Rs D} {r : Rs (Option α)} (k : Rf (cO c h).en d r) : Rf cB.en (bin2 notND d (.ok .non)) (isSo r) := by
  cases r with
  | ok a =>
    rw [show d = .ok ((cO c h).en a) from k]
    cases a with
    | none => rfl
    | some a => show ofO (notND (c.en a) .non) = _; unfold notND; rw [isN_of (h a)]; rfl
  | ex c => rw [show d = .ex c from k]; rfl
  | bad => trivial
theorem bin_q {ea : α → D} {eb : β → D} {ec : γ → D} {g : D → D → Option D} {f : α → β → Rs γ} {a b : Rs D} {ra : Rs α} {rb : Rs β} (hf : ∀ x y, Rf ec (ofO (g (ea x) (eb y))) (f x y)) (ha : Rf ea a ra) (hb : Rf eb b rb) :
    Rf ec (bin2 g a b) (ra.bind fun x => rb.bind fun y => f x y) := ha.bind fun x => hb.bind fun y => hf x y
theorem un_q {ea : α → D} {ec : γ → D} {g : D → Option D} {f : α → Rs γ} {a : Rs D} {ra : Rs α} (hf : ∀ x, Rf ec (ofO (g (ea x))) (f x)) (ha : Rf ea a ra) : Rf ec (un1 g a) (ra.bind f) := ha.bind hf
end
/-! ### numbers -/
def addI (a b : Rs Int) : Rs Int := a.bind fun x => b.bind fun y => .ok (x + y)
def subI (a b : Rs Int) : Rs Int := a.bind fun x => b.bind fun y => .ok (x - y)
def mulI (a b : Rs Int) : Rs Int := a.bind fun x => b.bind fun y => if mulOk x y = true then .ok (x * y) else .bad
def fdivI (a b : Rs Int) : Rs Int := a.bind fun x => b.bind fun y => if divOk x y = true then .ok (x.fdiv y) else .bad
def modI (a b : Rs Int) : Rs Int := a.bind fun x => b.bind fun y => if y ≠ 0 then .ok (x.fmod y) else .bad
def powI (a b : Rs Int) : Rs Int := a.bind fun x => b.bind fun y => if powOk x y = true then .ok (x ^ y.toNat) else .bad
def maxI (a b : Rs Int) : Rs Int := a.bind fun x => b.bind fun y => .ok (if y > x then y else x)
def minI (a b : Rs Int) : Rs Int := a.bind fun x => b.bind fun y => .ok (if y < x then y else x)
def negI (a : Rs Int) : Rs Int := a.bind fun x => .ok (-x)
def absI (a : Rs Int) : Rs Int := a.bind fun x => .ok (if x < 0 then -x else x)
def ltI (a b : Rs Int) : Rs Bool := a.bind fun x => b.bind fun y => .ok (decide (x < y))
def leI (a b : Rs Int) : Rs Bool := a.bind fun x => b.bind fun y => .ok (decide (x ≤ y))
def gtI (a b : Rs Int) : Rs Bool := a.bind fun x => b.bind fun y => .ok (decide (y < x))
def geI (a b : Rs Int) : Rs Bool := a.bind fun x => b.bind fun y => .ok (decide (y ≤ x))
def intB (a : Rs Bool) : Rs Int := a.bind fun x => .ok (if x then 1 else 0)
section
variable {x y : Int}
@[simp] theorem addI_ok : addI (.ok x) (.ok y) = .ok (x + y) := said rfl
@[simp] theorem subI_ok : subI (.ok x) (.ok y) = .ok (x - y) := said rfl
theorem mulI_eq : mulI (.ok x) (.ok y) = if mulOk x y = true then .ok (x * y) else .bad := said rfl
theorem mulI_ok (h : mulOk x y = true) : mulI (.ok x) (.ok y) = .ok (x * y) := if_pos h
theorem fdivI_ok (h : divOk x y = true) : fdivI (.ok x) (.ok y) = .ok (x.fdiv y) := if_pos h
theorem modI_ok (h : y ≠ 0) : modI (.ok x) (.ok y) = .ok (x.fmod y) := if_pos h
theorem powI_ok (h : powOk x y = true) : powI (.ok x) (.ok y) = .ok (x ^ y.toNat) := if_pos h
@[simp] theorem maxI_ok : maxI (.ok x) (.ok y) = .ok (if y > x then y else x) := said rfl
@[simp] theorem minI_ok : minI (.ok x) (.ok y) = .ok (if y < x then y else x) := said rfl
@[simp] theorem negI_ok : negI (.ok x) = .ok (-x) := said rfl
@[simp] theorem absI_ok : absI (.ok x) = .ok (if x < 0 then -x else x) := said rfl
@[simp] theorem ltI_ok : ltI (.ok x) (.ok y) = .ok (decide (x < y)) := said rfl
@[simp] theorem leI_ok : leI (.ok x) (.ok y) = .ok (decide (x ≤ y)) := said rfl
@[simp] theorem gtI_ok : gtI (.ok x) (.ok y) = .ok (decide (y < x)) := said rfl
@[simp] theorem geI_ok : geI (.ok x) (.ok y) = .ok (decide (y ≤ x)) := said rfl
@[simp] theorem intB_ok {b : Bool} : intB (.ok b) = .ok (if b then 1 else 0) := said rfl
end
section
variable {a b : Rs D} {x y : Rs Int}
theorem q_add (ha : Rf cI.en a x) (hb : Rf cI.en b y) : Rf cI.en (bin2 addD a b) (addI x y) := bin_q (ea := cI.en) (eb := cI.en) (fun _ _ => rfl) ha hb
theorem q_sub (ha : Rf cI.en a x) (hb : Rf cI.en b y) : Rf cI.en (bin2 subD a b) (subI x y) := bin_q (ea := cI.en) (eb := cI.en) (fun _ _ => rfl) ha hb
theorem q_mul (ha : Rf cI.en a x) (hb : Rf cI.en b y) : Rf cI.en (bin2 mulD a b) (mulI x y) := bin_q (fun x y => by
  show Rf cI.en (ofO (mulD (.int x) (.int y))) _
  rw [mul_int]; split <;> trivial) ha hb
theorem q_fdiv (ha : Rf cI.en a x) (hb : Rf cI.en b y) : Rf cI.en (bin2 fdivD a b) (fdivI x y) := bin_q (fun x y => by
  show Rf cI.en (ofO (fdivD (.int x) (.int y))) _
  rw [fdiv_int]; split <;> trivial) ha hb
theorem q_mod (ha : Rf cI.en a x) (hb : Rf cI.en b y) : Rf cI.en (bin2 modD a b) (modI x y) := bin_q (fun x y => by
  show Rf cI.en (ofO (modD (.int x) (.int y))) _
  rw [mod_int]; split <;> trivial) ha hb
theorem q_pow (ha : Rf cI.en a x) (hb : Rf cI.en b y) : Rf cI.en (bin2 powD a b) (powI x y) := bin_q (fun x y => by
  show Rf cI.en (ofO (powD (.int x) (.int y))) _
  rw [pow_int]; split <;> trivial) ha hb
theorem q_max (ha : Rf cI.en a x) (hb : Rf cI.en b y) : Rf cI.en (bin2 max2D a b) (maxI x y) := bin_q (ea := cI.en) (eb := cI.en) (fun _ _ => rfl) ha hb
theorem q_min (ha : Rf cI.en a x) (hb : Rf cI.en b y) : Rf cI.en (bin2 min2D a b) (minI x y) := bin_q (ea := cI.en) (eb := cI.en) (fun _ _ => rfl) ha hb
theorem q_neg (ha : Rf cI.en a x) : Rf cI.en (un1 negD a) (negI x) := un_q (ea := cI.en) (fun _ => rfl) ha
theorem q_abs (ha : Rf cI.en a x) : Rf cI.en (un1 absD a) (absI x) := un_q (ea := cI.en) (fun _ => rfl) ha
theorem q_lt (ha : Rf cI.en a x) (hb : Rf cI.en b y) : Rf cB.en (bin2 ltD a b) (ltI x y) := bin_q (ea := cI.en) (eb := cI.en) (fun _ _ => rfl) ha hb
theorem q_le (ha : Rf cI.en a x) (hb : Rf cI.en b y) : Rf cB.en (bin2 leD a b) (leI x y) := bin_q (ea := cI.en) (eb := cI.en) (fun _ _ => rfl) ha hb
theorem q_gt (ha : Rf cI.en a x) (hb : Rf cI.en b y) : Rf cB.en (bin2 gtD a b) (gtI x y) := bin_q (ea := cI.en) (eb := cI.en) (fun _ _ => rfl) ha hb
theorem q_ge (ha : Rf cI.en a x) (hb : Rf cI.en b y) : Rf cB.en (bin2 geD a b) (geI x y) := bin_q (ea := cI.en) (eb := cI.en) (fun _ _ => rfl) ha hb
theorem q_intB {z : Rs Bool} (ha : Rf cB.en a z) : Rf cI.en (un1 intD a) (intB z) := un_q (ea := cB.en) (fun _ => rfl) ha
theorem q_intI (ha : Rf cI.en a x) : Rf cI.en (un1 intD a) x := by
  cases x with
  | ok i => rw [show a = .ok (.int i) from ha]; rfl
  | ex c => rw [show a = .ex c from ha]; rfl
  | bad => trivial
theorem q_int (i : Int) : Rf cI.en (.ok (.int i)) (.ok i) := rfl
theorem q_bl (i : Bool) : Rf cB.en (.ok (.bl i)) (.ok i) := rfl
theorem q_str (i : Str) : Rf cS.en (.ok (.str i)) (.ok i) := rfl
theorem q_non : Rf cN.en (.ok .non) (.ok ()) := rfl
theorem q_prim {α : Type} {c : Cd α} {r : Rs α} (h : ∀ z, prim (c.en z) = true) (ha : Rf c.en a r) : Rf c.en (asPrim a) r := by
  cases r with
  | ok i =>
    rw [show a = .ok (c.en i) from ha]
    show (if prim (c.en i) = true then Rs.ok (c.en i) else .bad) = _
    rw [if_pos (h i)]
  | ex c => rw [show a = .ex c from ha]; rfl
  | bad => trivial
end
/-! ### truths -/
section
variable {a b : Rs D} {x y : Rs Bool} {p q : Rs Bool}
theorem q_asB (ha : Rf cB.en a x) : Rf id (asB a) x := by
  cases x with
  | ok i => rw [show a = .ok (.bl i) from ha]; rfl
  | ex c => rw [show a = .ex c from ha]; rfl
  | bad => trivial
def notB (a : Rs Bool) : Rs Bool := a.bind fun x => .ok (!x)
def andB (a b : Rs Bool) : Rs Bool := a.bind fun x => if x = true then b else .ok false
def orB (a b : Rs Bool) : Rs Bool := a.bind fun x => if x = true then .ok true else b
@[simp] theorem notB_ok {x : Bool} : notB (.ok x) = .ok (!x) := said rfl
@[simp] theorem andB_t {b : Rs Bool} : andB (.ok true) b = b := said rfl
@[simp] theorem andB_f {b : Rs Bool} : andB (.ok false) b = .ok false := said rfl
theorem andB_ok {x y : Bool} : andB (.ok x) (.ok y) = .ok (x && y) := by cases x <;> rfl
@[simp] theorem orB_t {b : Rs Bool} : orB (.ok true) b = .ok true := said rfl
@[simp] theorem orB_f {b : Rs Bool} : orB (.ok false) b = b := said rfl
theorem orB_ok {x y : Bool} : orB (.ok x) (.ok y) = .ok (x || y) := by cases x <;> rfl
theorem q_notV (ha : Rf cB.en a x) : Rf cB.en (notV a) (notB x) := ha.bind fun z => rfl
theorem q_andV (ha : Rf cB.en a x) (hb : Rf cB.en b y) : Rf cB.en (andV a b) (andB x y) := ha.bind fun z => by
  cases z with
  | true => exact hb
  | false => rfl
theorem q_orV (ha : Rf cB.en a x) (hb : Rf cB.en b y) : Rf cB.en (orV a b) (orB x y) := ha.bind fun z => by
  cases z with
  | true => rfl
  | false => exact hb
theorem q_notT (ha : Rf id p x) : Rf id (notT p) (notB x) := ha.bind fun z => rfl
theorem q_andT (ha : Rf id p x) (hb : Rf id q y) : Rf id (andT p q) (andB x y) := ha.bind fun z => by
  cases z with
  | true => exact hb
  | false => rfl
theorem q_orT (ha : Rf id p x) (hb : Rf id q y) : Rf id (orT p q) (orB x y) := ha.bind fun z => by
  cases z with
  | true => rfl
  | false => exact hb
def ifT {α : Type} (c : Rs Bool) (a b : Rs α) : Rs α := c.bind fun k => if k = true then a else b
@[simp] theorem ifT_ok {α : Type} {k : Bool} {a b : Rs α} : ifT (.ok k) a b = if k = true then a else b := said rfl
theorem q_if {α : Type} {g : α → D} {r s : Rs α} (hc : Rf id p x) (ha : Rf g a r) (hb : Rf g b s) : Rf g (ifR p a b) (ifT x r s) := hc.bind fun z => by
  cases z with
  | true => exact ha
  | false => exact hb
end
/-! ### equality -/
structure Eqy {α : Type} (c : Cd α) (n : Nat) : Prop where
  lay : ∀ a, PyData.canLay0 (c.en a).py = true
  dep : ∀ a, PyData.depth (c.en a).py ≤ n
  eqv : ∀ a b, (PyData.eqv (c.en a).py (c.en b).py = true) ↔ a = b
section
variable {α β γ δ : Type}
theorem y_I : Eqy cI 1 := ⟨fun _ => rfl, fun a => by show PyData.depth (.int a) ≤ 1; unfold PyData.depth; decide, fun a b => by
  show (a == b) = true ↔ _
  exact beq_iff_eq⟩
theorem y_B : Eqy cB 1 := ⟨fun _ => rfl, fun a => by show PyData.depth (.bool a) ≤ 1; unfold PyData.depth; decide, fun a b => by
  show PyData.eqv (.bool a) (.bool b) = true ↔ _
  cases a <;> cases b <;> decide⟩
theorem canAll {c : Cd α} {n : Nat} (h : Eqy c n) : ∀ as : List α, PyData.canLayAll0 ((as.map c.en).map D.py) = true
  | [] => rfl
  | a :: as => by
    rw [List.map_cons, List.map_cons, PyData.canLayAll0, canAll h as, h.lay]
    rfl
theorem depAll {c : Cd α} {n : Nat} (h : Eqy c n) : ∀ as : List α, PyData.depthAll ((as.map c.en).map D.py) ≤ n
  | [] => Nat.zero_le _
  | a :: as => by
    rw [List.map_cons, List.map_cons, PyData.depthAll]
    have := depAll h as
    have := h.dep a
    omega
theorem eqvAll {c : Cd α} {n : Nat} (h : Eqy c n) : ∀ as bs : List α, (PyData.eqvAll ((as.map c.en).map D.py) ((bs.map c.en).map D.py) = true) ↔ as = bs
  | [], [] => ⟨fun _ => rfl, fun _ => rfl⟩
  | [], _ :: _ => ⟨fun h => Bool.noConfusion h, fun h => List.noConfusion rfl (heq_of_eq h)⟩
  | _ :: _, [] => ⟨fun h => Bool.noConfusion h, fun h => List.noConfusion rfl (heq_of_eq h)⟩
  | a :: as, b :: bs => by
    rw [List.map_cons, List.map_cons, List.map_cons, List.map_cons, PyData.eqvAll, Bool.and_eq_true, eqvAll h as bs, h.eqv, List.cons.injEq]
theorem y_L {c : Cd α} {n : Nat} (h : Eqy c n) : Eqy (cL c) (n + 1) := ⟨fun as => by
    show PyData.canLay0 (.list (pyL (as.map c.en))) = true
    rw [pyL_map, PyData.canLay0]
    exact canAll h as, fun as => by
    show PyData.depth (.list (pyL (as.map c.en))) ≤ _
    rw [pyL_map, PyData.depth]
    have := depAll h as
    omega, fun as bs => by
    show PyData.eqv (.list (pyL (as.map c.en))) (.list (pyL (bs.map c.en))) = true ↔ _
    rw [pyL_map, pyL_map, PyData.eqv]
    exact eqvAll h as bs⟩
theorem y_T2 {a : Cd α} {b : Cd β} {m n : Nat} (h : Eqy a m) (k : Eqy b n) : Eqy (cT2 a b) (max m n + 1) := ⟨fun p => by
    show PyData.canLay0 (.tuple [(a.en p.1).py, (b.en p.2).py]) = true
    rw [PyData.canLay0, PyData.canLayAll0, PyData.canLayAll0, PyData.canLayAll0, h.lay, k.lay]; rfl, fun p => by
    show PyData.depth (.tuple [(a.en p.1).py, (b.en p.2).py]) ≤ _
    rw [PyData.depth, PyData.depthAll, PyData.depthAll, PyData.depthAll]
    have := h.dep p.1
    have := k.dep p.2
    omega, fun p q => by
    show PyData.eqv (.tuple [(a.en p.1).py, (b.en p.2).py]) (.tuple [(a.en q.1).py, (b.en q.2).py]) = true ↔ _
    rw [PyData.eqv, PyData.eqvAll, PyData.eqvAll, PyData.eqvAll, Bool.and_eq_true, Bool.and_eq_true, h.eqv, k.eqv]
    exact ⟨fun e => Prod.ext e.1 e.2.1, fun e => by rw [e]; exact ⟨rfl, rfl, rfl⟩⟩⟩
theorem y_T3 {a : Cd α} {b : Cd β} {c : Cd γ} {m n o : Nat} (h : Eqy a m) (k : Eqy b n) (l : Eqy c o) : Eqy (cT3 a b c) (max m (max n o) + 1) := ⟨fun p => by
    show PyData.canLay0 (.tuple [(a.en p.1).py, (b.en p.2.1).py, (c.en p.2.2).py]) = true
    rw [PyData.canLay0, PyData.canLayAll0, PyData.canLayAll0, PyData.canLayAll0, PyData.canLayAll0, h.lay, k.lay, l.lay]; rfl, fun p => by
    show PyData.depth (.tuple [(a.en p.1).py, (b.en p.2.1).py, (c.en p.2.2).py]) ≤ _
    rw [PyData.depth, PyData.depthAll, PyData.depthAll, PyData.depthAll, PyData.depthAll]
    have := h.dep p.1
    have := k.dep p.2.1
    have := l.dep p.2.2
    omega, fun p q => by
    show PyData.eqv (.tuple [(a.en p.1).py, (b.en p.2.1).py, (c.en p.2.2).py]) (.tuple [(a.en q.1).py, (b.en q.2.1).py, (c.en q.2.2).py]) = true ↔ _
    rw [PyData.eqv, PyData.eqvAll, PyData.eqvAll, PyData.eqvAll, PyData.eqvAll, Bool.and_eq_true, Bool.and_eq_true, Bool.and_eq_true, h.eqv, k.eqv, l.eqv]
    exact ⟨fun e => Prod.ext e.1 (Prod.ext e.2.1 e.2.2.1), fun e => by rw [e]; exact ⟨rfl, rfl, rfl, rfl⟩⟩⟩
theorem shaped_of {c : Cd α} {n : Nat} (h : Eqy c n) (hn : n ≤ 64) (a : α) : SeqAt.shaped (c.en a).py = true := by
  unfold SeqAt.shaped
  rw [h.lay, decide_eq_true (Nat.le_trans (h.dep a) hn)]
  rfl
def eqT [DecidableEq α] (a b : Rs α) : Rs Bool := a.bind fun x => b.bind fun y => .ok (decide (x = y))
def neT [DecidableEq α] (a b : Rs α) : Rs Bool := a.bind fun x => b.bind fun y => .ok (!decide (x = y))
@[simp] theorem eqT_ok [DecidableEq α] {x y : α} : eqT (.ok x) (.ok y) = .ok (decide (x = y)) := said rfl
@[simp] theorem neT_ok [DecidableEq α] {x y : α} : neT (.ok x) (.ok y) = .ok (!decide (x = y)) := said rfl
theorem eqB_of {c : Cd α} {n : Nat} [DecidableEq α] (h : Eqy c n) (x y : α) : eqB (c.en x) (c.en y) = decide (x = y) := by
  unfold eqB
  by_cases e : x = y
  · rw [decide_eq_true e, (h.eqv x y).mpr e]
  · rw [decide_eq_false e]
    cases q : PyData.eqv (c.en x).py (c.en y).py with
    | false => rfl
    | true => exact absurd ((h.eqv x y).mp q) e
theorem eqD_of {c : Cd α} {n : Nat} [DecidableEq α] (h : Eqy c n) (hn : n ≤ 64) (x y : α) : eqD (c.en x) (c.en y) = some (.bl (decide (x = y))) := by
  unfold eqD eqOk
  rw [shaped_of h hn, shaped_of h hn, if_pos (show (true && true) = true from rfl), eqB_of h]
theorem neD_of {c : Cd α} {n : Nat} [DecidableEq α] (h : Eqy c n) (hn : n ≤ 64) (x y : α) : neD (c.en x) (c.en y) = some (.bl (!decide (x = y))) := by
  unfold neD eqOk
  rw [shaped_of h hn, shaped_of h hn, if_pos (show (true && true) = true from rfl), eqB_of h]
theorem q_eq [DecidableEq α] {c : Cd α} {n : Nat} (h : Eqy c n) {a b : Rs D} {x y : Rs α} (ha : Rf c.en a x) (hb : Rf c.en b y) (hn : n ≤ 64 := by decide) : Rf cB.en (bin2 eqD a b) (eqT x y) := bin_q (fun x y => by rw [eqD_of h hn]; rfl) ha hb
theorem q_ne [DecidableEq α] {c : Cd α} {n : Nat} (h : Eqy c n) {a b : Rs D} {x y : Rs α} (ha : Rf c.en a x) (hb : Rf c.en b y) (hn : n ≤ 64 := by decide) : Rf cB.en (bin2 neD a b) (neT x y) := bin_q (fun x y => by rw [neD_of h hn]; rfl) ha hb
/-- of data whose kind isn't said -/
def dyn2 (g : D → D → Option D) (a b : Rs D) : Rs D := bin2 g a b
def dyn1 (g : D → Option D) (a : Rs D) : Rs D := un1 g a
theorem q_dyn2 {g : D → D → Option D} {a b x y : Rs D} (ha : Rf cD.en a x) (hb : Rf cD.en b y) : Rf cD.en (bin2 g a b) (dyn2 g x y) := bin_q (f := fun x y => ofO (g x y)) (fun x y => by
  show Rf cD.en (ofO (g x y)) _
  cases g x y <;> trivial) ha hb
theorem q_dyn1 {g : D → Option D} {a x : Rs D} (ha : Rf cD.en a x) : Rf cD.en (un1 g a) (dyn1 g x) := un_q (f := fun x => ofO (g x)) (fun x => by
  show Rf cD.en (ofO (g x)) _
  cases g x <;> trivial) ha
end
end M

/-! Typed readings: lists, calls, slots, statements. -/
namespace M
open PySem L2
section
variable {α β γ δ : Type}
theorem atI_mapO (f : α → β) (xs : List α) (i : Int) : atI (xs.map f) i = (atI xs i).map f := by
  unfold atI
  rw [List.length_map]
  cases ixN xs.length i with
  | none => rfl
  | some j => exact List.getElem?_map ..
theorem cutL_map (f : α → β) (xs : List α) (lo hi : Option Int) : cutL (xs.map f) lo hi = (cutL xs lo hi).map f := by
  unfold cutL
  rw [List.length_map, ← List.map_drop, ← List.map_take]
def ixL (x : Rs (List α)) (i : Rs Int) : Rs α := x.bind fun x => i.bind fun j => ofO (atI x j)
@[simp] theorem ixL_eq {x : List α} {j : Int} : ixL (.ok x) (.ok j) = ofO (atI x j) := said rfl
theorem q_ix {c : Cd α} {a b : Rs D} {x : Rs (List α)} {i : Rs Int} (ha : Rf (cL c).en a x) (hb : Rf cI.en b i) : Rf c.en (bin2 ixD a b) (ixL x i) := bin_q (f := fun x j => ofO (atI x j)) (fun x j => by
  show Rf c.en (ofO (atI (x.map c.en) j)) _
  rw [atI_mapO]
  cases atI x j with
  | none => trivial
  | some z => rfl) ha hb
theorem q_ixX {a b : Rs D} {x : Rs (List Int)} {i : Rs Int} (ha : Rf cX.en a x) (hb : Rf cI.en b i) : Rf cI.en (bin2 ixD a b) (ixL x i) := bin_q (ea := cX.en) (f := fun x j => ofO (atI x j)) (fun x j => by
  show Rf cI.en (ofO ((atI x j).map D.int)) _
  cases atI x j with
  | none => trivial
  | some z => rfl) ha hb
def projR (f : α → β) (r : Rs α) : Rs β := r.bind fun a => .ok (f a)
@[simp] theorem projR_ok {f : α → β} {a : α} : projR f (.ok a) = .ok (f a) := said rfl
theorem q_proj {c : Cd α} {d : Cd β} {f : α → β} {n : Int} {a : Rs D} {r : Rs α} (h : ∀ p, ixD (c.en p) (.int n) = some (d.en (f p))) (ha : Rf c.en a r) : Rf d.en (bin2 ixD a (.ok (.int n))) (projR f r) := by
  cases r with
  | ok p => rw [show a = .ok (c.en p) from ha]; show ofO (ixD (c.en p) (.int n)) = _; rw [h]; rfl
  | ex c => rw [show a = .ex c from ha]; rfl
  | bad => trivial
def lenL (x : Rs (List α)) : Rs Int := x.bind fun x => .ok (x.length : Int)
@[simp] theorem lenL_ok {x : List α} : lenL (.ok x) = .ok (x.length : Int) := said rfl
theorem q_len {c : Cd α} {a : Rs D} {x : Rs (List α)} (ha : Rf (cL c).en a x) : Rf cI.en (un1 lenD a) (lenL x) := un_q (ea := (cL c).en) (fun x => by
  show ofO (lenD (.lst (x.map c.en))) = _
  rw [len_lst, List.length_map]; rfl) ha
theorem q_lenX {a : Rs D} {x : Rs (List Int)} (ha : Rf cX.en a x) : Rf cI.en (un1 lenD a) (lenL x) := un_q (ea := cX.en) (fun x => rfl) ha
def theI (n : Int) (r : Rs α) : Rs Int := r.bind fun _ => .ok n
@[simp] theorem theI_ok {n : Int} {a : α} : theI n (.ok a) = .ok n := said rfl
theorem q_lenT {c : Cd α} {n : Int} {a : Rs D} {r : Rs α} (h : ∀ p, lenD (c.en p) = some (.int n)) (ha : Rf c.en a r) : Rf cI.en (un1 lenD a) (theI n r) := un_q (ea := c.en) (fun x => by
  show ofO (lenD (c.en x)) = _
  rw [h]; rfl) ha
def sumI (x : Rs (List Int)) : Rs Int := x.bind fun x => .ok x.sum
@[simp] theorem sumI_ok {x : List Int} : sumI (.ok x) = .ok x.sum := said rfl
theorem q_sum {a : Rs D} {x : Rs (List Int)} (ha : Rf (cL cI).en a x) : Rf cI.en (un1 sumD a) (sumI x) := un_q (ea := (cL cI).en) (fun x => by
  show ofO (sumD (.lst (x.map D.int))) = _
  rw [sum_li]; rfl) ha
def allB (x : Rs (List Bool)) : Rs Bool := x.bind fun x => .ok (x.all id)
def anyB (x : Rs (List Bool)) : Rs Bool := x.bind fun x => .ok (x.any id)
@[simp] theorem allB_ok {x : List Bool} : allB (.ok x) = .ok (x.all id) := said rfl
@[simp] theorem anyB_ok {x : List Bool} : anyB (.ok x) = .ok (x.any id) := said rfl
theorem q_all {a : Rs D} {x : Rs (List Bool)} (ha : Rf (cL cB).en a x) : Rf cB.en (un1 allD a) (allB x) := un_q (ea := (cL cB).en) (fun x => by
  show ofO (allD (.lst (x.map D.bl))) = _
  rw [all_bl]; rfl) ha
theorem q_any {a : Rs D} {x : Rs (List Bool)} (ha : Rf (cL cB).en a x) : Rf cB.en (un1 anyD a) (anyB x) := un_q (ea := (cL cB).en) (fun x => by
  show ofO (anyD (.lst (x.map D.bl))) = _
  rw [any_bl]; rfl) ha
def kindT (b : Bool) (r : Rs α) : Rs Bool := r.bind fun _ => .ok b
@[simp] theorem kindT_ok {b : Bool} {a : α} : kindT b (.ok a) = .ok b := said rfl
theorem q_isi {c : Cd α} {T : String} {b : Bool} {a : Rs D} {r : Rs α} (h : ∀ p, isi T (c.en p) = some (.bl b)) (ha : Rf c.en a r) : Rf cB.en (un1 (isi T) a) (kindT b r) := un_q (ea := c.en) (fun x => by
  show ofO (isi T (c.en x)) = _
  rw [h]; rfl) ha
/-! slices, joins, copies -/
def someI (r : Rs Int) : Rs (Option Int) := r.bind fun i => .ok (some i)
@[simp] theorem someI_ok {i : Int} : someI (.ok i) = .ok (some i) := said rfl
theorem q_noneI : Rf (id : Option Int → Option Int) (.ok none) (.ok none) := rfl
theorem q_asI {a : Rs D} {x : Rs Int} (ha : Rf cI.en a x) : Rf id (asI a) (someI x) := by
  cases x with
  | ok p => rw [show a = .ok (.int p) from ha]; rfl
  | ex c => rw [show a = .ex c from ha]; rfl
  | bad => trivial
def sliceL (x : Rs (List α)) (lo hi : Rs (Option Int)) : Rs (List α) := x.bind fun x => lo.bind fun lo => hi.bind fun hi => .ok (cutL x lo hi)
@[simp] theorem sliceL_ok {x : List α} {lo hi : Option Int} : sliceL (.ok x) (.ok lo) (.ok hi) = .ok (cutL x lo hi) := said rfl
theorem fa_sh (c : Cd α) (xs : List α) : Fa (sh c).ro xs ((xs.map c.en).map O.sh) := by
  rw [List.map_map]
  exact Fa.self (p := (sh c).ro) (g := O.sh ∘ c.en) (fun _ => rfl) xs
theorem q_slice {c : Cd α} {d : Rs D} {a b : Rs (Option Int)} {x : Rs (List α)} {lo hi : Rs (Option Int)} (h : Rf (cL c).en d x) (ha : Rf id a lo) (hb : Rf id b hi) : Ro (cL (sh c)).ro (sliceF d a b) (sliceL x lo hi) := h.bindo fun x => ha.bindo fun lo => hb.bindo fun hi => by
  show ∃ o, Rs.ok (O.lst ((cutL (x.map c.en) lo hi).map .sh)) = .ok o ∧ _
  rw [cutL_map]
  exact ⟨_, rfl, _, rfl, fa_sh c _⟩
theorem q_sliceX {d : Rs D} {a b : Rs (Option Int)} {x : Rs (List Int)} {lo hi : Rs (Option Int)} (h : Rf cX.en d x) (ha : Rf id a lo) (hb : Rf id b hi) : Ro (cL cI).ro (sliceF d a b) (sliceL x lo hi) := h.bindo fun x => ha.bindo fun lo => hb.bindo fun hi => by
  show ∃ o, Rs.ok (O.lst ((cutL (x.map D.int) lo hi).map .sh)) = .ok o ∧ _
  rw [cutL_map]
  exact ⟨_, rfl, _, rfl, fa_sh cI _⟩
theorem all_prim {c : Cd α} (hp : ∀ z, prim (c.en z) = true) (xs : List α) : (xs.map c.en).all prim = true := by
  rw [List.all_map, List.all_eq_true]; intro x _; exact hp x
theorem q_sliceV {c : Cd α} (hp : ∀ z, prim (c.en z) = true) {d : Rs D} {a b : Rs (Option Int)} {x : Rs (List α)} {lo hi : Rs (Option Int)} (h : Rf (cL c).en d x) (ha : Rf id a lo) (hb : Rf id b hi) : Ro (cL (sh c)).ro (sliceV d a b) (sliceL x lo hi) := h.bindo fun x => ha.bindo fun lo => hb.bindo fun hi => by
  show Ro _ (if (cutL (x.map c.en) lo hi).all prim = true then .ok (O.lst ((cutL (x.map c.en) lo hi).map .sh)) else .bad) _
  rw [cutL_map, if_pos (all_prim hp _)]
  exact ⟨_, rfl, _, rfl, fa_sh c _⟩
def catL (x y : Rs (List α)) : Rs (List α) := x.bind fun x => y.bind fun y => if x.length + y.length ≤ sizeLine then .ok (x ++ y) else .bad
theorem catL_ok {x y : List α} (h : x.length + y.length ≤ 16000000) : catL (.ok x) (.ok y) = .ok (x ++ y) := if_pos (by rw [sizeLine_eq]; omega)
theorem q_cat {c : Cd α} {a b : Rs D} {x y : Rs (List α)} (ha : Rf (cL c).en a x) (hb : Rf (cL c).en b y) : Ro (cL (sh c)).ro (catF a b) (catL x y) := ha.bindo fun x => hb.bindo fun y => by
  show Ro _ (if (x.map c.en).length + (y.map c.en).length ≤ sizeLine then .ok (O.lst ((x.map c.en ++ y.map c.en).map .sh)) else .bad) _
  rw [List.length_map, List.length_map, ← List.map_append]
  split
  · exact ⟨_, rfl, _, rfl, fa_sh c _⟩
  · trivial
def repL (x : Rs (List α)) (k : Rs Int) : Rs (List α) := x.bind fun x => k.bind fun k => if repOk x.length k = true then .ok (List.replicate k.toNat x).flatten else .bad
theorem flat_one (a : α) : ∀ n : Nat, (List.replicate n [a]).flatten = List.replicate n a
  | 0 => rfl
  | n + 1 => by rw [List.replicate_succ, List.replicate_succ, List.flatten_cons, flat_one a n]; rfl
theorem repL_one {a : α} {k : Int} (h0 : -16000000 ≤ k) (h1 : k ≤ 16000000) : repL (.ok [a]) (.ok k) = .ok (List.replicate k.toNat a) := by
  show (if repOk 1 k = true then Rs.ok (List.replicate k.toNat [a]).flatten else .bad) = _
  rw [if_pos (by
    unfold repOk
    rw [decide_eq_true (by omega), decide_eq_true (by omega), decide_eq_true (by rw [sizeLine_eq]; omega)]
    rfl), flat_one]
theorem q_rep {c : Cd α} {a b : Rs D} {x : Rs (List α)} {k : Rs Int} (ha : Rf (cL c).en a x) (hb : Rf cI.en b k) : Ro (cL (sh c)).ro (repF a b) (repL x k) := ha.bindo fun x => hb.bindo fun k => by
  show Ro _ (if repOk (x.map c.en).length k = true then .ok (O.lst ((List.replicate k.toNat (x.map c.en)).flatten.map .sh)) else .bad) _
  rw [List.length_map]
  split
  · rw [← List.map_replicate, ← List.map_flatten]
    exact ⟨_, rfl, _, rfl, fa_sh c _⟩
  · trivial
theorem q_list {c : Cd α} {a : Rs D} {x : Rs (List α)} (ha : Rf (cL c).en a x) : Ro (cL (sh c)).ro (listF a) x := by
  cases x with
  | ok p => rw [show a = .ok (.lst (p.map c.en)) from ha]; exact ⟨_, rfl, _, rfl, fa_sh c _⟩
  | ex c => rw [show a = .ex c from ha]; rfl
  | bad => trivial
theorem q_listX {a : Rs D} {x : Rs (List Int)} (ha : Rf cX.en a x) : Ro (cL cI).ro (listF a) x := by
  cases x with
  | ok p => rw [show a = .ok (.scr p) from ha]; exact ⟨_, rfl, _, rfl, fa_sh cI _⟩
  | ex c => rw [show a = .ex c from ha]; rfl
  | bad => trivial
theorem q_listV {c : Cd α} (hp : ∀ z, prim (c.en z) = true) {a : Rs D} {x : Rs (List α)} (ha : Rf (cL c).en a x) : Ro (cL (sh c)).ro (listVF a) x := by
  cases x with
  | ok p =>
    rw [show a = .ok (.lst (p.map c.en)) from ha]
    show Ro _ (if (p.map c.en).all prim = true then .ok (O.lst ((p.map c.en).map .sh)) else .bad) _
    rw [if_pos (all_prim hp _)]
    exact ⟨_, rfl, _, rfl, fa_sh c _⟩
  | ex c => rw [show a = .ex c from ha]; rfl
  | bad => trivial
/-! displays -/
def consT (a : Rs α) (b : Rs (List α)) : Rs (List α) := a.bind fun x => b.bind fun y => .ok (x :: y)
@[simp] theorem consT_ok {a : α} {b : List α} : consT (.ok a) (.ok b) = .ok (a :: b) := said rfl
theorem q_nil {p : α → O → Prop} : Ro (Fa p) (.ok []) (.ok []) := ⟨_, rfl, trivial⟩
theorem q_cons {p : α → O → Prop} {d : Rs O} {ds : Rs (List O)} {r : Rs α} {rs : Rs (List α)} (h : Ro p d r) (k : Ro (Fa p) ds rs) : Ro (Fa p) (consR d ds) (consT r rs) := h.bind fun a o x => k.bind fun as os y => ⟨_, rfl, x, y⟩
theorem q_lst {c : Cd α} {d : Rs (List O)} {r : Rs (List α)} (h : Ro (Fa c.ro) d r) : Ro (cL c).ro (mapRs O.lst d) r := by
  cases r with
  | ok a => obtain ⟨os, e, x⟩ := h; rw [e]; exact ⟨_, rfl, _, rfl, x⟩
  | ex c => rw [show d = .ex c from h]; rfl
  | bad => trivial
def pair2 (a : Rs α) (b : Rs β) : Rs (α × β) := a.bind fun x => b.bind fun y => .ok (x, y)
@[simp] theorem pair2_ok {a : α} {b : β} : pair2 (.ok a) (.ok b) = .ok (a, b) := said rfl
def pair3 (a : Rs α) (b : Rs β) (c : Rs γ) : Rs (α × β × γ) := a.bind fun x => b.bind fun y => c.bind fun z => .ok (x, y, z)
@[simp] theorem pair3_ok {a : α} {b : β} {c : γ} : pair3 (.ok a) (.ok b) (.ok c) = .ok (a, b, c) := said rfl
def pair4 (a : Rs α) (b : Rs β) (c : Rs γ) (d : Rs δ) : Rs (α × β × γ × δ) := a.bind fun x => b.bind fun y => c.bind fun z => d.bind fun w => .ok (x, y, z, w)
@[simp] theorem pair4_ok {a : α} {b : β} {c : γ} {d : δ} : pair4 (.ok a) (.ok b) (.ok c) (.ok d) = .ok (a, b, c, d) := said rfl
theorem mapRs_bind {f : β → γ} (r : Rs α) (k : α → Rs β) : mapRs f (r.bind k) = r.bind fun a => mapRs f (k a) := by cases r <;> rfl
theorem q_tup2 {a : Cd α} {b : Cd β} {x y : Rs O} {r : Rs α} {s : Rs β} (h : Ro a.ro x r) (k : Ro b.ro y s) : Ro (cT2 a b).ro (mapRs O.tup (consR x (consR y (.ok [])))) (pair2 r s) := by
  unfold consR
  rw [mapRs_bind]
  refine h.bind fun p o e => ?_
  rw [mapRs_bind]
  show Ro _ ((y.bind fun x => .ok [x]).bind _) _
  cases s with
  | ok q => obtain ⟨z, e2, k2⟩ := k; rw [e2]; exact ⟨_, rfl, _, _, rfl, e, k2⟩
  | ex c => rw [show y = .ex c from k]; rfl
  | bad => trivial
theorem consR_bind {σ : Type} (x : Rs σ) (y : Rs (List σ)) : consR x y = x.bind fun a => y.bind fun b => .ok (a :: b) := rfl
theorem q_tup3 {a : Cd α} {b : Cd β} {c : Cd γ} {x y z : Rs O} {r : Rs α} {s : Rs β} {t : Rs γ} (h : Ro a.ro x r) (k : Ro b.ro y s) (l : Ro c.ro z t) : Ro (cT3 a b c).ro (mapRs O.tup (consR x (consR y (consR z (.ok []))))) (pair3 r s t) := by
  cases r with
  | bad => trivial
  | ex c => rw [show x = .ex c from h]; rfl
  | ok p =>
    obtain ⟨o, e, h⟩ := h
    rw [e]
    cases s with
    | bad => trivial
    | ex c => rw [show y = .ex c from k]; rfl
    | ok q =>
      obtain ⟨o2, e, k⟩ := k
      rw [e]
      cases t with
      | bad => trivial
      | ex c => rw [show z = .ex c from l]; rfl
      | ok q =>
        obtain ⟨o3, e, l⟩ := l
        rw [e]
        exact ⟨_, rfl, _, _, _, rfl, h, k, l⟩
theorem q_tup4 {a : Cd α} {b : Cd β} {c : Cd γ} {d : Cd δ} {x y z w : Rs O} {r : Rs α} {s : Rs β} {t : Rs γ} {u : Rs δ} (h : Ro a.ro x r) (k : Ro b.ro y s) (l : Ro c.ro z t) (m : Ro d.ro w u) : Ro (cT4 a b c d).ro (mapRs O.tup (consR x (consR y (consR z (consR w (.ok [])))))) (pair4 r s t u) := by
  cases r with
  | bad => trivial
  | ex c => rw [show x = .ex c from h]; rfl
  | ok p =>
    obtain ⟨o, e, h⟩ := h
    rw [e]
    cases s with
    | bad => trivial
    | ex c => rw [show y = .ex c from k]; rfl
    | ok q =>
      obtain ⟨o2, e, k⟩ := k
      rw [e]
      cases t with
      | bad => trivial
      | ex c => rw [show z = .ex c from l]; rfl
      | ok q =>
        obtain ⟨o3, e, l⟩ := l
        rw [e]
        cases u with
        | bad => trivial
        | ex c => rw [show w = .ex c from m]; rfl
        | ok q =>
          obtain ⟨o4, e, m⟩ := m
          rw [e]
          exact ⟨_, rfl, _, _, _, _, rfl, h, k, l, m⟩
end
/-! ### calls -/
def ap1 {α1 ρ : Type} (t : α1 → Rs ρ) (x1 : Rs α1) : Rs ρ := x1.bind fun v1 => t v1
@[simp] theorem ap1_ok {α1 ρ : Type} {t : α1 → Rs ρ} {v1 : α1} : ap1 t (.ok v1) = t v1 := said rfl
theorem q_call1 {α1 ρ : Type} {c1 : Cd α1} {cr : Cd ρ} {m : List D → Rs O} {t : α1 → Rs ρ} {a1 : Rs D} {x1 : Rs α1} (hm : ∀ v1, Ro cr.ro (m [c1.en v1]) (t v1)) (h1 : Rf c1.en a1 x1) : Ro cr.ro (callR 1 m (consR a1 (.ok []))) (ap1 t x1) := by
  cases x1 with
  | bad => first | trivial | (skip; trivial)
  | ex c => rw [show a1 = .ex c from h1]; rfl
  | ok v1 =>
  rw [show a1 = .ok (c1.en v1) from h1]
  exact hm v1
def ap2 {α1 α2 ρ : Type} (t : α1 → α2 → Rs ρ) (x1 : Rs α1) (x2 : Rs α2) : Rs ρ := x1.bind fun v1 => x2.bind fun v2 => t v1 v2
@[simp] theorem ap2_ok {α1 α2 ρ : Type} {t : α1 → α2 → Rs ρ} {v1 : α1} {v2 : α2} : ap2 t (.ok v1) (.ok v2) = t v1 v2 := said rfl
theorem q_call2 {α1 α2 ρ : Type} {c1 : Cd α1} {c2 : Cd α2} {cr : Cd ρ} {m : List D → Rs O} {t : α1 → α2 → Rs ρ} {a1 a2 : Rs D} {x1 : Rs α1} {x2 : Rs α2} (hm : ∀ v1 v2, Ro cr.ro (m [c1.en v1, c2.en v2]) (t v1 v2)) (h1 : Rf c1.en a1 x1) (h2 : Rf c2.en a2 x2) : Ro cr.ro (callR 2 m (consR a1 (consR a2 (.ok [])))) (ap2 t x1 x2) := by
  cases x1 with
  | bad => first | trivial | (skip; trivial)
  | ex c => rw [show a1 = .ex c from h1]; rfl
  | ok v1 =>
  rw [show a1 = .ok (c1.en v1) from h1]
  cases x2 with
  | bad => first | trivial | (skip; trivial)
  | ex c => rw [show a2 = .ex c from h2]; rfl
  | ok v2 =>
  rw [show a2 = .ok (c2.en v2) from h2]
  exact hm v1 v2
def ap3 {α1 α2 α3 ρ : Type} (t : α1 → α2 → α3 → Rs ρ) (x1 : Rs α1) (x2 : Rs α2) (x3 : Rs α3) : Rs ρ := x1.bind fun v1 => x2.bind fun v2 => x3.bind fun v3 => t v1 v2 v3
@[simp] theorem ap3_ok {α1 α2 α3 ρ : Type} {t : α1 → α2 → α3 → Rs ρ} {v1 : α1} {v2 : α2} {v3 : α3} : ap3 t (.ok v1) (.ok v2) (.ok v3) = t v1 v2 v3 := said rfl
theorem q_call3 {α1 α2 α3 ρ : Type} {c1 : Cd α1} {c2 : Cd α2} {c3 : Cd α3} {cr : Cd ρ} {m : List D → Rs O} {t : α1 → α2 → α3 → Rs ρ} {a1 a2 a3 : Rs D} {x1 : Rs α1} {x2 : Rs α2} {x3 : Rs α3} (hm : ∀ v1 v2 v3, Ro cr.ro (m [c1.en v1, c2.en v2, c3.en v3]) (t v1 v2 v3)) (h1 : Rf c1.en a1 x1) (h2 : Rf c2.en a2 x2) (h3 : Rf c3.en a3 x3) : Ro cr.ro (callR 3 m (consR a1 (consR a2 (consR a3 (.ok []))))) (ap3 t x1 x2 x3) := by
  cases x1 with
  | bad => first | trivial | (skip; trivial)
  | ex c => rw [show a1 = .ex c from h1]; rfl
  | ok v1 =>
  rw [show a1 = .ok (c1.en v1) from h1]
  cases x2 with
  | bad => first | trivial | (skip; trivial)
  | ex c => rw [show a2 = .ex c from h2]; rfl
  | ok v2 =>
  rw [show a2 = .ok (c2.en v2) from h2]
  cases x3 with
  | bad => first | trivial | (skip; trivial)
  | ex c => rw [show a3 = .ex c from h3]; rfl
  | ok v3 =>
  rw [show a3 = .ok (c3.en v3) from h3]
  exact hm v1 v2 v3
def ap4 {α1 α2 α3 α4 ρ : Type} (t : α1 → α2 → α3 → α4 → Rs ρ) (x1 : Rs α1) (x2 : Rs α2) (x3 : Rs α3) (x4 : Rs α4) : Rs ρ := x1.bind fun v1 => x2.bind fun v2 => x3.bind fun v3 => x4.bind fun v4 => t v1 v2 v3 v4
@[simp] theorem ap4_ok {α1 α2 α3 α4 ρ : Type} {t : α1 → α2 → α3 → α4 → Rs ρ} {v1 : α1} {v2 : α2} {v3 : α3} {v4 : α4} : ap4 t (.ok v1) (.ok v2) (.ok v3) (.ok v4) = t v1 v2 v3 v4 := said rfl
theorem q_call4 {α1 α2 α3 α4 ρ : Type} {c1 : Cd α1} {c2 : Cd α2} {c3 : Cd α3} {c4 : Cd α4} {cr : Cd ρ} {m : List D → Rs O} {t : α1 → α2 → α3 → α4 → Rs ρ} {a1 a2 a3 a4 : Rs D} {x1 : Rs α1} {x2 : Rs α2} {x3 : Rs α3} {x4 : Rs α4} (hm : ∀ v1 v2 v3 v4, Ro cr.ro (m [c1.en v1, c2.en v2, c3.en v3, c4.en v4]) (t v1 v2 v3 v4)) (h1 : Rf c1.en a1 x1) (h2 : Rf c2.en a2 x2) (h3 : Rf c3.en a3 x3) (h4 : Rf c4.en a4 x4) : Ro cr.ro (callR 4 m (consR a1 (consR a2 (consR a3 (consR a4 (.ok [])))))) (ap4 t x1 x2 x3 x4) := by
  cases x1 with
  | bad => first | trivial | (skip; trivial)
  | ex c => rw [show a1 = .ex c from h1]; rfl
  | ok v1 =>
  rw [show a1 = .ok (c1.en v1) from h1]
  cases x2 with
  | bad => first | trivial | (skip; trivial)
  | ex c => rw [show a2 = .ex c from h2]; rfl
  | ok v2 =>
  rw [show a2 = .ok (c2.en v2) from h2]
  cases x3 with
  | bad => first | trivial | (skip; trivial)
  | ex c => rw [show a3 = .ex c from h3]; rfl
  | ok v3 =>
  rw [show a3 = .ok (c3.en v3) from h3]
  cases x4 with
  | bad => first | trivial | (skip; trivial)
  | ex c => rw [show a4 = .ex c from h4]; rfl
  | ok v4 =>
  rw [show a4 = .ok (c4.en v4) from h4]
  exact hm v1 v2 v3 v4
def ap5 {α1 α2 α3 α4 α5 ρ : Type} (t : α1 → α2 → α3 → α4 → α5 → Rs ρ) (x1 : Rs α1) (x2 : Rs α2) (x3 : Rs α3) (x4 : Rs α4) (x5 : Rs α5) : Rs ρ := x1.bind fun v1 => x2.bind fun v2 => x3.bind fun v3 => x4.bind fun v4 => x5.bind fun v5 => t v1 v2 v3 v4 v5
@[simp] theorem ap5_ok {α1 α2 α3 α4 α5 ρ : Type} {t : α1 → α2 → α3 → α4 → α5 → Rs ρ} {v1 : α1} {v2 : α2} {v3 : α3} {v4 : α4} {v5 : α5} : ap5 t (.ok v1) (.ok v2) (.ok v3) (.ok v4) (.ok v5) = t v1 v2 v3 v4 v5 := said rfl
theorem q_call5 {α1 α2 α3 α4 α5 ρ : Type} {c1 : Cd α1} {c2 : Cd α2} {c3 : Cd α3} {c4 : Cd α4} {c5 : Cd α5} {cr : Cd ρ} {m : List D → Rs O} {t : α1 → α2 → α3 → α4 → α5 → Rs ρ} {a1 a2 a3 a4 a5 : Rs D} {x1 : Rs α1} {x2 : Rs α2} {x3 : Rs α3} {x4 : Rs α4} {x5 : Rs α5} (hm : ∀ v1 v2 v3 v4 v5, Ro cr.ro (m [c1.en v1, c2.en v2, c3.en v3, c4.en v4, c5.en v5]) (t v1 v2 v3 v4 v5)) (h1 : Rf c1.en a1 x1) (h2 : Rf c2.en a2 x2) (h3 : Rf c3.en a3 x3) (h4 : Rf c4.en a4 x4) (h5 : Rf c5.en a5 x5) : Ro cr.ro (callR 5 m (consR a1 (consR a2 (consR a3 (consR a4 (consR a5 (.ok []))))))) (ap5 t x1 x2 x3 x4 x5) := by
  cases x1 with
  | bad => first | trivial | (skip; trivial)
  | ex c => rw [show a1 = .ex c from h1]; rfl
  | ok v1 =>
  rw [show a1 = .ok (c1.en v1) from h1]
  cases x2 with
  | bad => first | trivial | (skip; trivial)
  | ex c => rw [show a2 = .ex c from h2]; rfl
  | ok v2 =>
  rw [show a2 = .ok (c2.en v2) from h2]
  cases x3 with
  | bad => first | trivial | (skip; trivial)
  | ex c => rw [show a3 = .ex c from h3]; rfl
  | ok v3 =>
  rw [show a3 = .ok (c3.en v3) from h3]
  cases x4 with
  | bad => first | trivial | (skip; trivial)
  | ex c => rw [show a4 = .ex c from h4]; rfl
  | ok v4 =>
  rw [show a4 = .ok (c4.en v4) from h4]
  cases x5 with
  | bad => first | trivial | (skip; trivial)
  | ex c => rw [show a5 = .ex c from h5]; rfl
  | ok v5 =>
  rw [show a5 = .ok (c5.en v5) from h5]
  exact hm v1 v2 v3 v4 v5
def ap6 {α1 α2 α3 α4 α5 α6 ρ : Type} (t : α1 → α2 → α3 → α4 → α5 → α6 → Rs ρ) (x1 : Rs α1) (x2 : Rs α2) (x3 : Rs α3) (x4 : Rs α4) (x5 : Rs α5) (x6 : Rs α6) : Rs ρ := x1.bind fun v1 => x2.bind fun v2 => x3.bind fun v3 => x4.bind fun v4 => x5.bind fun v5 => x6.bind fun v6 => t v1 v2 v3 v4 v5 v6
@[simp] theorem ap6_ok {α1 α2 α3 α4 α5 α6 ρ : Type} {t : α1 → α2 → α3 → α4 → α5 → α6 → Rs ρ} {v1 : α1} {v2 : α2} {v3 : α3} {v4 : α4} {v5 : α5} {v6 : α6} : ap6 t (.ok v1) (.ok v2) (.ok v3) (.ok v4) (.ok v5) (.ok v6) = t v1 v2 v3 v4 v5 v6 := said rfl
theorem q_call6 {α1 α2 α3 α4 α5 α6 ρ : Type} {c1 : Cd α1} {c2 : Cd α2} {c3 : Cd α3} {c4 : Cd α4} {c5 : Cd α5} {c6 : Cd α6} {cr : Cd ρ} {m : List D → Rs O} {t : α1 → α2 → α3 → α4 → α5 → α6 → Rs ρ} {a1 a2 a3 a4 a5 a6 : Rs D} {x1 : Rs α1} {x2 : Rs α2} {x3 : Rs α3} {x4 : Rs α4} {x5 : Rs α5} {x6 : Rs α6} (hm : ∀ v1 v2 v3 v4 v5 v6, Ro cr.ro (m [c1.en v1, c2.en v2, c3.en v3, c4.en v4, c5.en v5, c6.en v6]) (t v1 v2 v3 v4 v5 v6)) (h1 : Rf c1.en a1 x1) (h2 : Rf c2.en a2 x2) (h3 : Rf c3.en a3 x3) (h4 : Rf c4.en a4 x4) (h5 : Rf c5.en a5 x5) (h6 : Rf c6.en a6 x6) : Ro cr.ro (callR 6 m (consR a1 (consR a2 (consR a3 (consR a4 (consR a5 (consR a6 (.ok [])))))))) (ap6 t x1 x2 x3 x4 x5 x6) := by
  cases x1 with
  | bad => first | trivial | (skip; trivial)
  | ex c => rw [show a1 = .ex c from h1]; rfl
  | ok v1 =>
  rw [show a1 = .ok (c1.en v1) from h1]
  cases x2 with
  | bad => first | trivial | (skip; trivial)
  | ex c => rw [show a2 = .ex c from h2]; rfl
  | ok v2 =>
  rw [show a2 = .ok (c2.en v2) from h2]
  cases x3 with
  | bad => first | trivial | (skip; trivial)
  | ex c => rw [show a3 = .ex c from h3]; rfl
  | ok v3 =>
  rw [show a3 = .ok (c3.en v3) from h3]
  cases x4 with
  | bad => first | trivial | (skip; trivial)
  | ex c => rw [show a4 = .ex c from h4]; rfl
  | ok v4 =>
  rw [show a4 = .ok (c4.en v4) from h4]
  cases x5 with
  | bad => first | trivial | (skip; trivial)
  | ex c => rw [show a5 = .ex c from h5]; rfl
  | ok v5 =>
  rw [show a5 = .ok (c5.en v5) from h5]
  cases x6 with
  | bad => first | trivial | (skip; trivial)
  | ex c => rw [show a6 = .ex c from h6]; rfl
  | ok v6 =>
  rw [show a6 = .ok (c6.en v6) from h6]
  exact hm v1 v2 v3 v4 v5 v6
def ap7 {α1 α2 α3 α4 α5 α6 α7 ρ : Type} (t : α1 → α2 → α3 → α4 → α5 → α6 → α7 → Rs ρ) (x1 : Rs α1) (x2 : Rs α2) (x3 : Rs α3) (x4 : Rs α4) (x5 : Rs α5) (x6 : Rs α6) (x7 : Rs α7) : Rs ρ := x1.bind fun v1 => x2.bind fun v2 => x3.bind fun v3 => x4.bind fun v4 => x5.bind fun v5 => x6.bind fun v6 => x7.bind fun v7 => t v1 v2 v3 v4 v5 v6 v7
@[simp] theorem ap7_ok {α1 α2 α3 α4 α5 α6 α7 ρ : Type} {t : α1 → α2 → α3 → α4 → α5 → α6 → α7 → Rs ρ} {v1 : α1} {v2 : α2} {v3 : α3} {v4 : α4} {v5 : α5} {v6 : α6} {v7 : α7} : ap7 t (.ok v1) (.ok v2) (.ok v3) (.ok v4) (.ok v5) (.ok v6) (.ok v7) = t v1 v2 v3 v4 v5 v6 v7 := said rfl
theorem q_call7 {α1 α2 α3 α4 α5 α6 α7 ρ : Type} {c1 : Cd α1} {c2 : Cd α2} {c3 : Cd α3} {c4 : Cd α4} {c5 : Cd α5} {c6 : Cd α6} {c7 : Cd α7} {cr : Cd ρ} {m : List D → Rs O} {t : α1 → α2 → α3 → α4 → α5 → α6 → α7 → Rs ρ} {a1 a2 a3 a4 a5 a6 a7 : Rs D} {x1 : Rs α1} {x2 : Rs α2} {x3 : Rs α3} {x4 : Rs α4} {x5 : Rs α5} {x6 : Rs α6} {x7 : Rs α7} (hm : ∀ v1 v2 v3 v4 v5 v6 v7, Ro cr.ro (m [c1.en v1, c2.en v2, c3.en v3, c4.en v4, c5.en v5, c6.en v6, c7.en v7]) (t v1 v2 v3 v4 v5 v6 v7)) (h1 : Rf c1.en a1 x1) (h2 : Rf c2.en a2 x2) (h3 : Rf c3.en a3 x3) (h4 : Rf c4.en a4 x4) (h5 : Rf c5.en a5 x5) (h6 : Rf c6.en a6 x6) (h7 : Rf c7.en a7 x7) : Ro cr.ro (callR 7 m (consR a1 (consR a2 (consR a3 (consR a4 (consR a5 (consR a6 (consR a7 (.ok []))))))))) (ap7 t x1 x2 x3 x4 x5 x6 x7) := by
  cases x1 with
  | bad => first | trivial | (skip; trivial)
  | ex c => rw [show a1 = .ex c from h1]; rfl
  | ok v1 =>
  rw [show a1 = .ok (c1.en v1) from h1]
  cases x2 with
  | bad => first | trivial | (skip; trivial)
  | ex c => rw [show a2 = .ex c from h2]; rfl
  | ok v2 =>
  rw [show a2 = .ok (c2.en v2) from h2]
  cases x3 with
  | bad => first | trivial | (skip; trivial)
  | ex c => rw [show a3 = .ex c from h3]; rfl
  | ok v3 =>
  rw [show a3 = .ok (c3.en v3) from h3]
  cases x4 with
  | bad => first | trivial | (skip; trivial)
  | ex c => rw [show a4 = .ex c from h4]; rfl
  | ok v4 =>
  rw [show a4 = .ok (c4.en v4) from h4]
  cases x5 with
  | bad => first | trivial | (skip; trivial)
  | ex c => rw [show a5 = .ex c from h5]; rfl
  | ok v5 =>
  rw [show a5 = .ok (c5.en v5) from h5]
  cases x6 with
  | bad => first | trivial | (skip; trivial)
  | ex c => rw [show a6 = .ex c from h6]; rfl
  | ok v6 =>
  rw [show a6 = .ok (c6.en v6) from h6]
  cases x7 with
  | bad => first | trivial | (skip; trivial)
  | ex c => rw [show a7 = .ex c from h7]; rfl
  | ok v7 =>
  rw [show a7 = .ok (c7.en v7) from h7]
  exact hm v1 v2 v3 v4 v5 v6 v7
def ap8 {α1 α2 α3 α4 α5 α6 α7 α8 ρ : Type} (t : α1 → α2 → α3 → α4 → α5 → α6 → α7 → α8 → Rs ρ) (x1 : Rs α1) (x2 : Rs α2) (x3 : Rs α3) (x4 : Rs α4) (x5 : Rs α5) (x6 : Rs α6) (x7 : Rs α7) (x8 : Rs α8) : Rs ρ := x1.bind fun v1 => x2.bind fun v2 => x3.bind fun v3 => x4.bind fun v4 => x5.bind fun v5 => x6.bind fun v6 => x7.bind fun v7 => x8.bind fun v8 => t v1 v2 v3 v4 v5 v6 v7 v8
@[simp] theorem ap8_ok {α1 α2 α3 α4 α5 α6 α7 α8 ρ : Type} {t : α1 → α2 → α3 → α4 → α5 → α6 → α7 → α8 → Rs ρ} {v1 : α1} {v2 : α2} {v3 : α3} {v4 : α4} {v5 : α5} {v6 : α6} {v7 : α7} {v8 : α8} : ap8 t (.ok v1) (.ok v2) (.ok v3) (.ok v4) (.ok v5) (.ok v6) (.ok v7) (.ok v8) = t v1 v2 v3 v4 v5 v6 v7 v8 := said rfl
theorem q_call8 {α1 α2 α3 α4 α5 α6 α7 α8 ρ : Type} {c1 : Cd α1} {c2 : Cd α2} {c3 : Cd α3} {c4 : Cd α4} {c5 : Cd α5} {c6 : Cd α6} {c7 : Cd α7} {c8 : Cd α8} {cr : Cd ρ} {m : List D → Rs O} {t : α1 → α2 → α3 → α4 → α5 → α6 → α7 → α8 → Rs ρ} {a1 a2 a3 a4 a5 a6 a7 a8 : Rs D} {x1 : Rs α1} {x2 : Rs α2} {x3 : Rs α3} {x4 : Rs α4} {x5 : Rs α5} {x6 : Rs α6} {x7 : Rs α7} {x8 : Rs α8} (hm : ∀ v1 v2 v3 v4 v5 v6 v7 v8, Ro cr.ro (m [c1.en v1, c2.en v2, c3.en v3, c4.en v4, c5.en v5, c6.en v6, c7.en v7, c8.en v8]) (t v1 v2 v3 v4 v5 v6 v7 v8)) (h1 : Rf c1.en a1 x1) (h2 : Rf c2.en a2 x2) (h3 : Rf c3.en a3 x3) (h4 : Rf c4.en a4 x4) (h5 : Rf c5.en a5 x5) (h6 : Rf c6.en a6 x6) (h7 : Rf c7.en a7 x7) (h8 : Rf c8.en a8 x8) : Ro cr.ro (callR 8 m (consR a1 (consR a2 (consR a3 (consR a4 (consR a5 (consR a6 (consR a7 (consR a8 (.ok [])))))))))) (ap8 t x1 x2 x3 x4 x5 x6 x7 x8) := by
  cases x1 with
  | bad => first | trivial | (skip; trivial)
  | ex c => rw [show a1 = .ex c from h1]; rfl
  | ok v1 =>
  rw [show a1 = .ok (c1.en v1) from h1]
  cases x2 with
  | bad => first | trivial | (skip; trivial)
  | ex c => rw [show a2 = .ex c from h2]; rfl
  | ok v2 =>
  rw [show a2 = .ok (c2.en v2) from h2]
  cases x3 with
  | bad => first | trivial | (skip; trivial)
  | ex c => rw [show a3 = .ex c from h3]; rfl
  | ok v3 =>
  rw [show a3 = .ok (c3.en v3) from h3]
  cases x4 with
  | bad => first | trivial | (skip; trivial)
  | ex c => rw [show a4 = .ex c from h4]; rfl
  | ok v4 =>
  rw [show a4 = .ok (c4.en v4) from h4]
  cases x5 with
  | bad => first | trivial | (skip; trivial)
  | ex c => rw [show a5 = .ex c from h5]; rfl
  | ok v5 =>
  rw [show a5 = .ok (c5.en v5) from h5]
  cases x6 with
  | bad => first | trivial | (skip; trivial)
  | ex c => rw [show a6 = .ex c from h6]; rfl
  | ok v6 =>
  rw [show a6 = .ok (c6.en v6) from h6]
  cases x7 with
  | bad => first | trivial | (skip; trivial)
  | ex c => rw [show a7 = .ex c from h7]; rfl
  | ok v7 =>
  rw [show a7 = .ok (c7.en v7) from h7]
  cases x8 with
  | bad => first | trivial | (skip; trivial)
  | ex c => rw [show a8 = .ex c from h8]; rfl
  | ok v8 =>
  rw [show a8 = .ok (c8.en v8) from h8]
  exact hm v1 v2 v3 v4 v5 v6 v7 v8
section
variable {α β γ δ : Type}
/-- a tree all of one's own -/
abbrev Wn (c : Cd α) : Prop := ∀ a o, c.ro a o → o.own = true
theorem wn_I : Wn cI := fun a o h => by rw [show o = .sh (.int a) from h]; rfl
theorem wn_B : Wn cB := fun a o h => by rw [show o = .sh (.bl a) from h]; rfl
theorem wn_S : Wn cS := fun a o h => by rw [show o = .sh (.str a) from h]; rfl
theorem wn_all {c : Cd α} (h : Wn c) : ∀ {as : List α} {os : List O}, Fa c.ro as os → ownL os = true
  | [], [], _ => rfl
  | _ :: _, _ :: _, ⟨x, y⟩ => by rw [ownL, h _ _ x, wn_all h y]; rfl
  | [], _ :: _, x => x.elim
  | _ :: _, [], x => x.elim
theorem wn_L {c : Cd α} (h : Wn c) : Wn (cL c) := fun as o ⟨os, e, k⟩ => by rw [e, O.own]; exact wn_all h k
theorem wn_T2 {a : Cd α} {b : Cd β} (h : Wn a) (k : Wn b) : Wn (cT2 a b) := fun p o ⟨x, y, e, h1, h2⟩ => by rw [e, O.own, ownL, ownL, ownL, h _ _ h1, k _ _ h2]; rfl
theorem q_own {c : Cd α} (h : Wn c) {d : Rs O} {r : Rs α} (k : Ro c.ro d r) : Ro c.ro (ownR d) r := by
  cases r with
  | ok a => obtain ⟨o, e, x⟩ := k; rw [e]; show Ro _ (if o.own = true then .ok o else .bad) _; rw [if_pos (h a o x)]; exact ⟨o, rfl, x⟩
  | ex c => rw [show d = .ex c from k]; rfl
  | bad => trivial
/-! ### slots -/
abbrev Pt := List (Option (O → Prop))
def Mt (P : Pt) (st : Sl) : Prop := st.length = P.length ∧ ∀ (i : Nat) (p : O → Prop), P[i]? = some (some p) → ∃ o : O, st[i]? = some (some o) ∧ p o
theorem Mt.set {P : Pt} {st : Sl} (h : Mt P st) (i : Nat) {p : O → Prop} {o : O} (k : p o) : Mt (P.set i (some p)) (st.set i (some o)) := by
  refine ⟨by rw [List.length_set, List.length_set]; exact h.1, fun j q e => ?_⟩
  rw [List.getElem?_set] at e ⊢
  by_cases c : i = j
  · subst c
    rw [if_pos rfl] at e ⊢
    by_cases l : i < P.length
    · rw [if_pos l] at e
      rw [if_pos (by rw [h.1]; exact l)]
      cases e
      exact ⟨o, rfl, k⟩
    · rw [if_neg l] at e; cases e
  · rw [if_neg c] at e ⊢
    exact h.2 j q e
theorem Mt.drop {P : Pt} {st : Sl} (h : Mt P st) (i : Nat) (x : Option O) : Mt (P.set i none) (st.set i x) := by
  refine ⟨by rw [List.length_set, List.length_set]; exact h.1, fun j q e => ?_⟩
  rw [List.getElem?_set] at e ⊢
  by_cases c : i = j
  · subst c
    rw [if_pos rfl] at e
    by_cases l : i < P.length
    · rw [if_pos l] at e; cases e
    · rw [if_neg l] at e; cases e
  · rw [if_neg c] at e ⊢
    exact h.2 j q e
/-- Q says no more than P -/
def leP : Pt → Pt → Prop
  | [], [] => True
  | none :: Q, _ :: P => leP Q P
  | some q :: Q, some p :: P => (∀ o, p o → q o) ∧ leP Q P
  | _, _ => False
theorem leP.at : ∀ {Q P : Pt}, leP Q P → Q.length = P.length ∧ ∀ (i : Nat) (q : O → Prop), Q[i]? = some (some q) → ∃ p : O → Prop, P[i]? = some (some p) ∧ ∀ o : O, p o → q o
  | [], [], _ => ⟨rfl, fun i q e => by simp at e⟩
  | none :: Q, p :: P, h => by
    obtain ⟨a, b⟩ := leP.at (Q := Q) (P := P) (by unfold leP at h; exact h)
    refine ⟨by rw [List.length_cons, List.length_cons, a], fun i q e => ?_⟩
    cases i with
    | zero => simp at e
    | succ i => exact b i q (by simpa using e)
  | some q :: Q, some p :: P, h => by
    obtain ⟨a, b⟩ := leP.at (Q := Q) (P := P) h.2
    refine ⟨by rw [List.length_cons, List.length_cons, a], fun i r e => ?_⟩
    cases i with
    | zero => simp at e; subst e; exact ⟨p, rfl, h.1⟩
    | succ i => exact b i r (by simpa using e)
  | [], _ :: _, h => h.elim
  | none :: _, [], h => by unfold leP at h; exact h.elim
  | some _ :: _, [], h => by unfold leP at h; exact h.elim
  | some _ :: _, none :: _, h => by unfold leP at h; exact h.elim
theorem Mt.weak {Q P : Pt} {st : Sl} (h : Mt P st) (l : leP Q P) : Mt Q st := by
  obtain ⟨a, b⟩ := l.at
  refine ⟨h.1.trans a.symm, fun i q e => ?_⟩
  obtain ⟨p, e2, k⟩ := b i q e
  obtain ⟨o, e3, k2⟩ := h.2 i p e2
  exact ⟨o, e3, k o k2⟩
theorem Mt.V {P : Pt} {st : Sl} {c : Cd α} {a : α} {i : Nat} (h : Mt P st) (e : P[i]? = some (some (c.ro a))) : Rf c.en (getV i st) (.ok a) := by
  obtain ⟨o, e2, k⟩ := h.2 i _ e
  unfold getV
  rw [e2]
  show Rs.ok o.er = _
  rw [c.er a o k]
theorem Mt.P {P : Pt} {st : Sl} {c : Cd α} {a : α} {i : Nat} (h : Mt P st) (e : P[i]? = some (some ((sh c).ro a))) : Rf c.en (getP i st) (.ok a) := by
  obtain ⟨o, e2, k⟩ := h.2 i _ e
  unfold getP
  rw [e2, show o = .sh (c.en a) from k]
  rfl
theorem Mt.ixO {P : Pt} {st : Sl} {c : Cd α} {xs : List α} {i : Nat} {k : Rs D} {j : Rs Int} (h : Mt P st) (e : P[i]? = some (some ((cL (sh c)).ro xs))) (hk : Rf cI.en k j) : Rf c.en (ixO i k st) (ixL (.ok xs) j) := by
  obtain ⟨o, e2, os, e3, f⟩ := h.2 i _ e
  unfold M.ixO
  rw [e2, e3]
  cases j with
  | bad => trivial
  | ex c => rw [show k = .ex c from hk]; rfl
  | ok j =>
    rw [show k = .ok (.int j) from hk]
    show Rf c.en (match atI os j with | some (.sh d) => .ok d | _ => .bad) (ofO (atI xs j))
    unfold atI
    rw [f.length]
    cases ixN xs.length j with
    | none => trivial
    | some m =>
      show Rf c.en (match os[m]? with | some (.sh d) => .ok d | _ => .bad) (ofO xs[m]?)
      cases e4 : xs[m]? with
      | none => trivial
      | some a =>
        obtain ⟨b, e5, p⟩ := f.get e4
        rw [e5, show b = .sh (c.en a) from p]
        rfl
def wipeP (P : Pt) : List Nat → Pt
  | [] => P
  | v :: vs => (wipeP P vs).set v none
theorem Mt.wipe {P : Pt} {st : Sl} (h : Mt P st) : ∀ vs : List Nat, Mt (wipeP P vs) (wipeS st vs)
  | [] => h
  | v :: vs => (Mt.wipe h vs).drop v none
/-! targets -/
def Tg (P P' : Pt) (tg : D → Sl → Option Sl) (d : D) : Prop := ∀ st, Mt P st → ∃ st1, tg d st = some st1 ∧ Mt P' st1
def Tgs (P P' : Pt) (tg : List D → Sl → Option Sl) (ds : List D) : Prop := ∀ st, Mt P st → ∃ st1, tg ds st = some st1 ∧ Mt P' st1
theorem tg_nm {P : Pt} {c : Cd α} {i : Nat} (a : α) (hi : i < P.length) : Tg P (P.set i (some ((sh c).ro a))) (setN i) (c.en a) := fun st h => by
  refine ⟨st.set i (some (.sh (c.en a))), ?_, h.set i rfl⟩
  unfold setN
  rw [if_pos (by rw [h.1]; exact hi)]
theorem tgs_nil {P : Pt} : Tgs P P setNil [] := fun st h => ⟨st, rfl, h⟩
theorem tgs_cons {P P1 P2 : Pt} {f : D → Sl → Option Sl} {g : List D → Sl → Option Sl} {d : D} {ds : List D} (h : Tg P P1 f d) (k : Tgs P1 P2 g ds) : Tgs P P2 (setCons f g) (d :: ds) := fun st m => by
  obtain ⟨s1, e1, m1⟩ := h st m
  obtain ⟨s2, e2, m2⟩ := k s1 m1
  refine ⟨s2, ?_, m2⟩
  show (f d st).bind (g ds) = _
  rw [e1]
  exact e2
theorem tg_tup {P P' : Pt} {n : Nat} {g : List D → Sl → Option Sl} {ds : List D} (h : Tgs P P' g ds) (hn : ds.length = n) : Tg P P' (setTup n g) (.tup ds) := fun st m => by
  obtain ⟨s1, e1, m1⟩ := h st m
  refine ⟨s1, ?_, m1⟩
  show (if ds.length = n then g ds st else none) = _
  rw [if_pos hn]
  exact e1
/-! what is walked -/
theorem q_elems {c : Cd α} {a : Rs D} {x : Rs (List α)} (ha : Rf (cL c).en a x) : Rf (List.map c.en) (elemsR a) x := by
  cases x with
  | ok p => rw [show a = .ok (.lst (p.map c.en)) from ha]; rfl
  | ex c => rw [show a = .ex c from ha]; rfl
  | bad => trivial
theorem q_elemsX {a : Rs D} {x : Rs (List Int)} (ha : Rf cX.en a x) : Rf (List.map cI.en) (elemsR a) x := by
  cases x with
  | ok p => rw [show a = .ok (.scr p) from ha]; rfl
  | ex c => rw [show a = .ex c from ha]; rfl
  | bad => trivial
def rng1 (a : Rs Int) : Rs (List Nat) := a.bind fun j => if rngOk j = true then .ok (List.range j.toNat) else .bad
def rng2 (a b : Rs Int) : Rs (List Int) := a.bind fun i => b.bind fun j => if (rngOk i && rngOk j) = true then .ok ((List.range (j - i).toNat).map fun n => i + (n : Nat)) else .bad
theorem rng1_ok {n : Nat} (h : n < 16000000) : rng1 (.ok (n : Int)) = .ok (List.range n) := by
  unfold rng1
  rw [bind_ok, if_pos (rngOk_of (by omega) (by omega)), Int.toNat_natCast]
theorem rng2_ok {i j : Int} (h : -16000000 < i ∧ i < 16000000) (k : -16000000 < j ∧ j < 16000000) : rng2 (.ok i) (.ok j) = .ok ((List.range (j - i).toNat).map fun n => i + (n : Nat)) := by
  exact if_pos (by rw [rngOk_of (by omega) (by omega), rngOk_of (by omega) (by omega)]; rfl)
def cNat (n : Nat) : D := .int n
theorem q_rng1 {a : Rs D} {x : Rs Int} (ha : Rf cI.en a x) : Rf (List.map fun n : Nat => cI.en (n : Int)) (range1 a) (rng1 x) := by
  cases x with
  | ok p =>
    rw [show a = .ok (.int p) from ha, range1_ok]
    show Rf _ _ (if rngOk p = true then _ else _)
    split
    · show Rs.ok _ = Rs.ok _
      unfold rangeL
      congr 1
      apply List.map_congr_left
      intro i _
      rw [Int.zero_add]
      rfl
    · trivial
  | ex c => rw [show a = .ex c from ha]; rfl
  | bad => trivial
theorem q_rng2 {a b : Rs D} {x y : Rs Int} (ha : Rf cI.en a x) (hb : Rf cI.en b y) : Rf (List.map cI.en) (range2 a b) (rng2 x y) := by
  cases x with
  | ok p =>
    rw [show a = .ok (.int p) from ha]
    cases y with
    | ok q =>
      rw [show b = .ok (.int q) from hb, range2_ok]
      show Rf _ _ (if (rngOk p && rngOk q) = true then _ else _)
      split
      · show Rs.ok _ = Rs.ok _
        unfold rangeL
        rw [List.map_map]
        rfl
      · trivial
    | ex c => rw [show b = .ex c from hb]; rfl
    | bad => trivial
  | ex c => rw [show a = .ex c from ha]; rfl
  | bad => trivial
def zipT (x : Rs (List α)) (y : Rs (List β)) : Rs (List (α × β)) := x.bind fun x => y.bind fun y => .ok (x.zip y)
@[simp] theorem zipT_ok {x : List α} {y : List β} : zipT (.ok x) (.ok y) = .ok (x.zip y) := said rfl
theorem q_zip {c : Cd α} {d : Cd β} {a b : Rs D} {x : Rs (List α)} {y : Rs (List β)} (ha : Rf (cL c).en a x) (hb : Rf (cL d).en b y) : Rf (List.map fun p : α × β => D.tup [c.en p.1, d.en p.2]) (zipR a b) (zipT x y) := ha.bind fun x => hb.bind fun y => by
  show Rs.ok (zipD (x.map c.en) (y.map d.en)) = _
  rw [zipD_map]
def enumT (x : Rs (List α)) : Rs (List (α × Nat)) := x.bind fun x => .ok x.zipIdx
@[simp] theorem enumT_ok {x : List α} : enumT (.ok x) = .ok x.zipIdx := said rfl
theorem zipIdx_map' (f : α → β) : ∀ (xs : List α) (n : Nat), (xs.map f).zipIdx n = (xs.zipIdx n).map fun p => (f p.1, p.2)
  | [], _ => rfl
  | x :: xs, n => by rw [List.map_cons, List.zipIdx_cons, List.zipIdx_cons, List.map_cons, zipIdx_map' f xs]
theorem q_enum {c : Cd α} {a : Rs D} {x : Rs (List α)} (ha : Rf (cL c).en a x) : Rf (List.map fun p : α × Nat => D.tup [cI.en (p.2 : Int), c.en p.1]) (enumR a) (enumT x) := ha.bind fun x => by
  show Rs.ok (enumD (x.map c.en)) = _
  unfold enumD
  rw [zipIdx_map', List.map_map]
  rfl
def revT (x : Rs (List α)) : Rs (List α) := x.bind fun x => .ok x.reverse
@[simp] theorem revT_ok {x : List α} : revT (.ok x) = .ok x.reverse := said rfl
theorem q_rev {c : Cd α} {a : Rs D} {x : Rs (List α)} (ha : Rf (cL c).en a x) : Rf (List.map c.en) (revR a) (revT x) := ha.bind fun x => by
  show Rs.ok (x.map c.en).reverse = _
  rw [← List.map_reverse]
/-! comprehensions -/
def lcTF (p : α → Rs Bool) (e : α → Rs β) : List α → Rs (List β)
  | [] => .ok []
  | a :: as => (noEx (p a)).bind fun b => if b = true then (noEx (e a)).bind fun o => (lcTF p e as).bind fun os => .ok (o :: os) else lcTF p e as
def lcT (it : Rs (List α)) (p : α → Rs Bool) (e : α → Rs β) : Rs (List β) := it.bind fun xs => lenOk (lcTF p e xs)
theorem noEx_f {g : α → β} {d : Rs β} {r : Rs α} (h : Rf g d r) : Rf g (noEx d) (noEx r) := by
  cases r with
  | ok a => rw [show d = _ from h]; rfl
  | ex c => trivial
  | bad => trivial
theorem noEx_o {p : α → β → Prop} {d : Rs β} {r : Rs α} (h : Ro p d r) : Ro p (noEx d) (noEx r) := by
  cases r with
  | ok a => obtain ⟨o, e, x⟩ := h; rw [e]; exact ⟨o, rfl, x⟩
  | ex c => trivial
  | bad => trivial
theorem q_lcF {P : Pt} {st : Sl} {g : α → D} {tg : D → Sl → Option Sl} {ts : Sl → Rs Bool} {el : Sl → Rs O} {p : α → Rs Bool} {e : α → Rs β} {c : Cd β} (h : Mt P st)
    (hb : ∀ a st', Mt P st' → ∃ st1, tg (g a) st' = some st1 ∧ Rf id (ts st1) (p a) ∧ Ro c.ro (el st1) (e a)) : ∀ xs : List α, Ro (Fa c.ro) (lcF tg ts el st (xs.map g)) (lcTF p e xs)
  | [] => ⟨[], rfl, trivial⟩
  | a :: as => by
    obtain ⟨st1, e1, h1, h2⟩ := hb a st h
    rw [List.map_cons]
    unfold lcF lcTF
    rw [e1]
    refine (noEx_f h1).bindo fun b => ?_
    cases b with
    | true => exact (noEx_o h2).bind fun x o z => (q_lcF h hb as).bind fun xs os y => ⟨_, rfl, z, y⟩
    | false => exact q_lcF h hb as
theorem q_lc {P : Pt} {st : Sl} {vs : List Nat} {g : α → D} {it : Rs (List D)} {rit : Rs (List α)} {tg : D → Sl → Option Sl} {ts : Sl → Rs Bool} {el : Sl → Rs O} {p : α → Rs Bool} {e : α → Rs β} {c : Cd β} (hit : Rf (List.map g) it rit) (h : Mt P st)
    (hb : ∀ a st', Mt (wipeP P vs) st' → ∃ st1, tg (g a) st' = some st1 ∧ Rf id (ts st1) (p a) ∧ Ro c.ro (el st1) (e a)) : Ro (cL c).ro (lcR it tg ts el vs st) (lcT rit p e) := by
  refine q_lst (hit.bindo fun xs => ?_)
  refine (q_lcF (h.wipe vs) hb xs).bind fun as os f => ?_
  show Ro _ (if os.length < sizeLine then .ok os else .bad) (if as.length < sizeLine then .ok as else .bad)
  rw [f.length]
  split
  · exact ⟨_, rfl, f⟩
  · trivial
/-- the target, then the test and the item -/
theorem lc_body {P P' : Pt} {st' : Sl} {tg : D → Sl → Option Sl} {d : D} {ts : Sl → Rs Bool} {el : Sl → Rs O} {p : Rs Bool} {e : Rs β} {c : Cd β} (t : Tg P P' tg d) (m : Mt P st') (k : ∀ st1, Mt P' st1 → Rf id (ts st1) p ∧ Ro c.ro (el st1) e) :
    ∃ st1, tg d st' = some st1 ∧ Rf id (ts st1) p ∧ Ro c.ro (el st1) e := by
  obtain ⟨s, e, h⟩ := t st' m
  exact ⟨s, e, k s h⟩
theorem q_true : Rf (id : Bool → Bool) (.ok true) (.ok true) := rfl
theorem lcTF_map {e : α → Rs β} {f : α → β} : ∀ {xs : List α}, (∀ a ∈ xs, e a = .ok (f a)) → lcTF (fun _ => .ok true) e xs = .ok (xs.map f)
  | [], _ => rfl
  | a :: as, h => by
    unfold lcTF
    rw [h a (by simp), lcTF_map fun b hb => h b (by simp [hb])]
    rfl
theorem lcT_map {e : α → Rs β} {f : α → β} {xs : List α} (hl : xs.length < 16000000) (h : ∀ a ∈ xs, e a = .ok (f a)) : lcT (.ok xs) (fun _ => .ok true) e = .ok (xs.map f) := by
  show lenOk (lcTF _ _ xs) = _
  rw [lcTF_map h]
  unfold lenOk
  rw [bind_ok, if_pos (by rw [List.length_map, sizeLine_eq]; omega)]
theorem lcTF_filter {p : α → Rs Bool} {q : α → Bool} {e : α → Rs β} {f : α → β} : ∀ {xs : List α}, (∀ a ∈ xs, p a = .ok (q a) ∧ (q a = true → e a = .ok (f a))) → lcTF p e xs = .ok ((xs.filter q).map f)
  | [], _ => rfl
  | a :: as, h => by
    have ih := lcTF_filter (xs := as) fun b hb => h b (by simp [hb])
    obtain ⟨h1, h2⟩ := h a (by simp)
    unfold lcTF
    rw [h1, ih]
    cases hp : q a with
    | true => rw [h2 hp, List.filter_cons_of_pos hp]; rfl
    | false => rw [List.filter_cons_of_neg (by rw [hp]; exact Bool.false_ne_true)]; rfl
theorem lcT_filter {p : α → Rs Bool} {q : α → Bool} {e : α → Rs β} {f : α → β} {xs : List α} (hl : xs.length < 16000000) (h : ∀ a ∈ xs, p a = .ok (q a) ∧ (q a = true → e a = .ok (f a))) : lcT (.ok xs) p e = .ok ((xs.filter q).map f) := by
  show lenOk (lcTF _ _ xs) = _
  rw [lcTF_filter h]
  unfold lenOk
  have := List.length_filter_le q xs
  rw [bind_ok, if_pos (by rw [List.length_map, sizeLine_eq]; omega)]
end
end M

/-! Typed readings: statements. -/
namespace M
open PySem L2
inductive Ft (τ κ ρ : Type) where
  | nx (s : τ) | rt (x : ρ) | bk (s : κ) | ct (s : κ) | ex (c : Str) | bad
section
variable {α β γ τ τ' κ κ' ρ : Type}
def lt (r : Rs α) (k : α → Ft τ κ ρ) : Ft τ κ ρ := match r with
  | .ok a => k a
  | .ex c => .ex c
  | .bad => .bad
def Ft.thn (f : Ft τ κ ρ) (k : τ → Ft τ' κ ρ) : Ft τ' κ ρ := match f with
  | .nx s => k s
  | .rt x => .rt x
  | .bk s => .bk s
  | .ct s => .ct s
  | .ex c => .ex c
  | .bad => .bad
def itf (c : Rs Bool) (a b : Ft τ κ ρ) : Ft τ κ ρ := lt c fun k => if k = true then a else b
def fot (b : α → κ → Ft κ κ ρ) : List α → κ → Ft κ κ' ρ
  | [], s => .nx s
  | a :: as, s => match b a s with
    | .nx s' => fot b as s'
    | .ct s' => fot b as s'
    | .bk s' => .nx s'
    | .rt x => .rt x
    | .ex c => .ex c
    | .bad => .bad
def fort (it : Rs (List α)) (b : α → κ → Ft κ κ ρ) (s : κ) : Ft κ κ' ρ := lt it fun xs => fot b xs s
def wtN (c : κ → Rs Bool) (b : κ → Ft κ κ ρ) : Nat → κ → Ft κ κ' ρ
  | 0, _ => .bad
  | n + 1, s => match c s with
    | .ex e => .ex e
    | .bad => .bad
    | .ok false => .nx s
    | .ok true => match b s with
      | .nx s' => wtN c b n s'
      | .ct s' => wtN c b n s'
      | .bk s' => .nx s'
      | .rt x => .rt x
      | .ex e => .ex e
      | .bad => .bad
open Classical in
noncomputable def wht (c : κ → Rs Bool) (b : κ → Ft κ κ ρ) (s : κ) : Ft κ κ' ρ := if h : ∃ n, (wtN c b n s : Ft κ κ' ρ) ≠ .bad then wtN c b h.choose s else .bad
def fit : Ft τ κ ρ → Rs ρ
  | .rt x => .ok x
  | .ex c => .ex c
  | _ => .bad
def fitU : Ft τ κ Unit → Rs Unit
  | .nx _ => .ok ()
  | .rt x => .ok x
  | .ex c => .ex c
  | _ => .bad
@[simp] theorem lt_ok {a : α} {k : α → Ft τ κ ρ} : lt (.ok a) k = k a := said rfl
@[simp] theorem lt_ex {c : Str} {k : α → Ft τ κ ρ} : lt (.ex c) k = .ex c := said rfl
@[simp] theorem thnT_nx {s : τ} {k : τ → Ft τ' κ ρ} : (Ft.nx s).thn k = k s := said rfl
@[simp] theorem thnT_rt {x : ρ} {k : τ → Ft τ' κ ρ} : (Ft.rt x).thn k = .rt x := said rfl
@[simp] theorem thnT_bk {x : κ} {k : τ → Ft τ' κ ρ} : (Ft.bk x).thn k = .bk x := said rfl
@[simp] theorem thnT_ct {x : κ} {k : τ → Ft τ' κ ρ} : (Ft.ct x).thn k = .ct x := said rfl
@[simp] theorem thnT_ex {x : Str} {k : τ → Ft τ' κ ρ} : (Ft.ex x).thn k = .ex x := said rfl
theorem itf_ok {b : Bool} {x y : Ft τ κ ρ} : itf (.ok b) x y = if b = true then x else y := said rfl
@[simp] theorem itf_t {x y : Ft τ κ ρ} : itf (.ok true) x y = x := said rfl
@[simp] theorem itf_f {x y : Ft τ κ ρ} : itf (.ok false) x y = y := said rfl
@[simp] theorem fort_ok {b : α → κ → Ft κ κ ρ} {xs : List α} {s : κ} : (fort (.ok xs) b s : Ft κ κ' ρ) = fot b xs s := said rfl
@[simp] theorem fot_nil {b : α → κ → Ft κ κ ρ} {s : κ} : (fot b [] s : Ft κ κ' ρ) = .nx s := said rfl
theorem fot_nx {b : α → κ → Ft κ κ ρ} {a : α} {as : List α} {s s' : κ} (h : b a s = .nx s') : (fot b (a :: as) s : Ft κ κ' ρ) = fot b as s' := by
  rw [fot, h]
theorem fot_ct {b : α → κ → Ft κ κ ρ} {a : α} {as : List α} {s s' : κ} (h : b a s = .ct s') : (fot b (a :: as) s : Ft κ κ' ρ) = fot b as s' := by
  rw [fot, h]
theorem fot_rt {b : α → κ → Ft κ κ ρ} {a : α} {as : List α} {s : κ} {x : ρ} (h : b a s = .rt x) : (fot b (a :: as) s : Ft κ κ' ρ) = .rt x := by
  rw [fot, h]
theorem fot_bk {b : α → κ → Ft κ κ ρ} {a : α} {as : List α} {s s' : κ} (h : b a s = .bk s') : (fot b (a :: as) s : Ft κ κ' ρ) = .nx s' := by
  rw [fot, h]
@[simp] theorem fit_rt {x : ρ} : fit (.rt x : Ft τ κ ρ) = .ok x := said rfl
@[simp] theorem fit_ex {x : Str} : fit (.ex x : Ft τ κ ρ) = .ex x := said rfl
@[simp] theorem fitU_nx {s : τ} : fitU (.nx s : Ft τ κ Unit) = .ok () := said rfl
@[simp] theorem fitU_rt {s : Unit} : fitU (.rt s : Ft τ κ Unit) = .ok s := said rfl
@[simp] theorem fitU_ex {x : Str} : fitU (.ex x : Ft τ κ Unit) = .ex x := said rfl
/-- a loop that goes through, by a fold -/
theorem fot_fold {b : α → κ → Ft κ κ ρ} {f : κ → α → κ} : ∀ {xs : List α} {s : κ}, (∀ a ∈ xs, ∀ s, b a s = .nx (f s a)) → (fot b xs s : Ft κ κ' ρ) = .nx (xs.foldl f s)
  | [], _, _ => rfl
  | a :: as, s, h => by
    rw [fot_nx (h a (by simp) s), fot_fold fun c hc => h c (by simp [hc])]
    rfl
/-- a loop that goes through, by an invariant over the turn -/
theorem fot_inv {b : α → κ → Ft κ κ ρ} (I : Nat → κ → Prop) : ∀ (xs : List α) (n : Nat) (s : κ), I n s → (∀ (i : Nat) (a : α) (s : κ), xs[i]? = some a → I (n + i) s → ∃ s', (b a s = .nx s' ∨ b a s = .ct s') ∧ I (n + i + 1) s') → ∃ s', (fot b xs s : Ft κ κ' ρ) = .nx s' ∧ I (n + xs.length) s'
  | [], n, s, h0, _ => ⟨s, rfl, h0⟩
  | a :: as, n, s, h0, step => by
    obtain ⟨s1, e1, h1⟩ := step 0 a s rfl h0
    obtain ⟨s2, e2, h2⟩ := fot_inv I as (n + 1) s1 h1 fun i a' s' ha hi => by
      have := step (i + 1) a' s' (by simpa using ha) (by rw [show n + (i + 1) = n + 1 + i by omega]; exact hi)
      rw [show n + (i + 1) = n + 1 + i by omega] at this
      exact this
    refine ⟨s2, ?_, by rw [List.length_cons, show n + (as.length + 1) = n + 1 + as.length by omega]; exact h2⟩
    rcases e1 with e1 | e1
    · rw [fot_nx e1, e2]
    · rw [fot_ct e1, e2]
theorem wtN_succ {c : κ → Rs Bool} {b : κ → Ft κ κ ρ} : ∀ (n : Nat) (s : κ), (wtN c b n s : Ft κ κ' ρ) ≠ .bad → (wtN c b (n + 1) s : Ft κ κ' ρ) = wtN c b n s
  | 0, s, h => absurd rfl h
  | n + 1, s, h => by
    unfold wtN at h ⊢
    cases e : c s with
    | ex _ => rfl
    | bad => rfl
    | ok k =>
      rw [e] at h
      cases k with
      | false => rfl
      | true =>
        dsimp only at h ⊢
        cases e2 : b s with
        | nx st2 => rw [e2] at h; exact wtN_succ n st2 h
        | ct st2 => rw [e2] at h; exact wtN_succ n st2 h
        | bk _ => rfl
        | rt _ => rfl
        | ex _ => rfl
        | bad => rfl
theorem wtN_le {c : κ → Rs Bool} {b : κ → Ft κ κ ρ} {n : Nat} {s : κ} (h : (wtN c b n s : Ft κ κ' ρ) ≠ .bad) : ∀ m, (wtN c b (n + m) s : Ft κ κ' ρ) = wtN c b n s
  | 0 => rfl
  | m + 1 => by
    have ih := wtN_le h m
    have := wtN_succ (n + m) s (by rw [ih]; exact h)
    exact this.trans ih
theorem wtN_eq {c : κ → Rs Bool} {b : κ → Ft κ κ ρ} {n m : Nat} {s : κ} (h : (wtN c b n s : Ft κ κ' ρ) ≠ .bad) (h2 : (wtN c b m s : Ft κ κ' ρ) ≠ .bad) : (wtN c b n s : Ft κ κ' ρ) = wtN c b m s := by
  rcases Nat.le_total n m with k | k
  · obtain ⟨d, rfl⟩ := Nat.exists_eq_add_of_le k
    exact (wtN_le h d).symm
  · obtain ⟨d, rfl⟩ := Nat.exists_eq_add_of_le k
    exact wtN_le h2 d
theorem wht_of {c : κ → Rs Bool} {b : κ → Ft κ κ ρ} {n : Nat} {s : κ} (h : (wtN c b n s : Ft κ κ' ρ) ≠ .bad) : (wht c b s : Ft κ κ' ρ) = wtN c b n s := by
  unfold wht
  rw [dif_pos ⟨n, h⟩]
  exact wtN_eq (Exists.choose_spec (⟨n, h⟩ : ∃ n, (wtN c b n s : Ft κ κ' ρ) ≠ .bad)) h
theorem wht_stop {c : κ → Rs Bool} {b : κ → Ft κ κ ρ} {s : κ} (h : c s = .ok false) : (wht c b s : Ft κ κ' ρ) = .nx s := by
  have e : (wtN c b 1 s : Ft κ κ' ρ) = .nx s := by unfold wtN; rw [h]
  rw [wht_of (n := 1) (by rw [e]; exact fun z => Ft.noConfusion rfl rfl rfl (heq_of_eq z)), e]
theorem wht_go {c : κ → Rs Bool} {b : κ → Ft κ κ ρ} {s s' : κ} (h : c s = .ok true) (k : b s = .nx s') : (wht c b s : Ft κ κ' ρ) = wht c b s' := by
  by_cases z : ∃ n, (wtN c b n s' : Ft κ κ' ρ) ≠ .bad
  · obtain ⟨n, hn⟩ := z
    have e : (wtN c b (n + 1) s : Ft κ κ' ρ) = wtN c b n s' := by rw [wtN, h]; dsimp only; rw [k]
    rw [wht_of hn, wht_of (n := n + 1) (by rw [e]; exact hn), e]
  · have z2 : ¬ ∃ n, (wtN c b n s : Ft κ κ' ρ) ≠ .bad := fun ⟨n, hn⟩ => by
      cases n with
      | zero => exact hn rfl
      | succ n =>
        have e : (wtN c b (n + 1) s : Ft κ κ' ρ) = wtN c b n s' := by rw [wtN, h]; dsimp only; rw [k]
        exact z ⟨n, by rw [← e]; exact hn⟩
    unfold wht
    rw [dif_neg z, dif_neg z2]
/-! ### the tie -/
def Fr (Q : τ → Sl → Prop) (B : κ → Sl → Prop) (R : ρ → O → Prop) (f : Fl) (r : Ft τ κ ρ) : Prop := match r with
  | .nx s => ∃ st, f = .nx st ∧ Q s st
  | .bk s => ∃ st, f = .bk st ∧ B s st
  | .ct s => ∃ st, f = .ct st ∧ B s st
  | .rt x => ∃ o, f = .rt o ∧ R x o
  | .ex c => f = .ex c
  | .bad => True
variable {Q : τ → Sl → Prop} {Q' : τ' → Sl → Prop} {B : κ → Sl → Prop} {R : ρ → O → Prop} {P : Pt} {st : Sl}
theorem thn_id (f : Fl) : f.thn Fl.nx = f := by cases f <;> rfl
/-- the last statement of a block -/
theorem k_last {f : Fl} {r : Ft τ κ ρ} (h : Fr Q B R (f.thn Fl.nx) r) : Fr Q B R f r := by rw [thn_id] at h; exact h
theorem k_nx {s : τ} (h : Q s st) : Fr Q B R (.nx st) (.nx s) := ⟨st, rfl, h⟩
theorem k_bk {s : κ} (h : B s st) : Fr Q B R (.bk st) (.bk s) := ⟨st, rfl, h⟩
theorem k_ct {s : κ} (h : B s st) : Fr Q B R (.ct st) (.ct s) := ⟨st, rfl, h⟩
theorem k_bad {f : Fl} : Fr Q B R f .bad := trivial
theorem k_thn {f : Fl} {A : Ft τ κ ρ} {G : Sl → Fl} {k : τ → Ft τ' κ ρ} (h : Fr Q B R f A) (hk : ∀ s st, Q s st → Fr Q' B R (G st) (k s)) : Fr Q' B R (f.thn G) (A.thn k) := by
  cases A with
  | nx s => obtain ⟨st, e, q⟩ := h; rw [e]; exact hk s st q
  | bk s => obtain ⟨st, e, q⟩ := h; rw [e]; exact ⟨st, rfl, q⟩
  | ct s => obtain ⟨st, e, q⟩ := h; rw [e]; exact ⟨st, rfl, q⟩
  | rt x => obtain ⟨o, e, q⟩ := h; rw [e]; exact ⟨o, rfl, q⟩
  | ex c => rw [show f = .ex c from h]; rfl
  | bad => trivial
theorem k_if {c : Rs Bool} {rc : Rs Bool} {a b : Fl} {A A' : Ft τ κ ρ} (hc : Rf id c rc) (ha : Fr Q B R a A) (hb : Fr Q B R b A') : Fr Q B R (ifS c a b) (itf rc A A') := by
  cases rc with
  | ok k =>
    rw [show c = .ok k from hc]
    cases k with
    | true => exact ha
    | false => exact hb
  | ex c' => rw [show c = .ex c' from hc]; rfl
  | bad => trivial
/-- a branch that leaves the block -/
theorem k_ifx {c : Rs Bool} {rc : Rs Bool} {a b : Fl} {G : Sl → Fl} {A A' : Ft τ κ ρ} (hc : Rf id c rc) (ha : Fr (fun _ _ => False) B R a A) (hb : Fr Q B R (b.thn G) A') : Fr Q B R ((ifS c a b).thn G) (itf rc A A') := by
  cases rc with
  | ok k =>
    rw [show c = .ok k from hc]
    cases k with
    | true =>
      show Fr Q B R (a.thn G) A
      cases A with
      | nx s => obtain ⟨_, _, f⟩ := ha; exact f.elim
      | bk s => obtain ⟨st, e, q⟩ := ha; rw [e]; exact ⟨st, rfl, q⟩
      | ct s => obtain ⟨st, e, q⟩ := ha; rw [e]; exact ⟨st, rfl, q⟩
      | rt x => obtain ⟨o, e, q⟩ := ha; rw [e]; exact ⟨o, rfl, q⟩
      | ex c => rw [show a = .ex c from ha]; rfl
      | bad => trivial
    | false => exact hb
  | ex c' => rw [show c = .ex c' from hc]; rfl
  | bad => trivial
theorem k_set {i : Nat} {c : Cd α} {fd : Rs O} {r : Rs α} {G : Sl → Fl} {k : α → Ft τ κ ρ} (h : Mt P st) (hr : Ro c.ro fd r) (hi : i < P.length) (hk : ∀ a st', Mt (P.set i (some (c.ro a))) st' → Fr Q B R (G st') (k a)) :
    Fr Q B R ((setO i fd st).thn G) (lt r k) := by
  cases r with
  | ok a =>
    obtain ⟨o, e, x⟩ := hr
    rw [e, setO_ok, if_pos (by rw [h.1]; exact hi)]
    exact hk a _ (h.set i x)
  | ex c => rw [show fd = .ex c from hr]; rfl
  | bad => trivial
theorem k_asg {g : D → Sl → Option Sl} {e : α → D} {d : Rs D} {r : Rs α} {P' : α → Pt} {G : Sl → Fl} {k : α → Ft τ κ ρ} (h : Mt P st) (hd : Rf e d r) (ht : ∀ a, Tg P (P' a) g (e a)) (hk : ∀ a st', Mt (P' a) st' → Fr Q B R (G st') (k a)) :
    Fr Q B R ((asgR g d st).thn G) (lt r k) := by
  cases r with
  | ok a =>
    rw [show d = .ok (e a) from hd]
    obtain ⟨s1, e1, m1⟩ := ht a st h
    rw [asgR_ok, e1]
    exact hk a _ m1
  | ex c => rw [show d = .ex c from hd]; rfl
  | bad => trivial
theorem k_par {i j : Nat} {a : Cd α} {b : Cd β} {x y : Rs D} {r : Rs α} {s : Rs β} {G : Sl → Fl} {k : α × β → Ft τ κ ρ} (h : Mt P st) (hx : Rf a.en x r) (hy : Rf b.en y s) (hi : i < P.length) (hj : j < P.length) (hk : ∀ p st', Mt ((P.set i (some ((sh a).ro p.1))).set j (some ((sh b).ro p.2))) st' → Fr Q B R (G st') (k p)) :
    Fr Q B R ((parR i j (consR x (consR y (.ok []))) st).thn G) (lt (pair2 r s) k) := by
  cases r with
  | ok p =>
    rw [show x = .ok (a.en p) from hx]
    cases s with
    | ok q =>
      rw [show y = .ok (b.en q) from hy, consR_ok, consR_ok, parR_ok, if_pos ⟨by rw [h.1]; exact hi, by rw [h.1]; exact hj⟩]
      exact hk (p, q) _ ((h.set i (p := (sh a).ro p) rfl).set j (p := (sh b).ro q) rfl)
    | ex c => rw [show y = .ex c from hy]; rfl
    | bad => trivial
  | ex c => rw [show x = .ex c from hx]; rfl
  | bad => trivial
def putL (xs : List α) (v : Rs α) (j : Rs Int) : Rs (List α) := v.bind fun v => (noEx j).bind fun j => match ixN xs.length j with
  | some m => .ok (xs.set m v)
  | none => .bad
theorem putL_ok {xs : List α} {v : α} {j : Nat} (h : j < xs.length) : putL xs (.ok v) (.ok (j : Int)) = .ok (xs.set j v) := by
  show (match ixN xs.length (j : Int) with | some m => Rs.ok (xs.set m v) | none => .bad) = _
  have e : ixN xs.length (j : Int) = some j := by
    unfold ixN
    rw [if_pos (by omega), if_pos (by omega), Int.toNat_natCast]
  rw [e]
theorem k_put {i : Nat} {c : Cd α} {xs : List α} {fd : Rs O} {kd : Rs D} {r : Rs α} {j : Rs Int} {G : Sl → Fl} {k : List α → Ft τ κ ρ} (h : Mt P st) (e : P[i]? = some (some ((cL c).ro xs))) (hr : Ro c.ro fd r) (hj : Rf cI.en kd j) (hk : ∀ xs st', Mt (P.set i (some ((cL c).ro xs))) st' → Fr Q B R (G st') (k xs)) :
    Fr Q B R ((putR i fd kd st).thn G) (lt (putL xs r j) k) := by
  cases r with
  | ok a =>
    obtain ⟨o, e1, x⟩ := hr
    obtain ⟨_, e2, os, rfl, f⟩ := h.2 i _ e
    cases j with
    | ok j =>
      rw [e1, show kd = .ok (.int j) from hj]
      show Fr Q B R (Fl.thn (match st[i]? with
        | some (some (.lst os)) => (match ixN os.length j with | some m => Fl.nx (st.set i (some (.lst (os.set m o)))) | none => .bad)
        | _ => .bad) G) (lt (match ixN xs.length j with | some m => Rs.ok (xs.set m a) | none => .bad) k)
      rw [e2]
      dsimp only
      rw [f.length]
      cases ixN xs.length j with
      | none => trivial
      | some m => exact hk _ _ (h.set i ⟨_, rfl, f.set x⟩)
    | ex c => trivial
    | bad => trivial
  | ex c => rw [show fd = .ex c from hr]; rfl
  | bad => trivial
def put2L (xs : List (List α)) (v : Rs α) (a j : Rs Int) : Rs (List (List α)) := v.bind fun v => (noEx a).bind fun a => (noEx j).bind fun j => match atI xs a, ixN xs.length a with
  | some row, some m => (match ixN row.length j with
    | some n => .ok (xs.set m (row.set n v))
    | none => .bad)
  | _, _ => .bad
theorem ixN_nat {n j : Nat} (h : j < n) : ixN n (j : Int) = some j := by
  unfold ixN
  rw [if_pos (by omega), if_pos (by omega), Int.toNat_natCast]
theorem atI_nat {xs : List α} {j : Nat} (h : j < xs.length) : atI xs (j : Int) = some xs[j] := by
  unfold atI
  rw [ixN_nat h]
  exact List.getElem?_eq_getElem h
theorem ixL_nat {xs : List α} {j : Nat} (h : j < xs.length) : ixL (.ok xs) (.ok (j : Int)) = .ok xs[j] := by
  rw [ixL_eq, atI_nat h]; rfl
theorem ixL_D {xs : List α} {j : Nat} (d : α) (h : j < xs.length) : ixL (.ok xs) (.ok (j : Int)) = .ok (xs.getD j d) := by
  rw [ixL_nat h, List.getD_eq_getElem?_getD, List.getElem?_eq_getElem h]; rfl
theorem put2L_ok {xs : List (List α)} {v : α} {a j : Nat} (h : a < xs.length) (k : j < xs[a].length) : put2L xs (.ok v) (.ok (a : Int)) (.ok (j : Int)) = .ok (xs.set a (xs[a].set j v)) := by
  show (match atI xs (a : Int), ixN xs.length (a : Int) with
    | some row, some m => (match ixN row.length (j : Int) with | some n => Rs.ok (xs.set m (row.set n v)) | none => .bad)
    | _, _ => .bad) = _
  rw [atI_nat h, ixN_nat h]
  dsimp only
  rw [ixN_nat k]
theorem k_put2 {i : Nat} {c : Cd α} {xs : List (List α)} {fd : Rs O} {ad kd : Rs D} {r : Rs α} {a j : Rs Int} {G : Sl → Fl} {k : List (List α) → Ft τ κ ρ} (h : Mt P st) (e : P[i]? = some (some ((cL (cL c)).ro xs))) (hr : Ro c.ro fd r) (ha : Rf cI.en ad a) (hj : Rf cI.en kd j) (hk : ∀ xs st', Mt (P.set i (some ((cL (cL c)).ro xs))) st' → Fr Q B R (G st') (k xs)) :
    Fr Q B R ((put2R i fd ad kd st).thn G) (lt (put2L xs r a j) k) := by
  cases r with
  | ok v =>
    obtain ⟨o, e1, x⟩ := hr
    obtain ⟨_, e2, os, rfl, f⟩ := h.2 i _ e
    cases a with
    | ok a =>
      cases j with
      | ok j =>
        rw [e1, show ad = .ok (.int a) from ha, show kd = .ok (.int j) from hj]
        unfold put2R
        dsimp only
        rw [e2]
        dsimp only
        show Fr Q B R _ (lt (match atI xs a, ixN xs.length a with
          | some row, some m => (match ixN row.length j with | some n => Rs.ok (xs.set m (row.set n v)) | none => .bad)
          | _, _ => .bad) k)
        unfold atI
        rw [f.length]
        cases e3 : ixN xs.length a with
        | none => trivial
        | some m =>
          simp only [Option.bind_some]
          cases e4 : xs[m]? with
          | none => trivial
          | some row =>
            obtain ⟨o2, e5, ps, rfl, g⟩ := f.get e4
            rw [e5]
            dsimp only
            rw [g.length]
            cases ixN row.length j with
            | none => trivial
            | some n => exact hk _ _ (h.set i ⟨_, rfl, f.set ⟨_, rfl, g.set x⟩⟩)
      | ex c => trivial
      | bad => trivial
    | ex c => trivial
    | bad => trivial
  | ex c => rw [show fd = .ex c from hr]; rfl
  | bad => trivial
def aliasL (xs : List (List Int)) (a k j e : Rs Int) : Rs (List (List Int)) := (noEx a).bind fun a => (noEx k).bind fun k => (noEx e).bind fun e => (noEx j).bind fun j => match atI xs a, ixN xs.length a with
  | some row, some m => (match atI row k, ixN row.length j with
    | some d, some n => .ok (xs.set m (row.set n (d + e)))
    | _, _ => .bad)
  | _, _ => .bad
theorem k_alias {i q : Nat} {xs : List (List Int)} {ad kd jd ed : Rs D} {a l j e : Rs Int} {G : Sl → Fl} {k : List (List Int) → Ft τ κ ρ} (h : Mt P st) (he : P[i]? = some (some ((cL (cL cI)).ro xs))) (ha : Rf cI.en ad a) (hl : Rf cI.en kd l) (hj : Rf cI.en jd j) (hee : Rf cI.en ed e) (hq : q < P.length) (hiq : i ≠ q) (hk : ∀ xs st', Mt ((P.set q none).set i (some ((cL (cL cI)).ro xs))) st' → Fr Q B R (G st') (k xs)) :
    Fr Q B R ((if q < st.length then aliasR i q ad kd jd ed st else .bad).thn G) (lt (aliasL xs a l j e) k) := by
  rw [if_pos (by rw [h.1]; exact hq)]
  obtain ⟨_, e2, os, rfl, f⟩ := h.2 i _ he
  cases a with
  | bad => trivial
  | ex c => trivial
  | ok a =>
    cases l with
    | bad => trivial
    | ex c => trivial
    | ok l =>
      cases e with
      | bad => trivial
      | ex c => trivial
      | ok e =>
        cases j with
        | bad => trivial
        | ex c => trivial
        | ok j =>
          rw [show ad = .ok (.int a) from ha, show kd = .ok (.int l) from hl, show ed = .ok (.int e) from hee, show jd = .ok (.int j) from hj]
          unfold aliasR
          rw [e2]
          dsimp only
          show Fr Q B R _ (lt (match atI xs a, ixN xs.length a with
            | some row, some m => (match atI row l, ixN row.length j with
              | some d, some n => Rs.ok (xs.set m (row.set n (d + e)))
              | _, _ => .bad)
            | _, _ => .bad) k)
          unfold atI
          rw [f.length]
          cases e3 : ixN xs.length a with
          | none => trivial
          | some m =>
            simp only [Option.bind_some]
            cases e4 : xs[m]? with
            | none => trivial
            | some row =>
              obtain ⟨o2, e5, ps, rfl, g⟩ := f.get e4
              rw [e5]
              dsimp only
              rw [g.length]
              cases e6 : ixN row.length l with
              | none => trivial
              | some n =>
                simp only [Option.bind_some]
                cases e7 : row[n]? with
                | none => trivial
                | some d =>
                  obtain ⟨o3, e8, z⟩ := g.get e7
                  rw [e8]
                  cases ixN row.length j with
                  | none => trivial
                  | some n2 =>
                    dsimp only
                    rw [show o3 = .sh (.int d) from z, er_sh]
                    exact hk _ _ ((h.drop q none).set i ⟨_, rfl, f.set ⟨_, rfl, g.set rfl⟩⟩)
def appL (xs : List α) (v : Rs α) : Rs (List α) := v.bind fun v => if xs.length < sizeLine then .ok (xs ++ [v]) else .bad
theorem appL_ok {xs : List α} {v : α} (h : xs.length < 16000000) : appL xs (.ok v) = .ok (xs ++ [v]) := if_pos (by rw [sizeLine_eq]; omega)
theorem k_app {i : Nat} {c : Cd α} {xs : List α} {fd : Rs O} {r : Rs α} {G : Sl → Fl} {k : List α → Ft τ κ ρ} (h : Mt P st) (e : P[i]? = some (some ((cL c).ro xs))) (hr : Ro c.ro fd r) (hk : ∀ xs st', Mt (P.set i (some ((cL c).ro xs))) st' → Fr Q B R (G st') (k xs)) :
    Fr Q B R ((appR i fd st).thn G) (lt (appL xs r) k) := by
  obtain ⟨_, e2, os, rfl, f⟩ := h.2 i _ e
  unfold appR
  rw [e2]
  cases r with
  | ok a =>
    obtain ⟨o, e1, x⟩ := hr
    rw [e1]
    dsimp only
    show Fr Q B R _ (lt (if xs.length < sizeLine then Rs.ok (xs ++ [a]) else .bad) k)
    rw [f.length]
    split
    · exact hk _ _ (h.set i ⟨_, rfl, f.append (bs' := [o]) (as' := [a]) ⟨x, trivial⟩⟩)
    · trivial
  | ex c => rw [show fd = .ex c from hr]; rfl
  | bad => trivial
theorem k_appN {i j : Nat} {c : Cd α} {xs : List α} {v : α} {G : Sl → Fl} {k : List α → Ft τ κ ρ} (h : Mt P st) (e : P[i]? = some (some ((cL c).ro xs))) (ej : P[j]? = some (some (c.ro v))) (hij : i ≠ j) (hk : ∀ xs st', Mt ((P.set j none).set i (some ((cL c).ro xs))) st' → Fr Q B R (G st') (k xs)) :
    Fr Q B R ((appNR i j st).thn G) (lt (appL xs (.ok v)) k) := by
  obtain ⟨_, e2, os, rfl, f⟩ := h.2 i _ e
  obtain ⟨o, e3, x⟩ := h.2 j _ ej
  unfold appNR
  rw [e2, e3]
  dsimp only
  show Fr Q B R _ (lt (if xs.length < sizeLine then Rs.ok (xs ++ [v]) else .bad) k)
  rw [f.length]
  by_cases l : xs.length < sizeLine
  · rw [if_pos ⟨l, hij⟩, if_pos l]
    exact hk _ _ ((h.drop j none).set i ⟨_, rfl, f.append (bs' := [o]) (as' := [v]) ⟨x, trivial⟩⟩)
  · rw [if_neg l]
    trivial
theorem k_drop {e : α → D} {d : Rs D} {r : Rs α} {G : Sl → Fl} {k : α → Ft τ κ ρ} (hd : Rf e d r) (hk : ∀ a, Fr Q B R (G st) (k a)) : Fr Q B R ((dropR d st).thn G) (lt r k) := by
  cases r with
  | ok a => rw [show d = .ok (e a) from hd]; exact hk a
  | ex c => rw [show d = .ex c from hd]; rfl
  | bad => trivial
theorem k_ret {c : Cd ρ} {fd : Rs O} {r : Rs ρ} (hr : Ro c.ro fd r) (hs : ∀ a o, c.ro a o → R a o) : Fr Q B R (retR fd) (lt r .rt) := by
  cases r with
  | ok a => obtain ⟨o, e, x⟩ := hr; rw [e]; exact ⟨o, rfl, hs _ _ x⟩
  | ex c => rw [show fd = .ex c from hr]; rfl
  | bad => trivial
theorem k_retN {i : Nat} {c : Cd ρ} {x : ρ} (h : Mt P st) (e : P[i]? = some (some (c.ro x))) (hs : ∀ a o, c.ro a o → R a o) : Fr Q B R (retN i st) (.rt x) := by
  obtain ⟨o, e2, z⟩ := h.2 i _ e
  unfold retN
  rw [e2]
  exact ⟨o, rfl, hs _ _ z⟩
theorem k_ret0 {Q : τ → Sl → Prop} {B : κ → Sl → Prop} {R : Unit → O → Prop} (hs : R () (.sh .non)) : Fr Q B R (.rt (.sh .non)) (.rt ()) := ⟨_, rfl, hs⟩
theorem k_frz {i : Nat} {c : Cd α} {x : α} {f : Sl → Fl} {r : Ft τ κ ρ} (h : Mt P st) (e : P[i]? = some (some (c.ro x))) (hk : ∀ st', Mt (P.set i (some ((sh c).ro x))) st' → Fr Q B R (f st') r) : Fr Q B R (frzS i f st) r := by
  obtain ⟨o, e2, z⟩ := h.2 i _ e
  unfold frzS
  rw [e2]
  exact hk _ (h.set i (p := (sh c).ro x) (by show O.sh o.er = _; rw [c.er _ _ z]))
theorem k_fot {g : α → D} {tg : D → Sl → Option Sl} {body : Sl → Fl} {b : α → κ → Ft κ κ ρ} {N : κ → Pt} {B' : κ' → Sl → Prop}
    (hb : ∀ a s st, Mt (N s) st → ∃ st1, tg (g a) st = some st1 ∧ Fr (fun s st => Mt (N s) st) (fun s st => Mt (N s) st) R (body st1) (b a s)) :
    ∀ (xs : List α) (s : κ) (st : Sl), Mt (N s) st → Fr (fun s st => Mt (N s) st) B' R (forF tg body (xs.map g) st) (fot b xs s)
  | [], s, st, h => ⟨st, rfl, h⟩
  | a :: as, s, st, h => by
    obtain ⟨st1, e1, f⟩ := hb a s st h
    rw [List.map_cons]
    unfold forF fot
    rw [e1]
    dsimp only
    revert f
    cases b a s with
    | nx s' => rintro ⟨st2, e2, m⟩; rw [e2]; exact k_fot hb as s' st2 m
    | ct s' => rintro ⟨st2, e2, m⟩; rw [e2]; exact k_fot hb as s' st2 m
    | bk s' => rintro ⟨st2, e2, m⟩; rw [e2]; exact ⟨st2, rfl, m⟩
    | rt x => rintro ⟨o, e2, m⟩; rw [e2]; exact ⟨o, rfl, m⟩
    | ex c => intro e2; rw [show body st1 = .ex c from e2]; rfl
    | bad => intro; trivial
theorem k_for {g : α → D} {it : Rs (List D)} {rit : Rs (List α)} {tg : D → Sl → Option Sl} {body : Sl → Fl} {b : α → κ → Ft κ κ ρ} {N : κ → Pt} {s0 : κ} {B' : κ' → Sl → Prop} (hit : Rf (List.map g) it rit) (h : Mt (N s0) st)
    (hb : ∀ a s st, Mt (N s) st → ∃ st1, tg (g a) st = some st1 ∧ Fr (fun s st => Mt (N s) st) (fun s st => Mt (N s) st) R (body st1) (b a s)) :
    Fr (fun s st => Mt (N s) st) B' R (forR it tg body st) (fort rit b s0) := by
  cases rit with
  | ok xs => rw [show it = .ok (xs.map g) from hit]; exact k_fot hb xs s0 st h
  | ex c => rw [show it = .ex c from hit]; rfl
  | bad => trivial
theorem for_body {P P' : Pt} {tg : D → Sl → Option Sl} {d : D} {body : Sl → Fl} {r : Ft τ κ ρ} (t : Tg P P' tg d) (m : Mt P st) (k : ∀ st1, Mt P' st1 → Fr Q B R (body st1) r) : ∃ st1, tg d st = some st1 ∧ Fr Q B R (body st1) r := by
  obtain ⟨s, e, h⟩ := t st m
  exact ⟨s, e, k s h⟩
theorem k_wtN {c : Sl → Rs Bool} {body : Sl → Fl} {cT : κ → Rs Bool} {b : κ → Ft κ κ ρ} {N : κ → Pt} {B' : κ' → Sl → Prop} (hc : ∀ s st, Mt (N s) st → Rf id (c st) (cT s))
    (hb : ∀ s st, Mt (N s) st → Fr (fun s st => Mt (N s) st) (fun s st => Mt (N s) st) R (body st) (b s)) :
    ∀ (n : Nat) (s : κ) (st : Sl), Mt (N s) st → Fr (fun s st => Mt (N s) st) B' R (whileN c body n st) (wtN cT b n s)
  | 0, s, st, h => trivial
  | n + 1, s, st, h => by
    have h1 := hc s st h
    have h2 := hb s st h
    unfold whileN wtN
    revert h1
    cases cT s with
    | bad => intro; trivial
    | ex e => intro h1; rw [show c st = .ex e from h1]; rfl
    | ok k =>
      intro h1
      rw [show c st = .ok k from h1]
      cases k with
      | false => exact ⟨st, rfl, h⟩
      | true =>
        dsimp only
        revert h2
        cases b s with
        | nx s' => rintro ⟨st2, e2, m⟩; rw [e2]; exact k_wtN hc hb n s' st2 m
        | ct s' => rintro ⟨st2, e2, m⟩; rw [e2]; exact k_wtN hc hb n s' st2 m
        | bk s' => rintro ⟨st2, e2, m⟩; rw [e2]; exact ⟨st2, rfl, m⟩
        | rt x => rintro ⟨o, e2, m⟩; rw [e2]; exact ⟨o, rfl, m⟩
        | ex c => intro e2; rw [show body st = .ex c from e2]; rfl
        | bad => intro; trivial
theorem Fr.notbad {f : Fl} {r : Ft τ κ ρ} (h : Fr Q B R f r) (k : r ≠ .bad) : f ≠ .bad := by
  intro e
  subst e
  cases r with
  | nx s => obtain ⟨_, e, _⟩ := h; cases e
  | bk s => obtain ⟨_, e, _⟩ := h; cases e
  | ct s => obtain ⟨_, e, _⟩ := h; cases e
  | rt s => obtain ⟨_, e, _⟩ := h; cases e
  | ex c => cases h
  | bad => exact k rfl
theorem k_while {c : Sl → Rs Bool} {body : Sl → Fl} {cT : κ → Rs Bool} {b : κ → Ft κ κ ρ} {N : κ → Pt} {s0 : κ} {B' : κ' → Sl → Prop} (h : Mt (N s0) st) (hc : ∀ s st, Mt (N s) st → Rf id (c st) (cT s))
    (hb : ∀ s st, Mt (N s) st → Fr (fun s st => Mt (N s) st) (fun s st => Mt (N s) st) R (body st) (b s)) :
    Fr (fun s st => Mt (N s) st) B' R (whileF c body st) (wht cT b s0) := by
  unfold wht
  split
  · rename_i z
    have q := k_wtN (B' := B') hc hb z.choose s0 st h
    have nb := q.notbad z.choose_spec
    have z2 : ∃ n, whileN c body n st ≠ .bad := ⟨_, nb⟩
    unfold whileF
    rw [dif_pos z2, whileN_eq z2.choose_spec nb]
    exact q
  · trivial
/-! a whole def -/
theorem mt_nil : Mt [] [] := ⟨rfl, fun i p e => by simp at e⟩
theorem mt_some {p : O → Prop} {o : O} (k : p o) (h : Mt P st) : Mt (some p :: P) (some o :: st) := ⟨by rw [List.length_cons, List.length_cons, h.1], fun i q e => by
  cases i with
  | zero => simp at e; subst e; exact ⟨o, rfl, k⟩
  | succ i => exact h.2 i q (by simpa using e)⟩
theorem mt_rep : ∀ n : Nat, Mt (List.replicate n none) (List.replicate n none)
  | 0 => mt_nil
  | n + 1 => by
    obtain ⟨a, b⟩ := mt_rep n
    refine ⟨by simp, fun i q e => ?_⟩
    rw [List.getElem?_replicate] at e
    split at e <;> cases e
theorem fin_q {c : Cd ρ} {f : Fl} {r : Ft τ κ ρ} (h : Fr Q B c.ro f r) : Ro c.ro (fin f) (fit r) := by
  cases r with
  | nx s => trivial
  | bk s => trivial
  | ct s => trivial
  | rt x => obtain ⟨o, e, z⟩ := h; rw [e]; exact ⟨o, rfl, z⟩
  | ex c => rw [show f = .ex c from h]; rfl
  | bad => trivial
theorem fin_qU {f : Fl} {Q : τ → Sl → Prop} {r : Ft τ κ Unit} (h : Fr Q B cN.ro f r) : Ro cN.ro (fin f) (fitU r) := by
  cases r with
  | nx s => obtain ⟨st, e, z⟩ := h; rw [e]; exact ⟨_, rfl, rfl⟩
  | bk s => trivial
  | ct s => trivial
  | rt x => obtain ⟨o, e, z⟩ := h; rw [e]; exact ⟨o, rfl, z⟩
  | ex c => rw [show f = .ex c from h]; rfl
  | bad => trivial
end
/-- where the typed reading of the law says True, so does the law -/
theorem law_q {m : List D → Rs O} {t : List Int → Rs Bool} (h : ∀ ns, Ro cB.ro (m [cX.en ns]) (t ns)) {ns : List Int} (k : t ns = .ok true) : m [.scr ns] = .ok (.sh (.bl true)) := by
  have := h ns
  rw [k] at this
  obtain ⟨o, e, z⟩ := this
  rw [show m [.scr ns] = .ok o from e, show o = .sh (.bl true) from z]
section
variable {α β γ τ τ' κ κ' ρ : Type} {Q : τ → Sl → Prop} {B : κ → Sl → Prop} {R : ρ → O → Prop} {P : Pt} {st : Sl}
theorem q_anyD {c : Cd α} {d : Rs O} {r : Rs α} (h : Ro c.ro d r) : Ro (any cD).ro d (toD c r) := by
  cases r with
  | ok a => obtain ⟨o, e, z⟩ := h; exact ⟨o, e, c.er _ _ z⟩
  | ex c => exact h
  | bad => trivial
theorem q_oSome {c : Cd α} {h : ∀ a, nonD (c.en a) = false} {d : Rs O} {r : Rs α} (k : Ro c.ro d r) : Ro (cO c h).ro d (toSome r) := by
  cases r with
  | ok a => obtain ⟨o, e, z⟩ := k; exact ⟨o, e, z⟩
  | ex c => exact k
  | bad => trivial
theorem q_oNone {c : Cd α} {h : ∀ a, nonD (c.en a) = false} : Ro (cO c h).ro (mapRs O.sh (.ok .non)) (.ok (none : Option α)) := ⟨_, rfl, rfl⟩
theorem k_pass {G : Sl → Fl} {r : Ft τ κ ρ} (h : Fr Q B R (G st) r) : Fr Q B R ((Fl.nx st).thn G) r := h
theorem k_ifr {c : Rs Bool} {rc : Rs Bool} {a : Fl} {G : Sl → Fl} {A A' : Ft τ κ ρ} (hc : Rf id c rc) (ha : Fr (fun _ _ => False) B R a A) (hb : Fr Q B R (G st) A') : Fr Q B R ((ifS c a (.nx st)).thn G) (itf rc A A') := k_ifx hc ha hb
theorem q_isB {a b : Rs D} {x y : Rs Bool} (ha : Rf cB.en a x) (hb : Rf cB.en b y) : Rf cB.en (bin2 isBD a b) (eqT x y) := bin_q (ea := cB.en) (eb := cB.en) (fun _ _ => rfl) ha hb
theorem q_isntB {a b : Rs D} {x y : Rs Bool} (ha : Rf cB.en a x) (hb : Rf cB.en b y) : Rf cB.en (bin2 isntBD a b) (neT x y) := bin_q (ea := cB.en) (eb := cB.en) (fun _ _ => rfl) ha hb
theorem runD_q {N n : Nat} {fb : Sl → Fl} {ds : List D} {p : ρ → O → Prop} {r : Rs ρ} (hl : ds.length = n) (h : Ro p (fin (fb (ds.map (fun d => some (.sh d)) ++ List.replicate (N - n) none))) r) : Ro p (runD N n fb ds) r := by
  unfold runD
  rw [if_pos hl]
  exact h
end
section
variable {α : Type}
def two (r : Rs (α × α)) : Rs (List α) := r.bind fun p => .ok [p.1, p.2]
@[simp] theorem two_ok {p : α × α} : two (.ok p) = .ok [p.1, p.2] := said rfl
theorem q_listT2 {c : Cd α} {a : Rs D} {x : Rs (α × α)} (ha : Rf (cT2 c c).en a x) : Ro (cL (sh c)).ro (listF a) (two x) := by
  cases x with
  | ok p => rw [show a = .ok (.tup [c.en p.1, c.en p.2]) from ha]; exact ⟨_, rfl, _, rfl, rfl, rfl, trivial⟩
  | ex c => rw [show a = .ex c from ha]; rfl
  | bad => trivial
end
/-! max, min of a list; lists by a test; two items changing places -/
def max1T (r : Rs (List Int)) : Rs Int := r.bind fun xs => ofO (max1I xs)
def min1T (r : Rs (List Int)) : Rs Int := r.bind fun xs => ofO (min1I xs)
@[simp] theorem max1T_cons (x : Int) (r : List Int) : max1T (.ok (x :: r)) = .ok (maxL x r) := said rfl
@[simp] theorem min1T_cons (x : Int) (r : List Int) : min1T (.ok (x :: r)) = .ok (minL x r) := said rfl
theorem q_max1 {a : Rs D} {x : Rs (List Int)} (ha : Rf (cL cI).en a x) : Rf cI.en (un1 max1D a) (max1T x) := ha.bind fun xs => by
  cases xs with
  | nil => trivial
  | cons y r => show ofO (max1D (li (y :: r))) = _; rw [max1_li]; rfl
theorem q_min1 {a : Rs D} {x : Rs (List Int)} (ha : Rf (cL cI).en a x) : Rf cI.en (un1 min1D a) (min1T x) := ha.bind fun xs => by
  cases xs with
  | nil => trivial
  | cons y r => show ofO (min1D (li (y :: r))) = _; rw [min1_li]; rfl
theorem q_ifF {α : Type} {c : Cd α} {a b : Rs O} {p : Rs Bool} {x : Rs Bool} {r s : Rs α} (hc : Rf id p x) (ha : Ro c.ro a r) (hb : Ro c.ro b s) : Ro c.ro (ifR p a b) (ifT x r s) := hc.bindo fun z => by
  cases z with
  | true => exact ha
  | false => exact hb
def swapL {α : Type} (xs : List α) (p q : Int) : Rs (List α) := match ixN xs.length p, ixN xs.length q with
  | some m, some n => (match xs[m]?, xs[n]? with
    | some x, some y => .ok ((xs.set m y).set n x)
    | _, _ => .bad)
  | _, _ => .bad
theorem swapL_nat {α : Type} {xs : List α} {m n : Nat} (hm : m < xs.length) (hn : n < xs.length) : swapL xs (m : Int) (n : Int) = .ok ((xs.set m xs[n]).set n xs[m]) := by
  unfold swapL
  rw [ixN_nat hm, ixN_nat hn]
  dsimp only
  rw [List.getElem?_eq_getElem hm, List.getElem?_eq_getElem hn]
section
variable {α β γ τ τ' κ κ' ρ : Type} {Q : τ → Sl → Prop} {B : κ → Sl → Prop} {R : ρ → O → Prop} {P : Pt} {st : Sl}
theorem k_swap {i j l : Nat} {c : Cd α} {xs : List α} {p q : Int} {G : Sl → Fl} {k : List α → Ft τ κ ρ} (h : Mt P st) (e : P[i]? = some (some ((cL c).ro xs))) (ej : P[j]? = some (some (cI.ro p))) (el : P[l]? = some (some (cI.ro q))) (hk : ∀ xs st', Mt (P.set i (some ((cL c).ro xs))) st' → Fr Q B R (G st') (k xs)) :
    Fr Q B R ((swapR i j l st).thn G) (lt (swapL xs p q) k) := by
  obtain ⟨_, e2, os, rfl, f⟩ := h.2 i _ e
  obtain ⟨_, e3, e4⟩ := h.2 j _ ej
  obtain ⟨_, e5, e6⟩ := h.2 l _ el
  rw [show _ = O.sh (.int p) from e4] at e3
  rw [show _ = O.sh (.int q) from e6] at e5
  unfold swapR swapL
  rw [e2, e3, e5]
  dsimp only
  rw [f.length]
  cases ixN xs.length p with
  | none => trivial
  | some m =>
    cases ixN xs.length q with
    | none => trivial
    | some n =>
      dsimp only
      cases ex : xs[m]? with
      | none => trivial
      | some x =>
        cases ey : xs[n]? with
        | none => trivial
        | some y =>
          obtain ⟨ox, q1, q2⟩ := f.get ex
          obtain ⟨oy, q3, q4⟩ := f.get ey
          rw [q1, q3]
          exact hk _ _ (h.set i ⟨_, rfl, (f.set q4).set q2⟩)
end
theorem q_look {α β : Type} {P : Pt} {st : Sl} {i : Nat} {c : Cd α} {x : α} {d : Cd β} {f : Sl → Rs O} {r : Rs β} (hw : Wn d) (h : Mt P st) (e : P[i]? = some (some (c.ro x))) (hk : ∀ st', Mt (P.set i (some ((sh c).ro x))) st' → Ro d.ro (f st') r) : Ro d.ro (lookR i f st) r := by
  obtain ⟨o, e2, z⟩ := h.2 i _ e
  unfold lookR
  rw [e2]
  exact q_own hw (hk _ (h.set i (p := (sh c).ro x) (by show O.sh o.er = _; rw [c.er _ _ z])))
section
variable {α β γ τ τ' κ κ' ρ : Type} {Q : τ → Sl → Prop} {B : κ → Sl → Prop} {R : ρ → O → Prop} {P : Pt} {st : Sl}
theorem k_if2 {c : Rs Bool} {rc : Rs Bool} {a : Fl} {G : Sl → Fl} {A A' : Ft τ κ ρ} (hc : Rf id c rc) (ha : Fr Q B R (a.thn G) A) (hb : Fr Q B R (G st) A') : Fr Q B R ((ifS c a (.nx st)).thn G) (itf rc A A') := by
  cases rc with
  | ok k =>
    rw [show c = .ok k from hc]
    cases k with
    | true => exact ha
    | false => exact hb
  | ex e => rw [show c = .ex e from hc]; rfl
  | bad => trivial
theorem k_frzT {i : Nat} {c : Cd α} {x : α} {f : Sl → Fl} {G : Sl → Fl} {r : Ft τ κ ρ} (h : Mt P st) (e : P[i]? = some (some (c.ro x))) (hk : ∀ st', Mt (P.set i (some ((sh c).ro x))) st' → Fr Q B R ((f st').thn G) r) : Fr Q B R ((frzS i f st).thn G) r := by
  obtain ⟨o, e2, z⟩ := h.2 i _ e
  unfold frzS
  rw [e2]
  exact hk _ (h.set i (p := (sh c).ro x) (by show O.sh o.er = _; rw [c.er _ _ z]))
end
end M

/-! Typed readings: a tree of one's own that goes on through an expression; defs that change their first argument; lent items. -/
namespace M
open PySem L2
section
variable {α β γ δ τ τ' κ κ' ρ σ : Type}
/-- a value, and what the own tree is behind it -/
def RQx (e : α → D) (PS : σ → Pt) (d : Rs (D × Sl)) (r : Rs (α × σ)) : Prop := match r with
  | .ok p => ∃ st, d = .ok (e p.1, st) ∧ Mt (PS p.2) st
  | .ex c => d = .ex c
  | .bad => True
def RQo (p : α → O → Prop) (PS : σ → Pt) (d : Rs (O × Sl)) (r : Rs (α × σ)) : Prop := match r with
  | .ok q => ∃ o st, d = .ok (o, st) ∧ p q.1 o ∧ Mt (PS q.2) st
  | .ex c => d = .ex c
  | .bad => True
def RQb (PS : σ → Pt) (d : Rs (Bool × Sl)) (r : Rs (Bool × σ)) : Prop := match r with
  | .ok p => ∃ st, d = .ok (p.1, st) ∧ Mt (PS p.2) st
  | .ex c => d = .ex c
  | .bad => True
def RQs (E : α → List D) (PS : σ → Pt) (d : Rs (List D × Sl)) (r : Rs (α × σ)) : Prop := match r with
  | .ok p => ∃ st, d = .ok (E p.1, st) ∧ Mt (PS p.2) st
  | .ex c => d = .ex c
  | .bad => True
def xk (r : Rs α) (s : σ) : Rs (α × σ) := r.bind fun a => .ok (a, s)
def xb (r : Rs (α × σ)) (k : α → σ → Rs β) : Rs β := r.bind fun p => k p.1 p.2
@[simp] theorem xk_ok {a : α} {s : σ} : xk (.ok a) s = .ok (a, s) := said rfl
@[simp] theorem xb_ok {p : α × σ} {k : α → σ → Rs β} : xb (.ok p) k = k p.1 p.2 := said rfl
variable {PS : σ → Pt}
theorem x_k {e : α → D} {d : Rs D} {r : Rs α} {s : σ} {st : Sl} (h : Rf e d r) (m : Mt (PS s) st) : RQx e PS (keepX d st) (xk r s) := by
  cases r with
  | ok a => rw [show d = .ok (e a) from h]; exact ⟨st, rfl, m⟩
  | ex c => rw [show d = .ex c from h]; rfl
  | bad => trivial
theorem xo_k {p : α → O → Prop} {d : Rs O} {r : Rs α} {s : σ} {st : Sl} (h : Ro p d r) (m : Mt (PS s) st) : RQo p PS (keepX d st) (xk r s) := by
  cases r with
  | ok a => obtain ⟨o, e, z⟩ := h; rw [e]; exact ⟨o, st, rfl, z, m⟩
  | ex c => rw [show d = .ex c from h]; rfl
  | bad => trivial
theorem xb_k {d : Rs Bool} {r : Rs Bool} {s : σ} {st : Sl} (h : Rf id d r) (m : Mt (PS s) st) : RQb PS (keepX d st) (xk r s) := by
  cases r with
  | ok a => rw [show d = .ok a from h]; exact ⟨st, rfl, m⟩
  | ex c => rw [show d = .ex c from h]; rfl
  | bad => trivial
theorem RQx.er {c : Cd α} {d : Rs (O × Sl)} {r : Rs (α × σ)} (h : RQo c.ro PS d r) : RQx c.en PS (mapX O.er d) r := by
  cases r with
  | ok p => obtain ⟨o, st, e, z, m⟩ := h; rw [e]; exact ⟨st, by rw [← c.er _ _ z]; rfl, m⟩
  | ex c => rw [show d = .ex c from h]; rfl
  | bad => trivial
theorem RQo.sh {c : Cd α} {d : Rs (D × Sl)} {r : Rs (α × σ)} (h : RQx c.en PS d r) : RQo (sh c).ro PS (mapX O.sh d) r := by
  cases r with
  | ok p => obtain ⟨st, e, m⟩ := h; rw [e]; exact ⟨_, st, rfl, rfl, m⟩
  | ex c => rw [show d = .ex c from h]; rfl
  | bad => trivial
theorem RQo.mono {p q : α → O → Prop} {d : Rs (O × Sl)} {r : Rs (α × σ)} (h : RQo p PS d r) (k : ∀ a o, p a o → q a o) : RQo q PS d r := by
  cases r with
  | ok z => obtain ⟨o, st, e, y, m⟩ := h; exact ⟨o, st, e, k _ _ y, m⟩
  | ex c => exact h
  | bad => trivial
theorem x_op2 {ea : α → D} {eb : β → D} {c : Cd γ} {g : D → D → Option D} {f : Rs α → Rs β → Rs γ} {fa fb : Sl → Rs (D × Sl)} {st : Sl} {ra : Rs (α × σ)} {rb : α → σ → Rs (β × σ)} (hp : ∀ z, prim (c.en z) = true) (hf : ∀ x y, Rf c.en (ofO (g (ea x) (eb y))) (f (.ok x) (.ok y)))
    (ha : RQx ea PS (fa st) ra) (hb : ∀ x s st', Mt (PS s) st' → RQx eb PS (fb st') (rb x s)) : RQx c.en PS (opX g fa fb st) (xb ra fun x s => xb (rb x s) fun y s => xk (f (.ok x) (.ok y)) s) := by
  unfold opX
  cases ra with
  | bad => trivial
  | ex c => rw [show fa st = .ex c from ha]; rfl
  | ok p =>
    obtain ⟨st1, e1, m1⟩ := ha
    rw [e1, bind_ok, xb_ok]
    dsimp only
    have h2 := hb p.1 p.2 st1 m1
    revert h2
    cases rb p.1 p.2 with
    | bad => intro _; trivial
    | ex c => intro h2; rw [show fb st1 = .ex c from h2]; rfl
    | ok q =>
      rintro ⟨st2, e2, m2⟩
      rw [e2]
      exact x_k (q_prim hp (hf p.1 q.1)) m2
theorem x_ix2 {c : Cd γ} {ea : α → D} {eb : β → D} {f : Rs α → Rs β → Rs γ} {fa fb : Sl → Rs (D × Sl)} {st : Sl} {ra : Rs (α × σ)} {rb : α → σ → Rs (β × σ)} (hf : ∀ x y, Rf c.en (bin2 ixD (.ok (ea x)) (.ok (eb y))) (f (.ok x) (.ok y)))
    (ha : RQx ea PS (fa st) ra) (hb : ∀ x s st', Mt (PS s) st' → RQx eb PS (fb st') (rb x s)) : RQx c.en PS (ixX fa fb st) (xb ra fun x s => xb (rb x s) fun y s => xk (f (.ok x) (.ok y)) s) := by
  unfold ixX
  cases ra with
  | bad => trivial
  | ex c => rw [show fa st = .ex c from ha]; rfl
  | ok p =>
    obtain ⟨st1, e1, m1⟩ := ha
    rw [e1, bind_ok, xb_ok]
    dsimp only
    have h2 := hb p.1 p.2 st1 m1
    revert h2
    cases rb p.1 p.2 with
    | bad => intro _; trivial
    | ex c => intro h2; rw [show fb st1 = .ex c from h2]; rfl
    | ok q =>
      rintro ⟨st2, e2, m2⟩
      rw [e2]
      exact x_k (hf p.1 q.1) m2
theorem x_un {ea : α → D} {c : Cd γ} {g : D → Option D} {f : Rs α → Rs γ} {fa : Sl → Rs (D × Sl)} {st : Sl} {ra : Rs (α × σ)} (hp : ∀ z, prim (c.en z) = true) (hf : ∀ x, Rf c.en (ofO (g (ea x))) (f (.ok x)))
    (ha : RQx ea PS (fa st) ra) : RQx c.en PS (unX g fa st) (xb ra fun x s => xk (f (.ok x)) s) := by
  unfold unX
  cases ra with
  | bad => trivial
  | ex c => rw [show fa st = .ex c from ha]; rfl
  | ok p =>
    obtain ⟨st1, e1, m1⟩ := ha
    rw [e1]
    exact x_k (q_prim hp (hf p.1)) m1
theorem xb_val {d : Rs (D × Sl)} {r : Rs (Bool × σ)} (h : RQx cB.en PS d r) : RQb PS (boolX d) r := by
  cases r with
  | bad => trivial
  | ex c => rw [show d = .ex c from h]; rfl
  | ok p => obtain ⟨st, e, m⟩ := h; rw [e]; exact ⟨st, rfl, m⟩
def xnot (r : Rs (Bool × σ)) : Rs (Bool × σ) := r.bind fun p => .ok (!p.1, p.2)
@[simp] theorem xnot_ok {p : Bool × σ} : xnot (.ok p) = .ok (!p.1, p.2) := said rfl
theorem xb_not {d : Rs (Bool × Sl)} {r : Rs (Bool × σ)} (h : RQb PS d r) : RQb PS (mapX (!·) d) (xnot r) := by
  cases r with
  | bad => trivial
  | ex c => rw [show d = .ex c from h]; rfl
  | ok p => obtain ⟨st, e, m⟩ := h; rw [e]; exact ⟨st, rfl, m⟩
def xand (r : Rs (Bool × σ)) (k : σ → Rs (Bool × σ)) : Rs (Bool × σ) := r.bind fun p => if p.1 = true then k p.2 else .ok (false, p.2)
def xor (r : Rs (Bool × σ)) (k : σ → Rs (Bool × σ)) : Rs (Bool × σ) := r.bind fun p => if p.1 = true then .ok (true, p.2) else k p.2
@[simp] theorem xand_t {s : σ} {k : σ → Rs (Bool × σ)} : xand (.ok (true, s)) k = k s := said rfl
@[simp] theorem xand_f {s : σ} {k : σ → Rs (Bool × σ)} : xand (.ok (false, s)) k = .ok (false, s) := said rfl
@[simp] theorem xor_t {s : σ} {k : σ → Rs (Bool × σ)} : xor (.ok (true, s)) k = .ok (true, s) := said rfl
@[simp] theorem xor_f {s : σ} {k : σ → Rs (Bool × σ)} : xor (.ok (false, s)) k = k s := said rfl
theorem xb_and {fa fb : Sl → Rs (Bool × Sl)} {st : Sl} {ra : Rs (Bool × σ)} {rb : σ → Rs (Bool × σ)} (ha : RQb PS (fa st) ra) (hb : ∀ s st', Mt (PS s) st' → RQb PS (fb st') (rb s)) : RQb PS (andX fa fb st) (xand ra rb) := by
  unfold andX
  cases ra with
  | bad => trivial
  | ex c => rw [show fa st = .ex c from ha]; rfl
  | ok p =>
    obtain ⟨st1, e1, m1⟩ := ha
    rw [e1]
    obtain ⟨b, s⟩ := p
    cases b with
    | true => exact hb s st1 m1
    | false => exact ⟨st1, rfl, m1⟩
theorem xb_or {fa fb : Sl → Rs (Bool × Sl)} {st : Sl} {ra : Rs (Bool × σ)} {rb : σ → Rs (Bool × σ)} (ha : RQb PS (fa st) ra) (hb : ∀ s st', Mt (PS s) st' → RQb PS (fb st') (rb s)) : RQb PS (orX fa fb st) (xor ra rb) := by
  unfold orX
  cases ra with
  | bad => trivial
  | ex c => rw [show fa st = .ex c from ha]; rfl
  | ok p =>
    obtain ⟨st1, e1, m1⟩ := ha
    rw [e1]
    obtain ⟨b, s⟩ := p
    cases b with
    | true => exact ⟨st1, rfl, m1⟩
    | false => exact hb s st1 m1
/-! arguments -/
theorem xs_n {s : σ} {st : Sl} (m : Mt (PS s) st) : RQs (fun _ : Unit => []) PS (.ok ([], st)) (.ok ((), s)) := ⟨st, rfl, m⟩
theorem xs_c {e : α → D} {E : β → List D} {f : Sl → Rs (D × Sl)} {g : Sl → Rs (List D × Sl)} {st : Sl} {ra : Rs (α × σ)} {rb : α → σ → Rs (β × σ)} (ha : RQx e PS (f st) ra) (hb : ∀ x s st', Mt (PS s) st' → RQs E PS (g st') (rb x s)) :
    RQs (fun p : α × β => e p.1 :: E p.2) PS (consX f g st) (xb ra fun x s => xb (rb x s) fun y s => .ok ((x, y), s)) := by
  unfold consX
  cases ra with
  | bad => trivial
  | ex c => rw [show f st = .ex c from ha]; rfl
  | ok p =>
    obtain ⟨st1, e1, m1⟩ := ha
    rw [e1, bind_ok, xb_ok]
    dsimp only
    have h2 := hb p.1 p.2 st1 m1
    revert h2
    cases rb p.1 p.2 with
    | bad => intro _; trivial
    | ex c => intro h2; rw [show g st1 = .ex c from h2]; rfl
    | ok q =>
      rintro ⟨st2, e2, m2⟩
      rw [e2]
      exact ⟨st2, rfl, m2⟩
/-! calls -/
def xcall (ra : Rs (α × σ)) (t : α → Rs β) : Rs (β × σ) := xb ra fun a s => xk (t a) s
@[simp] theorem xcall_ok {p : α × σ} {t : α → Rs β} : xcall (.ok p) t = xk (t p.1) p.2 := said rfl
theorem x_cl {E : α → List D} {n : Nat} {m : List D → Rs O} {t : α → Rs β} {c : Cd β} {fa : Sl → Rs (List D × Sl)} {st : Sl} {ra : Rs (α × σ)} (hl : ∀ a, (E a).length = n) (hm : ∀ a, Ro c.ro (m (E a)) (t a)) (ha : RQs E PS (fa st) ra) : RQo c.ro PS (callX n m fa st) (xcall ra t) := by
  unfold callX
  cases ra with
  | bad => trivial
  | ex c => rw [show fa st = .ex c from ha]; rfl
  | ok p =>
    obtain ⟨st1, e1, m1⟩ := ha
    rw [e1]
    show RQo c.ro PS (keepX (if (E p.1).length = n then m (E p.1) else .bad) st1) _
    rw [if_pos (hl p.1)]
    exact xo_k (hm p.1) m1
def xio (ra : Rs (α × σ)) (t : σ → α → Rs (β × σ)) : Rs (β × σ) := xb ra fun a s => t s a
@[simp] theorem xio_ok {p : α × σ} {t : σ → α → Rs (β × σ)} : xio (.ok p) t = t p.2 p.1 := said rfl
theorem x_io {E : α → List D} {j n : Nat} {m : O → List D → Rs O} {t : σ → α → Rs (β × σ)} {c : Cd σ} {cr : Cd β} {fa : Sl → Rs (List D × Sl)} {st : Sl} {s0 : σ} {ra : Rs (α × σ)} (hl : ∀ a, (E a).length = n) (hm : ∀ s o a, c.ro s o → Ro (cT2 cr c).ro (m o (E a)) (t s a)) (m0 : Mt (PS s0) st)
    (hj : ∀ s, (PS s)[j]? = some (some (c.ro s))) (hs : ∀ s s', (PS s).set j (some (c.ro s')) = PS s') (ha : RQs E PS (fa st) ra) : RQo cr.ro PS (callIO j n m fa st) (xio ra t) := by
  obtain ⟨o0, e0, _⟩ := m0.2 j _ (hj s0)
  unfold callIO
  rw [e0]
  cases ra with
  | bad => trivial
  | ex c => dsimp only; rw [show fa st = .ex c from ha]; rfl
  | ok p =>
    obtain ⟨st1, e1, m1⟩ := ha
    dsimp only
    rw [e1]
    show RQo cr.ro PS (if (E p.1).length = n then _ else _) (t p.2 p.1)
    rw [if_pos (hl p.1)]
    obtain ⟨o1, e2, z2⟩ := m1.2 j _ (hj p.2)
    rw [e2]
    have h := hm p.2 o1 p.1 z2
    revert h
    cases t p.2 p.1 with
    | bad => intro _; trivial
    | ex c => intro h; dsimp only; rw [show m o1 (E p.1) = .ex c from h]; rfl
    | ok q =>
      rintro ⟨o, e3, x, y, rfl, zx, zy⟩
      dsimp only
      rw [e3]
      refine ⟨x, st1.set j (some y), rfl, zx, ?_⟩
      have := m1.set j (p := c.ro q.2) zy
      rwa [hs] at this
/-! displays, comprehensions -/
def xlist (ra : Rs (α × σ)) (f : α → β) : Rs (β × σ) := xb ra fun a s => .ok (f a, s)
@[simp] theorem xlist_ok {p : α × σ} {f : α → β} : xlist (.ok p) f = .ok (f p.1, p.2) := said rfl
theorem x_disp {E : α → List D} {k : List D → O} {c : Cd β} {f : α → β} {d : Rs (List D × Sl)} {ra : Rs (α × σ)} (hf : ∀ a, c.ro (f a) (k (E a))) (ha : RQs E PS d ra) : RQo c.ro PS (mapX k d) (xlist ra f) := by
  cases ra with
  | bad => trivial
  | ex c => rw [show d = .ex c from ha]; rfl
  | ok p => obtain ⟨st, e, m⟩ := ha; rw [e]; exact ⟨_, st, rfl, hf p.1, m⟩
def lxT (e : α → σ → Rs (β × σ)) : List α → σ → Rs (List β × σ)
  | [], s => .ok ([], s)
  | a :: as, s => (noEx (e a s)).bind fun p => (lxT e as p.2).bind fun q => .ok (p.1 :: q.1, q.2)
def lxR (it : Rs (List α)) (e : α → σ → Rs (β × σ)) (s : σ) : Rs (List β × σ) := it.bind fun xs => (noEx (lxT e xs s)).bind fun p => if p.1.length < sizeLine then .ok p else .bad
theorem lxT_inv {e : α → σ → Rs (β × σ)} (I : Nat → σ → Prop) (G : Nat → β → Prop) : ∀ (xs : List α) (n : Nat) (s : σ), I n s → (∀ (i : Nat) (a : α) (s : σ), xs[i]? = some a → I (n + i) s → ∃ b s', e a s = .ok (b, s') ∧ G (n + i) b ∧ I (n + i + 1) s') → ∃ bs s', lxT e xs s = .ok (bs, s') ∧ bs.length = xs.length ∧ (∀ (i : Nat) (b : β), bs[i]? = some b → G (n + i) b) ∧ I (n + xs.length) s'
  | [], n, s, h, _ => ⟨[], s, rfl, rfl, fun i b e => by simp at e, h⟩
  | a :: as, n, s, h, k => by
    obtain ⟨b, s1, e1, g1, i1⟩ := k 0 a s rfl h
    obtain ⟨bs, s2, e2, l2, g2, i2⟩ := lxT_inv I G as (n + 1) s1 i1 fun i a' s' hi hs => by
      have := k (i + 1) a' s' (by simpa using hi) (by rw [show n + (i + 1) = n + 1 + i by omega]; exact hs)
      rwa [show n + (i + 1) = n + 1 + i by omega] at this
    refine ⟨b :: bs, s2, ?_, by simp [l2], fun i b' hb => ?_, by rw [List.length_cons, show n + (as.length + 1) = n + 1 + as.length by omega]; exact i2⟩
    · unfold lxT
      rw [e1]
      show (lxT e as s1).bind _ = _
      rw [e2]
      rfl
    · cases i with
      | zero => simp at hb; subst hb; exact g1
      | succ i =>
        have := g2 i b' (by simpa using hb)
        rwa [show n + 1 + i = n + (i + 1) by omega] at this
theorem lxR_inv {e : α → σ → Rs (β × σ)} (I : Nat → σ → Prop) (G : Nat → β → Prop) {xs : List α} {s : σ} (hl : xs.length < 16000000) (h0 : I 0 s) (k : ∀ (i : Nat) (a : α) (s : σ), xs[i]? = some a → I i s → ∃ b s', e a s = .ok (b, s') ∧ G i b ∧ I (i + 1) s') : ∃ bs s', lxR (.ok xs) e s = .ok (bs, s') ∧ bs.length = xs.length ∧ (∀ (i : Nat) (b : β), bs[i]? = some b → G i b) ∧ I xs.length s' := by
  obtain ⟨bs, s', e1, l1, g1, i1⟩ := lxT_inv I G xs 0 s h0 fun i a s hi hs => by
    rw [Nat.zero_add] at hs ⊢
    exact k i a s hi hs
  refine ⟨bs, s', ?_, l1, fun i b hb => by have := g1 i b hb; rwa [Nat.zero_add] at this, by rw [Nat.zero_add] at i1; exact i1⟩
  unfold lxR
  show (noEx (lxT e xs s)).bind _ = _
  rw [e1]
  show (if bs.length < sizeLine then _ else _) = _
  rw [if_pos (by rw [l1, sizeLine_eq]; omega)]
theorem q_lxF {vs : List Nat} {g : α → D} {tg : D → Sl → Option Sl} {el : Sl → Rs (D × Sl)} {e : α → σ → Rs (β × σ)} {ec : β → D}
    (hw : ∀ s st, Mt (PS s) st → Mt (PS s) (wipeS st vs)) (hb : ∀ a s st', Mt (PS s) st' → ∃ st1, tg (g a) st' = some st1 ∧ RQx ec PS (el st1) (e a s)) : ∀ (xs : List α) (s : σ) (st : Sl), Mt (PS s) st → RQs (List.map ec) PS (lcFX tg el vs st (xs.map g)) (lxT e xs s)
  | [], s, st, m => ⟨st, rfl, m⟩
  | a :: as, s, st, m => by
    obtain ⟨st1, e1, h1⟩ := hb a s st m
    rw [List.map_cons]
    unfold lcFX lxT
    rw [e1]
    dsimp only
    revert h1
    cases e a s with
    | bad => intro _; trivial
    | ex c => intro h1; trivial
    | ok p =>
      rintro ⟨st2, e2, m2⟩
      rw [e2]
      have ih := q_lxF hw hb as p.2 (wipeS st2 vs) (hw _ _ m2)
      show RQs _ PS ((lcFX tg el vs (wipeS st2 vs) (as.map g)).bind _) ((lxT e as p.2).bind _)
      revert ih
      cases lxT e as p.2 with
      | bad => intro _; trivial
      | ex c => intro ih; rw [show lcFX tg el vs (wipeS st2 vs) (as.map g) = .ex c from ih]; rfl
      | ok q =>
        rintro ⟨st3, e3, m3⟩
        rw [e3]
        exact ⟨st3, rfl, m3⟩
theorem q_lx {vs : List Nat} {g : α → D} {it : Rs (List D)} {rit : Rs (List α)} {tg : D → Sl → Option Sl} {el : Sl → Rs (D × Sl)} {e : α → σ → Rs (β × σ)} {c : Cd β} {s : σ} {st : Sl} (hit : Rf (List.map g) it rit) (m : Mt (PS s) st)
    (hw : ∀ s st, Mt (PS s) st → Mt (PS s) (wipeS st vs)) (hb : ∀ a s st', Mt (PS s) st' → ∃ st1, tg (g a) st' = some st1 ∧ RQx c.en PS (el st1) (e a s)) : RQo (cL (sh c)).ro PS (lcX it tg el vs st) (lxR rit e s) := by
  unfold lcX
  cases rit with
  | bad => trivial
  | ex c => rw [show it = .ex c from hit]; rfl
  | ok xs =>
    rw [show it = .ok (xs.map g) from hit]
    show RQo _ PS ((noEx (lcFX tg el vs (wipeS st vs) (xs.map g))).bind _) ((noEx (lxT e xs s)).bind _)
    have h := q_lxF hw hb xs s (wipeS st vs) (hw _ _ m)
    revert h
    cases lxT e xs s with
    | bad => intro _; trivial
    | ex c => intro _; trivial
    | ok p =>
      rintro ⟨st2, e2, m2⟩
      rw [e2]
      show RQo _ PS (if (p.1.map c.en).length < sizeLine then .ok (.lst ((p.1.map c.en).map .sh), st2) else .bad) (if p.1.length < sizeLine then .ok p else .bad)
      rw [List.length_map]
      split
      · exact ⟨_, st2, rfl, ⟨_, rfl, by rw [List.map_map]; exact Fa.self (p := (M.sh c).ro) (g := O.sh ∘ c.en) (fun _ => rfl) p.1⟩, m2⟩
      · trivial
theorem lx_body {P P' : Pt} {st' : Sl} {tg : D → Sl → Option Sl} {d : D} {el : Sl → Rs (D × Sl)} {e : α → D} {r : Rs (α × σ)} {PT : σ → Pt} (t : Tg P P' tg d) (m : Mt P st') (hle : ∀ s, leP (PS s) (PT s)) (k : ∀ st1, Mt P' st1 → RQx e PT (el st1) r) : ∃ st1, tg d st' = some st1 ∧ RQx e PS (el st1) r := by
  obtain ⟨s, e1, h⟩ := t st' m
  refine ⟨s, e1, ?_⟩
  have := k s h
  cases r with
  | ok p => obtain ⟨st2, e2, m2⟩ := this; exact ⟨st2, e2, m2.weak (hle p.2)⟩
  | ex c => exact this
  | bad => trivial
/-! ### statements -/
variable {Q : τ → Sl → Prop} {B : κ → Sl → Prop} {R : ρ → O → Prop} {P : Pt} {st : Sl}
theorem k_setX {i : Nat} {c : Cd α} {d : Rs (O × Sl)} {r : Rs (α × σ)} {G : Sl → Fl} {k : α × σ → Ft τ κ ρ} (h : RQo c.ro PS d r) (hi : ∀ s, i < (PS s).length) (hk : ∀ p st', Mt ((PS p.2).set i (some (c.ro p.1))) st' → Fr Q B R (G st') (k p)) : Fr Q B R ((setX i d).thn G) (lt r k) := by
  cases r with
  | ok p =>
    obtain ⟨o, st, e, z, m⟩ := h
    rw [e]
    show Fr Q B R ((if i < st.length then Fl.nx _ else .bad).thn G) (k p)
    rw [if_pos (by rw [m.1]; exact hi _)]
    exact hk p _ (m.set i z)
  | ex c => rw [show d = .ex c from h]; rfl
  | bad => trivial
theorem k_asgX {g : D → Sl → Option Sl} {e : α → D} {d : Rs (D × Sl)} {r : Rs (α × σ)} {P' : α × σ → Pt} {G : Sl → Fl} {k : α × σ → Ft τ κ ρ} (h : RQx e PS d r) (ht : ∀ p, Tg (PS p.2) (P' p) g (e p.1)) (hk : ∀ p st', Mt (P' p) st' → Fr Q B R (G st') (k p)) : Fr Q B R ((asgX g d).thn G) (lt r k) := by
  cases r with
  | ok p =>
    obtain ⟨st, e1, m⟩ := h
    obtain ⟨st1, e2, m2⟩ := ht p st m
    rw [e1]
    show Fr Q B R ((match g (e p.1) st with | some st' => Fl.nx st' | none => .bad).thn G) (k p)
    rw [e2]
    exact hk p st1 m2
  | ex c => rw [show d = .ex c from h]; rfl
  | bad => trivial
theorem k_parX {i j : Nat} {a : Cd α} {b : Cd β} {d : Rs (List D × Sl)} {r : Rs ((α × β × Unit) × σ)} {G : Sl → Fl} {k : (α × β × Unit) × σ → Ft τ κ ρ} (h : RQs (fun p : α × β × Unit => [a.en p.1, b.en p.2.1]) PS d r) (hi : ∀ s, i < (PS s).length) (hj : ∀ s, j < (PS s).length)
    (hk : ∀ p st', Mt (((PS p.2).set i (some ((sh a).ro p.1.1))).set j (some ((sh b).ro p.1.2.1))) st' → Fr Q B R (G st') (k p)) : Fr Q B R ((parX i j d).thn G) (lt r k) := by
  cases r with
  | ok p =>
    obtain ⟨st, e1, m⟩ := h
    rw [e1]
    show Fr Q B R ((if i < st.length ∧ j < st.length then Fl.nx _ else .bad).thn G) (k p)
    rw [if_pos ⟨by rw [m.1]; exact hi _, by rw [m.1]; exact hj _⟩]
    exact hk p _ ((m.set i (p := (sh a).ro p.1.1) rfl).set j (p := (sh b).ro p.1.2.1) rfl)
  | ex c => rw [show d = .ex c from h]; rfl
  | bad => trivial
theorem k_exprX {p : α → O → Prop} {d : Rs (O × Sl)} {r : Rs (α × σ)} {G : Sl → Fl} {k : α × σ → Ft τ κ ρ} (h : RQo p PS d r) (hk : ∀ q st', Mt (PS q.2) st' → Fr Q B R (G st') (k q)) : Fr Q B R ((dropX d).thn G) (lt r k) := by
  cases r with
  | ok q =>
    obtain ⟨o, st, e, z, m⟩ := h
    rw [e]
    exact hk q st m
  | ex c => rw [show d = .ex c from h]; rfl
  | bad => trivial
def ifx (r : Rs (Bool × σ)) (A A' : σ → Ft τ κ ρ) : Ft τ κ ρ := lt r fun p => if p.1 = true then A p.2 else A' p.2
@[simp] theorem ifx_t {s : σ} {A A' : σ → Ft τ κ ρ} : ifx (.ok (true, s)) A A' = A s := said rfl
@[simp] theorem ifx_f {s : σ} {A A' : σ → Ft τ κ ρ} : ifx (.ok (false, s)) A A' = A' s := said rfl
def forx (r : Rs (List α × σ)) (b : α → κ → Ft κ κ ρ) (s0 : σ → κ) : Ft κ κ' ρ := lt r fun p => fot b p.1 (s0 p.2)
@[simp] theorem forx_ok {p : List α × σ} {b : α → κ → Ft κ κ ρ} {s0 : σ → κ} : (forx (.ok p) b s0 : Ft κ κ' ρ) = fot b p.1 (s0 p.2) := said rfl
theorem k_ifX {c : Rs (Bool × Sl)} {r : Rs (Bool × σ)} {a b : Sl → Fl} {A A' : σ → Ft τ κ ρ} (hc : RQb PS c r) (ha : ∀ s st', Mt (PS s) st' → Fr Q B R (a st') (A s)) (hb : ∀ s st', Mt (PS s) st' → Fr Q B R (b st') (A' s)) : Fr Q B R (ifX c a b) (ifx r A A') := by
  cases r with
  | ok p =>
    obtain ⟨st, e, m⟩ := hc
    rw [e]
    obtain ⟨k, s⟩ := p
    cases k with
    | true => exact ha s st m
    | false => exact hb s st m
  | ex e => rw [show c = .ex e from hc]; rfl
  | bad => trivial
theorem k_ifrX {c : Rs (Bool × Sl)} {r : Rs (Bool × σ)} {a : Sl → Fl} {G : Sl → Fl} {A A' : σ → Ft τ κ ρ} (hc : RQb PS c r) (ha : ∀ s st', Mt (PS s) st' → Fr (fun _ _ => False) B R (a st') (A s)) (hb : ∀ s st', Mt (PS s) st' → Fr Q B R (G st') (A' s)) : Fr Q B R ((ifX c a fun st => .nx st).thn G) (ifx r A A') := by
  cases r with
  | ok p =>
    obtain ⟨st, e, m⟩ := hc
    rw [e]
    obtain ⟨k, s⟩ := p
    cases k with
    | true =>
      have := ha s st m
      show Fr Q B R ((a st).thn G) (A s)
      revert this
      cases A s with
      | nx s => rintro ⟨_, _, f⟩; exact f.elim
      | bk s => rintro ⟨st, e, q⟩; rw [e]; exact ⟨st, rfl, q⟩
      | ct s => rintro ⟨st, e, q⟩; rw [e]; exact ⟨st, rfl, q⟩
      | rt x => rintro ⟨o, e, q⟩; rw [e]; exact ⟨o, rfl, q⟩
      | ex c => intro f; rw [show a st = .ex c from f]; rfl
      | bad => intro _; trivial
    | false => exact hb s st m
  | ex e => rw [show c = .ex e from hc]; rfl
  | bad => trivial
theorem k_forX {g : α → D} {it : Rs (List D × Sl)} {rit : Rs (List α × σ)} {tg : D → Sl → Option Sl} {body : Sl → Fl} {b : α → κ → Ft κ κ ρ} {N : κ → Pt} {s0 : σ → κ} {B' : κ' → Sl → Prop} (hit : RQs (List.map g) PS it rit) (hN : ∀ s st, Mt (PS s) st → Mt (N (s0 s)) st)
    (hb : ∀ a s st, Mt (N s) st → ∃ st1, tg (g a) st = some st1 ∧ Fr (fun s st => Mt (N s) st) (fun s st => Mt (N s) st) R (body st1) (b a s)) :
    Fr (fun s st => Mt (N s) st) B' R (forX it tg body) (forx rit b s0) := by
  cases rit with
  | ok p =>
    obtain ⟨st, e, m⟩ := hit
    rw [e]
    exact k_fot hb p.1 (s0 p.2) st (hN _ _ m)
  | ex c => rw [show it = .ex c from hit]; rfl
  | bad => trivial
def xrng (r : Rs (Int × σ)) : Rs (List Nat × σ) := xb r fun j s => xk (rng1 (.ok j)) s
@[simp] theorem xrng_ok {p : Int × σ} : xrng (.ok p) = xk (rng1 (.ok p.1)) p.2 := said rfl
theorem x_rng {d : Rs (D × Sl)} {r : Rs (Int × σ)} (h : RQx cI.en PS d r) : RQs (List.map fun n : Nat => cI.en (n : Int)) PS (rangeX d) (xrng r) := by
  cases r with
  | bad => trivial
  | ex c => rw [show d = .ex c from h]; rfl
  | ok p =>
    obtain ⟨st, e, m⟩ := h
    rw [e]
    have q : Rf (List.map fun n : Nat => cI.en (n : Int)) (range1 (.ok (.int p.1))) (rng1 (.ok p.1)) := q_rng1 (q_int p.1)
    show RQs _ PS (match D.int p.1 with | .int j => if rngOk j = true then .ok (rangeL 0 j.toNat, st) else .bad | _ => .bad) (xk (rng1 (.ok p.1)) p.2)
    show RQs _ PS (if rngOk p.1 = true then .ok (rangeL 0 p.1.toNat, st) else .bad) (xk (rng1 (.ok p.1)) p.2)
    have q : Rf (List.map fun n : Nat => cI.en (n : Int)) (if rngOk p.1 = true then .ok (rangeL 0 p.1.toNat) else .bad) (rng1 (.ok p.1)) := q
    revert q
    by_cases c : rngOk p.1 = true
    · rw [if_pos c, if_pos c]
      cases rng1 (.ok p.1) with
      | bad => intro _; trivial
      | ex c => intro q; cases q
      | ok xs => intro q; have q := Rs.ok.inj q; rw [q]; exact ⟨st, rfl, m⟩
    · rw [if_neg c, if_neg c]
      cases rng1 (.ok p.1) with
      | bad => intro _; trivial
      | ex c => intro q; cases q
      | ok xs => intro q; cases q
theorem k_appX {i : Nat} {c : Cd α} {d : Rs (O × Sl)} {r : Rs (α × σ)} {xs : List α} {G : Sl → Fl} {k : List α × σ → Ft τ κ ρ} (h : Mt P st) (e : P[i]? = some (some ((cL c).ro xs))) (hr : RQo c.ro PS d r) (hs : ∀ s, (PS s)[i]? = some (some ((cL c).ro xs))) (hk : ∀ p st', Mt ((PS p.2).set i (some ((cL c).ro p.1))) st' → Fr Q B R (G st') (k p)) :
    Fr Q B R ((if hasL i st = true then appX i d else .bad).thn G) (lt (xb r fun v s => xk (appL xs (.ok v)) s) k) := by
  obtain ⟨o0, e0, os0, rfl, _⟩ := h.2 i _ e
  have hl : hasL i st = true := by unfold hasL; rw [e0]
  rw [if_pos hl]
  cases r with
  | bad => trivial
  | ex c => rw [show d = .ex c from hr]; rfl
  | ok q =>
    obtain ⟨o, st1, e1, z, m⟩ := hr
    rw [e1]
    obtain ⟨o2, e2, os, rfl, f⟩ := m.2 i _ (hs q.2)
    unfold appX
    dsimp only
    rw [e2]
    dsimp only
    rw [xb_ok]
    unfold appL
    show Fr Q B R _ (lt (xk (if xs.length < sizeLine then .ok (xs ++ [q.1]) else .bad) q.2) k)
    rw [f.length]
    by_cases c : xs.length < sizeLine
    · rw [if_pos c, if_pos c]
      refine hk (xs ++ [q.1], q.2) _ (m.set i ⟨_, rfl, f.append ⟨z, trivial⟩⟩)
    · rw [if_neg c, if_neg c]
      trivial
theorem k_retX {c : Cd ρ} {d : Rs (O × Sl)} {r : Rs (ρ × σ)} (hr : RQo c.ro PS d r) (hs : ∀ a o, c.ro a o → R a o) : Fr Q B R (retX d) (lt r fun p => .rt p.1) := by
  cases r with
  | bad => trivial
  | ex c => rw [show d = .ex c from hr]; rfl
  | ok q =>
    obtain ⟨o, st1, e1, z, m⟩ := hr
    rw [e1]
    exact ⟨o, rfl, hs _ _ z⟩
/-! a def that changes its first argument -/
theorem k_retIO {c : Cd α} {cs : Cd σ} {d : Rs (O × Sl)} {r : Rs (α × σ)} {R : α × σ → O → Prop} (hr : RQo c.ro PS d r) (h0 : ∀ s, (PS s)[0]? = some (some (cs.ro s))) (hs : ∀ a o, (cT2 c cs).ro a o → R a o) : Fr Q B R (retIO d) (lt r .rt) := by
  cases r with
  | bad => trivial
  | ex c => rw [show d = .ex c from hr]; rfl
  | ok q =>
    obtain ⟨o, st1, e1, z, m⟩ := hr
    rw [e1]
    obtain ⟨o0, e0, z0⟩ := m.2 0 _ (h0 q.2)
    unfold retIO
    dsimp only
    rw [e0]
    exact ⟨_, rfl, hs q _ ⟨_, _, rfl, z, z0⟩⟩
def fitIO : Ft σ κ (Unit × σ) → Rs (Unit × σ)
  | .nx s => .ok ((), s)
  | .rt x => .ok x
  | .ex c => .ex c
  | _ => .bad
@[simp] theorem fitIO_nx {s : σ} : fitIO (.nx s : Ft σ κ (Unit × σ)) = .ok ((), s) := said rfl
@[simp] theorem fitIO_rt {s : Unit × σ} : fitIO (.rt s : Ft σ κ (Unit × σ)) = .ok s := said rfl
@[simp] theorem fitIO_ex {c : Str} : fitIO (.ex c : Ft σ κ (Unit × σ)) = .ex c := said rfl
theorem fin_qIO {cs : Cd σ} {f : Fl} {r : Ft σ κ (Unit × σ)} (h : Fr (fun s st => Mt (PS s) st) B (cT2 cN cs).ro f r) (h0 : ∀ s, (PS s)[0]? = some (some (cs.ro s))) : Ro (cT2 cN cs).ro (finIO f) (fitIO r) := by
  cases r with
  | nx s =>
    obtain ⟨st, e, m⟩ := h
    rw [e]
    obtain ⟨o0, e0, z0⟩ := m.2 0 _ (h0 s)
    refine ⟨.tup [.sh .non, o0], ?_, _, _, rfl, rfl, z0⟩
    unfold finIO
    dsimp only
    rw [e0]
  | bk s => trivial
  | ct s => trivial
  | rt x => obtain ⟨o, e, z⟩ := h; rw [e]; exact ⟨o, rfl, z⟩
  | ex c => rw [show f = .ex c from h]; rfl
  | bad => trivial
theorem fin_qIOr {c : Cd ρ} {f : Fl} {r : Ft τ κ ρ} (h : Fr Q B c.ro f r) : Ro c.ro (finIO f) (fit r) := by
  cases r with
  | nx s => trivial
  | bk s => trivial
  | ct s => trivial
  | rt x => obtain ⟨o, e, z⟩ := h; rw [e]; exact ⟨o, rfl, z⟩
  | ex c => rw [show f = .ex c from h]; rfl
  | bad => trivial
theorem runIO_q {N n : Nat} {fb : Sl → Fl} {o : O} {ds : List D} {p : ρ → O → Prop} {r : Rs ρ} (hl : ds.length = n) (h : Ro p (finIO (fb (some o :: (ds.map (fun d => some (.sh d)) ++ List.replicate (N - (n + 1)) none)))) r) : Ro p (runIO N n fb o ds) r := by
  unfold runIO
  rw [if_pos hl]
  exact h
/-! ### lent items -/
def lendT (b : α → κ → Ft (α × κ) (α × κ) ρ) : List α → List α → κ → Ft (List α × κ) κ' ρ
  | done, [], s => .nx (done, s)
  | done, a :: as, s => match b a s with
    | .nx p => lendT b (done ++ [p.1]) as p.2
    | .ct p => lendT b (done ++ [p.1]) as p.2
    | .rt x => .rt x
    | .ex c => .ex c
    | .bk _ => .bad
    | .bad => .bad
theorem lendT_inv {b : α → κ → Ft (α × κ) (α × κ) ρ} (I : Nat → κ → Prop) (G : Nat → α → α → Prop) : ∀ (xs done : List α) (s : κ), I done.length s → (∀ (i : Nat) (a : α) (s : κ), xs[i]? = some a → I (done.length + i) s → ∃ a' s', b a s = .nx (a', s') ∧ G (done.length + i) a a' ∧ I (done.length + i + 1) s') →
    ∃ ys s', (lendT b done xs s : Ft (List α × κ) κ' ρ) = .nx (done ++ ys, s') ∧ ys.length = xs.length ∧ (∀ (i : Nat) (a y : α), xs[i]? = some a → ys[i]? = some y → G (done.length + i) a y) ∧ I (done.length + xs.length) s'
  | [], done, s, h, _ => ⟨[], s, by rw [List.append_nil]; rfl, rfl, fun i a y e => by simp at e, h⟩
  | a :: as, done, s, h, k => by
    obtain ⟨a', s1, e1, g1, i1⟩ := k 0 a s rfl h
    obtain ⟨ys, s2, e2, l2, g2, i2⟩ := lendT_inv I G as (done ++ [a']) s1 (by rw [List.length_append]; exact i1) fun i z s' hi hs => by
      rw [List.length_append] at hs ⊢
      have := k (i + 1) z s' (by simpa using hi) (by rw [show done.length + (i + 1) = done.length + [a'].length + i by simp; omega]; exact hs)
      rwa [show done.length + (i + 1) = done.length + [a'].length + i by simp; omega] at this
    refine ⟨a' :: ys, s2, ?_, by simp [l2], fun i z y hz hy => ?_, ?_⟩
    · unfold lendT
      rw [e1]
      dsimp only
      rw [e2, List.append_assoc]
      rfl
    · cases i with
      | zero => simp at hz hy; subst hz hy; exact g1
      | succ i =>
        have := g2 i z y (by simpa using hz) (by simpa using hy)
        rwa [List.length_append, show done.length + [a'].length + i = done.length + (i + 1) by simp; omega] at this
    · rw [List.length_append, show done.length + [a'].length + as.length = done.length + (a :: as).length by simp; omega] at i2
      exact i2
theorem k_lend {i x : Nat} {c : Cd α} {N : κ → Pt} {body : Sl → Fl} {b : α → κ → Ft (α × κ) (α × κ) ρ} {xs : List α} {s0 : κ} {B' : κ' → Sl → Prop} (hix : i ≠ x) (hNi : ∀ s, (N s)[i]? = some none) (hNx : ∀ s, (N s)[x]? = some none)
    (h : Mt ((N s0).set i (some ((cL c).ro xs))) st)
    (hb : ∀ a s st, Mt ((N s).set x (some (c.ro a))) st → Fr (fun (p : α × κ) st => Mt ((N p.2).set x (some (c.ro p.1))) st) (fun (p : α × κ) st => Mt ((N p.2).set x (some (c.ro p.1))) st) R (body st) (b a s)) :
    Fr (fun (p : List α × κ) st => Mt ((N p.2).set i (some ((cL c).ro p.1))) st) B' R (lendR i x body st) (lendT b [] xs s0) := by
  have main : ∀ (rest done : List α) (s : κ) (st : Sl), Mt ((N s).set i (some ((cL c).ro (done ++ rest)))) st → Fr (fun (p : List α × κ) st => Mt ((N p.2).set i (some ((cL c).ro p.1))) st) B' R (lendF i x body rest.length done.length st) (lendT b done rest s) := by
    intro rest
    induction rest with
    | nil =>
      intro done s st m
      rw [List.append_nil] at m
      exact ⟨st, rfl, m⟩
    | cons a as ih =>
      intro done s st m
      have il : i < (N s).length := (List.getElem?_eq_some_iff.mp (hNi s)).1
      have xl : x < (N s).length := (List.getElem?_eq_some_iff.mp (hNx s)).1
      obtain ⟨o0, e0, os, rfl, f⟩ := m.2 i _ (List.getElem?_set_self il)
      obtain ⟨o, e1, z1⟩ := f.get (i := done.length) (a := a) (by simp)
      have hx : x < st.length := by rw [m.1, List.length_set]; exact xl
      have m2 : Mt ((N s).set x (some (c.ro a))) ((st.set i none).set x (some o)) := by
        refine ⟨by rw [List.length_set, List.length_set, List.length_set, m.1, List.length_set], fun j p e => ?_⟩
        rw [List.getElem?_set] at e ⊢
        by_cases jx : x = j
        · subst jx
          rw [if_pos rfl, if_pos xl] at e
          cases e
          exact ⟨o, by rw [if_pos rfl, if_pos (by rw [List.length_set]; exact hx)], z1⟩
        · rw [if_neg jx] at e ⊢
          have ji : i ≠ j := fun z => by subst z; rw [hNi] at e; cases e
          rw [List.getElem?_set_ne ji]
          exact m.2 j p (by rw [List.getElem?_set_ne ji]; exact e)
      rw [List.length_cons]
      unfold lendF lendT
      rw [e0]
      dsimp only
      rw [e1]
      dsimp only
      rw [if_pos hx]
      have q := hb a s _ m2
      have back : ∀ (p : α × κ) (st2 : Sl), Mt ((N p.2).set x (some (c.ro p.1))) st2 → ∃ o2, st2[x]? = some (some o2) ∧ Mt ((N p.2).set i (some ((cL c).ro ((done ++ [p.1]) ++ as)))) ((st2.set x none).set i (some (.lst (os.set done.length o2)))) := by
        intro p st2 m3
        have xl2 : x < (N p.2).length := (List.getElem?_eq_some_iff.mp (hNx p.2)).1
        have il2 : i < (N p.2).length := (List.getElem?_eq_some_iff.mp (hNi p.2)).1
        obtain ⟨o2, e2, z2⟩ := m3.2 x _ (List.getElem?_set_self xl2)
        have l3 := m3.1
        rw [List.length_set] at l3
        refine ⟨o2, e2, by rw [List.length_set, List.length_set, List.length_set, l3], fun j r e => ?_⟩
        rw [List.getElem?_set] at e ⊢
        by_cases ji : i = j
        · subst ji
          rw [if_pos rfl, if_pos il2] at e
          cases e
          refine ⟨_, by rw [if_pos rfl, if_pos (by rw [List.length_set, l3]; exact il2)], _, rfl, ?_⟩
          have := f.set (i := done.length) z2
          rwa [List.set_append_right _ _ (Nat.le_refl _), Nat.sub_self, List.set_cons_zero, ← List.singleton_append, ← List.append_assoc] at this
        · rw [if_neg ji] at e ⊢
          have jx : x ≠ j := fun z => by subst z; rw [hNx] at e; cases e
          rw [List.getElem?_set_ne jx]
          exact m3.2 j r (by rw [List.getElem?_set_ne jx]; exact e)
      revert q
      cases b a s with
      | nx p =>
        rintro ⟨st2, e2, m3⟩
        rw [e2]
        dsimp only
        obtain ⟨o2, e3, m4⟩ := back p st2 m3
        rw [e3]
        dsimp only
        have := ih (done ++ [p.1]) p.2 _ m4
        rwa [List.length_append] at this
      | ct p =>
        rintro ⟨st2, e2, m3⟩
        rw [e2]
        dsimp only
        obtain ⟨o2, e3, m4⟩ := back p st2 m3
        rw [e3]
        dsimp only
        have := ih (done ++ [p.1]) p.2 _ m4
        rwa [List.length_append] at this
      | rt y => rintro ⟨o2, e2, m3⟩; rw [e2]; exact ⟨o2, rfl, m3⟩
      | ex e => intro e2; rw [show body _ = .ex e from e2]; rfl
      | bk p => intro _; trivial
      | bad => intro _; trivial
  have il : i < (N s0).length := (List.getElem?_eq_some_iff.mp (hNi s0)).1
  obtain ⟨o0, e0, os, rfl, f⟩ := h.2 i _ (List.getElem?_set_self il)
  unfold lendR
  rw [e0]
  dsimp only
  rw [f.length]
  exact main xs [] s0 st h
theorem k_frzI {i : Nat} {c : Cd α} {xs : List α} {f : Sl → Fl} {r : Ft τ κ ρ} (h : Mt P st) (e : P[i]? = some (some ((cL c).ro xs))) (hk : ∀ st', Mt (P.set i (some ((cL (sh c)).ro xs))) st' → Fr Q B R (f st') r) : Fr Q B R (frzI i f st) r := by
  obtain ⟨_, e2, os, rfl, z⟩ := h.2 i _ e
  unfold frzI
  rw [e2]
  refine hk _ (h.set i (p := (cL (M.sh c)).ro xs) ⟨_, rfl, ?_⟩)
  have : os.map (fun o => O.sh o.er) = xs.map fun a => O.sh (c.en a) := by
    have := congrArg (List.map O.sh) (z.er c.er)
    rw [List.map_map, List.map_map] at this
    exact this
  rw [this]
  exact Fa.self (p := (M.sh c).ro) (g := fun a => O.sh (c.en a)) (fun _ => rfl) xs
end
section
variable {α : Type}
/-- a list of two, taken apart -/
def twoL (r : Rs (List α)) : Rs (α × α) := r.bind fun xs => match xs with
  | [a, b] => .ok (a, b)
  | _ => .bad
@[simp] theorem twoL_ok {a b : α} : twoL (.ok [a, b]) = .ok (a, b) := said rfl
abbrev twoE (c : Cd α) : α × α → D := fun p => .lst [c.en p.1, c.en p.2]
theorem q_two {c : Cd α} {d : Rs D} {r : Rs (List α)} (h : Rf (cL c).en d r) : Rf (twoE c) d (twoL r) := by
  cases r with
  | ok xs =>
    match xs, h with
    | [], _ => trivial
    | [a], _ => trivial
    | [a, b], h => exact h
    | a :: b :: c :: l, _ => trivial
  | ex c => rw [show d = .ex c from h]; rfl
  | bad => trivial
theorem tg_lst {P P' : Pt} {n : Nat} {g : List D → Sl → Option Sl} {ds : List D} (h : Tgs P P' g ds) (hn : ds.length = n) : Tg P P' (setLst n g) (.lst ds) := fun st m => by
  obtain ⟨s1, e1, m1⟩ := h st m
  refine ⟨s1, ?_, m1⟩
  show (if ds.length = n then g ds st else none) = _
  rw [if_pos hn]
  exact e1
end
end M

/-! Lists of numbers: sums of rows, weights; plain. -/
namespace M
def dot (xs ys : List Int) : Int := (List.zipWith (· * ·) xs ys).sum
def addS (t : List Int) (p : Int × List Int) : List Int := List.zipWith (· + ·) t (p.2.map (· * p.1))
def mixF (cs : List Int) (rs : List (List Int)) (k : Nat) : List Int := (cs.zip rs).foldl addS (List.replicate k 0)
theorem addS_length {t : List Int} {p : Int × List Int} (h : p.2.length = t.length) : (addS t p).length = t.length := by
  unfold addS
  rw [List.length_zipWith, List.length_map, h, Nat.min_self]
theorem fold_length : ∀ {ps : List (Int × List Int)} {t : List Int}, (∀ p ∈ ps, p.2.length = t.length) → (ps.foldl addS t).length = t.length
  | [], t, _ => rfl
  | p :: ps, t, h => by
    have e := addS_length (h p (by simp))
    rw [List.foldl_cons, fold_length fun q hq => by rw [e]; exact h q (by simp [hq]), e]
theorem addS_get {t : List Int} {p : Int × List Int} (h : p.2.length = t.length) (c : Nat) : (addS t p).getD c 0 = t.getD c 0 + p.2.getD c 0 * p.1 := by
  unfold addS
  by_cases hc : c < t.length
  · have hc2 : c < p.2.length := by omega
    simp [List.getD, List.getElem?_zipWith, hc, hc2]
  · have hc2 : ¬ c < p.2.length := by omega
    simp [List.getD, List.getElem?_zipWith, hc, hc2]
theorem fold_get : ∀ {ps : List (Int × List Int)} {t : List Int}, (∀ p ∈ ps, p.2.length = t.length) → ∀ c, (ps.foldl addS t).getD c 0 = t.getD c 0 + (ps.map fun p => p.2.getD c 0 * p.1).sum
  | [], t, _, c => by simp
  | p :: ps, t, h, c => by
    have e := addS_length (h p (by simp))
    rw [List.foldl_cons, fold_get (fun q hq => by rw [e]; exact h q (by simp [hq])) c, addS_get (h p (by simp)), List.map_cons, List.sum_cons]
    omega
theorem dot_cons (x y : Int) (xs ys : List Int) : dot (x :: xs) (y :: ys) = x * y + dot xs ys := by
  unfold dot
  rw [List.zipWith_cons_cons, List.sum_cons]
theorem dot_zero : ∀ (n : Nat) (w : List Int), dot (List.replicate n 0) w = 0
  | 0, w => by simp [dot]
  | n + 1, [] => by simp [dot]
  | n + 1, w :: ws => by rw [List.replicate_succ, dot_cons, dot_zero n ws]; omega
theorem dot_add : ∀ (t v : List Int) (c : Int) (w : List Int), v.length = t.length → dot (List.zipWith (· + ·) t (v.map (· * c))) w = dot t w + c * dot v w
  | [], [], c, w, _ => by simp [dot]
  | x :: t, [], c, w, h => by simp at h
  | [], y :: v, c, w, h => by simp at h
  | x :: t, y :: v, c, [], h => by simp [dot]
  | x :: t, y :: v, c, z :: w, h => by
    rw [List.map_cons, List.zipWith_cons_cons, dot_cons, dot_cons, dot_cons, dot_add t v c w (by simpa using h), Int.add_mul, Int.mul_add, Int.mul_comm y c, Int.mul_assoc]
    omega
theorem fold_dot (w : List Int) : ∀ {ps : List (Int × List Int)} {t : List Int}, (∀ p ∈ ps, p.2.length = t.length) → dot (ps.foldl addS t) w = dot t w + (ps.map fun p => p.1 * dot p.2 w).sum
  | [], t, _ => by simp
  | p :: ps, t, h => by
    have e := addS_length (h p (by simp))
    rw [List.foldl_cons, fold_dot w (fun q hq => by rw [e]; exact h q (by simp [hq])), List.map_cons, List.sum_cons]
    have : dot (addS t p) w = dot t w + p.1 * dot p.2 w := dot_add t p.2 p.1 w (h p (by simp))
    omega
theorem zip_map_range {α : Type} (cs : List Int) (rs : List (List Int)) (F : Int → List Int → α) (h : cs.length = rs.length) : (cs.zip rs).map (fun p => F p.1 p.2) = (List.range rs.length).map fun j => F (cs.getD j 0) (rs.getD j []) := by
  apply List.ext_getElem
  · simp [h]
  · intro i h1 h2
    have hi : i < rs.length := by simpa using h2
    have hi2 : i < cs.length := by omega
    simp [List.getD, hi, hi2]
theorem range_getD {α : Type} (xs : List α) (d : α) : xs = (List.range xs.length).map fun i => xs.getD i d := by
  apply List.ext_getElem
  · simp
  · intro i h1 h2
    simp [List.getD, h1]
theorem ext_getD {xs ys : List Int} (h : xs.length = ys.length) (k : ∀ i, i < xs.length → xs.getD i 0 = ys.getD i 0) : xs = ys := by
  apply List.ext_getElem h
  intro i h1 h2
  have := k i h1
  simpa [List.getD, h1, h2] using this
/-- numbers below a bound -/
def Low (b : Nat) (xs : List Int) : Prop := ∀ x ∈ xs, x.natAbs < b
theorem Low.mono {b c : Nat} {xs : List Int} (h : Low b xs) (k : b ≤ c) : Low c xs := fun x hx => Nat.lt_of_lt_of_le (h x hx) k
theorem Low.getD {b : Nat} {xs : List Int} (h : Low b xs) (hb : 0 < b) (i : Nat) : (xs.getD i 0).natAbs < b := by
  by_cases hi : i < xs.length
  · simp only [List.getD, List.getElem?_eq_getElem hi, Option.getD_some]
    exact h _ (List.getElem_mem hi)
  · simp [List.getD, hi, hb]
theorem sum_le (b : Nat) : ∀ xs : List Int, (∀ x ∈ xs, x.natAbs ≤ b) → xs.sum.natAbs ≤ xs.length * b
  | [], _ => by simp
  | x :: xs, h => by
    have h1 := h x (by simp)
    have h2 := sum_le b xs fun y hy => h y (by simp [hy])
    rw [List.sum_cons, List.length_cons, Nat.add_mul, Nat.one_mul]
    omega
end M

/-! mixing as a product of rows -/
namespace M
theorem mixF_length {cs : List Int} {ps : List (List Int)} {k : Nat} (h : ∀ r ∈ ps, r.length = k) : (mixF cs ps k).length = k := by
  unfold mixF
  rw [fold_length fun p hp => by rw [List.length_replicate]; exact h _ (List.of_mem_zip hp).2, List.length_replicate]
theorem mixF_get {cs : List Int} {ps : List (List Int)} {k : Nat} (h : ∀ r ∈ ps, r.length = k) (c : Nat) : (mixF cs ps k).getD c 0 = ((cs.zip ps).map fun p => p.2.getD c 0 * p.1).sum := by
  unfold mixF
  rw [fold_get fun p hp => by rw [List.length_replicate]; exact h _ (List.of_mem_zip hp).2]
  have z : (List.replicate k (0 : Int)).getD c 0 = 0 := by
    rw [List.getD_eq_getElem?_getD, List.getElem?_replicate]
    split <;> rfl
  rw [z, Int.zero_add]
theorem mixF_dot {ps : List (List Int)} {k : Nat} (h : ∀ r ∈ ps, r.length = k) (c : Nat) : ∀ cs : List Int, (mixF cs ps k).getD c 0 = dot cs (ps.map fun r => r.getD c 0) := by
  intro cs
  rw [mixF_get h]
  clear h
  unfold dot
  congr 1
  induction cs generalizing ps with
  | nil => rfl
  | cons x cs ih =>
    cases ps with
    | nil => rfl
    | cons r ps =>
      simp only [List.zip_cons_cons, List.map_cons, List.zipWith_cons_cons]
      rw [ih, Int.mul_comm]
theorem mixF_low {cs : List Int} {ps : List (List Int)} {k a b e : Nat} (h : ∀ r ∈ ps, r.length = k) (hc : ∀ c ∈ cs, c.natAbs < 2 ^ a) (hp : ∀ r ∈ ps, Low (2 ^ b) r) (hl : cs.length ≤ 2 ^ e) (i : Nat) : ((mixF cs ps k).getD i 0).natAbs < 2 ^ (a + b + e + 1) := by
  rw [mixF_get h]
  have := sum_le (2 ^ (a + b)) ((cs.zip ps).map fun p => p.2.getD i 0 * p.1) fun x hx => by
    obtain ⟨p, hq, rfl⟩ := List.mem_map.mp hx
    obtain ⟨h1, h2⟩ := List.of_mem_zip hq
    rw [Int.natAbs_mul]
    have h3 := (hp _ h2).getD (Nat.two_pow_pos _) i
    have h4 := hc _ h1
    have := Nat.mul_le_mul (Nat.le_of_lt h3) (Nat.le_of_lt h4)
    rw [← Nat.pow_add, Nat.add_comm b a] at this
    exact this
  have hz : ((cs.zip ps).map fun p => p.2.getD i 0 * p.1).length ≤ 2 ^ e := by
    rw [List.length_map, List.length_zip]
    exact Nat.le_trans (Nat.min_le_left _ _) hl
  have h2 := Nat.mul_le_mul_right (2 ^ (a + b)) hz
  rw [← Nat.pow_add] at h2
  have h3 : 2 ^ (e + (a + b)) < 2 ^ (a + b + e + 1) := Nat.pow_lt_pow_right (by decide) (by omega)
  omega
theorem mixF_mem_low {cs : List Int} {ps : List (List Int)} {k a b e : Nat} (h : ∀ r ∈ ps, r.length = k) (hc : ∀ c ∈ cs, c.natAbs < 2 ^ a) (hp : ∀ r ∈ ps, Low (2 ^ b) r) (hl : cs.length ≤ 2 ^ e) : Low (2 ^ (a + b + e + 1)) (mixF cs ps k) := by
  intro x hx
  obtain ⟨i, hi, rfl⟩ := List.mem_iff_getElem.mp hx
  have := mixF_low (i := i) h hc hp hl
  rw [List.getD_eq_getElem?_getD, List.getElem?_eq_getElem hi] at this
  exact this
/-- what is mixed twice is mixed once by what the mixed are mixed to -/
theorem mixF_mixF {cs : List Int} {ps bs : List (List Int)} {l m : Nat} (hp : ∀ r ∈ ps, r.length = l) (hb : ∀ r ∈ bs, r.length = m) : mixF cs (ps.map fun r => mixF r bs m) m = mixF (mixF cs ps l) bs m := by
  have h1 : ∀ r ∈ ps.map (fun r => mixF r bs m), r.length = m := fun r hr => by
    obtain ⟨x, _, rfl⟩ := List.mem_map.mp hr
    exact mixF_length hb
  apply ext_getD
  · rw [mixF_length h1, mixF_length hb]
  · intro i hi
    clear hi
    rw [mixF_get h1, mixF_dot hb]
    unfold mixF
    rw [fold_dot _ fun p hq => by rw [List.length_replicate]; exact hp _ (List.of_mem_zip hq).2, dot_zero, Int.zero_add]
    congr 1
    clear hp h1
    induction cs generalizing ps with
    | nil => rfl
    | cons x cs ih =>
      cases ps with
      | nil => rfl
      | cons r ps =>
        simp only [List.zip_cons_cons, List.map_cons]
        have e := mixF_dot (k := m) hb i r
        unfold mixF at e
        rw [ih, e, Int.mul_comm]
theorem zip_range (cs : List Int) (ps : List (List Int)) {c : Nat} (h : cs.length = ps.length) : ((cs.zip ps).map fun p => p.2.getD c 0 * p.1) = (List.range cs.length).map fun j => cs.getD j 0 * (ps.getD j []).getD c 0 := by
  rw [zip_map_range cs ps (fun a b => b.getD c 0 * a) h, h]
  apply List.map_congr_left
  intro j _
  exact Int.mul_comm _ _
end M

/-! the place of a row; led down rows -/
namespace M
def pl : List Int → Nat
  | [] => 0
  | x :: xs => if x = 0 then pl xs + 1 else 0
theorem pl_le : ∀ xs : List Int, pl xs ≤ xs.length
  | [] => Nat.le_refl _
  | x :: xs => by
    have := pl_le xs
    unfold pl
    split <;> simp <;> omega
theorem pl_zero : ∀ {xs : List Int} {i : Nat}, i < pl xs → xs.getD i 0 = 0
  | [], i, h => absurd h (Nat.not_lt_zero _)
  | x :: xs, i, h => by
    unfold pl at h
    split at h
    · cases i with
      | zero => simpa
      | succ i => simpa using pl_zero (xs := xs) (i := i) (by omega)
    · exact absurd h (Nat.not_lt_zero _)
theorem pl_ne : ∀ {xs : List Int}, pl xs < xs.length → xs.getD (pl xs) 0 ≠ 0
  | [], h => absurd h (Nat.not_lt_zero _)
  | x :: xs, h => by
    unfold pl at h ⊢
    split
    · rename_i hx
      rw [if_pos hx] at h
      simpa using pl_ne (xs := xs) (by simpa using h)
    · simpa
theorem pl_unique {xs : List Int} {p : Nat} (h1 : ∀ i, i < p → xs.getD i 0 = 0) (h2 : xs.getD p 0 ≠ 0) : pl xs = p := by
  rcases Nat.lt_trichotomy (pl xs) p with h | h | h
  · have : pl xs < xs.length := by
      rcases Nat.lt_or_ge (pl xs) xs.length with z | z
      · exact z
      · have : xs.getD p 0 = 0 := by
          rw [List.getD_eq_getElem?_getD, List.getElem?_eq_none (by omega)]; rfl
        exact absurd this h2
    exact absurd (h1 _ h) (pl_ne this)
  · exact h
  · exact absurd (pl_zero h) h2
/-- one row taken off -/
def offF (row rest : List Int) (m : Int) : List Int := List.zipWith (fun x y => 1 * x + -m * y) rest row
def ledS (s : List Int × List Int) (row : List Int) : List Int × List Int :=
  (s.1 ++ [(s.2.getD (pl row) 0).fdiv (row.getD (pl row) 0)], offF row s.2 ((s.2.getD (pl row) 0).fdiv (row.getD (pl row) 0)))
def ledF (rungs : List (List Int)) (purse : List Int) : List Int × List Int := rungs.foldl ledS ([], purse)
theorem offF_length {row rest : List Int} {m : Int} (h : row.length = rest.length) : (offF row rest m).length = rest.length := by
  unfold offF
  rw [List.length_zipWith, h, Nat.min_self]
theorem offF_get {row rest : List Int} {m : Int} (h : row.length = rest.length) (i : Nat) : (offF row rest m).getD i 0 = rest.getD i 0 - m * row.getD i 0 := by
  unfold offF
  by_cases hi : i < rest.length
  · simp [List.getD, hi, h, Int.neg_mul]
    omega
  · rw [List.getD_eq_getElem?_getD, List.getElem?_eq_none (by simp; omega), List.getD_eq_getElem?_getD, List.getElem?_eq_none (by omega), List.getD_eq_getElem?_getD, List.getElem?_eq_none (by omega)]
    simp
theorem low_of_getD {b : Nat} {xs : List Int} (h : ∀ i, i < xs.length → (xs.getD i 0).natAbs < b) : Low b xs := fun x hx => by
  obtain ⟨i, hi, rfl⟩ := List.mem_iff_getElem.mp hx
  have := h i hi
  rwa [List.getD_eq_getElem?_getD, List.getElem?_eq_getElem hi] at this
theorem offF_low {row rest : List Int} {m : Int} {a b : Nat} (h : row.length = rest.length) (h1 : Low (2 ^ b) row) (h2 : Low (2 ^ a) rest) (h3 : m.natAbs < 2 ^ a) : Low (2 ^ (a + (b + 2))) (offF row rest m) :=
  low_of_getD fun i _ => by
    rw [offF_get h]
    have e1 := h2.getD (Nat.two_pow_pos _) i
    have e2 := h1.getD (Nat.two_pow_pos _) i
    have e3 := Nat.mul_le_mul (Nat.le_of_lt h3) (Nat.le_of_lt e2)
    rw [← Nat.pow_add] at e3
    have e4 : 2 ^ a ≤ 2 ^ (a + b) := Nat.pow_le_pow_right (by decide) (by omega)
    have e5 : 2 ^ (a + (b + 2)) = 2 ^ (a + b) * 4 := by rw [show a + (b + 2) = (a + b) + 2 by omega, Nat.pow_add]
    have e6 := Int.natAbs_sub_le (rest.getD i 0) (m * row.getD i 0)
    rw [Int.natAbs_mul] at e6
    have e7 : 0 < 2 ^ (a + b) := Nat.two_pow_pos _
    omega
/-- what is mixed of rows whose places grow is led down to its counts -/
theorem led_mix {k : Nat} {rest : List Int} (hr : rest.length = k) : ∀ (rungs : List (List Int)) (often purse pre : List Int), often.length = rungs.length → purse.length = k → (∀ r ∈ rungs, r.length = k) → rungs.Pairwise (fun a b => pl a < pl b) →
    (∀ r ∈ rungs, 0 ≤ rest.getD (pl r) 0 ∧ rest.getD (pl r) 0 < r.getD (pl r) 0) → (∀ c, purse.getD c 0 = ((often.zip rungs).map fun p => p.2.getD c 0 * p.1).sum + rest.getD c 0) → rungs.foldl ledS (pre, purse) = (pre ++ often, rest)
  | [], often, purse, pre, h1, h2, _, _, _, h => by
    rw [List.length_eq_zero_iff.mp h1] at *
    rw [List.append_nil]
    have : purse = rest := ext_getD (by omega) fun i _ => by
      rw [h i]; simp
    rw [this]
    rfl
  | r :: rs, [], purse, pre, h1, _, _, _, _, _ => by simp at h1
  | r :: rs, m :: ms, purse, pre, h1, h2, h3, h4, h5, h => by
    obtain ⟨p1, p2⟩ := List.pairwise_cons.mp h4
    obtain ⟨b1, b2⟩ := h5 r (by simp)
    have z : ((ms.zip rs).map fun p => p.2.getD (pl r) 0 * p.1).sum = 0 := by
      apply Int.natAbs_eq_zero.mp
      have := sum_le 0 ((ms.zip rs).map fun p => p.2.getD (pl r) 0 * p.1) fun x hx => by
        obtain ⟨p, hp, rfl⟩ := List.mem_map.mp hx
        rw [pl_zero (p1 _ (List.of_mem_zip hp).2), Int.zero_mul]
        exact Nat.le_refl _
      omega
    have e1 := h (pl r)
    rw [List.zip_cons_cons, List.map_cons, List.sum_cons, z, Int.add_zero] at e1
    dsimp only at e1
    have e2 : (purse.getD (pl r) 0).fdiv (r.getD (pl r) 0) = m := by
      rw [e1, fdiv_pos (by omega), Int.add_comm, Int.add_mul_ediv_left _ _ (by omega), Int.ediv_eq_zero_of_lt b1 b2, Int.zero_add]
    rw [List.foldl_cons]
    have e3 : ledS (pre, purse) r = (pre ++ [m], offF r purse m) := by
      unfold ledS
      rw [e2]
    have hl : r.length = purse.length := by rw [h3 r (by simp), h2]
    rw [e3, led_mix hr rs ms _ _ (by simpa using h1) (by rw [offF_length hl, h2]) (fun q hq => h3 q (by simp [hq])) p2 (fun q hq => h5 q (by simp [hq])) fun c => by
      rw [offF_get hl, h c, List.zip_cons_cons, List.map_cons, List.sum_cons, Int.mul_comm m]
      dsimp only
      omega]
    rw [List.append_assoc]
    rfl
theorem fdiv_abs {x y : Int} (h : 0 < y) : (x.fdiv y).natAbs ≤ x.natAbs := by
  rw [fdiv_pos h]
  exact Int.natAbs_ediv_le_natAbs x y
end M

/-! Euclid's steps with their factors, plain. -/
namespace M
theorem fdm (a b : Int) (hb : b ≠ 0) : ∃ r, a = a.fdiv b * b + r ∧ r.natAbs < b.natAbs ∧ (0 ≤ b → 0 ≤ r) ∧ (b ≤ 0 → r ≤ 0) := by
  rcases Int.lt_or_gt_of_ne hb with h | h
  · refine ⟨-((-a) % (-b)), ?_, ?_, fun z => by omega, fun _ => ?_⟩
    · rw [← Int.neg_fdiv_neg, Int.fdiv_eq_ediv_of_nonneg _ (by omega)]
      have := Int.mul_ediv_add_emod (-a) (-b)
      rw [Int.mul_comm] at this
      rw [Int.mul_neg] at this
      omega
    · have h1 := Int.emod_nonneg (-a) (show -b ≠ 0 by omega)
      have h2 := Int.emod_lt_of_pos (-a) (show 0 < -b by omega)
      omega
    · have h1 := Int.emod_nonneg (-a) (show -b ≠ 0 by omega)
      omega
  · refine ⟨a % b, ?_, ?_, fun _ => ?_, fun z => by omega⟩
    · rw [Int.fdiv_eq_ediv_of_nonneg _ (by omega)]
      have := Int.mul_ediv_add_emod a b
      rw [Int.mul_comm] at this
      omega
    · have h1 := Int.emod_nonneg a hb
      have h2 := Int.emod_lt_of_pos a h
      omega
    · exact Int.emod_nonneg a hb
theorem fdiv_abs_le {a b : Int} (hb : b ≠ 0) : (a.fdiv b).natAbs ≤ a.natAbs + 1 := by
  obtain ⟨r, h1, h2, _⟩ := fdm a b hb
  have e : (a.fdiv b).natAbs * b.natAbs = (a - r).natAbs := by
    rw [← Int.natAbs_mul]
    congr 1
    omega
  rcases Nat.lt_or_ge (a.natAbs + 1) (a.fdiv b).natAbs with c | c
  · exfalso
    have h3 : (a.natAbs + 2) * b.natAbs ≤ (a.fdiv b).natAbs * b.natAbs := Nat.mul_le_mul_right _ c
    have h4 : 1 ≤ b.natAbs := by omega
    have h5 : a.natAbs * 1 ≤ a.natAbs * b.natAbs := Nat.mul_le_mul_left _ h4
    rw [Nat.add_mul] at h3
    omega
  · exact c
theorem opp_mul {a b c d : Int} (h : (0 ≤ a ∧ b ≤ 0) ∨ (a ≤ 0 ∧ 0 ≤ b)) (k : (0 ≤ c ∧ 0 ≤ d) ∨ (c ≤ 0 ∧ d ≤ 0)) : (b * c - a * d).natAbs = b.natAbs * c.natAbs + a.natAbs * d.natAbs := by
  have key : ∀ {p q : Int}, (0 ≤ p ∧ 0 ≤ q) ∨ (p ≤ 0 ∧ q ≤ 0) → (p + q).natAbs = p.natAbs + q.natAbs := fun {p q} h => by omega
  have e : b * c - a * d = b * c + -(a * d) := by omega
  rw [e, key, Int.natAbs_neg, Int.natAbs_mul, Int.natAbs_mul]
  rcases h with ⟨h1, h2⟩ | ⟨h1, h2⟩ <;> rcases k with ⟨k1, k2⟩ | ⟨k1, k2⟩
  · right
    exact ⟨Int.mul_nonpos_of_nonpos_of_nonneg h2 k1, by have := Int.mul_nonneg h1 k2; omega⟩
  · left
    exact ⟨Int.mul_nonneg_of_nonpos_of_nonpos h2 k1, by have := Int.mul_nonpos_of_nonneg_of_nonpos h1 k2; omega⟩
  · left
    exact ⟨Int.mul_nonneg h2 k1, by have := Int.mul_nonpos_of_nonpos_of_nonneg h1 k2; omega⟩
  · right
    exact ⟨Int.mul_nonpos_of_nonneg_of_nonpos h2 k1, by have := Int.mul_nonneg_of_nonpos_of_nonpos h1 k2; omega⟩
structure Eu (x y one other a b c e : Int) : Prop where
  l1 : a * x + b * y = one
  l2 : c * x + e * y = other
  g : Int.gcd one other = Int.gcd x y
  m1 : one.natAbs ≤ x.natAbs + y.natAbs
  m2 : other.natAbs ≤ x.natAbs + y.natAbs
  ba : a.natAbs ≤ y.natAbs + 1
  bc : c.natAbs ≤ y.natAbs + 1
  st : (a = 1 ∧ b = 0 ∧ c = 0 ∧ e = 1 ∧ one = x ∧ other = y) ∨
    (y ≠ 0 ∧ one ≠ 0 ∧ ((0 ≤ one ∧ 0 ≤ other) ∨ (one ≤ 0 ∧ other ≤ 0)) ∧ ((0 ≤ a ∧ c ≤ 0) ∨ (a ≤ 0 ∧ 0 ≤ c)) ∧ (c * one - a * other = y ∨ c * one - a * other = -y))
theorem Eu.first (x y : Int) : Eu x y x y 1 0 0 1 :=
  ⟨by omega, by omega, rfl, by omega, by omega, by omega, by omega, .inl ⟨rfl, rfl, rfl, rfl, rfl, rfl⟩⟩
theorem Eu.step {x y one other a b c e : Int} (h : Eu x y one other a b c e) (ho : other ≠ 0) :
    Eu x y other (one - one.fdiv other * other) c e (a - one.fdiv other * c) (b - one.fdiv other * e) ∧ (one - one.fdiv other * other).natAbs < other.natAbs := by
  obtain ⟨r, r1, r2, r3, r4⟩ := fdm one other ho
  have er : one - one.fdiv other * other = r := by omega
  generalize hq : one.fdiv other = q at *
  have hg : Int.gcd other (one - q * other) = Int.gcd x y := by
    rw [← h.g, Int.gcd_comm other, Int.gcd_sub_mul_right_left]
  have l2' : (a - q * c) * x + (b - q * e) * y = one - q * other := by
    rw [← h.l1, ← h.l2]
    simp only [Int.sub_mul, Int.mul_add, Int.mul_assoc]
    omega
  have st' : y ≠ 0 ∧ other ≠ 0 ∧ ((0 ≤ other ∧ 0 ≤ r) ∨ (other ≤ 0 ∧ r ≤ 0)) ∧ ((0 ≤ c ∧ a - q * c ≤ 0) ∨ (c ≤ 0 ∧ 0 ≤ a - q * c)) ∧ ((a - q * c) * other - c * r = y ∨ (a - q * c) * other - c * r = -y) := by
    have so : (0 ≤ other ∧ 0 ≤ r) ∨ (other ≤ 0 ∧ r ≤ 0) := by
      rcases Int.le_total 0 other with z | z
      · exact .inl ⟨z, r3 z⟩
      · exact .inr ⟨z, r4 z⟩
    have id1 : (a - q * c) * other - c * r = a * other - c * one := by
      rw [← er]
      have e1 : (a - q * c) * other = a * other - q * c * other := Int.sub_mul ..
      have e2 : c * (one - q * other) = c * one - c * (q * other) := Int.mul_sub ..
      have e3 : c * (q * other) = q * c * other := by rw [← Int.mul_assoc, Int.mul_comm c q]
      omega
    rcases h.st with ⟨a1, b1, c1, e1, o1, o2⟩ | ⟨y0, o0, ss, sa, id⟩
    · subst a1 c1 o1 o2
      refine ⟨ho, ho, so, .inr ⟨by omega, by rw [Int.mul_zero]; omega⟩, .inl ?_⟩
      rw [id1]
      omega
    · refine ⟨y0, ho, so, ?_, by rw [id1]; omega⟩
      have qn : 0 ≤ q := by
        rcases Int.lt_or_le q 0 with z | z
        · exfalso
          rcases ss with ⟨p1, p2⟩ | ⟨p1, p2⟩
          · have : q * other ≤ -1 * other := Int.mul_le_mul_of_nonneg_right (by omega) p2
            omega
          · have : -1 * other ≤ q * other := Int.mul_le_mul_of_nonpos_right (by omega) p2
            omega
        · exact z
      rcases sa with ⟨p1, p2⟩ | ⟨p1, p2⟩
      · have := Int.mul_nonpos_of_nonneg_of_nonpos qn p2
        exact .inr ⟨p2, by omega⟩
      · have := Int.mul_nonneg qn p2
        exact .inl ⟨p2, by omega⟩
  refine ⟨⟨h.l2, l2', hg, h.m2, by rw [er]; have := h.m2; omega, h.bc, ?_, .inr (by rw [er]; exact st')⟩, by rw [er]; exact r2⟩
  obtain ⟨y0, o0, so, sc, id⟩ := st'
  have := opp_mul sc so
  have h2 : (a - q * c).natAbs * 1 ≤ (a - q * c).natAbs * other.natAbs := Nat.mul_le_mul_left _ (by omega)
  have h3 : ((a - q * c) * other - c * r).natAbs = y.natAbs := by rcases id with z | z <;> omega
  omega
/-- what shared tells -/
structure ShOk (x y d a b : Int) : Prop where
  dg : d = (Int.gcd x y : Nat)
  l : a * x + b * y = d
  ba : a.natAbs ≤ y.natAbs + 1
  bb : b.natAbs ≤ x.natAbs + y.natAbs + (y.natAbs + 1) * x.natAbs + 1
theorem coef_le {x y one a b : Int} (h : a * x + b * y = one) (ha : a.natAbs ≤ y.natAbs + 1) (hm : one.natAbs ≤ x.natAbs + y.natAbs) (h0 : y = 0 → b.natAbs ≤ 1) : b.natAbs ≤ x.natAbs + y.natAbs + (y.natAbs + 1) * x.natAbs + 1 := by
  by_cases y0 : y = 0
  · have := h0 y0
    omega
  · have e : b * y = one - a * x := by omega
    have e2 : b.natAbs * y.natAbs = (one - a * x).natAbs := by rw [← Int.natAbs_mul, e]
    have e3 : (one - a * x).natAbs ≤ one.natAbs + (a * x).natAbs := by omega
    have e4 : (a * x).natAbs = a.natAbs * x.natAbs := Int.natAbs_mul ..
    have e5 : a.natAbs * x.natAbs ≤ (y.natAbs + 1) * x.natAbs := Nat.mul_le_mul_right _ ha
    have e6 : b.natAbs * 1 ≤ b.natAbs * y.natAbs := Nat.mul_le_mul_left _ (by omega)
    omega
theorem Eu.bb {x y one other a b c e : Int} (h : Eu x y one other a b c e) : b.natAbs ≤ x.natAbs + y.natAbs + (y.natAbs + 1) * x.natAbs + 1 ∧ e.natAbs ≤ x.natAbs + y.natAbs + (y.natAbs + 1) * x.natAbs + 1 := by
  refine ⟨coef_le h.l1 h.ba h.m1 fun z => ?_, coef_le h.l2 h.bc h.m2 fun z => ?_⟩
  · rcases h.st with ⟨_, h2, _⟩ | ⟨h2, _⟩
    · omega
    · exact absurd z h2
  · rcases h.st with ⟨_, _, _, h2, _⟩ | ⟨h2, _⟩
    · omega
    · exact absurd z h2
/-- the sizes of Euclid's numbers -/
theorem Eu.sizes {x y one other a b c e : Int} (h : Eu x y one other a b c e) {n : Nat} (hx : x.natAbs < 2 ^ n) (hy : y.natAbs < 2 ^ n) :
    one.natAbs < 2 ^ (n + 1) ∧ other.natAbs < 2 ^ (n + 1) ∧ a.natAbs < 2 ^ (n + 1) ∧ c.natAbs < 2 ^ (n + 1) ∧ b.natAbs < 2 ^ (2 * n + 3) ∧ e.natAbs < 2 ^ (2 * n + 3) := by
  have p1 : 2 ^ (n + 1) = 2 * 2 ^ n := by rw [Nat.pow_succ, Nat.mul_comm]
  have p0 : 1 ≤ 2 ^ n := Nat.one_le_two_pow
  have m1 := h.m1
  have m2 := h.m2
  have ba := h.ba
  have bc := h.bc
  obtain ⟨bb, be⟩ := h.bb
  have p2 : 2 ^ (2 * n + 3) = 8 * (2 ^ n * 2 ^ n) := by
    rw [Nat.pow_add, Nat.two_mul, Nat.pow_add, Nat.mul_comm]
  have k1 : (y.natAbs + 1) * x.natAbs ≤ 2 ^ n * 2 ^ n := Nat.mul_le_mul hy (Nat.le_of_lt hx)
  have k2 : 1 * 2 ^ n ≤ 2 ^ n * 2 ^ n := Nat.mul_le_mul_right _ p0
  rw [p1, p2]
  refine ⟨by omega, by omega, by omega, by omega, by omega, by omega⟩
end M

/-! Sums of rows: what is made of rows, leads, bounds; plain. -/
namespace M
abbrev Ve := Nat → Int
/-- closed under sums of multiples -/
structure Sg (L : Ve → Prop) : Prop where
  zero : L fun _ => 0
  comb : ∀ (x y : Int) (v w : Ve), L v → L w → L fun i => x * v i + y * w i
/-- made of rows -/
def Sp (R : Ve → Prop) (v : Ve) : Prop := ∀ L, Sg L → (∀ r, R r → L r) → L v
theorem Sp.base {R : Ve → Prop} {r : Ve} (h : R r) : Sp R r := fun _ _ k => k r h
theorem Sp.sg (R : Ve → Prop) : Sg (Sp R) := ⟨fun _ s _ => s.zero, fun x y v w a b L s k => s.comb x y v w (a L s k) (b L s k)⟩
theorem Sp.zero {R : Ve → Prop} : Sp R fun _ => 0 := (Sp.sg R).zero
theorem Sp.comb {R : Ve → Prop} {v w : Ve} (h : Sp R v) (k : Sp R w) (x y : Int) : Sp R fun i => x * v i + y * w i := (Sp.sg R).comb x y v w h k
theorem Sp.to {R Q : Ve → Prop} {v : Ve} (h : Sp R v) (k : ∀ r, R r → Sp Q r) : Sp Q v := h _ (Sp.sg Q) k
theorem Sp.mul {R : Ve → Prop} {v : Ve} (h : Sp R v) (x : Int) : Sp R fun i => x * v i := by
  have := h.comb h x 0
  have e : (fun i => x * v i + 0 * v i) = fun i => x * v i := funext fun i => by omega
  rwa [e] at this
theorem Sp.cast {R : Ve → Prop} {v w : Ve} (h : Sp R v) (e : ∀ i, v i = w i) : Sp R w := by
  have : v = w := funext e
  rwa [this] at h
theorem Sp.sub {R : Ve → Prop} {v w : Ve} (h : Sp R v) (k : Sp R w) : Sp R fun i => v i - w i := (h.comb k 1 (-1)).cast fun i => by omega
theorem Sp.add {R : Ve → Prop} {v w : Ve} (h : Sp R v) (k : Sp R w) : Sp R fun i => v i + w i := (h.comb k 1 1).cast fun i => by omega
/-- a linear image -/
theorem Sp.map {R Q : Ve → Prop} (f : Ve → Ve) (f0 : (f fun _ => 0) = fun _ => 0) (fl : ∀ (x y : Int) (v w : Ve), f (fun i => x * v i + y * w i) = fun i => x * f v i + y * f w i) {v : Ve} (h : Sp R v) (k : ∀ r, R r → Sp Q (f r)) : Sp Q (f v) :=
  h (fun u => Sp Q (f u)) ⟨by rw [f0]; exact Sp.zero, fun x y v w a b => by rw [fl]; exact a.comb b x y⟩ k
/-- all that is made of rows with a number 0 at a place has it 0 there -/
theorem Sp.at0 {R : Ve → Prop} {v : Ve} {p : Nat} (h : Sp R v) (k : ∀ r, R r → r p = 0) : v p = 0 :=
  h (fun u => u p = 0) ⟨rfl, fun x y v w a b => by show x * v p + y * w p = 0; rw [a, b]; omega⟩ k
abbrev Pz (p : Nat) (v : Ve) : Prop := ∀ i, i < p → v i = 0
def Ls (R : List Ve) : Ve → Prop := fun v => v ∈ R
end M

/-! short sums of rows, by drawers -/
namespace M
theorem pigeon : ∀ (m : Nat) (f : Nat → Nat), (∀ n, n ≤ m → f n < m) → ∃ a b, a < b ∧ b ≤ m ∧ f a = f b
  | 0, f, h => absurd (h 0 (Nat.le_refl _)) (Nat.not_lt_zero _)
  | m + 1, f, h => by
    by_cases c : ∃ a, a ≤ m ∧ f a = f (m + 1)
    · obtain ⟨a, ha, e⟩ := c
      exact ⟨a, m + 1, by omega, Nat.le_refl _, e⟩
    · have nc : ∀ a, a ≤ m → f a ≠ f (m + 1) := fun a ha e => c ⟨a, ha, e⟩
      obtain ⟨a, b, h1, h2, e⟩ := pigeon m (fun n => if f n = m then f (m + 1) else f n) fun n hn => by
        have q1 := h n (by omega)
        have q2 := h (m + 1) (Nat.le_refl _)
        have q3 := nc n hn
        show (if f n = m then f (m + 1) else f n) < m
        split <;> omega
      refine ⟨a, b, h1, by omega, ?_⟩
      have n1 := nc a (by omega)
      have n2 := nc b (by omega)
      by_cases za : f a = m
      · rw [if_pos za] at e
        by_cases zb : f b = m
        · omega
        · rw [if_neg zb] at e; exact absurd e.symm n2
      · rw [if_neg za] at e
        by_cases zb : f b = m
        · rw [if_pos zb] at e; exact absurd e n1
        · rw [if_neg zb] at e; exact e
/-- a number's figures -/
def dec (B : Nat) : Nat → Nat → List Int
  | 0, _ => []
  | k + 1, n => ((n % B : Nat) : Int) :: dec B k (n / B)
theorem dec_length (B : Nat) : ∀ k n, (dec B k n).length = k
  | 0, _ => rfl
  | k + 1, n => by rw [dec, List.length_cons, dec_length B k]
theorem dec_low {B : Nat} (hB : 0 < B) : ∀ k n, ∀ x ∈ dec B k n, 0 ≤ x ∧ x < (B : Int)
  | 0, _, x, h => by cases h
  | k + 1, n, x, h => by
    rcases List.mem_cons.mp h with e | h
    · have := Nat.mod_lt n hB
      omega
    · exact dec_low hB k _ x h
theorem dec_inj {B : Nat} (hB : 0 < B) : ∀ k m n, m < B ^ k → n < B ^ k → dec B k m = dec B k n → m = n
  | 0, m, n, h1, h2, _ => by
    rw [Nat.pow_zero] at h1 h2; omega
  | k + 1, m, n, h1, h2, e => by
    rw [dec, dec, List.cons.injEq] at e
    rw [Nat.pow_succ] at h1 h2
    have q := dec_inj hB k (m / B) (n / B) ((Nat.div_lt_iff_lt_mul hB).mpr h1) ((Nat.div_lt_iff_lt_mul hB).mpr h2) e.2
    have a := Nat.div_add_mod m B
    have b := Nat.div_add_mod n B
    have c : m % B = n % B := by omega
    rw [← a, ← b, q, c]
/-- numbers from -Z to Z as one -/
def enc (Z : Nat) : List Int → Nat
  | [] => 0
  | y :: ys => (y + Z).toNat + (2 * Z + 1) * enc Z ys
theorem enc_lt (Z : Nat) : ∀ ys : List Int, (∀ y ∈ ys, y.natAbs ≤ Z) → enc Z ys < (2 * Z + 1) ^ ys.length
  | [], _ => by rw [enc, List.length_nil, Nat.pow_zero]; omega
  | y :: ys, h => by
    have ih := enc_lt Z ys fun z hz => h z (by simp [hz])
    have hy := h y (by simp)
    rw [enc, List.length_cons, Nat.pow_succ, Nat.mul_comm _ (2 * Z + 1)]
    have : (2 * Z + 1) * (enc Z ys + 1) ≤ (2 * Z + 1) * (2 * Z + 1) ^ ys.length := Nat.mul_le_mul_left _ ih
    rw [Nat.mul_add, Nat.mul_one] at this
    omega
theorem enc_inj (Z : Nat) : ∀ xs ys : List Int, xs.length = ys.length → (∀ y ∈ xs, y.natAbs ≤ Z) → (∀ y ∈ ys, y.natAbs ≤ Z) → enc Z xs = enc Z ys → xs = ys
  | [], [], _, _, _, _ => rfl
  | [], _ :: _, h, _, _, _ => by simp at h
  | _ :: _, [], h, _, _, _ => by simp at h
  | x :: xs, y :: ys, h, h1, h2, e => by
    have hx := h1 x (by simp)
    have hy := h2 y (by simp)
    rw [enc, enc] at e
    have a : ((x + Z).toNat + (2 * Z + 1) * enc Z xs) % (2 * Z + 1) = (x + Z).toNat := by
      rw [Nat.add_mul_mod_self_left, Nat.mod_eq_of_lt (by omega)]
    have b : ((y + Z).toNat + (2 * Z + 1) * enc Z ys) % (2 * Z + 1) = (y + Z).toNat := by
      rw [Nat.add_mul_mod_self_left, Nat.mod_eq_of_lt (by omega)]
    rw [e, b] at a
    have c : enc Z xs = enc Z ys := by
      have : (2 * Z + 1) * enc Z xs = (2 * Z + 1) * enc Z ys := by omega
      exact Nat.eq_of_mul_eq_mul_left (by omega) this
    rw [enc_inj Z xs ys (by simpa using h) (fun z hz => h1 z (by simp [hz])) (fun z hz => h2 z (by simp [hz])) c]
    congr 1
    omega
/-- a sum of rows -/
def lcv : List Int → List Ve → Ve
  | x :: xs, r :: rs => fun i => x * r i + lcv xs rs i
  | _, _ => fun _ => 0
theorem lcv_comb (a b : Int) : ∀ (xs ys : List Int) (rs : List Ve), xs.length = rs.length → ys.length = rs.length → ∀ i, lcv (List.zipWith (fun x y => a * x + b * y) xs ys) rs i = a * lcv xs rs i + b * lcv ys rs i
  | [], [], [], _, _, i => by simp [lcv]
  | x :: xs, y :: ys, r :: rs, h1, h2, i => by
    rw [List.zipWith_cons_cons]
    show (a * x + b * y) * r i + lcv _ rs i = a * (x * r i + lcv xs rs i) + b * (y * r i + lcv ys rs i)
    rw [lcv_comb a b xs ys rs (by simpa using h1) (by simpa using h2)]
    simp only [Int.mul_add, Int.add_mul, Int.mul_assoc]
    omega
  | [], _ :: _, [], _, h, _ => by simp at h
  | [], _, _ :: _, h, _, _ => by simp at h
  | _ :: _, _, [], h, _, _ => by simp at h
  | _ :: _, [], _ :: _, _, h, _ => by simp at h
theorem lcv_Sp {R : Ve → Prop} : ∀ (xs : List Int) (rs : List Ve), (∀ r ∈ rs, R r) → Sp R (lcv xs rs)
  | [], _, _ => Sp.zero
  | _ :: _, [], _ => Sp.zero
  | x :: xs, r :: rs, h => ((Sp.base (h r (by simp))).comb (lcv_Sp xs rs fun s hs => h s (by simp [hs])) x 1).cast fun i => by
    show x * r i + 1 * lcv xs rs i = x * r i + lcv xs rs i
    omega
theorem lcv_le {X b : Nat} (i : Nat) : ∀ (xs : List Int) (rs : List Ve), (∀ x ∈ xs, x.natAbs ≤ X) → (∀ r ∈ rs, (r i).natAbs < 2 ^ b) → (lcv xs rs i).natAbs ≤ rs.length * (X * 2 ^ b)
  | [], _, _, _ => by show (0 : Int).natAbs ≤ _; simp
  | _ :: _, [], _, _ => by show (0 : Int).natAbs ≤ _; simp
  | x :: xs, r :: rs, h1, h2 => by
    have ih := lcv_le i xs rs (fun y hy => h1 y (by simp [hy])) fun s hs => h2 s (by simp [hs])
    have a : (x * r i).natAbs ≤ X * 2 ^ b := by
      rw [Int.natAbs_mul]
      exact Nat.mul_le_mul (h1 x (by simp)) (Nat.le_of_lt (h2 r (by simp)))
    have c := Int.natAbs_add_le (x * r i) (lcv xs rs i)
    rw [List.length_cons, Nat.add_mul, Nat.one_mul]
    show (x * r i + lcv xs rs i).natAbs ≤ _
    omega
/-- one row more than places: a short sum is 0 at all of them -/
theorem siegel {b : Nat} (rs : List Ve) (C : List Nat) (hl : rs.length = C.length + 1) (hb : ∀ r ∈ rs, ∀ c ∈ C, (r c).natAbs < 2 ^ b) :
    ∃ xs : List Int, xs.length = rs.length ∧ (∃ x ∈ xs, x ≠ 0) ∧ (∀ x ∈ xs, x.natAbs ≤ (2 * (C.length + 1) * 2 ^ b) ^ C.length) ∧ ∀ c ∈ C, lcv xs rs c = 0 := by
  obtain ⟨q, hq⟩ : ∃ q, q = C.length := ⟨_, rfl⟩
  rw [← hq] at hl ⊢
  obtain ⟨W, hW⟩ : ∃ W, W = 2 * (q + 1) * 2 ^ b := ⟨_, rfl⟩
  have W1 : 1 ≤ W := by rw [hW]; exact Nat.mul_pos (by omega) (Nat.two_pow_pos _)
  rw [← hW]
  obtain ⟨X, hX⟩ : ∃ X, X = W ^ q := ⟨_, rfl⟩
  rw [← hX]
  obtain ⟨Z, hZ⟩ : ∃ Z, Z = (q + 1) * (X * 2 ^ b) := ⟨_, rfl⟩
  have Z2 : 2 * Z + 1 ≤ W * (X + 1) := by
    have : 2 * Z = W * X := by
      rw [hZ, hW]
      simp only [Nat.mul_assoc, Nat.mul_comm, Nat.mul_left_comm]
    rw [this, Nat.mul_add]
    omega
  have big : (2 * Z + 1) ^ q < (X + 1) ^ (q + 1) := by
    have h1 : (2 * Z + 1) ^ q ≤ (W * (X + 1)) ^ q := Nat.pow_le_pow_left Z2 q
    rw [Nat.mul_pow, ← hX] at h1
    have h2 : X * (X + 1) ^ q < (X + 1) ^ (q + 1) := by
      rw [Nat.pow_succ, Nat.mul_comm]
      exact Nat.mul_lt_mul_of_pos_left (by omega) (Nat.pow_pos (by omega))
    omega
  have cl : ∀ n, (dec (X + 1) (q + 1) n).length = rs.length := fun n => by rw [dec_length, hl]
  have im : ∀ n, ∀ y ∈ C.map (lcv (dec (X + 1) (q + 1) n) rs), y.natAbs ≤ Z := fun n y hy => by
    obtain ⟨c, hc, rfl⟩ := List.mem_map.mp hy
    have := lcv_le (X := X) (b := b) c (dec (X + 1) (q + 1) n) rs (fun x hx => by have := dec_low (by omega) _ _ x hx; omega) fun r hr => hb r hr c hc
    rw [hl, ← hZ] at this
    exact this
  obtain ⟨m, n, h1, h2, e⟩ := pigeon ((2 * Z + 1) ^ q) (fun n => enc Z (C.map (lcv (dec (X + 1) (q + 1) n) rs))) fun n _ => by
    have := enc_lt Z _ (im n)
    rw [List.length_map, ← hq] at this
    exact this
  have e2 := enc_inj Z _ _ (by rw [List.length_map, List.length_map]) (im m) (im n) e
  have same : ∀ c ∈ C, lcv (dec (X + 1) (q + 1) m) rs c = lcv (dec (X + 1) (q + 1) n) rs c := fun c hc => by
    have := List.map_inj_left.mp e2 c hc
    exact this
  have ne : dec (X + 1) (q + 1) m ≠ dec (X + 1) (q + 1) n := fun z => by
    have := dec_inj (by omega) (q + 1) m n (by omega) (by omega) z
    omega
  refine ⟨List.zipWith (fun x y => 1 * x + -1 * y) (dec (X + 1) (q + 1) m) (dec (X + 1) (q + 1) n), by rw [List.length_zipWith, cl, cl, Nat.min_self], ?_, fun x hx => ?_, fun c hc => by rw [lcv_comb 1 (-1) _ _ _ (cl m) (cl n), same c hc]; omega⟩
  · refine Classical.byContradiction fun no => ne ?_
    apply List.ext_getElem
    · rw [cl, cl]
    · intro i i1 i2
      have mem : (List.zipWith (fun x y => 1 * x + -1 * y) (dec (X + 1) (q + 1) m) (dec (X + 1) (q + 1) n))[i]'(by rw [List.length_zipWith]; omega) ∈ List.zipWith (fun x y => 1 * x + -1 * y) (dec (X + 1) (q + 1) m) (dec (X + 1) (q + 1) n) := List.getElem_mem _
      have z : ∀ x ∈ List.zipWith (fun x y => 1 * x + -1 * y) (dec (X + 1) (q + 1) m) (dec (X + 1) (q + 1) n), x = 0 := fun x hx => Classical.byContradiction fun k => no ⟨x, hx, k⟩
      have := z _ mem
      rw [List.getElem_zipWith] at this
      omega
  · rw [← List.map_uncurry_zip_eq_zipWith] at hx
    obtain ⟨p, hp, rfl⟩ := List.mem_map.mp hx
    obtain ⟨p1, p2⟩ := List.of_mem_zip hp
    have a := dec_low (show 0 < X + 1 by omega) _ _ _ p1
    have c := dec_low (show 0 < X + 1 by omega) _ _ _ p2
    show (1 * p.1 + -1 * p.2).natAbs ≤ X
    omega
/-! ### rows that are not sums of one another at places -/
def Ind (rs : List Ve) (C : List Nat) : Prop := ∀ xs : List Int, xs.length = rs.length → (∀ c ∈ C, lcv xs rs c = 0) → ∀ x ∈ xs, x = 0
theorem lcv_zeros : ∀ (rs : List Ve) (i : Nat), lcv (List.replicate rs.length 0) rs i = 0
  | [], _ => rfl
  | r :: rs, i => by
    show 0 * r i + lcv (List.replicate rs.length 0) rs i = 0
    rw [lcv_zeros rs i]; omega
theorem Ind.more {rs R : List Ve} {C : List Nat} {p : Nat} (h : Ind rs C) {v : Ve} (hv : Sp (Ls R) v) (hC : ∀ c ∈ C, v c = 0) (h0 : v p ≠ 0) : ∃ r ∈ R, Ind (r :: rs) (p :: C) := by
  refine Classical.byContradiction fun no => ?_
  have dep : ∀ r ∈ R, ∃ (Y : Int) (zs : List Int), Y ≠ 0 ∧ zs.length = rs.length ∧ ∀ c, c ∈ p :: C → Y * r c = lcv zs rs c := fun r hr => by
    have ni : ¬ Ind (r :: rs) (p :: C) := fun k => no ⟨r, hr, k⟩
    have : ∃ xs : List Int, xs.length = (r :: rs).length ∧ (∀ c ∈ p :: C, lcv xs (r :: rs) c = 0) ∧ ¬ ∀ x ∈ xs, x = 0 := Classical.byContradiction fun k => ni fun xs a b => Classical.byContradiction fun z => k ⟨xs, a, b, z⟩
    obtain ⟨xs, a, b, z⟩ := this
    match xs, a, b, z with
    | y :: ys, a, b, z =>
      have yl : ys.length = rs.length := by simpa using a
      have y0 : y ≠ 0 := fun e => by
        subst e
        have : ∀ x ∈ ys, x = 0 := h ys yl fun c hc => by
          have := b c (List.mem_cons_of_mem _ hc)
          have e : lcv (0 :: ys) (r :: rs) c = 0 * r c + lcv ys rs c := rfl
          rw [e] at this
          omega
        refine z fun x hx => ?_
        rcases List.mem_cons.mp hx with e | hx
        · exact e
        · exact this x hx
      refine ⟨-y, ys, by omega, yl, fun c hc => ?_⟩
      have := b c hc
      have e : lcv (y :: ys) (r :: rs) c = y * r c + lcv ys rs c := rfl
      rw [e] at this
      rw [Int.neg_mul]
      omega
  obtain ⟨Y, zs, Y0, zl, e⟩ := hv (fun u => ∃ (Y : Int) (zs : List Int), Y ≠ 0 ∧ zs.length = rs.length ∧ ∀ c, c ∈ p :: C → Y * u c = lcv zs rs c)
    ⟨⟨1, List.replicate rs.length 0, by decide, by rw [List.length_replicate], fun c _ => by rw [lcv_zeros]; rfl⟩, fun x y u w ⟨Y1, z1, a1, b1, c1⟩ ⟨Y2, z2, a2, b2, c2⟩ =>
      ⟨Y1 * Y2, List.zipWith (fun s t => (x * Y2) * s + (y * Y1) * t) z1 z2, Int.mul_ne_zero a1 a2, by rw [List.length_zipWith, b1, b2, Nat.min_self], fun c hc => by
        rw [lcv_comb _ _ _ _ _ b1 b2, ← c1 c hc, ← c2 c hc]
        have e1 : Y1 * Y2 * (x * u c + y * w c) = Y1 * Y2 * (x * u c) + Y1 * Y2 * (y * w c) := Int.mul_add ..
        have e2 : Y1 * Y2 * (x * u c) = x * Y2 * (Y1 * u c) := by simp only [Int.mul_assoc, Int.mul_left_comm, Int.mul_comm]
        have e3 : Y1 * Y2 * (y * w c) = y * Y1 * (Y2 * w c) := by simp only [Int.mul_assoc, Int.mul_left_comm, Int.mul_comm]
        rw [e1, e2, e3]⟩⟩ dep
  have z0 : ∀ x ∈ zs, x = 0 := h zs zl fun c hc => by rw [← e c (List.mem_cons_of_mem _ hc), hC c hc]; omega
  have zr : zs = List.replicate rs.length 0 := by rw [← zl]; exact List.eq_replicate_of_mem z0
  have := e p (by simp)
  rw [zr, lcv_zeros] at this
  exact Int.mul_ne_zero Y0 h0 this
theorem Ind.nodup {rs : List Ve} : ∀ {C : List Nat}, Ind rs C → rs.Nodup := by
  induction rs with
  | nil => intro C _; exact List.nodup_nil
  | cons r rs ih =>
    intro C h
    have h' : Ind rs C := fun xs hl hz x hx => by
      refine h (0 :: xs) (by simpa using hl) (fun c hc => ?_) x (by simp [hx])
      show 0 * r c + lcv xs rs c = 0
      rw [hz c hc]; omega
    refine List.nodup_cons.mpr ⟨fun hm => ?_, ih h'⟩
    obtain ⟨l1, l2, e⟩ := List.append_of_mem hm
    have key : ∀ (l1 : List Ve) (i : Nat), lcv (List.replicate l1.length 0 ++ (-1 :: List.replicate l2.length 0)) (l1 ++ r :: l2) i = -(r i) := by
      intro l1
      induction l1 with
      | nil => intro i; show -1 * r i + lcv (List.replicate l2.length 0) l2 i = _; rw [lcv_zeros]; omega
      | cons s l1 ih => intro i; show 0 * s i + lcv (List.replicate l1.length 0 ++ (-1 :: List.replicate l2.length 0)) (l1 ++ r :: l2) i = _; rw [ih i]; omega
    have := h (1 :: (List.replicate l1.length 0 ++ (-1 :: List.replicate l2.length 0))) (by rw [e]; simp) (fun c _ => by
      rw [e]
      show 1 * r c + lcv _ _ c = 0
      rw [key]; omega) 1 (by simp)
    exact absurd this (by decide)
theorem nodup_le {α : Type} : ∀ (xs ys : List α), xs.Nodup → (∀ x ∈ xs, x ∈ ys) → xs.length ≤ ys.length
  | [], _, _, _ => Nat.zero_le _
  | x :: xs, ys, h, k => by
    obtain ⟨h1, h2⟩ := List.nodup_cons.mp h
    obtain ⟨l1, l2, rfl⟩ := List.append_of_mem (k x (by simp))
    have := nodup_le xs (l1 ++ l2) h2 fun y hy => by
      have := k y (by simp [hy])
      rcases List.mem_append.mp this with z | z
      · exact List.mem_append_left _ z
      · rcases List.mem_cons.mp z with e | z
        · exact absurd (e ▸ hy) h1
        · exact List.mem_append_right _ z
    rw [List.length_append] at this
    rw [List.length_cons, List.length_append, List.length_cons]
    omega
/-- places at which something made of the rows begins -/
def Piv (R : List Ve) (p : Nat) : Prop := ∃ v, Sp (Ls R) v ∧ Pz p v ∧ v p ≠ 0
theorem chain (R : List Ve) : ∀ p : Nat, ∃ (C : List Nat) (rs : List Ve), C.length = rs.length ∧ (∀ r ∈ rs, r ∈ R) ∧ (∀ c ∈ C, c < p) ∧ (∀ c, c < p → Piv R c → c ∈ C) ∧ C.length ≤ p ∧ Ind rs C
  | 0 => ⟨[], [], rfl, (fun r h => by cases h), (fun c h => by cases h), fun c h => absurd h (Nat.not_lt_zero _), Nat.le_refl _, fun xs hl _ x hx => by rw [List.length_eq_zero_iff.mp hl] at hx; cases hx⟩
  | p + 1 => by
    obtain ⟨C, rs, h1, h2, h3, h4, h5, h6⟩ := chain R p
    by_cases hp : Piv R p
    · obtain ⟨v, v1, v2, v3⟩ := hp
      obtain ⟨r, hr, hi⟩ := h6.more v1 (fun c hc => v2 c (h3 c hc)) v3
      refine ⟨p :: C, r :: rs, by rw [List.length_cons, List.length_cons, h1], fun s hs => ?_, fun c hc => ?_, fun c hc k => ?_, by rw [List.length_cons]; omega, hi⟩
      · rcases List.mem_cons.mp hs with e | hs
        · rw [e]; exact hr
        · exact h2 s hs
      · rcases List.mem_cons.mp hc with e | hc
        · omega
        · have := h3 c hc; omega
      · rcases Nat.lt_or_ge c p with z | z
        · exact List.mem_cons_of_mem _ (h4 c z k)
        · have : c = p := by omega
          rw [this]; simp
    · refine ⟨C, rs, h1, h2, fun c hc => by have := h3 c hc; omega, fun c hc k => ?_, by omega, h6⟩
      rcases Nat.lt_or_ge c p with z | z
      · exact h4 c z k
      · have : c = p := by omega
        rw [this] at k; exact absurd k hp
def Bt (b q : Nat) : Nat := (q + 1) * (b + q + 2)
theorem Bt_mono (b : Nat) {q r : Nat} (h : q ≤ r) : Bt b q ≤ Bt b r := Nat.mul_le_mul (by omega) (by omega)
theorem two_pow_gt : ∀ n : Nat, n < 2 ^ n
  | 0 => by decide
  | n + 1 => by have := two_pow_gt n; rw [Nat.pow_succ]; omega
/-- where something made of the rows has its place, a short one has its place, too -/
theorem short (R : List Ve) {b : Nat} (hb : ∀ r ∈ R, ∀ i, (r i).natAbs < 2 ^ b) {p : Nat} {v : Ve} (hv : Sp (Ls R) v) (pv : Pz p v) (h0 : v p ≠ 0) :
    ∃ w, Sp (Ls R) w ∧ Pz p w ∧ w p ≠ 0 ∧ ∃ q, q ≤ p ∧ q < R.length ∧ ∀ i, (w i).natAbs < 2 ^ Bt b q := by
  obtain ⟨C, rs, h1, h2, h3, h4, h5, h6⟩ := chain R p
  obtain ⟨r, hr, hi⟩ := h6.more hv (fun c hc => pv c (h3 c hc)) h0
  have mem : ∀ s ∈ r :: rs, s ∈ R := fun s hs => by
    rcases List.mem_cons.mp hs with e | hs
    · rw [e]; exact hr
    · exact h2 s hs
  obtain ⟨xs, x1, ⟨x, hx, x0⟩, x2, x3⟩ := siegel (b := b) (r :: rs) C (by rw [List.length_cons, h1]) fun s hs c _ => hb s (mem s hs) c
  have w1 : Sp (Ls R) (lcv xs (r :: rs)) := lcv_Sp xs (r :: rs) mem
  have wp : lcv xs (r :: rs) p ≠ 0 := fun z => x0 (hi xs x1 (fun c hc => by
    rcases List.mem_cons.mp hc with e | hc
    · rw [e]; exact z
    · exact x3 c hc) x hx)
  have wz : ∀ m, m ≤ p → Pz m (lcv xs (r :: rs)) := by
    intro m
    induction m with
    | zero => intro _ i hi; exact absurd hi (Nat.not_lt_zero _)
    | succ m ih =>
      intro hm i hi
      have ih := ih (by omega)
      rcases Nat.lt_or_ge i m with z | z
      · exact ih i z
      · have : i = m := by omega
        subst this
        exact Classical.byContradiction fun k => k (x3 i (h4 i (by omega) ⟨_, w1, ih, k⟩))
  have ln := nodup_le (r :: rs) R hi.nodup mem
  rw [List.length_cons] at ln
  refine ⟨_, w1, wz p (Nat.le_refl _), wp, C.length, h5, by omega, fun i => ?_⟩
  have a := lcv_le (X := (2 * (C.length + 1) * 2 ^ b) ^ C.length) (b := b) i xs (r :: rs) x2 fun s hs => hb s (mem s hs) i
  rw [List.length_cons, ← h1] at a
  obtain ⟨q, hq⟩ : ∃ q, q = C.length := ⟨_, rfl⟩
  rw [← hq] at a ⊢
  have t1 : 2 * (q + 1) * 2 ^ b < 2 ^ (b + q + 2) := by
    have := two_pow_gt (q + 1)
    have e : 2 ^ (b + q + 2) = 2 * 2 ^ (q + 1) * 2 ^ b := by rw [show b + q + 2 = 1 + (q + 1) + b by omega, Nat.pow_add, Nat.pow_add]
    rw [e]
    exact Nat.mul_lt_mul_of_pos_right (by omega) (Nat.two_pow_pos _)
  have t2 : (2 * (q + 1) * 2 ^ b) ^ q ≤ (2 ^ (b + q + 2)) ^ q := Nat.pow_le_pow_left (Nat.le_of_lt t1) q
  have t3 : (q + 1) * ((2 * (q + 1) * 2 ^ b) ^ q * 2 ^ b) = (2 * (q + 1) * 2 ^ b) ^ q * ((q + 1) * 2 ^ b) := by simp only [Nat.mul_left_comm]
  have t4 : (q + 1) * 2 ^ b < 2 ^ (b + q + 2) := by
    have : 2 * (q + 1) * 2 ^ b = (q + 1) * 2 ^ b + (q + 1) * 2 ^ b := by rw [Nat.mul_assoc]; omega
    omega
  rw [t3] at a
  have t5 : (2 * (q + 1) * 2 ^ b) ^ q * ((q + 1) * 2 ^ b) < (2 ^ (b + q + 2)) ^ q * 2 ^ (b + q + 2) :=
    Nat.lt_of_le_of_lt (Nat.mul_le_mul_right _ t2) (Nat.mul_lt_mul_of_pos_left t4 (Nat.pow_pos (Nat.two_pow_pos _)))
  rw [← Nat.pow_succ, ← Nat.pow_mul, Nat.mul_comm (b + q + 2)] at t5
  exact Nat.lt_of_le_of_lt a t5
end M

/-! stairs by places; plain -/
namespace M
/-! ### stairs -/
structure Stp (p : Nat) (r : Ve) : Prop where
  zero : Pz p r
  pos : 0 < r p
/-- rows by their places: G p r, r is the row with the place p -/
structure Sta (G : Nat → Ve → Prop) (k : Nat) : Prop where
  st : ∀ p r, G p r → Stp p r
  one : ∀ p r s, G p r → G p s → r = s
  lt : ∀ p r, G p r → p < k
  end_ : ∀ p r, G p r → ∀ i, k ≤ i → r i = 0
def Gs (G : Nat → Ve → Prop) : Ve → Prop := fun r => ∃ p, G p r
/-- what is made of the rows from a place on -/
theorem Sta.from {G : Nat → Ve → Prop} {k : Nat} (s : Sta G k) : ∀ (p : Nat) (v : Ve), Sp (Gs G) v → Pz p v → Sp (fun r => ∃ q, p ≤ q ∧ G q r) v
  | 0, v, h, _ => h.to fun r ⟨q, hq⟩ => Sp.base ⟨q, Nat.zero_le _, hq⟩
  | p + 1, v, h, pz => by
    have ih := s.from p v h fun i hi => pz i (by omega)
    by_cases hr : ∃ r, G p r
    · obtain ⟨r, hr⟩ := hr
      have rp := s.st p r hr
      -- v is c r and one from p + 1 on
      have : ∃ (c : Int) (w : Ve), Sp (fun r => ∃ q, p + 1 ≤ q ∧ G q r) w ∧ v = fun i => c * r i + w i :=
        ih (fun v => ∃ (c : Int) (w : Ve), Sp (fun r => ∃ q, p + 1 ≤ q ∧ G q r) w ∧ v = fun i => c * r i + w i)
          ⟨⟨0, fun _ => 0, Sp.zero, funext fun i => by simp⟩, fun x y _ _ ⟨c, w, h1, e1⟩ ⟨d, u, h2, e2⟩ => ⟨x * c + y * d, _, h1.comb h2 x y, by
            subst e1 e2
            exact funext fun i => by
              simp only [Int.mul_add, Int.add_mul, Int.mul_assoc]
              omega⟩⟩ fun t ⟨q, hq, gt⟩ => by
          rcases Nat.lt_or_ge p q with z | z
          · exact ⟨0, t, Sp.base ⟨q, z, gt⟩, funext fun i => by omega⟩
          · have : q = p := by omega
            subst this
            exact ⟨1, fun _ => 0, Sp.zero, funext fun i => by rw [s.one q r t hr gt]; show t i = 1 * t i + 0; omega⟩
      obtain ⟨c, w, hw, rfl⟩ := this
      have w0 : w p = 0 := hw.at0 fun t ⟨q, hq, gt⟩ => (s.st q t gt).zero p (by omega)
      have e := pz p (by omega)
      dsimp only at e
      rw [w0, Int.add_zero] at e
      have c0 : c = 0 := by
        rcases Int.mul_eq_zero.mp e with z | z
        · exact z
        · have := rp.pos; omega
      exact hw.cast fun i => by rw [c0]; omega
    · exact ih.to fun r ⟨q, hq, gr⟩ => by
        rcases Nat.lt_or_ge p q with z | z
        · exact Sp.base ⟨q, z, gr⟩
        · have : q = p := by omega
          subst this
          exact absurd ⟨r, gr⟩ hr
/-- the first number of what is made of a stair's rows stands at a row's place, and its lead divides it -/
theorem Sta.lead {G : Nat → Ve → Prop} {k : Nat} (s : Sta G k) {p : Nat} {v : Ve} (h : Sp (Gs G) v) (pz : Pz p v) (h0 : v p ≠ 0) : ∃ r, G p r ∧ r p ∣ v p := by
  have f := s.from p v h pz
  by_cases hr : ∃ r, G p r
  · obtain ⟨r, hr⟩ := hr
    refine ⟨r, hr, ?_⟩
    exact f (fun v => r p ∣ v p) ⟨Int.dvd_zero _, fun x y v w a b => Int.dvd_add (Int.dvd_mul_of_dvd_right a) (Int.dvd_mul_of_dvd_right b)⟩ fun t ⟨q, hq, gt⟩ => by
      rcases Nat.lt_or_ge p q with z | z
      · rw [(s.st q t gt).zero p z]; exact Int.dvd_zero _
      · have : q = p := by omega
        subst this
        rw [s.one q r t hr gt]
        exact Int.dvd_refl _
  · exfalso
    refine h0 (f.at0 fun t ⟨q, hq, gt⟩ => ?_)
    rcases Nat.lt_or_ge p q with z | z
    · exact (s.st q t gt).zero p z
    · have : q = p := by omega
      subst this
      exact absurd ⟨t, gt⟩ hr
/-- what is made of a stair's rows and stands below each lead is all noughts -/
theorem Sta.none {G : Nat → Ve → Prop} {k : Nat} (s : Sta G k) {v : Ve} (h : Sp (Gs G) v) (hl : ∀ p r, G p r → (v p).natAbs < (r p).natAbs) : ∀ i, v i = 0 := by
  have key : ∀ p, Pz p v := by
    intro p
    induction p with
    | zero => exact fun i hi => absurd hi (Nat.not_lt_zero _)
    | succ p ih =>
      intro i hi
      rcases Nat.lt_or_ge i p with z | z
      · exact ih i z
      · have : i = p := by omega
        subst this
        refine Classical.byContradiction fun c => ?_
        obtain ⟨r, gr, d⟩ := s.lead h ih c
        have h1 := hl i r gr
        have h2 := Int.natAbs_dvd_natAbs.mpr d
        have := Nat.le_of_dvd (by omega) h2
        omega
  exact fun i => key (i + 1) i (by omega)
/-- leads are no greater than those of a short one -/
theorem Sta.low {G : Nat → Ve → Prop} {k : Nat} (s : Sta G k) {R : List Ve} {b : Nat} (hb : ∀ r ∈ R, ∀ i, (r i).natAbs < 2 ^ b) (h1 : ∀ r, Gs G r → Sp (Ls R) r) (h2 : ∀ r ∈ R, Sp (Gs G) r) {p : Nat} {r : Ve} (hr : G p r) : ∃ q, q ≤ p ∧ q < R.length ∧ (r p).natAbs < 2 ^ Bt b q := by
  have rp := s.st p r hr
  obtain ⟨w, w1, w2, w3, q, q1, q2, q3⟩ := short R hb (h1 r ⟨p, hr⟩) rp.zero (by have := rp.pos; omega)
  obtain ⟨r', gr', d⟩ := s.lead (w1.to h2) w2 w3
  rw [s.one p r' r gr' hr] at d
  have h3 := Int.natAbs_dvd_natAbs.mpr d
  have := Nat.le_of_dvd (by omega) h3
  exact ⟨q, q1, q2, Nat.lt_of_le_of_lt this (q3 p)⟩
/-- what is made of rows, by its numbers at the places -/
theorem Sta.wide {G : Nat → Ve → Prop} {k : Nat} (s : Sta G k) {R : List Ve} {b B : Nat} (hb : ∀ r ∈ R, ∀ i, (r i).natAbs < 2 ^ b) (h1 : ∀ r, Gs G r → Sp (Ls R) r) (h2 : ∀ r ∈ R, Sp (Gs G) r) (hB : ∀ q, q < k → q < R.length → Bt b q ≤ B) :
    ∀ (m p : Nat), m + p = k → ∀ (v : Ve) (N : Nat), Sp (Gs G) v → Pz p v → (∀ q r, G q r → (v q).natAbs < 2 ^ N) → ∀ i, (v i).natAbs < 2 ^ (N + m * (B + 2))
  | 0, p, e, v, N, hv, pz, hN, i => by
    have : ∀ i, v i = 0 := s.none hv fun q r gr => by
      have h1 := s.lt q r gr
      rw [pz q (by omega)]
      have := (s.st q r gr).pos
      omega
    rw [this i]
    exact Nat.two_pow_pos _
  | m + 1, p, e, v, N, hv, pz, hN, i => by
    have up : ∀ j, (v j).natAbs < 2 ^ (N + m * (B + 2)) → (v j).natAbs < 2 ^ (N + (m + 1) * (B + 2)) := fun j h => Nat.lt_of_lt_of_le h (Nat.pow_le_pow_right (by decide) (by
      rw [Nat.add_mul]; omega))
    by_cases vp : v p = 0
    · refine up i (s.wide hb h1 h2 hB m (p + 1) (by omega) v N hv (fun j hj => ?_) hN i)
      rcases Nat.lt_or_ge j p with z | z
      · exact pz j z
      · have : j = p := by omega
        rw [this]; exact vp
    · obtain ⟨w, w1, w2, w3, q, q1, q2, q3⟩ := short R hb (hv.to fun r hr => h1 r hr) pz vp
      have qB : ∀ j, (w j).natAbs < 2 ^ B := fun j => Nat.lt_of_lt_of_le (q3 j) (Nat.pow_le_pow_right (by decide) (hB q (by omega) q2))
      obtain ⟨r0, gr0, _⟩ := s.lead hv pz vp
      have vN := hN p r0 gr0
      -- u = w p v - v p w
      have hu : Sp (Gs G) fun j => w p * v j - v p * w j := (hv.comb (w1.to h2) (w p) (-(v p))).cast fun j => by rw [Int.neg_mul]; omega
      have uz : Pz (p + 1) fun j => w p * v j - v p * w j := fun j hj => by
        rcases Nat.lt_or_ge j p with z | z
        · show w p * v j - v p * w j = 0
          rw [pz j z, w2 j z]; simp
        · have : j = p := by omega
          subst this
          show w j * v j - v j * w j = 0
          rw [Int.mul_comm]; omega
      have mulb : ∀ {x y : Int} {c d : Nat}, x.natAbs < 2 ^ c → y.natAbs < 2 ^ d → (x * y).natAbs < 2 ^ (c + d) := fun {x y c d} hx hy => by
        rw [Int.natAbs_mul, Nat.pow_add]
        exact Nat.mul_lt_mul'' hx hy
      have uN : ∀ q r, G q r → (w p * v q - v p * w q).natAbs < 2 ^ (N + B + 1) := fun q r gr => by
        have a := mulb (qB p) (hN q r gr)
        have b := mulb vN (qB q)
        have c := Int.natAbs_sub_le (w p * v q) (v p * w q)
        rw [show B + N = N + B by omega] at a
        have e : 2 ^ (N + B + 1) = 2 * 2 ^ (N + B) := by rw [Nat.pow_succ, Nat.mul_comm]
        omega
      have ih := s.wide hb h1 h2 hB m (p + 1) (by omega) _ (N + B + 1) hu uz uN i
      have vw := mulb vN (qB i)
      have e1 : (w p * v i).natAbs = ((w p * v i - v p * w i) + v p * w i).natAbs := by congr 1; omega
      have e2 := Int.natAbs_add_le (w p * v i - v p * w i) (v p * w i)
      rw [Int.natAbs_mul] at e1
      have e3 : 1 * (v i).natAbs ≤ (w p).natAbs * (v i).natAbs := Nat.mul_le_mul_right _ (by omega)
      have e4 : 2 ^ (N + B) ≤ 2 ^ (N + B + 1 + m * (B + 2)) := Nat.pow_le_pow_right (by decide) (by omega)
      have e5 : 2 ^ (N + (m + 1) * (B + 2)) = 2 * 2 ^ (N + B + 1 + m * (B + 2)) := by
        rw [show N + (m + 1) * (B + 2) = (N + B + 1 + m * (B + 2)) + 1 by rw [Nat.add_mul]; omega, Nat.pow_succ, Nat.mul_comm]
      omega
/-- each number stands below the leads behind -/
def Tidy (G : Nat → Ve → Prop) : Prop := ∀ p r q s, G p r → G q s → p < q → 0 ≤ r q ∧ r q < s q
/-- of the same things made there is just one stair -/
theorem Sta.uniq {G H : Nat → Ve → Prop} {k l : Nat} (s : Sta G k) (t : Sta H l) (tg : Tidy G) (th : Tidy H) (h1 : ∀ r, Gs G r → Sp (Gs H) r) (h2 : ∀ r, Gs H r → Sp (Gs G) r) {p : Nat} {r : Ve} (hr : G p r) : H p r := by
  have rp := s.st p r hr
  obtain ⟨r', hr', d⟩ := t.lead (h1 r ⟨p, hr⟩) rp.zero (by have := rp.pos; omega)
  have rp' := t.st p r' hr'
  obtain ⟨r2, hr2, d2⟩ := s.lead (h2 r' ⟨p, hr'⟩) rp'.zero (by have := rp'.pos; omega)
  rw [s.one p r2 r hr2 hr] at d2
  have le : r p = r' p := Int.dvd_antisymm (by have := rp.pos; omega) (by have := rp'.pos; omega) d2 d
  have z := s.none (v := fun i => r i - r' i) ((Sp.base ⟨p, hr⟩).sub (h2 r' ⟨p, hr'⟩)) fun q u gu => by
    have uq := s.st q u gu
    have := uq.pos
    rcases Nat.lt_trichotomy q p with c | c | c
    · rw [rp.zero q c, rp'.zero q c]
      omega
    · subst c
      rw [le]
      omega
    · have a := tg p r q u hr gu c
      obtain ⟨u', hu', du⟩ := t.lead (h1 u ⟨q, gu⟩) uq.zero (by omega)
      have uq' := t.st q u' hu'
      have b := th p r' q u' hr' hu' c
      have := Int.le_of_dvd (by omega) du
      omega
  have : r = r' := funext fun i => by have := z i; omega
  rw [this]
  exact hr'
end M

/-! rows turned into one another, as sums -/
namespace M
abbrev Step := List Int × List Int
abbrev Steps := List (Option Step)
def vf (r : List Int) : Ve := fun i => r.getD i 0
def blF (a : Int) (xs : List Int) (b : Int) (ys : List Int) : List Int := List.zipWith (fun x y => a * x + b * y) xs ys
theorem blF_length {a b : Int} {xs ys : List Int} (h : ys.length = xs.length) : (blF a xs b ys).length = xs.length := by
  unfold blF
  rw [List.length_zipWith, h, Nat.min_self]
theorem blF_get {a b : Int} {xs ys : List Int} (h : ys.length = xs.length) (i : Nat) : vf (blF a xs b ys) i = a * vf xs i + b * vf ys i := by
  unfold vf blF
  by_cases hi : i < xs.length
  · simp [List.getD, hi, h]
  · rw [List.getD_eq_getElem?_getD, List.getElem?_eq_none (by simp; omega), List.getD_eq_getElem?_getD, List.getElem?_eq_none (by omega), List.getD_eq_getElem?_getD, List.getElem?_eq_none (by omega)]
    simp
theorem vf_end {r : List Int} {i : Nat} (h : r.length ≤ i) : vf r i = 0 := by
  unfold vf
  rw [List.getD_eq_getElem?_getD, List.getElem?_eq_none h]; rfl
theorem vf_ext {r s : List Int} (h : r.length = s.length) (k : ∀ i, vf r i = vf s i) : r = s := ext_getD h fun i _ => k i
theorem mul_lt_pow {x y : Int} {c d : Nat} (hx : x.natAbs < 2 ^ c) (hy : y.natAbs < 2 ^ d) : (x * y).natAbs < 2 ^ (c + d) := by
  rw [Int.natAbs_mul, Nat.pow_add]
  exact Nat.mul_lt_mul'' hx hy
theorem add_lt_pow {x y : Int} {c : Nat} (hx : x.natAbs < 2 ^ c) (hy : y.natAbs < 2 ^ c) : (x + y).natAbs < 2 ^ (c + 1) := by
  have := Int.natAbs_add_le x y
  rw [Nat.pow_succ, Nat.mul_comm]
  omega
theorem lt_pow_mono {x : Int} {c d : Nat} (hx : x.natAbs < 2 ^ c) (h : c ≤ d) : x.natAbs < 2 ^ d := Nat.lt_of_lt_of_le hx (Nat.pow_le_pow_right (by decide) h)
theorem Low.vf {b : Nat} {r : List Int} (h : Low (2 ^ b) r) (i : Nat) : (vf r i).natAbs < 2 ^ b := h.getD (Nat.two_pow_pos _) i
theorem Low.of_vf {b : Nat} {r : List Int} (h : ∀ i, (M.vf r i).natAbs < 2 ^ b) : Low (2 ^ b) r := low_of_getD fun i _ => h i
theorem Low.up {b c : Nat} {r : List Int} (h : Low (2 ^ b) r) (k : b ≤ c) : Low (2 ^ c) r := h.mono (Nat.pow_le_pow_right (by decide) k)
theorem blF_low {a b : Int} {xs ys : List Int} {c d e f : Nat} (h : ys.length = xs.length) (ha : a.natAbs < 2 ^ c) (hb : b.natAbs < 2 ^ d) (hx : Low (2 ^ e) xs) (hy : Low (2 ^ f) ys) {m : Nat} (h1 : c + e ≤ m) (h2 : d + f ≤ m) : Low (2 ^ (m + 1)) (blF a xs b ys) :=
  Low.of_vf fun i => by
    rw [blF_get h]
    exact add_lt_pow (lt_pow_mono (mul_lt_pow ha (hx.vf i)) h1) (lt_pow_mono (mul_lt_pow hb (hy.vf i)) h2)
theorem dot_bl (a b : Int) : ∀ (c d w : List Int), d.length = c.length → dot (blF a c b d) w = a * dot c w + b * dot d w
  | [], [], w, _ => by simp [dot, blF]
  | x :: c, [], w, h => by simp at h
  | [], y :: d, w, h => by simp at h
  | x :: c, y :: d, [], h => by simp [dot, blF]
  | x :: c, y :: d, z :: w, h => by
    have ih := dot_bl a b c d w (by simpa using h)
    unfold blF at ih ⊢
    rw [List.zipWith_cons_cons, dot_cons, dot_cons, dot_cons, ih]
    simp only [Int.mul_add, Int.add_mul, Int.mul_assoc]
    omega
def mx (cs : List Int) (rows : List (List Int)) (k : Nat) : Ve := vf (mixF cs rows k)
theorem mx_bl {rows : List (List Int)} {k : Nat} (h : ∀ r ∈ rows, r.length = k) {a b : Int} {c d : List Int} (hl : d.length = c.length) (i : Nat) : mx (blF a c b d) rows k i = a * mx c rows k i + b * mx d rows k i := by
  unfold mx vf
  rw [mixF_dot h, mixF_dot h, mixF_dot h, dot_bl _ _ _ _ _ hl]
theorem dot_neg1 : ∀ (c w : List Int), dot (c.map (· * (-1))) w = -dot c w
  | [], w => by simp [dot]
  | x :: c, [] => by simp [dot]
  | x :: c, z :: w => by
    rw [List.map_cons, dot_cons, dot_cons, dot_neg1 c w, show x * -1 * z = -(x * z) by rw [Int.mul_neg, Int.mul_one, Int.neg_mul]]
    omega
theorem mx_neg {rows : List (List Int)} {k : Nat} (h : ∀ r ∈ rows, r.length = k) {c : List Int} (i : Nat) : mx (c.map (· * (-1))) rows k i = -mx c rows k i := by
  unfold mx vf
  rw [mixF_dot h, mixF_dot h, dot_neg1]
theorem vf_neg (r : List Int) (i : Nat) : vf (r.map (· * (-1))) i = -vf r i := by
  unfold vf
  by_cases hi : i < r.length
  · simp [List.getD, hi]
  · rw [List.getD_eq_getElem?_getD, List.getElem?_eq_none (by simp; omega), List.getD_eq_getElem?_getD, List.getElem?_eq_none (by omega)]
    rfl
theorem Low.neg {b : Nat} {r : List Int} (h : Low b r) : Low b (r.map (· * (-1))) := fun x hx => by
  obtain ⟨y, hy, rfl⟩ := List.mem_map.mp hx
  have := h y hy
  omega
/-- a row with its counts -/
structure RO (k n : Nat) (rows : List (List Int)) (s : Step) : Prop where
  l1 : s.1.length = k
  l2 : s.2.length = n
  m : ∀ i, vf s.1 i = mx s.2 rows k i
theorem RO.bl {k n : Nat} {rows : List (List Int)} (hr : ∀ r ∈ rows, r.length = k) {s t : Step} (h : RO k n rows s) (g : RO k n rows t) (a b : Int) : RO k n rows (blF a s.1 b t.1, blF a s.2 b t.2) where
  l1 := by show (blF a s.1 b t.1).length = k; rw [blF_length (by rw [g.l1, h.l1]), h.l1]
  l2 := by show (blF a s.2 b t.2).length = n; rw [blF_length (by rw [g.l2, h.l2]), h.l2]
  m := fun i => by
    show vf (blF a s.1 b t.1) i = mx (blF a s.2 b t.2) rows k i
    rw [blF_get (by rw [g.l1, h.l1]), mx_bl hr (by rw [g.l2, h.l2]), h.m, g.m]
theorem RO.neg {k n : Nat} {rows : List (List Int)} (hr : ∀ r ∈ rows, r.length = k) {s : Step} (h : RO k n rows s) : RO k n rows (s.1.map (· * (-1)), s.2.map (· * (-1))) where
  l1 := by show (s.1.map _).length = k; rw [List.length_map, h.l1]
  l2 := by show (s.2.map _).length = n; rw [List.length_map, h.l2]
  m := fun i => by
    show vf (s.1.map _) i = mx (s.2.map _) rows k i
    rw [vf_neg, mx_neg hr, h.m]
/-! ### steps -/
def GSt (ss : Steps) (p : Nat) (v : Ve) : Prop := ∃ s : Step, ss[p]? = some (some s) ∧ v = vf s.1
structure SOk (k n : Nat) (rows : List (List Int)) (ss : Steps) : Prop where
  len : ss.length = k
  ro : ∀ (p : Nat) (s : Step), ss[p]? = some (some s) → RO k n rows s
  st : ∀ (p : Nat) (s : Step), ss[p]? = some (some s) → Stp p (vf s.1)
theorem SOk.str {k n : Nat} {rows : List (List Int)} {ss : Steps} (h : SOk k n rows ss) : Sta (GSt ss) k where
  st := fun p r ⟨s, e, hr⟩ => hr ▸ h.st p s e
  one := fun p r r' ⟨s, e, hr⟩ ⟨s', e', hr'⟩ => by rw [e] at e'; cases e'; rw [hr, hr']
  lt := fun p r ⟨s, e, hr⟩ => by
    have := (List.getElem?_eq_some_iff.mp e).1
    rw [h.len] at this
    exact this
  end_ := fun p r ⟨s, e, hr⟩ i hi => by rw [hr]; exact vf_end (by rw [(h.ro p s e).l1]; exact hi)
theorem SOk.set {k n : Nat} {rows : List (List Int)} {ss : Steps} (h : SOk k n rows ss) {p : Nat} {s : Step} (h1 : RO k n rows s) (h2 : Stp p (vf s.1)) : SOk k n rows (ss.set p (some s)) where
  len := by rw [List.length_set, h.len]
  ro := fun q t e => by
    rw [List.getElem?_set] at e
    by_cases c : p = q
    · rw [if_pos c] at e
      split at e
      · cases e; exact h1
      · cases e
    · rw [if_neg c] at e
      exact h.ro q t e
  st := fun q t e => by
    rw [List.getElem?_set] at e
    by_cases c : p = q
    · rw [if_pos c] at e
      split at e
      · cases e; exact c ▸ h2
      · cases e
    · rw [if_neg c] at e
      exact h.st q t e
/-- all numbers of the rows, and of the counts, below bounds -/
def SLow (ss : Steps) (e c : Nat) : Prop := ∀ (p : Nat) (s : Step), ss[p]? = some (some s) → Low (2 ^ e) s.1 ∧ Low (2 ^ c) s.2
theorem SLow.up {ss : Steps} {e c e' c' : Nat} (h : SLow ss e c) (h1 : e ≤ e') (h2 : c ≤ c') : SLow ss e' c' := fun p s k => ⟨(h p s k).1.up h1, (h p s k).2.up h2⟩
theorem SLow.set {ss : Steps} {e c : Nat} (h : SLow ss e c) {p : Nat} {s : Step} (h1 : Low (2 ^ e) s.1) (h2 : Low (2 ^ c) s.2) : SLow (ss.set p (some s)) e c := fun q t k => by
  rw [List.getElem?_set] at k
  by_cases z : p = q
  · rw [if_pos z] at k
    split at k
    · cases k; exact ⟨h1, h2⟩
    · cases k
  · rw [if_neg z] at k
    exact h q t k
/-- the steps' rows and one more -/
def U (ss : Steps) (r : List Int) : Ve → Prop := fun v => (∃ p, GSt ss p v) ∨ v = vf r
theorem GSt.set_ne {ss : Steps} {p q : Nat} {s : Step} {v : Ve} (h : GSt ss q v) (c : p ≠ q) : GSt (ss.set p (some s)) q v := by
  obtain ⟨t, e, hv⟩ := h
  exact ⟨t, by rw [List.getElem?_set, if_neg c]; exact e, hv⟩
theorem GSt.set_eq {ss : Steps} {p : Nat} {s : Step} (h : p < ss.length) : GSt (ss.set p (some s)) p (vf s.1) := ⟨s, by rw [List.getElem?_set, if_pos rfl, if_pos h], rfl⟩
theorem GSt.of_set {ss : Steps} {p q : Nat} {s : Step} {v : Ve} (h : GSt (ss.set p (some s)) q v) : (q = p ∧ v = vf s.1) ∨ (q ≠ p ∧ GSt ss q v) := by
  obtain ⟨t, e, hv⟩ := h
  rw [List.getElem?_set] at e
  by_cases c : p = q
  · rw [if_pos c] at e
    split at e
    · cases e; exact .inl ⟨c.symm, hv⟩
    · cases e
  · rw [if_neg c] at e
    exact .inr ⟨fun z => c z.symm, t, e, hv⟩
/-- the step old and the row are turned into two others, and back -/
theorem U_turn {ss : Steps} {p : Nat} {old s : Step} {row row' : List Int} (hp : ss[p]? = some (some old)) {a b c d e f g i : Int} (h1 : ∀ j, vf s.1 j = a * vf old.1 j + b * vf row j) (h2 : ∀ j, vf row' j = c * vf old.1 j + d * vf row j)
    (h3 : ∀ j, vf old.1 j = e * vf s.1 j + f * vf row' j) (h4 : ∀ j, vf row j = g * vf s.1 j + i * vf row' j) :
    (∀ v, U (ss.set p (some s)) row' v → Sp (U ss row) v) ∧ ∀ v, U ss row v → Sp (U (ss.set p (some s)) row') v := by
  have lt : p < ss.length := (List.getElem?_eq_some_iff.mp hp).1
  have o1 : Sp (U ss row) (vf old.1) := Sp.base (.inl ⟨p, old, hp, rfl⟩)
  have o2 : Sp (U ss row) (vf row) := Sp.base (.inr rfl)
  have n1 : Sp (U (ss.set p (some s)) row') (vf s.1) := Sp.base (.inl ⟨p, GSt.set_eq lt⟩)
  have n2 : Sp (U (ss.set p (some s)) row') (vf row') := Sp.base (.inr rfl)
  constructor
  · rintro v (⟨q, hq⟩ | rfl)
    · rcases hq.of_set with ⟨_, rfl⟩ | ⟨_, k⟩
      · exact (o1.comb o2 a b).cast fun j => (h1 j).symm
      · exact Sp.base (.inl ⟨q, k⟩)
    · exact (o1.comb o2 c d).cast fun j => (h2 j).symm
  · rintro v (⟨q, hq⟩ | rfl)
    · by_cases z : p = q
      · subst z
        obtain ⟨t, e1, rfl⟩ := hq
        rw [hp] at e1
        cases e1
        exact (n1.comb n2 e f).cast fun j => (h3 j).symm
      · exact Sp.base (.inl ⟨q, hq.set_ne z⟩)
    · exact (n1.comb n2 g i).cast fun j => (h4 j).symm
end M

/-! lists summed place by place -/
namespace M
def plF (xs ys : List Int) : List Int := List.zipWith (· + ·) xs ys
def miF (xs ys : List Int) : List Int := List.zipWith (· - ·) xs ys
theorem plF_vf {xs ys : List Int} (h : ys.length = xs.length) (i : Nat) : vf (plF xs ys) i = vf xs i + vf ys i := by
  unfold plF vf
  by_cases hi : i < xs.length
  · simp [List.getD, hi, h]
  · rw [List.getD_eq_getElem?_getD, List.getElem?_eq_none (by simp; omega), List.getD_eq_getElem?_getD, List.getElem?_eq_none (by omega), List.getD_eq_getElem?_getD, List.getElem?_eq_none (by omega)]
    simp
theorem miF_vf {xs ys : List Int} (h : ys.length = xs.length) (i : Nat) : vf (miF xs ys) i = vf xs i - vf ys i := by
  unfold miF vf
  by_cases hi : i < xs.length
  · simp [List.getD, hi, h]
  · rw [List.getD_eq_getElem?_getD, List.getElem?_eq_none (by simp; omega), List.getD_eq_getElem?_getD, List.getElem?_eq_none (by omega), List.getD_eq_getElem?_getD, List.getElem?_eq_none (by omega)]
    simp
theorem plF_length {xs ys : List Int} (h : ys.length = xs.length) : (plF xs ys).length = xs.length := by unfold plF; rw [List.length_zipWith, h, Nat.min_self]
theorem miF_length {xs ys : List Int} (h : ys.length = xs.length) : (miF xs ys).length = xs.length := by unfold miF; rw [List.length_zipWith, h, Nat.min_self]
theorem plF_low {xs ys : List Int} {a : Nat} (h : ys.length = xs.length) (hx : Low (2 ^ a) xs) (hy : Low (2 ^ a) ys) : Low (2 ^ (a + 1)) (plF xs ys) := Low.of_vf fun i => by
  rw [plF_vf h]; exact add_lt_pow (hx.vf i) (hy.vf i)
theorem miF_low {xs ys : List Int} {a : Nat} (h : ys.length = xs.length) (hx : Low (2 ^ a) xs) (hy : Low (2 ^ a) ys) : Low (2 ^ (a + 1)) (miF xs ys) := Low.of_vf fun i => by
  rw [miF_vf h, Int.sub_eq_add_neg]; exact add_lt_pow (hx.vf i) (by rw [Int.natAbs_neg]; exact hy.vf i)
end M

/-! stairs as lists of rows -/
namespace M
structure Stair (k : Nat) (rs : List (List Int)) : Prop where
  len : ∀ r ∈ rs, r.length = k
  lead : ∀ r ∈ rs, 0 < vf r (pl r)
  inc : rs.Pairwise fun a b => pl a < pl b ∧ 0 ≤ vf a (pl b) ∧ vf a (pl b) < vf b (pl b)
def Ge (rs : List (List Int)) : Ve → Prop := fun v => ∃ r ∈ rs, v = vf r
def GL (rs : List (List Int)) (p : Nat) (v : Ve) : Prop := ∃ r ∈ rs, pl r = p ∧ v = vf r
theorem Gs_GL {rs : List (List Int)} {v : Ve} : Gs (GL rs) v ↔ Ge rs v := ⟨fun ⟨_, r, h, _, e⟩ => ⟨r, h, e⟩, fun ⟨r, h, e⟩ => ⟨pl r, r, h, rfl, e⟩⟩
theorem Sp.iff {R Q : Ve → Prop} (h : ∀ v, R v ↔ Q v) {v : Ve} : Sp R v ↔ Sp Q v := ⟨fun a => a.to fun r hr => Sp.base ((h r).mp hr), fun a => a.to fun r hr => Sp.base ((h r).mpr hr)⟩
theorem pl_lt {r : List Int} (h : 0 < vf r (pl r)) : pl r < r.length := by
  rcases Nat.lt_or_ge (pl r) r.length with z | z
  · exact z
  · rw [vf_end z] at h; omega
theorem pw_mem {α : Type} {R : α → α → Prop} : ∀ {xs : List α}, xs.Pairwise R → ∀ {a b : α}, a ∈ xs → b ∈ xs → a = b ∨ R a b ∨ R b a
  | [], _, a, b, h, _ => by cases h
  | x :: xs, h, a, b, ha, hb => by
    obtain ⟨h1, h2⟩ := List.pairwise_cons.mp h
    rcases List.mem_cons.mp ha with e | ka
    · rcases List.mem_cons.mp hb with f | kb
      · exact .inl (e.trans f.symm)
      · exact .inr (.inl (e ▸ h1 b kb))
    · rcases List.mem_cons.mp hb with f | kb
      · exact .inr (.inr (f ▸ h1 a ka))
      · exact pw_mem h2 ka kb
theorem Stair.str {k : Nat} {rs : List (List Int)} (h : Stair k rs) : Sta (GL rs) k where
  st := fun p v ⟨r, hr, hp, e⟩ => by
    subst hp e
    exact ⟨fun i hi => pl_zero hi, h.lead r hr⟩
  one := fun p v w ⟨r, hr, hp, e⟩ ⟨s, hs, hq, f⟩ => by
    rcases pw_mem h.inc hr hs with z | z | z
    · rw [e, f, z]
    · omega
    · omega
  lt := fun p v ⟨r, hr, hp, e⟩ => by
    have := pl_lt (h.lead r hr)
    rw [h.len r hr] at this
    omega
  end_ := fun p v ⟨r, hr, hp, e⟩ i hi => by rw [e]; exact vf_end (by rw [h.len r hr]; exact hi)
theorem Stair.tidy {k : Nat} {rs : List (List Int)} (h : Stair k rs) : Tidy (GL rs) := fun p v q w ⟨r, hr, hp, e⟩ ⟨s, hs, hq, f⟩ hpq => by
  subst hp hq e f
  rcases pw_mem h.inc hr hs with z | z | z
  · rw [z] at hpq; omega
  · exact z.2
  · omega
theorem sorted_eq {α : Type} (f : α → Nat) : ∀ {xs ys : List α}, xs.Pairwise (fun a b => f a < f b) → ys.Pairwise (fun a b => f a < f b) → (∀ a, a ∈ xs ↔ a ∈ ys) → xs = ys
  | [], [], _, _, _ => rfl
  | [], y :: ys, _, _, h => by have := (h y).mpr (by simp); cases this
  | x :: xs, [], _, _, h => by have := (h x).mp (by simp); cases this
  | x :: xs, y :: ys, h1, h2, h => by
    obtain ⟨a1, a2⟩ := List.pairwise_cons.mp h1
    obtain ⟨b1, b2⟩ := List.pairwise_cons.mp h2
    have e : x = y := by
      rcases List.mem_cons.mp ((h x).mp (by simp)) with z | z
      · exact z
      · rcases List.mem_cons.mp ((h y).mpr (by simp)) with w | w
        · exact w.symm
        · have := b1 x z; have := a1 y w; omega
    subst e
    rw [sorted_eq f a2 b2 fun a => ⟨fun ha => ?_, fun ha => ?_⟩]
    · rcases List.mem_cons.mp ((h a).mp (List.mem_cons_of_mem _ ha)) with z | z
      · subst z; have := a1 a ha; omega
      · exact z
    · rcases List.mem_cons.mp ((h a).mpr (List.mem_cons_of_mem _ ha)) with z | z
      · subst z; have := b1 a ha; omega
      · exact z
/-- of the same purses there is just one stair -/
theorem Stair.uniq {k : Nat} {rs ss : List (List Int)} (h : Stair k rs) (g : Stair k ss) (h1 : ∀ r ∈ rs, Sp (Ge ss) (vf r)) (h2 : ∀ r ∈ ss, Sp (Ge rs) (vf r)) : rs = ss := by
  have key : ∀ {rs ss : List (List Int)}, Stair k rs → Stair k ss → (∀ r ∈ rs, Sp (Ge ss) (vf r)) → (∀ r ∈ ss, Sp (Ge rs) (vf r)) → ∀ r ∈ rs, r ∈ ss := fun {rs ss} h g h1 h2 r hr => by
    obtain ⟨s, hs, hp, e⟩ := h.str.uniq g.str h.tidy g.tidy (fun v hv => by
      obtain ⟨r, hr, rfl⟩ := Gs_GL.mp hv
      exact (Sp.iff fun _ => Gs_GL).mpr (h1 r hr)) (fun v hv => by
      obtain ⟨r, hr, rfl⟩ := Gs_GL.mp hv
      exact (Sp.iff fun _ => Gs_GL).mpr (h2 r hr)) ⟨r, hr, rfl, rfl⟩
    have : r = s := vf_ext (by rw [h.len r hr, g.len s hs]) fun i => congrFun e i
    rw [this]; exact hs
  exact sorted_eq pl (h.inc.imp fun z => z.1) (g.inc.imp fun z => z.1) fun a => ⟨key h g h1 h2 a, key g h h2 h1 a⟩
/-! ### steps as a stair -/
def rungsOf (ss : Steps) : List (List Int) := (ss.filter Option.isSome).map fun a => (a.getD ([], [])).1
def countsOf (ss : Steps) : List (List Int) := (ss.filter Option.isSome).map fun a => (a.getD ([], [])).2
theorem mem_found {ss : Steps} {a : Option Step} (h : a ∈ ss.filter Option.isSome) : ∃ (p : Nat) (s : Step), ss[p]? = some (some s) ∧ a = some s := by
  obtain ⟨h1, h2⟩ := List.mem_filter.mp h
  obtain ⟨p, hp, rfl⟩ := List.mem_iff_getElem.mp h1
  cases e : ss[p] with
  | none => rw [e] at h2; cases h2
  | some s => exact ⟨p, s, by rw [List.getElem?_eq_getElem hp, e], rfl⟩
theorem mem_rungs {ss : Steps} {r : List Int} : r ∈ rungsOf ss ↔ ∃ (p : Nat) (s : Step), ss[p]? = some (some s) ∧ r = s.1 := by
  constructor
  · intro h
    obtain ⟨a, ha, rfl⟩ := List.mem_map.mp h
    obtain ⟨p, s, e, rfl⟩ := mem_found ha
    exact ⟨p, s, e, rfl⟩
  · rintro ⟨p, s, e, rfl⟩
    exact List.mem_map.mpr ⟨some s, List.mem_filter.mpr ⟨List.mem_of_getElem? e, rfl⟩, rfl⟩
theorem Stp.pl {p : Nat} {r : List Int} (h : Stp p (vf r)) : pl r = p := pl_unique (fun i hi => h.zero i hi) (by have := h.pos; unfold vf at this; omega)
theorem SOk.stair {k n : Nat} {rows : List (List Int)} {ss : Steps} (h : SOk k n rows ss) (td : Tidy (GSt ss)) : Stair k (rungsOf ss) where
  len := fun r hr => by
    obtain ⟨p, s, e, rfl⟩ := mem_rungs.mp hr
    exact (h.ro p s e).l1
  lead := fun r hr => by
    obtain ⟨p, s, e, rfl⟩ := mem_rungs.mp hr
    rw [(h.st p s e).pl]
    exact (h.st p s e).pos
  inc := by
    unfold rungsOf
    rw [List.pairwise_map]
    have base : ss.Pairwise fun a b => ∀ s t, a = some s → b = some t → M.pl s.1 < M.pl t.1 ∧ 0 ≤ vf s.1 (M.pl t.1) ∧ vf s.1 (M.pl t.1) < vf t.1 (M.pl t.1) := by
      rw [List.pairwise_iff_getElem]
      intro i j hi hj hij s t hs ht
      have e1 : ss[i]? = some (some s) := by rw [List.getElem?_eq_getElem hi, hs]
      have e2 : ss[j]? = some (some t) := by rw [List.getElem?_eq_getElem hj, ht]
      rw [(h.st i s e1).pl, (h.st j t e2).pl]
      exact ⟨hij, td i _ j _ ⟨s, e1, rfl⟩ ⟨t, e2, rfl⟩ hij⟩
    refine (base.filter Option.isSome).imp_of_mem fun {a b} ha hb k => ?_
    obtain ⟨p, s, _, rfl⟩ := mem_found ha
    obtain ⟨q, t, _, rfl⟩ := mem_found hb
    exact k s t rfl rfl
theorem Ge_rungs {ss : Steps} {v : Ve} : Ge (rungsOf ss) v ↔ ∃ p, GSt ss p v := by
  constructor
  · rintro ⟨r, hr, rfl⟩
    obtain ⟨p, s, e, rfl⟩ := mem_rungs.mp hr
    exact ⟨p, s, e, rfl⟩
  · rintro ⟨p, s, e, rfl⟩
    exact ⟨s.1, mem_rungs.mpr ⟨p, s, e, rfl⟩, rfl⟩
/-- a count of one row alone -/
def unit (n j : Nat) : List Int := (List.range n).map fun t => if t = j then 1 else 0
theorem dot_unit : ∀ (w : List Int) (n j : Nat), n = w.length → dot (unit n j) w = w.getD j 0
  | [], n, j, h => by simp [dot]
  | x :: w, 0, j, h => by simp at h
  | x :: w, n + 1, j, h => by
    unfold unit
    rw [List.range_succ_eq_map, List.map_cons, List.map_map, dot_cons]
    cases j with
    | zero =>
      have e : (List.range n).map ((fun t => if t = 0 then (1 : Int) else 0) ∘ Nat.succ) = List.replicate n 0 := by
        apply List.ext_getElem
        · simp
        · intro i h1 h2
          simp
      rw [e, dot_zero]
      simp
    | succ j =>
      have e : (List.range n).map ((fun t => if t = j + 1 then (1 : Int) else 0) ∘ Nat.succ) = unit n j := by
        unfold unit
        apply List.map_congr_left
        intro i _
        simp
      rw [e, dot_unit w n j (by simpa using h)]
      simp
theorem unit_length (n j : Nat) : (unit n j).length = n := by unfold unit; rw [List.length_map, List.length_range]
theorem unit_low (n j : Nat) : Low (2 ^ 1) (unit n j) := fun x hx => by
  unfold unit at hx
  obtain ⟨t, _, rfl⟩ := List.mem_map.mp hx
  split <;> decide
theorem mx_unit {rows : List (List Int)} {k j : Nat} (h : ∀ r ∈ rows, r.length = k) (hj : j < rows.length) (i : Nat) : mx (unit rows.length j) rows k i = vf rows[j] i := by
  unfold mx vf
  rw [mixF_dot h, dot_unit _ _ _ (by rw [List.length_map])]
  simp [List.getD, hj]
end M

/-! led down a stair -/
namespace M
theorem ledS_fst (s : List Int × List Int) (r : List Int) : (ledS s r).1 = s.1 ++ [(vf s.2 (pl r)).fdiv (vf r (pl r))] := rfl
theorem ledS_snd (s : List Int × List Int) (r : List Int) : (ledS s r).2 = offF r s.2 ((vf s.2 (pl r)).fdiv (vf r (pl r))) := rfl
theorem off_vf {row rest : List Int} {m : Int} (h : row.length = rest.length) (i : Nat) : vf (offF row rest m) i = vf rest i - m * vf row i := offF_get h i
theorem mx_get {cs : List Int} {ps : List (List Int)} {k : Nat} (h : ∀ r ∈ ps, r.length = k) (c : Nat) : mx cs ps k c = ((cs.zip ps).map fun p => p.2.getD c 0 * p.1).sum := mixF_get h c
/-- what stays of a purse led down rows, and how often each is taken off -/
theorem led_run {k : Nat} : ∀ (rungs : List (List Int)) (pre purse : List Int), purse.length = k → (∀ r ∈ rungs, r.length = k) → (∀ r ∈ rungs, 0 < vf r (pl r)) → rungs.Pairwise (fun a b => pl a < pl b) →
    ∃ ms rest, rungs.foldl ledS (pre, purse) = (pre ++ ms, rest) ∧ ms.length = rungs.length ∧ rest.length = k ∧ (∀ c, vf purse c = ((ms.zip rungs).map fun p => p.2.getD c 0 * p.1).sum + vf rest c) ∧
      (∀ r ∈ rungs, 0 ≤ vf rest (pl r) ∧ vf rest (pl r) < vf r (pl r)) ∧ ∀ c, (∀ r ∈ rungs, c < pl r) → vf rest c = vf purse c
  | [], pre, purse, h1, _, _, _ => ⟨[], purse, by simp, rfl, h1, fun c => by simp, (fun r hr => by cases hr), fun _ _ => rfl⟩
  | r :: rs, pre, purse, h1, h2, h3, h4 => by
    obtain ⟨p1, p2⟩ := List.pairwise_cons.mp h4
    have hl : r.length = purse.length := by rw [h2 r (by simp), h1]
    obtain ⟨m, hm⟩ : ∃ m, m = (vf purse (pl r)).fdiv (vf r (pl r)) := ⟨_, rfl⟩
    have lp := h3 r (by simp)
    obtain ⟨ms, rest, e, l1, l2, s, red, same⟩ := led_run rs (pre ++ [m]) (offF r purse m) (by rw [offF_length hl, h1]) (fun q hq => h2 q (by simp [hq])) (fun q hq => h3 q (by simp [hq])) p2
    refine ⟨m :: ms, rest, ?_, by rw [List.length_cons, l1, List.length_cons], l2, fun c => ?_, fun q hq => ?_, fun c hc => ?_⟩
    · rw [List.foldl_cons, show ledS (pre, purse) r = (pre ++ [m], offF r purse m) by rw [hm]; rfl, e, List.append_assoc]
      rfl
    · have := s c
      rw [off_vf hl] at this
      rw [List.zip_cons_cons, List.map_cons, List.sum_cons]
      show vf purse c = vf r c * m + _ + _
      rw [Int.mul_comm (vf r c)]
      omega
    · rcases List.mem_cons.mp hq with rfl | hq'
      · rw [same (pl q) fun t ht => p1 t ht, off_vf hl, hm, fdiv_pos lp]
        have h1 := Int.emod_nonneg (vf purse (pl q)) (show vf q (pl q) ≠ 0 by omega)
        have h2 := Int.emod_lt_of_pos (vf purse (pl q)) lp
        have h3 := Int.mul_ediv_add_emod (vf purse (pl q)) (vf q (pl q))
        rw [Int.mul_comm] at h3
        omega
      · exact red q hq'
    · rw [same c fun t ht => hc t (by simp [ht]), off_vf hl]
      have : vf r c = 0 := pl_zero (hc r (by simp))
      rw [this]; omega
theorem sum_Sp {k : Nat} : ∀ (ms : List Int) (rungs : List (List Int)), Sp (Ge rungs) fun c => ((ms.zip rungs).map fun p => p.2.getD c 0 * p.1).sum
  | [], rungs => Sp.zero.cast fun c => by simp
  | m :: ms, [] => Sp.zero.cast fun c => by simp
  | m :: ms, r :: rs => by
    have h1 : Sp (Ge (r :: rs)) (vf r) := Sp.base ⟨r, by simp, rfl⟩
    have h2 : Sp (Ge (r :: rs)) fun c => ((ms.zip rs).map fun p => p.2.getD c 0 * p.1).sum := (sum_Sp (k := k) ms rs).to fun v ⟨q, hq, e⟩ => Sp.base ⟨q, by simp [hq], e⟩
    exact (h1.comb h2 m 1).cast fun c => by
      rw [List.zip_cons_cons, List.map_cons, List.sum_cons]
      show m * vf r c + 1 * _ = vf r c * m + _
      rw [Int.mul_comm m]; omega
theorem mx_Sp {k : Nat} {ms : List Int} {rungs : List (List Int)} (h : ∀ r ∈ rungs, r.length = k) : Sp (Ge rungs) (mx ms rungs k) := (sum_Sp (k := k) ms rungs).cast fun c => (mx_get h c).symm
structure Led (k : Nat) (rungs : List (List Int)) (purse often rest : List Int) : Prop where
  l1 : often.length = rungs.length
  l2 : rest.length = k
  s : ∀ c, vf purse c = mx often rungs k c + vf rest c
  red : ∀ r ∈ rungs, 0 ≤ vf rest (pl r) ∧ vf rest (pl r) < vf r (pl r)
theorem Stair.led {k : Nat} {rungs : List (List Int)} (h : Stair k rungs) {purse : List Int} (hp : purse.length = k) : Led k rungs purse (ledF rungs purse).1 (ledF rungs purse).2 := by
  obtain ⟨ms, rest, e, l1, l2, s, red, _⟩ := led_run rungs [] purse hp h.len h.lead (h.inc.imp fun z => z.1)
  have e : ledF rungs purse = (ms, rest) := e
  rw [e]
  exact ⟨l1, l2, fun c => by rw [s c, mx_get h.len], red⟩
/-- a purse is made of the rows just where nothing is left -/
theorem Led.made {k : Nat} {rungs : List (List Int)} (h : Stair k rungs) {purse often rest : List Int} (l : Led k rungs purse often rest) : Sp (Ge rungs) (vf purse) ↔ ∀ i, vf rest i = 0 := by
  constructor
  · intro sp
    refine h.str.none (v := vf rest) ?_ fun p r ⟨q, hq, hp, e⟩ => ?_
    · exact ((Sp.iff fun _ => Gs_GL).mpr ((sp.sub (mx_Sp h.len (ms := often))).cast fun i => by rw [l.s i]; omega))
    · have := l.red q hq
      rw [e, ← hp]
      omega
  · intro z
    exact (mx_Sp h.len (ms := often)).cast fun i => by rw [l.s i, z i]; omega
theorem zeros {k : Nat} {rest : List Int} (h : rest.length = k) : (∀ i, vf rest i = 0) ↔ rest = List.replicate k 0 := by
  constructor
  · intro z
    refine vf_ext (by rw [h, List.length_replicate]) fun i => ?_
    rw [z i]
    unfold vf
    rw [List.getD_eq_getElem?_getD, List.getElem?_replicate]
    split <;> rfl
  · rintro rfl i
    unfold vf
    rw [List.getD_eq_getElem?_getD, List.getElem?_replicate]
    split <;> rfl
/-- there is just one such pair -/
theorem Led.uniq {k : Nat} {rungs : List (List Int)} (h : Stair k rungs) {purse often rest often' rest' : List Int} (l : Led k rungs purse often rest) (m : Led k rungs purse often' rest') : rest = rest' := by
  have z := h.str.none (v := fun i => vf rest i - vf rest' i) ((Sp.iff fun _ => Gs_GL).mpr (((mx_Sp h.len (ms := often')).sub (mx_Sp h.len (ms := often))).cast fun i => by have := l.s i; have := m.s i; omega)) fun p r ⟨q, hq, hp, e⟩ => by
    have a := l.red q hq
    have b := m.red q hq
    rw [e, ← hp]
    omega
  exact vf_ext (by rw [l.l2, m.l2]) fun i => by have := z i; omega
theorem led_low {k e : Nat} : ∀ (rungs : List (List Int)) (pre purse : List Int) (a c : Nat), purse.length = k → (∀ r ∈ rungs, r.length = k) → (∀ r ∈ rungs, 0 < vf r (pl r)) → (∀ r ∈ rungs, Low (2 ^ e) r) → Low (2 ^ a) purse → Low (2 ^ c) pre → a + rungs.length * (e + 2) ≤ c → Low (2 ^ c) (rungs.foldl ledS (pre, purse)).1
  | [], pre, purse, a, c, _, _, _, _, _, h, _ => h
  | r :: rs, pre, purse, a, c, h1, h2, h3, h4, h5, h6, h7 => by
    rw [List.length_cons, Nat.add_mul, Nat.one_mul] at h7
    have hl : r.length = purse.length := by rw [h2 r (by simp), h1]
    have mb : ((vf purse (pl r)).fdiv (vf r (pl r))).natAbs < 2 ^ a := Nat.lt_of_le_of_lt (fdiv_abs (h3 r (by simp))) (h5.vf _)
    refine led_low rs _ (ledS (pre, purse) r).2 (a + (e + 2)) c ?_ (fun q hq => h2 q (by simp [hq])) (fun q hq => h3 q (by simp [hq])) (fun q hq => h4 q (by simp [hq])) ?_ ?_ (by omega)
    · rw [ledS_snd, offF_length hl, h1]
    · rw [ledS_snd]; exact offF_low hl (h4 r (by simp)) h5 mb
    · show Low (2 ^ c) (pre ++ [(vf purse (pl r)).fdiv (vf r (pl r))])
      intro x hx
      rcases List.mem_append.mp hx with y | y
      · exact h6 x y
      · rw [List.mem_singleton.mp y]
        exact lt_pow_mono mb (by omega)
end M

namespace M
open PySem L2
def topS (i : Nat) : Stmt := PySem.Challenge.pw_swapmart_k03_purses_summed.main.body.getD i (.Pass ⟨0, 0, 0, 0⟩)
structure Txt (mg : Str → Option Value) : Prop where
  b_bool : mg "bool" = none
  b_int : mg "int" = none
  b_isinstance : mg "isinstance" = none
  b_len : mg "len" = none
  b_list : mg "list" = none
  b_range : mg "range" = none
section
variable {P : Program} {w : World} {K : PySem.W.Frag} {mg : Str → Option Value} {base : Heap} {cl : Cl}
abbrev s_fit : Stmt := topS 4
theorem sc_fit : FnScope ["one", "other"] ["one", "other"] (defScope s_fit) := ⟨rfl, rfl, rfl, by decide +kernel, rfl, by decide +kernel, by decide +kernel⟩
def b_fit : Sl → Fl := fun st => ifS (asB (bin2 neD (un1 lenD (getV 0 st)) (un1 lenD (getV 1 st)))) (.bad) (.nx st)
def m_fit : List D → Rs O := runD 2 2 b_fit
theorem d_fit {f : Addr} {fd : FuncData} (T : Txt mg) (F : Fun K "fit" "fit" s_fit f fd) (g : mg "fit" = some (.ref f)) (b : Binds K fd ["one", "other"] []) : CallOk P w K mg base cl "fit" 1 2 m_fit f fd ["one", "other"] := by
  refine CallOk.mk (def_ok (k := 0) (fb := b_fit) (N := ["one", "other"]) F sc_fit fun cdv A outer s H E hr => ?_) g F.kp b
  have nd := sc_fit.nd
  exact (s_one (s_if (t_cmp (fun _ => op_neD hr.units) o_ne (nomark _) (v_call1 (r := rLen K) (fun t h z => pe_callB call_len (by rfl) T.b_len PySem.boot_len (h z)) o_len (v_nm (fun _ => pv 0))) (v_call1 (r := rLen K) (fun t h z => pe_callB call_len (by rfl) T.b_len PySem.boot_len (h z)) o_len (v_nm (fun _ => pv 1)))) (s_one (s_never (fun _ => ps_never))) s_nil))
abbrev s_taken : Stmt := topS 7
theorem sc_taken : FnScope ["purse", "many", "number"] ["purse", "many"] (defScope s_taken) := ⟨rfl, rfl, rfl, by decide +kernel, rfl, by decide +kernel, by decide +kernel⟩
def e_taken_1 : Sl → Rs O := fun st => mapRs O.sh (asPrim (bin2 mulD (getV 2 st) (getV 1 st)))
def b_taken : Sl → Fl := fun st => retR (lcR (elemsR (getP 0 st)) (setN 2) (fun st => .ok true) e_taken_1 [2] st)
def m_taken : List D → Rs O := runD 3 2 b_taken
theorem d_taken {f : Addr} {fd : FuncData} (T : Txt mg) (F : Fun K "taken" "taken" s_taken f fd) (g : mg "taken" = some (.ref f)) (b : Binds K fd ["purse", "many"] []) : CallOk P w K mg base cl "taken" 1 2 m_taken f fd ["purse", "many"] := by
  refine CallOk.mk (def_ok (k := 0) (fb := b_taken) (N := ["purse", "many", "number"]) F sc_taken fun cdv A outer s H E hr => ?_) g F.kp b
  have nd := sc_taken.nd
  exact (s_one (s_ret (R := PEf _ _) (fun t h z => ps_ret (h z)) (f_lc (vs := [2]) (fun wi g tt te pi pg pt pe z => pe_lc (own := [("number", 2)]) rfl nd (pi z) (blkOk_by (by kernel_rfl)) (fun s H C c fp => pg (z, s, H, C, c, fp)) (fun s H C c fp => pt (z, s, H, C, c, fp)) (fun s H C c fp => pe (z, s, H, C, c, fp))) (i_list (p_nm (fun _ => pv 0))) (g_nm (fun z => pg_name (i := 2) nd rfl (.inl rfl))) t_none (EP.f (EV.prm (v_op (fun _ => op_mulX) o_mul (v_nm (fun _ => pv 2)) (v_nm (fun _ => pv 1))))))))
abbrev s__law_cell_at : Stmt := topS 9
theorem sc__law_cell_at : FnScope ["script", "k"] ["script", "k"] (defScope s__law_cell_at) := ⟨rfl, rfl, rfl, by decide +kernel, rfl, by decide +kernel, by decide +kernel⟩
def b__law_cell_at : Sl → Fl := fun st => (ifS (asB (bin2 ltD (getV 1 st) (un1 lenD (getV 0 st)))) (retR (mapRs O.sh (bin2 ixD (getP 0 st) (getV 1 st)))) (.nx st)).thn (fun st => retR (mapRs O.sh (.ok (.int 0))))
def m__law_cell_at : List D → Rs O := runD 2 2 b__law_cell_at
theorem d__law_cell_at {f : Addr} {fd : FuncData} (T : Txt mg) (F : Fun K "_law_cell_at" "_law_cell_at" s__law_cell_at f fd) (g : mg "_law_cell_at" = some (.ref f)) (b : Binds K fd ["script", "k"] []) : CallOk P w K mg base cl "_law_cell_at" 1 2 m__law_cell_at f fd ["script", "k"] := by
  refine CallOk.mk (def_ok (k := 0) (fb := b__law_cell_at) (N := ["script", "k"]) F sc__law_cell_at fun cdv A outer s H E hr => ?_) g F.kp b
  have nd := sc__law_cell_at.nd
  exact (s_cons (s_if (t_cmp (fun _ => op_lt) (g := ltD) o_cmp (nomark _) (v_nm (fun _ => pv 1)) (v_call1 (r := rLen K) (fun t h z => pe_callB call_len (by rfl) T.b_len PySem.boot_len (h z)) o_len (v_nm (fun _ => pv 0)))) (s_one (s_ret (R := PEf _ _) (fun t h z => ps_ret (h z)) (EP.f (p_ix (p_nm (fun _ => pv 0)) (v_nm (fun _ => pv 1)))))) s_nil) (s_one (s_ret (R := PEf _ _) (fun t h z => ps_ret (h z)) (EP.f p_int))))
abbrev s__law_whole : Stmt := topS 10
theorem sc__law_whole : FnScope ["found"] ["found"] (defScope s__law_whole) := ⟨rfl, rfl, rfl, by decide +kernel, rfl, by decide +kernel, by decide +kernel⟩
def b__law_whole : Sl → Fl := fun st => retR (mapRs O.sh (asPrim (andV (un1 (isi "int") (getV 0 st)) (notV (un1 (isi "bool") (getV 0 st))))))
def m__law_whole : List D → Rs O := runD 1 1 b__law_whole
theorem d__law_whole {f : Addr} {fd : FuncData} (T : Txt mg) (F : Fun K "_law_whole" "_law_whole" s__law_whole f fd) (g : mg "_law_whole" = some (.ref f)) (b : Binds K fd ["found"] []) : CallOk P w K mg base cl "_law_whole" 1 1 m__law_whole f fd ["found"] := by
  refine CallOk.mk (def_ok (k := 0) (fb := b__law_whole) (N := ["found"]) F sc__law_whole fun cdv A outer s H E hr => ?_) g F.kp b
  have nd := sc__law_whole.nd
  exact (s_one (s_ret (R := PEf _ _) (fun t h z => ps_ret (h z)) (EP.f (EV.prm (v_and (v_isi (T := "int") (fun t h z => pe_callB call_isi (by rfl) T.b_isinstance (by decide +kernel) (h z)) (fun _ => pe_bltn (by rfl) T.b_int (by decide +kernel) rfl) (v_nm (fun _ => pv 0))) (v_one (v_not (v_isi (T := "bool") (fun t h z => pe_callB call_isi (by rfl) T.b_isinstance (by decide +kernel) (h z)) (fun _ => pe_bltn (by rfl) T.b_bool (by decide +kernel) rfl) (v_nm (fun _ => pv 0))))))))))
abbrev s__law_number : Stmt := topS 11
theorem sc__law_number : FnScope ["cell"] ["cell"] (defScope s__law_number) := ⟨rfl, rfl, rfl, by decide +kernel, rfl, by decide +kernel, by decide +kernel⟩
def b__law_number : Sl → Fl := fun st => (ifS (asB (bin2 eqD (bin2 modD (getV 0 st) (.ok (.int 3))) (.ok (.int 0)))) (retR (mapRs O.sh (asPrim (bin2 subD (bin2 modD (bin2 fdivD (getV 0 st) (.ok (.int 3))) (.ok (.int 7))) (.ok (.int 3)))))) (.nx st)).thn (fun st => (ifS (asB (bin2 eqD (bin2 modD (getV 0 st) (.ok (.int 3))) (.ok (.int 1)))) (retR (mapRs O.sh (asPrim (bin2 subD (bin2 modD (bin2 fdivD (getV 0 st) (.ok (.int 3))) (.ok (.int 2001))) (.ok (.int 1000)))))) (.nx st)).thn (fun st => retR (mapRs O.sh (asPrim (bin2 subD (bin2 modD (bin2 fdivD (getV 0 st) (.ok (.int 3))) (bin2 addD (bin2 mulD (.ok (.int 2)) (bin2 powD (.ok (.int 10)) (.ok (.int 60)))) (.ok (.int 1)))) (bin2 powD (.ok (.int 10)) (.ok (.int 60))))))))
def m__law_number : List D → Rs O := runD 1 1 b__law_number
theorem d__law_number {f : Addr} {fd : FuncData} (T : Txt mg) (F : Fun K "_law_number" "_law_number" s__law_number f fd) (g : mg "_law_number" = some (.ref f)) (b : Binds K fd ["cell"] []) : CallOk P w K mg base cl "_law_number" 1 1 m__law_number f fd ["cell"] := by
  refine CallOk.mk (def_ok (k := 0) (fb := b__law_number) (N := ["cell"]) F sc__law_number fun cdv A outer s H E hr => ?_) g F.kp b
  have nd := sc__law_number.nd
  exact (s_cons (s_if (t_cmp (fun _ => op_eqD hr.units) o_eq (nomark _) (v_op (fun _ => op_modN) o_mod (v_nm (fun _ => pv 0)) v_int) v_int) (s_one (s_ret (R := PEf _ _) (fun t h z => ps_ret (h z)) (EP.f (EV.prm (v_op (fun _ => op_sub) o_sub (v_op (fun _ => op_modN) o_mod (v_op (fun _ => op_fdivX) o_fdiv (v_nm (fun _ => pv 0)) v_int) v_int) v_int))))) s_nil) (s_cons (s_if (t_cmp (fun _ => op_eqD hr.units) o_eq (nomark _) (v_op (fun _ => op_modN) o_mod (v_nm (fun _ => pv 0)) v_int) v_int) (s_one (s_ret (R := PEf _ _) (fun t h z => ps_ret (h z)) (EP.f (EV.prm (v_op (fun _ => op_sub) o_sub (v_op (fun _ => op_modN) o_mod (v_op (fun _ => op_fdivX) o_fdiv (v_nm (fun _ => pv 0)) v_int) v_int) v_int))))) s_nil) (s_one (s_ret (R := PEf _ _) (fun t h z => ps_ret (h z)) (EP.f (EV.prm (v_op (fun _ => op_sub) o_sub (v_op (fun _ => op_modN) o_mod (v_op (fun _ => op_fdivX) o_fdiv (v_nm (fun _ => pv 0)) v_int) (v_op (fun _ => op_addX) o_add (v_op (fun _ => op_mulX) o_mul v_int (v_op (fun _ => op_pow) o_pow v_int v_int)) v_int)) (v_op (fun _ => op_pow) o_pow v_int v_int))))))))
abbrev s_plus : Stmt := topS 5
theorem sc_plus : FnScope ["one", "other", "c"] ["one", "other"] (defScope s_plus) := ⟨rfl, rfl, rfl, by decide +kernel, rfl, by decide +kernel, by decide +kernel⟩
def e_plus_1 : Sl → Rs O := fun st => mapRs O.sh (asPrim (bin2 addD (bin2 ixD (getV 0 st) (getV 2 st)) (bin2 ixD (getV 1 st) (getV 2 st))))
def b_plus : Sl → Fl := fun st => (dropR (mapRs O.er (callR 2 m_fit (consR (getP 0 st) (consR (getP 1 st) (.ok []))))) st).thn (fun st => retR (lcR (range1 (un1 lenD (getV 0 st))) (setN 2) (fun st => .ok true) e_plus_1 [2] st))
def m_plus : List D → Rs O := runD 3 2 b_plus
theorem d_plus {f : Addr} {fd : FuncData} (T : Txt mg) (F : Fun K "plus" "plus" s_plus f fd) (g : mg "plus" = some (.ref f)) (b : Binds K fd ["one", "other"] []) {f_fit : Addr} {fd_fit : FuncData} {ps_fit : List Str} (C_fit : CallOk P w K mg base cl "fit" 1 2 m_fit f_fit fd_fit ps_fit) : CallOk P w K mg base cl "plus" 2 2 m_plus f fd ["one", "other"] := by
  refine CallOk.mk (def_ok (k := 1) (fb := b_plus) (N := ["one", "other", "c"]) F sc_plus fun cdv A outer s H E hr => ?_) g F.kp b
  have nd := sc_plus.nd
  exact (s_cons (s_expr (R := PEf _ _) (fun t h z => ps_expr (h z)) (EP.v (EF.p (f_call (fun t h z => pe_callS C_fit.F (hr.mono (by decide)) (by rfl) C_fit.g C_fit.kp C_fit.b (fun σ => passAt (takes_of rfl rfl rfl rfl) σ) (h z)) (ps_cons (p_nm (fun _ => pv 0)) (ps_cons (p_nm (fun _ => pv 1)) ps_nil)))))) (s_one (s_ret (R := PEf _ _) (fun t h z => ps_ret (h z)) (f_lc (vs := [2]) (fun wi g tt te pi pg pt pe z => pe_lc (own := [("c", 2)]) rfl nd (pi z) (blkOk_by (by kernel_rfl)) (fun s H C c fp => pg (z, s, H, C, c, fp)) (fun s H C c fp => pt (z, s, H, C, c, fp)) (fun s H C c fp => pe (z, s, H, C, c, fp))) (i_range1 (fun t h z => pi_range1 (by rfl) T.b_range (h z)) (v_call1 (r := rLen K) (fun t h z => pe_callB call_len (by rfl) T.b_len PySem.boot_len (h z)) o_len (v_nm (fun _ => pv 0)))) (g_nm (fun z => pg_name (i := 2) nd rfl (.inl rfl))) t_none (EP.f (EV.prm (v_op (fun _ => op_addX) o_add (v_ix (v_nm (fun _ => pv 0)) (v_nm (fun _ => pv 2))) (v_ix (v_nm (fun _ => pv 1)) (v_nm (fun _ => pv 2))))))))))
abbrev s_less : Stmt := topS 6
theorem sc_less : FnScope ["one", "other", "c"] ["one", "other"] (defScope s_less) := ⟨rfl, rfl, rfl, by decide +kernel, rfl, by decide +kernel, by decide +kernel⟩
def e_less_1 : Sl → Rs O := fun st => mapRs O.sh (asPrim (bin2 subD (bin2 ixD (getV 0 st) (getV 2 st)) (bin2 ixD (getV 1 st) (getV 2 st))))
def b_less : Sl → Fl := fun st => (dropR (mapRs O.er (callR 2 m_fit (consR (getP 0 st) (consR (getP 1 st) (.ok []))))) st).thn (fun st => retR (lcR (range1 (un1 lenD (getV 0 st))) (setN 2) (fun st => .ok true) e_less_1 [2] st))
def m_less : List D → Rs O := runD 3 2 b_less
theorem d_less {f : Addr} {fd : FuncData} (T : Txt mg) (F : Fun K "less" "less" s_less f fd) (g : mg "less" = some (.ref f)) (b : Binds K fd ["one", "other"] []) {f_fit : Addr} {fd_fit : FuncData} {ps_fit : List Str} (C_fit : CallOk P w K mg base cl "fit" 1 2 m_fit f_fit fd_fit ps_fit) : CallOk P w K mg base cl "less" 2 2 m_less f fd ["one", "other"] := by
  refine CallOk.mk (def_ok (k := 1) (fb := b_less) (N := ["one", "other", "c"]) F sc_less fun cdv A outer s H E hr => ?_) g F.kp b
  have nd := sc_less.nd
  exact (s_cons (s_expr (R := PEf _ _) (fun t h z => ps_expr (h z)) (EP.v (EF.p (f_call (fun t h z => pe_callS C_fit.F (hr.mono (by decide)) (by rfl) C_fit.g C_fit.kp C_fit.b (fun σ => passAt (takes_of rfl rfl rfl rfl) σ) (h z)) (ps_cons (p_nm (fun _ => pv 0)) (ps_cons (p_nm (fun _ => pv 1)) ps_nil)))))) (s_one (s_ret (R := PEf _ _) (fun t h z => ps_ret (h z)) (f_lc (vs := [2]) (fun wi g tt te pi pg pt pe z => pe_lc (own := [("c", 2)]) rfl nd (pi z) (blkOk_by (by kernel_rfl)) (fun s H C c fp => pg (z, s, H, C, c, fp)) (fun s H C c fp => pt (z, s, H, C, c, fp)) (fun s H C c fp => pe (z, s, H, C, c, fp))) (i_range1 (fun t h z => pi_range1 (by rfl) T.b_range (h z)) (v_call1 (r := rLen K) (fun t h z => pe_callB call_len (by rfl) T.b_len PySem.boot_len (h z)) o_len (v_nm (fun _ => pv 0)))) (g_nm (fun z => pg_name (i := 2) nd rfl (.inl rfl))) t_none (EP.f (EV.prm (v_op (fun _ => op_sub) o_sub (v_ix (v_nm (fun _ => pv 0)) (v_nm (fun _ => pv 2))) (v_ix (v_nm (fun _ => pv 1)) (v_nm (fun _ => pv 2))))))))))
abbrev s__law_rows : Stmt := topS 12
theorem sc__law_rows : FnScope ["cells", "many", "k", "rows", "n", "row", "j"] ["cells", "many", "k"] (defScope s__law_rows) := ⟨rfl, rfl, rfl, by decide +kernel, rfl, by decide +kernel, by decide +kernel⟩
def e__law_rows_1 : Sl → Rs O := fun st => repF (mapRs O.er (mapRs O.lst (consR (mapRs O.sh (.ok (.int 0))) (.ok [])))) (getV 2 st)
def l__law_rows_1 : Sl → Fl := fun st => ((if 5 < st.length then aliasR 3 5 (bin2 modD (bin2 fdivD (getV 4 st) (getV 2 st)) (getV 1 st)) (bin2 modD (getV 4 (st.set 5 none)) (getV 2 (st.set 5 none))) (bin2 modD (getV 4 (st.set 5 none)) (getV 2 (st.set 5 none))) (mapRs O.er (callR 1 m__law_number (consR (bin2 ixD (getP 0 (st.set 5 none)) (getV 4 (st.set 5 none))) (.ok [])))) st else .bad)).thn (fun st => .nx st)
def b__law_rows : Sl → Fl := fun st => (setO 3 (lcR (range1 (getV 1 st)) (setN 6) (fun st => .ok true) e__law_rows_1 [6] st) st).thn (fun st => (ifS (asB (bin2 gtD (bin2 mulD (getV 1 st) (getV 2 st)) (.ok (.int 0)))) (forR (range1 (un1 lenD (getV 0 st))) (setN 4) l__law_rows_1 st) (.nx st)).thn (fun st => retN 3 st))
def m__law_rows : List D → Rs O := runD 7 3 b__law_rows
theorem d__law_rows {f : Addr} {fd : FuncData} (T : Txt mg) (F : Fun K "_law_rows" "_law_rows" s__law_rows f fd) (g : mg "_law_rows" = some (.ref f)) (b : Binds K fd ["cells", "many", "k"] []) {f__law_number : Addr} {fd__law_number : FuncData} {ps__law_number : List Str} (C__law_number : CallOk P w K mg base cl "_law_number" 1 1 m__law_number f__law_number fd__law_number ps__law_number) : CallOk P w K mg base cl "_law_rows" 2 3 m__law_rows f fd ["cells", "many", "k"] := by
  refine CallOk.mk (def_ok (k := 1) (fb := b__law_rows) (N := ["cells", "many", "k", "rows", "n", "row", "j"]) F sc__law_rows fun cdv A outer s H E hr => ?_) g F.kp b
  have nd := sc__law_rows.nd
  exact (s_cons (s_setO (i := 3) (R := fun t => PSf _ _ (tAsg t (gName 3))) (fun t h => h) (f_lc (vs := [6]) (fun wi g tt te pi pg pt pe z => ps_setLc (i := 3) (own := [("j", 6)]) rfl nd rfl rfl (sw_true rfl rfl rfl (by decide +kernel)) (pi z) (blkOk_by (by kernel_rfl)) (fun s H C c fp => pg (z, s, H, C, c, fp)) (fun s H C c fp => pt (z, s, H, C, c, fp)) (fun s H C c fp => pe (z, s, H, C, c, fp))) (i_range1 (fun t h z => pi_range1 (by rfl) T.b_range (h z)) (v_nm (fun _ => pv 1))) (g_nm (fun z => pg_name (i := 6) nd rfl (.inl rfl))) t_none (f_rep (EF.p (f_lst (fs_cons (EP.f p_int) fs_nil))) (v_nm (fun _ => pv 2))))) (s_cons (s_if (t_cmp (fun _ => op_gt) (g := gtD) o_cmp (nomark _) (v_op (fun _ => op_mulX) o_mul (v_nm (fun _ => pv 1)) (v_nm (fun _ => pv 2))) v_int) (s_one (s_for (fun wi g tb a b c z => ps_for (by exact passes_of rfl) rfl (a z) (b z) (c z)) (i_range1 (fun t h z => pi_range1 (by rfl) T.b_range (h z)) (v_call1 (r := rLen K) (fun t h z => pe_callB call_len (by rfl) T.b_len PySem.boot_len (h z)) o_len (v_nm (fun _ => pv 0)))) (g_nm (fun z => pg_name (i := 4) nd rfl (.inl rfl))) (by refine' s_alias (i := 3) (r := 5) (fa := fun st => bin2 modD (bin2 fdivD (getV 4 st) (getV 2 st)) (getV 1 st)) (fk := fun st => bin2 modD (getV 4 st) (getV 2 st)) (fj := fun st => bin2 modD (getV 4 st) (getV 2 st)) (fe := fun st => mapRs O.er (callR 1 m__law_number (consR (bin2 ixD (getP 0 st) (getV 4 st)) (.ok [])))) (g := fun st => .nx st) (by decide) ?h1 ?h2 ?ha ?hk ?he ?hj ?hr; (case h1 => exact fun u h z => ps_set nd rfl (.inl rfl) (pe_ix ix_seq (pv 3) (h z) (fun _ _ => rfl))); (case h2 => exact fun u v w hk he hj z => ps_asg (pe_op op_addX (pe_ix ix_seq (pv 5) (hk z) (fun _ _ => rfl)) (he z)) (pg_sub (pv 5) (hj z) set_list)); (case ha => exact (v_op (fun _ => op_modN) o_mod (v_op (fun _ => op_fdivX) o_fdiv (v_nm (fun _ => pv 4)) (v_nm (fun _ => pv 2))) (v_nm (fun _ => pv 1)))); (case hk => exact (v_op (fun _ => op_modN) o_mod (v_nm (fun _ => pv 4)) (v_nm (fun _ => pv 2)))); (case he => exact (EP.v (EF.p (f_call (fun t h z => pe_callS C__law_number.F (hr.mono (by decide)) (by rfl) C__law_number.g C__law_number.kp C__law_number.b (fun σ => passAt takes0 σ) (h z)) (ps_cons (p_ix (p_nm (fun _ => pv 0)) (v_nm (fun _ => pv 4))) ps_nil))))); (case hj => exact (v_op (fun _ => op_modN) o_mod (v_nm (fun _ => pv 4)) (v_nm (fun _ => pv 2)))); (case hr => exact s_nil)))) s_nil) (s_one (s_retN (fun _ => ps_ret (pv 3))))))
abbrev s__law_same : Stmt := topS 13
theorem sc__law_same : FnScope ["found", "due", "c"] ["found", "due"] (defScope s__law_same) := ⟨rfl, rfl, rfl, by decide +kernel, rfl, by decide +kernel, by decide +kernel⟩
def l__law_same_1 : Sl → Fl := fun st => ifS (orT (notT (asB (mapRs O.er (callR 1 m__law_whole (consR (bin2 ixD (getP 0 st) (getV 2 st)) (.ok [])))))) (asB (bin2 neD (bin2 ixD (getV 0 st) (getV 2 st)) (bin2 ixD (getV 1 st) (getV 2 st))))) (retR (mapRs O.sh (.ok (.bl false)))) (.nx st)
def b__law_same : Sl → Fl := fun st => (ifS (orT (notT (asB (un1 (isi "list") (getV 0 st)))) (asB (bin2 neD (un1 lenD (getV 0 st)) (un1 lenD (getV 1 st))))) (retR (mapRs O.sh (.ok (.bl false)))) (.nx st)).thn (fun st => (forR (range1 (un1 lenD (getV 1 st))) (setN 2) l__law_same_1 st).thn (fun st => retR (mapRs O.sh (.ok (.bl true)))))
def m__law_same : List D → Rs O := runD 3 2 b__law_same
theorem d__law_same {f : Addr} {fd : FuncData} (T : Txt mg) (F : Fun K "_law_same" "_law_same" s__law_same f fd) (g : mg "_law_same" = some (.ref f)) (b : Binds K fd ["found", "due"] []) {f__law_whole : Addr} {fd__law_whole : FuncData} {ps__law_whole : List Str} (C__law_whole : CallOk P w K mg base cl "_law_whole" 1 1 m__law_whole f__law_whole fd__law_whole ps__law_whole) : CallOk P w K mg base cl "_law_same" 2 2 m__law_same f fd ["found", "due"] := by
  refine CallOk.mk (def_ok (k := 1) (fb := b__law_same) (N := ["found", "due", "c"]) F sc__law_same fun cdv A outer s H E hr => ?_) g F.kp b
  have nd := sc__law_same.nd
  exact (s_cons (s_if (t_w (w_or (t_not (t_val (v_isi (T := "list") (fun t h z => pe_callB call_isi (by rfl) T.b_isinstance (by decide +kernel) (h z)) (fun _ => pe_bltn (by rfl) T.b_list (by decide +kernel) rfl) (v_nm (fun _ => pv 0))))) (w_or1 (t_cmp (fun _ => op_neD hr.units) o_ne (nomark _) (v_call1 (r := rLen K) (fun t h z => pe_callB call_len (by rfl) T.b_len PySem.boot_len (h z)) o_len (v_nm (fun _ => pv 0))) (v_call1 (r := rLen K) (fun t h z => pe_callB call_len (by rfl) T.b_len PySem.boot_len (h z)) o_len (v_nm (fun _ => pv 1))))))) (s_one (s_ret (R := PEf _ _) (fun t h z => ps_ret (h z)) (EP.f p_bl))) s_nil) (s_cons (s_for (fun wi g tb a b c z => ps_for (by exact passes_of rfl) rfl (a z) (b z) (c z)) (i_range1 (fun t h z => pi_range1 (by rfl) T.b_range (h z)) (v_call1 (r := rLen K) (fun t h z => pe_callB call_len (by rfl) T.b_len PySem.boot_len (h z)) o_len (v_nm (fun _ => pv 1)))) (g_nm (fun z => pg_name (i := 2) nd rfl (.inl rfl))) (s_one (s_if (t_w (w_or (t_not (t_val (EP.v (EF.p (f_call (fun t h z => pe_callS C__law_whole.F (hr.mono (by decide)) (by rfl) C__law_whole.g C__law_whole.kp C__law_whole.b (fun σ => passAt (takes_of rfl rfl rfl rfl) σ) (h z)) (ps_cons (p_ix (p_nm (fun _ => pv 0)) (v_nm (fun _ => pv 2))) ps_nil)))))) (w_or1 (t_cmp (fun _ => op_neD hr.units) o_ne (nomark _) (v_ix (v_nm (fun _ => pv 0)) (v_nm (fun _ => pv 2))) (v_ix (v_nm (fun _ => pv 1)) (v_nm (fun _ => pv 2))))))) (s_one (s_ret (R := PEf _ _) (fun t h z => ps_ret (h z)) (EP.f p_bl))) s_nil))) (s_one (s_ret (R := PEf _ _) (fun t h z => ps_ret (h z)) (EP.f p_bl)))))
abbrev s_law : Stmt := topS 14
theorem sc_law : FnScope ["script", "k", "many", "one", "other", "handed", "told", "purse", "c"] ["script"] (defScope s_law) := ⟨rfl, rfl, rfl, by decide +kernel, rfl, by decide +kernel, by decide +kernel⟩
def l_law_1 : Sl → Fl := fun st => putR 7 (mapRs O.sh (asPrim (bin2 addD (bin2 ixD (getV 7 st) (getV 8 st)) (.ok (.int 1))))) (getV 8 st) st
def l_law_2 : Sl → Fl := fun st => forR (range1 (getV 1 st)) (setN 8) l_law_1 st
def e_law_1 : Sl → Rs O := fun st => mapRs O.sh (asPrim (bin2 addD (bin2 ixD (getV 3 st) (getV 8 st)) (bin2 ixD (getV 4 st) (getV 8 st))))
def e_law_2 : Sl → Rs O := fun st => mapRs O.sh (asPrim (bin2 subD (bin2 ixD (getV 3 st) (getV 8 st)) (bin2 ixD (getV 4 st) (getV 8 st))))
def e_law_3 : Sl → Rs O := fun st => mapRs O.sh (asPrim (bin2 mulD (bin2 ixD (getV 3 st) (getV 8 st)) (getV 2 st)))
def b_law : Sl → Fl := fun st => (setO 1 (mapRs O.sh (asPrim (bin2 modD (mapRs O.er (callR 2 m__law_cell_at (consR (getP 0 st) (consR (.ok (.int 0)) (.ok []))))) (.ok (.int 9))))) st).thn (fun st => (setO 2 (mapRs O.sh (mapRs O.er (callR 1 m__law_number (consR (mapRs O.er (callR 2 m__law_cell_at (consR (getP 0 st) (consR (.ok (.int 1)) (.ok []))))) (.ok []))))) st).thn (fun st => (ifS (asB (bin2 eqD (bin2 modD (bin2 fdivD (mapRs O.er (callR 2 m__law_cell_at (consR (getP 0 st) (consR (.ok (.int 0)) (.ok []))))) (.ok (.int 9))) (.ok (.int 3))) (.ok (.int 1)))) (setO 2 (mapRs O.sh (.ok (.int 1))) st) (.nx st)).thn (fun st => (asgR (setLst 2 (setCons (setN 3) (setCons (setN 4) (setNil)))) (mapRs O.er (callR 3 m__law_rows (consR (mapRs O.er (sliceF (getP 0 st) (asI (.ok (.int 2))) (asI (.ok (.int 82))))) (consR (.ok (.int 2)) (consR (getP 1 st) (.ok [])))))) st).thn (fun st => (setO 5 (mapRs O.lst (consR (listF (getP 3 st)) (consR (listF (getP 4 st)) (.ok [])))) st).thn (fun st => (setO 6 (mapRs O.sh (mapRs O.er (mapRs O.lst (consR (ownR (callR 2 m_plus (consR (bin2 ixD (getV 5 st) (.ok (.int 0))) (consR (bin2 ixD (getV 5 st) (.ok (.int 1))) (.ok []))))) (consR (ownR (callR 2 m_less (consR (bin2 ixD (getV 5 st) (.ok (.int 0))) (consR (bin2 ixD (getV 5 st) (.ok (.int 1))) (.ok []))))) (consR (ownR (callR 2 m_taken (consR (bin2 ixD (getV 5 st) (.ok (.int 0))) (consR (getV 2 st) (.ok []))))) (.ok []))))))) st).thn (fun st => (ifS (asB (bin2 neD (getV 5 st) (mapRs O.er (mapRs O.lst (consR (mapRs O.sh (getP 3 st)) (consR (mapRs O.sh (getP 4 st)) (.ok []))))))) (retR (mapRs O.sh (.ok (.bl false)))) (.nx st)).thn (fun st => (lendR 5 7 l_law_2 st).thn (fun st => (ifS (notT (asB (mapRs O.er (callR 2 m__law_same (consR (bin2 ixD (getP 6 st) (.ok (.int 0))) (consR (mapRs O.er (lcR (range1 (getV 1 st)) (setN 8) (fun st => .ok true) e_law_1 [8] st)) (.ok []))))))) (retR (mapRs O.sh (.ok (.bl false)))) (.nx st)).thn (fun st => (ifS (notT (asB (mapRs O.er (callR 2 m__law_same (consR (bin2 ixD (getP 6 st) (.ok (.int 1))) (consR (mapRs O.er (lcR (range1 (getV 1 st)) (setN 8) (fun st => .ok true) e_law_2 [8] st)) (.ok []))))))) (retR (mapRs O.sh (.ok (.bl false)))) (.nx st)).thn (fun st => retR (callR 2 m__law_same (consR (bin2 ixD (getP 6 st) (.ok (.int 2))) (consR (mapRs O.er (lcR (range1 (getV 1 st)) (setN 8) (fun st => .ok true) e_law_3 [8] st)) (.ok []))))))))))))))
def m_law : List D → Rs O := runD 9 1 b_law
theorem d_law {f : Addr} {fd : FuncData} (T : Txt mg) (F : Fun K "law" "law" s_law f fd) (g : mg "law" = some (.ref f)) (b : Binds K fd ["script"] []) {f__law_number : Addr} {fd__law_number : FuncData} {ps__law_number : List Str} (C__law_number : CallOk P w K mg base cl "_law_number" 1 1 m__law_number f__law_number fd__law_number ps__law_number) {f__law_rows : Addr} {fd__law_rows : FuncData} {ps__law_rows : List Str} (C__law_rows : CallOk P w K mg base cl "_law_rows" 2 3 m__law_rows f__law_rows fd__law_rows ps__law_rows) {f__law_same : Addr} {fd__law_same : FuncData} {ps__law_same : List Str} (C__law_same : CallOk P w K mg base cl "_law_same" 2 2 m__law_same f__law_same fd__law_same ps__law_same) {f__law_cell_at : Addr} {fd__law_cell_at : FuncData} {ps__law_cell_at : List Str} (C__law_cell_at : CallOk P w K mg base cl "_law_cell_at" 1 2 m__law_cell_at f__law_cell_at fd__law_cell_at ps__law_cell_at) {f_plus : Addr} {fd_plus : FuncData} {ps_plus : List Str} (C_plus : CallOk P w K mg base cl "plus" 2 2 m_plus f_plus fd_plus ps_plus) {f_less : Addr} {fd_less : FuncData} {ps_less : List Str} (C_less : CallOk P w K mg base cl "less" 2 2 m_less f_less fd_less ps_less) {f_taken : Addr} {fd_taken : FuncData} {ps_taken : List Str} (C_taken : CallOk P w K mg base cl "taken" 1 2 m_taken f_taken fd_taken ps_taken) : CallOk P w K mg base cl "law" 3 1 m_law f fd ["script"] := by
  refine CallOk.mk (def_ok (k := 2) (fb := b_law) (N := ["script", "k", "many", "one", "other", "handed", "told", "purse", "c"]) F sc_law fun cdv A outer s H E hr => ?_) g F.kp b
  have nd := sc_law.nd
  exact (s_cons (s_set (i := 1) (R := PEf _ _) (fun t h z => ps_set nd rfl (.inl rfl) (h z)) (EV.prm (v_op (fun _ => op_modN) o_mod (EP.v (EF.p (f_call (fun t h z => pe_callS C__law_cell_at.F (hr.mono (by decide)) (by rfl) C__law_cell_at.g C__law_cell_at.kp C__law_cell_at.b (fun σ => passAt (takes_of rfl rfl rfl rfl) σ) (h z)) (ps_cons (p_nm (fun _ => pv 0)) (ps_cons p_int ps_nil))))) v_int))) (s_cons (s_set (i := 2) (R := PEf _ _) (fun t h z => ps_set nd rfl (.inr rfl) (h z)) (EF.p (f_call (fun t h z => pe_callS C__law_number.F (hr.mono (by decide)) (by rfl) C__law_number.g C__law_number.kp C__law_number.b (fun σ => passAt (takes_of rfl rfl rfl rfl) σ) (h z)) (ps_cons (EF.p (f_call (fun t h z => pe_callS C__law_cell_at.F (hr.mono (by decide)) (by rfl) C__law_cell_at.g C__law_cell_at.kp C__law_cell_at.b (fun σ => passAt (takes_of rfl rfl rfl rfl) σ) (h z)) (ps_cons (p_nm (fun _ => pv 0)) (ps_cons p_int ps_nil)))) ps_nil)))) (s_cons (s_if (t_cmp (fun _ => op_eqD hr.units) o_eq (nomark _) (v_op (fun _ => op_modN) o_mod (v_op (fun _ => op_fdivX) o_fdiv (EP.v (EF.p (f_call (fun t h z => pe_callS C__law_cell_at.F (hr.mono (by decide)) (by rfl) C__law_cell_at.g C__law_cell_at.kp C__law_cell_at.b (fun σ => passAt (takes_of rfl rfl rfl rfl) σ) (h z)) (ps_cons (p_nm (fun _ => pv 0)) (ps_cons p_int ps_nil))))) v_int) v_int) v_int) (s_one (s_set (i := 2) (R := PEf _ _) (fun t h z => ps_set nd rfl (.inr rfl) (h z)) p_int)) s_nil) (s_cons (s_asg (R := PEf _ _) (fun t u h k z => ps_asg (h z) (k z)) (g_lst (n := 2) (fun t h z => pg_lst rfl (h z)) (gs_cons (g_nm (fun z => pg_name (i := 3) nd rfl (.inr rfl))) (gs_cons (g_nm (fun z => pg_name (i := 4) nd rfl (.inr rfl))) gs_nil))) (EF.p (f_call (fun t h z => pe_callS C__law_rows.F (hr.mono (by decide)) (by rfl) C__law_rows.g C__law_rows.kp C__law_rows.b (fun σ => passAt (takes_of rfl rfl rfl rfl) σ) (h z)) (ps_cons (EF.p (f_slice (p_nm (fun _ => pv 0)) (o_some v_int) (o_some v_int))) (ps_cons p_int (ps_cons (p_nm (fun _ => pv 1)) ps_nil)))))) (s_cons (s_setO (i := 5) (R := PEf _ _) (fun t h z => ps_set nd rfl (.inl rfl) (h z)) (f_lst (fs_cons (f_list (fun t h z => pe_callTy call_list_of (by rfl) T.b_list PyProof.Rows.boot_list (h z)) (p_nm (fun _ => pv 3))) (fs_cons (f_list (fun t h z => pe_callTy call_list_of (by rfl) T.b_list PyProof.Rows.boot_list (h z)) (p_nm (fun _ => pv 4))) fs_nil)))) (s_cons (s_set (i := 6) (R := PEf _ _) (fun t h z => ps_set nd rfl (.inl rfl) (h z)) (EF.p (f_lst (fs_cons (f_callV (fun t h z => pe_callS C_plus.F (hr.mono (by decide)) (by rfl) C_plus.g C_plus.kp C_plus.b (fun σ => passAt (takes_of rfl rfl rfl rfl) σ) (h z)) (vs_cons (v_ix (v_nm (fun _ => pv 5)) v_int) (vs_cons (v_ix (v_nm (fun _ => pv 5)) v_int) vs_nil))) (fs_cons (f_callV (fun t h z => pe_callS C_less.F (hr.mono (by decide)) (by rfl) C_less.g C_less.kp C_less.b (fun σ => passAt (takes_of rfl rfl rfl rfl) σ) (h z)) (vs_cons (v_ix (v_nm (fun _ => pv 5)) v_int) (vs_cons (v_ix (v_nm (fun _ => pv 5)) v_int) vs_nil))) (fs_cons (f_callV (fun t h z => pe_callS C_taken.F (hr.mono (by decide)) (by rfl) C_taken.g C_taken.kp C_taken.b (fun σ => passAt (takes_of rfl rfl rfl rfl) σ) (h z)) (vs_cons (v_ix (v_nm (fun _ => pv 5)) v_int) (vs_cons (v_nm (fun _ => pv 2)) vs_nil))) fs_nil)))))) (s_cons (s_if (t_cmp (fun _ => op_neD hr.units) o_ne (nomark _) (v_nm (fun _ => pv 5)) (EP.v (EF.p (f_lst (fs_cons (EP.f (p_nm (fun _ => pv 3))) (fs_cons (EP.f (p_nm (fun _ => pv 4))) fs_nil)))))) (s_one (s_ret (R := PEf _ _) (fun t h z => ps_ret (h z)) (EP.f p_bl))) s_nil) (s_cons (s_lend (i := 5) (x := 7) (by decide) (fun tb c z => ps_for (by exact passes_of rfl) rfl (pi_list (pv 5)) (pg_name (i := 7) nd rfl (.inl rfl)) (c z)) (s_one (s_for (fun wi g tb a b c z => ps_for (by exact passes_of rfl) rfl (a z) (b z) (c z)) (i_range1 (fun t h z => pi_range1 (by rfl) T.b_range (h z)) (v_nm (fun _ => pv 1))) (g_nm (fun z => pg_name (i := 8) nd rfl (.inl rfl))) (s_one (s_put (i := 7) (R := PEf _ _) (fun t u h k z => ps_asg (h z) (pg_sub (pv 7) (k z) set_list)) (EP.f (EV.prm (v_op (fun _ => op_addX) o_add (v_ix (v_nm (fun _ => pv 7)) (v_nm (fun _ => pv 8))) v_int))) (v_nm (fun _ => pv 8))))))) (s_cons (s_if (t_not (t_val (EP.v (EF.p (f_call (fun t h z => pe_callS C__law_same.F (hr.mono (by decide)) (by rfl) C__law_same.g C__law_same.kp C__law_same.b (fun σ => passAt (takes_of rfl rfl rfl rfl) σ) (h z)) (ps_cons (p_ix (p_nm (fun _ => pv 6)) v_int) (ps_cons (EF.p (f_lc (vs := [8]) (fun wi g tt te pi pg pt pe z => pe_lc (own := [("c", 8)]) rfl nd (pi z) (blkOk_by (by kernel_rfl)) (fun s H C c fp => pg (z, s, H, C, c, fp)) (fun s H C c fp => pt (z, s, H, C, c, fp)) (fun s H C c fp => pe (z, s, H, C, c, fp))) (i_range1 (fun t h z => pi_range1 (by rfl) T.b_range (h z)) (v_nm (fun _ => pv 1))) (g_nm (fun z => pg_name (i := 8) nd rfl (.inl rfl))) t_none (EP.f (EV.prm (v_op (fun _ => op_addX) o_add (v_ix (v_nm (fun _ => pv 3)) (v_nm (fun _ => pv 8))) (v_ix (v_nm (fun _ => pv 4)) (v_nm (fun _ => pv 8)))))))) ps_nil))))))) (s_one (s_ret (R := PEf _ _) (fun t h z => ps_ret (h z)) (EP.f p_bl))) s_nil) (s_cons (s_if (t_not (t_val (EP.v (EF.p (f_call (fun t h z => pe_callS C__law_same.F (hr.mono (by decide)) (by rfl) C__law_same.g C__law_same.kp C__law_same.b (fun σ => passAt (takes_of rfl rfl rfl rfl) σ) (h z)) (ps_cons (p_ix (p_nm (fun _ => pv 6)) v_int) (ps_cons (EF.p (f_lc (vs := [8]) (fun wi g tt te pi pg pt pe z => pe_lc (own := [("c", 8)]) rfl nd (pi z) (blkOk_by (by kernel_rfl)) (fun s H C c fp => pg (z, s, H, C, c, fp)) (fun s H C c fp => pt (z, s, H, C, c, fp)) (fun s H C c fp => pe (z, s, H, C, c, fp))) (i_range1 (fun t h z => pi_range1 (by rfl) T.b_range (h z)) (v_nm (fun _ => pv 1))) (g_nm (fun z => pg_name (i := 8) nd rfl (.inl rfl))) t_none (EP.f (EV.prm (v_op (fun _ => op_sub) o_sub (v_ix (v_nm (fun _ => pv 3)) (v_nm (fun _ => pv 8))) (v_ix (v_nm (fun _ => pv 4)) (v_nm (fun _ => pv 8)))))))) ps_nil))))))) (s_one (s_ret (R := PEf _ _) (fun t h z => ps_ret (h z)) (EP.f p_bl))) s_nil) (s_one (s_ret (R := PEf _ _) (fun t h z => ps_ret (h z)) (f_call (fun t h z => pe_callS C__law_same.F (hr.mono (by decide)) (by rfl) C__law_same.g C__law_same.kp C__law_same.b (fun σ => passAt (takes_of rfl rfl rfl rfl) σ) (h z)) (ps_cons (p_ix (p_nm (fun _ => pv 6)) v_int) (ps_cons (EF.p (f_lc (vs := [8]) (fun wi g tt te pi pg pt pe z => pe_lc (own := [("c", 8)]) rfl nd (pi z) (blkOk_by (by kernel_rfl)) (fun s H C c fp => pg (z, s, H, C, c, fp)) (fun s H C c fp => pt (z, s, H, C, c, fp)) (fun s H C c fp => pe (z, s, H, C, c, fp))) (i_range1 (fun t h z => pi_range1 (by rfl) T.b_range (h z)) (v_nm (fun _ => pv 1))) (g_nm (fun z => pg_name (i := 8) nd rfl (.inl rfl))) t_none (EP.f (EV.prm (v_op (fun _ => op_mulX) o_mul (v_ix (v_nm (fun _ => pv 3)) (v_nm (fun _ => pv 8))) (v_nm (fun _ => pv 2))))))) ps_nil)))))))))))))))
end
end M
namespace M
open PySem L2
def t_fit (v_one : D) (v_other : D) : Rs Unit := fitU (τ := Unit) (κ := Unit) <|
  itf (neT (ofD cI (dyn1 lenD (.ok v_one))) (ofD cI (dyn1 lenD (.ok v_other)))) (.bad) (.nx ())
theorem e_fit (v_one : D) (v_other : D) : Ro cN.ro (m_fit [cD.en v_one, cD.en v_other]) (t_fit v_one v_other) :=
  have h_0 : Mt [some (cD.ro v_one), some (cD.ro v_other)] ([cD.en v_one, cD.en v_other].map (fun d => some (O.sh d)) ++ List.replicate (2 - 2) none) := mt_some rfl (mt_some rfl (mt_rep 0))
  runD_q rfl (fin_qU (Q := fun _ _ => True) (B := fun _ _ => False) (k_if (q_asB (q_ne (c := cI) y_I (q_ofD (c := cI) (q_dyn1 (g := lenD) (Mt.V (c := cD) (a := v_one) h_0 rfl))) (q_ofD (c := cI) (q_dyn1 (g := lenD) (Mt.V (c := cD) (a := v_other) h_0 rfl))))) k_bad (k_nx trivial)))
def t_taken (v_purse : (List Int)) (v_many : Int) : Rs (List Int) := fit (τ := Unit) (κ := Unit) <|
  lt (lcT (.ok v_purse) (fun a_1 : Int => (.ok true)) (fun a_1 : Int => (mulI (.ok a_1) (.ok v_many)))) .rt
theorem e_taken (v_purse : (List Int)) (v_many : Int) : Ro (cL cI).ro (m_taken [(cL cI).en v_purse, cI.en v_many]) (t_taken v_purse v_many) :=
  have h_0 : Mt [some ((sh (cL cI)).ro v_purse), some (cI.ro v_many), none] ([(cL cI).en v_purse, cI.en v_many].map (fun d => some (O.sh d)) ++ List.replicate (3 - 2) none) := mt_some rfl (mt_some rfl (mt_rep 1))
  runD_q rfl (fin_q (Q := fun _ _ => True) (B := fun _ _ => False) (k_ret (c := (cL cI)) (q_lc (P := [some ((sh (cL cI)).ro v_purse), some (cI.ro v_many), none]) (vs := [2]) (g := cI.en) (c := cI) (q_elems (c := cI) (Mt.P (c := (cL cI)) (a := v_purse) h_0 rfl)) h_0 fun (a_1 : Int) _ (h_2 : Mt [some ((sh (cL cI)).ro v_purse), some (cI.ro v_many), none] _) => lc_body (P' := [some ((sh (cL cI)).ro v_purse), some (cI.ro v_many), some (cI.ro a_1)]) (tg_nm (c := cI) a_1 (Nat.le_of_ble_eq_true rfl)) h_2 fun _ (h_3 : Mt [some ((sh (cL cI)).ro v_purse), some (cI.ro v_many), some (cI.ro a_1)] _) => ⟨q_true, (q_shI (q_prim (c := cI) (fun _ => rfl) (q_mul (Mt.V (c := cI) (a := a_1) h_3 rfl) (Mt.V (c := cI) (a := v_many) h_3 rfl))))⟩) (su_refl _)))
def t__law_cell_at (v_script : (List Int)) (v_k : Int) : Rs Int := fit (τ := Unit) (κ := Unit) <|
  itf (ltI (.ok v_k) (lenL (.ok v_script))) (lt (ixL (.ok v_script) (.ok v_k)) .rt) <|
  lt (.ok 0) .rt
theorem e__law_cell_at (v_script : (List Int)) (v_k : Int) : Ro cI.ro (m__law_cell_at [cX.en v_script, cI.en v_k]) (t__law_cell_at v_script v_k) :=
  have h_0 : Mt [some (cX.ro v_script), some (cI.ro v_k)] ([cX.en v_script, cI.en v_k].map (fun d => some (O.sh d)) ++ List.replicate (2 - 2) none) := mt_some rfl (mt_some rfl (mt_rep 0))
  runD_q rfl (fin_q (Q := fun _ _ => True) (B := fun _ _ => False) (k_ifr (q_asB (q_lt (Mt.V (c := cI) (a := v_k) h_0 rfl) (q_lenX (Mt.V (c := cX) (a := v_script) h_0 rfl)))) (k_ret (c := cI) (q_shI (q_ixX (Mt.P (c := cX) (a := v_script) h_0 rfl) (Mt.V (c := cI) (a := v_k) h_0 rfl))) (su_refl _)) (k_ret (c := cI) (q_shI (q_int 0)) (su_refl _))))
def t__law_whole (v_found : Int) : Rs Bool := fit (τ := Unit) (κ := Unit) <|
  lt (andB (kindT true (.ok v_found)) (notB (kindT false (.ok v_found)))) .rt
theorem e__law_whole (v_found : Int) : Ro cB.ro (m__law_whole [cI.en v_found]) (t__law_whole v_found) :=
  have h_0 : Mt [some (cI.ro v_found)] ([cI.en v_found].map (fun d => some (O.sh d)) ++ List.replicate (1 - 1) none) := mt_some rfl (mt_rep 0)
  runD_q rfl (fin_q (Q := fun _ _ => True) (B := fun _ _ => False) (k_ret (c := cB) (q_shB (q_prim (c := cB) (fun _ => rfl) (q_andV (q_isi (c := cI) (fun _ => isi_int_int _) (Mt.V (c := cI) (a := v_found) h_0 rfl)) (q_notV (q_isi (c := cI) (fun _ => isi_bool_int _) (Mt.V (c := cI) (a := v_found) h_0 rfl)))))) (su_refl _)))
def t__law_number (v_cell : Int) : Rs Int := fit (τ := Unit) (κ := Unit) <|
  itf (eqT (modI (.ok v_cell) (.ok 3)) (.ok 0)) (lt (subI (modI (fdivI (.ok v_cell) (.ok 3)) (.ok 7)) (.ok 3)) .rt) <|
  itf (eqT (modI (.ok v_cell) (.ok 3)) (.ok 1)) (lt (subI (modI (fdivI (.ok v_cell) (.ok 3)) (.ok 2001)) (.ok 1000)) .rt) <|
  lt (subI (modI (fdivI (.ok v_cell) (.ok 3)) (addI (mulI (.ok 2) (powI (.ok 10) (.ok 60))) (.ok 1))) (powI (.ok 10) (.ok 60))) .rt
theorem e__law_number (v_cell : Int) : Ro cI.ro (m__law_number [cI.en v_cell]) (t__law_number v_cell) :=
  have h_0 : Mt [some (cI.ro v_cell)] ([cI.en v_cell].map (fun d => some (O.sh d)) ++ List.replicate (1 - 1) none) := mt_some rfl (mt_rep 0)
  runD_q rfl (fin_q (Q := fun _ _ => True) (B := fun _ _ => False) (k_ifr (q_asB (q_eq (c := cI) y_I (q_mod (Mt.V (c := cI) (a := v_cell) h_0 rfl) (q_int 3)) (q_int 0))) (k_ret (c := cI) (q_shI (q_prim (c := cI) (fun _ => rfl) (q_sub (q_mod (q_fdiv (Mt.V (c := cI) (a := v_cell) h_0 rfl) (q_int 3)) (q_int 7)) (q_int 3)))) (su_refl _)) (k_ifr (q_asB (q_eq (c := cI) y_I (q_mod (Mt.V (c := cI) (a := v_cell) h_0 rfl) (q_int 3)) (q_int 1))) (k_ret (c := cI) (q_shI (q_prim (c := cI) (fun _ => rfl) (q_sub (q_mod (q_fdiv (Mt.V (c := cI) (a := v_cell) h_0 rfl) (q_int 3)) (q_int 2001)) (q_int 1000)))) (su_refl _)) (k_ret (c := cI) (q_shI (q_prim (c := cI) (fun _ => rfl) (q_sub (q_mod (q_fdiv (Mt.V (c := cI) (a := v_cell) h_0 rfl) (q_int 3)) (q_add (q_mul (q_int 2) (q_pow (q_int 10) (q_int 60))) (q_int 1))) (q_pow (q_int 10) (q_int 60))))) (su_refl _)))))
def t_plus (v_one : (List Int)) (v_other : (List Int)) : Rs (List Int) := fit (τ := Unit) (κ := Unit) <|
  lt (ap2 t_fit (toD (cL cI) (.ok v_one)) (toD (cL cI) (.ok v_other))) fun _ =>
  lt (lcT (rng1 (lenL (.ok v_one))) (fun a_1 : Nat => (.ok true)) (fun a_1 : Nat => (addI (ixL (.ok v_one) (.ok (a_1 : Int))) (ixL (.ok v_other) (.ok (a_1 : Int)))))) .rt
theorem e_plus (v_one : (List Int)) (v_other : (List Int)) : Ro (cL cI).ro (m_plus [(cL cI).en v_one, (cL cI).en v_other]) (t_plus v_one v_other) :=
  have h_0 : Mt [some ((sh (cL cI)).ro v_one), some ((sh (cL cI)).ro v_other), none] ([(cL cI).en v_one, (cL cI).en v_other].map (fun d => some (O.sh d)) ++ List.replicate (3 - 2) none) := mt_some rfl (mt_some rfl (mt_rep 1))
  runD_q rfl (fin_q (Q := fun _ _ => True) (B := fun _ _ => False) (k_drop (e := cN.en) (q_er (c := cN) (q_call2 (c1 := cD) (c2 := cD) (cr := cN) e_fit (q_toD (c := (cL cI)) (Mt.P (c := (cL cI)) (a := v_one) h_0 rfl)) (q_toD (c := (cL cI)) (Mt.P (c := (cL cI)) (a := v_other) h_0 rfl)))) fun _ => (k_ret (c := (cL cI)) (q_lc (P := [some ((sh (cL cI)).ro v_one), some ((sh (cL cI)).ro v_other), none]) (vs := [2]) (g := (fun n : Nat => cI.en (n : Int))) (c := cI) (q_rng1 (q_len (c := cI) (Mt.V (c := (sh (cL cI))) (a := v_one) h_0 rfl))) h_0 fun (a_1 : Nat) _ (h_2 : Mt [some ((sh (cL cI)).ro v_one), some ((sh (cL cI)).ro v_other), none] _) => lc_body (P' := [some ((sh (cL cI)).ro v_one), some ((sh (cL cI)).ro v_other), some (cI.ro (a_1 : Int))]) (tg_nm (c := cI) (a_1 : Int) (Nat.le_of_ble_eq_true rfl)) h_2 fun _ (h_3 : Mt [some ((sh (cL cI)).ro v_one), some ((sh (cL cI)).ro v_other), some (cI.ro (a_1 : Int))] _) => ⟨q_true, (q_shI (q_prim (c := cI) (fun _ => rfl) (q_add (q_ix (c := cI) (Mt.V (c := (sh (cL cI))) (a := v_one) h_3 rfl) (Mt.V (c := cI) (a := (a_1 : Int)) h_3 rfl)) (q_ix (c := cI) (Mt.V (c := (sh (cL cI))) (a := v_other) h_3 rfl) (Mt.V (c := cI) (a := (a_1 : Int)) h_3 rfl)))))⟩) (su_refl _))))
def t_less (v_one : (List Int)) (v_other : (List Int)) : Rs (List Int) := fit (τ := Unit) (κ := Unit) <|
  lt (ap2 t_fit (toD (cL cI) (.ok v_one)) (toD (cL cI) (.ok v_other))) fun _ =>
  lt (lcT (rng1 (lenL (.ok v_one))) (fun a_1 : Nat => (.ok true)) (fun a_1 : Nat => (subI (ixL (.ok v_one) (.ok (a_1 : Int))) (ixL (.ok v_other) (.ok (a_1 : Int)))))) .rt
theorem e_less (v_one : (List Int)) (v_other : (List Int)) : Ro (cL cI).ro (m_less [(cL cI).en v_one, (cL cI).en v_other]) (t_less v_one v_other) :=
  have h_0 : Mt [some ((sh (cL cI)).ro v_one), some ((sh (cL cI)).ro v_other), none] ([(cL cI).en v_one, (cL cI).en v_other].map (fun d => some (O.sh d)) ++ List.replicate (3 - 2) none) := mt_some rfl (mt_some rfl (mt_rep 1))
  runD_q rfl (fin_q (Q := fun _ _ => True) (B := fun _ _ => False) (k_drop (e := cN.en) (q_er (c := cN) (q_call2 (c1 := cD) (c2 := cD) (cr := cN) e_fit (q_toD (c := (cL cI)) (Mt.P (c := (cL cI)) (a := v_one) h_0 rfl)) (q_toD (c := (cL cI)) (Mt.P (c := (cL cI)) (a := v_other) h_0 rfl)))) fun _ => (k_ret (c := (cL cI)) (q_lc (P := [some ((sh (cL cI)).ro v_one), some ((sh (cL cI)).ro v_other), none]) (vs := [2]) (g := (fun n : Nat => cI.en (n : Int))) (c := cI) (q_rng1 (q_len (c := cI) (Mt.V (c := (sh (cL cI))) (a := v_one) h_0 rfl))) h_0 fun (a_1 : Nat) _ (h_2 : Mt [some ((sh (cL cI)).ro v_one), some ((sh (cL cI)).ro v_other), none] _) => lc_body (P' := [some ((sh (cL cI)).ro v_one), some ((sh (cL cI)).ro v_other), some (cI.ro (a_1 : Int))]) (tg_nm (c := cI) (a_1 : Int) (Nat.le_of_ble_eq_true rfl)) h_2 fun _ (h_3 : Mt [some ((sh (cL cI)).ro v_one), some ((sh (cL cI)).ro v_other), some (cI.ro (a_1 : Int))] _) => ⟨q_true, (q_shI (q_prim (c := cI) (fun _ => rfl) (q_sub (q_ix (c := cI) (Mt.V (c := (sh (cL cI))) (a := v_one) h_3 rfl) (Mt.V (c := cI) (a := (a_1 : Int)) h_3 rfl)) (q_ix (c := cI) (Mt.V (c := (sh (cL cI))) (a := v_other) h_3 rfl) (Mt.V (c := cI) (a := (a_1 : Int)) h_3 rfl)))))⟩) (su_refl _))))
def tl__law_rows_1 (v_cells : (List Int)) (v_many : Int) (v_k : Int) (a_14 : Nat) (s_15 : (List (List Int))) : Ft ((List (List Int))) ((List (List Int))) (List (List Int)) :=
  lt (aliasL s_15 (modI (fdivI (.ok (a_14 : Int)) (.ok v_k)) (.ok v_many)) (modI (.ok (a_14 : Int)) (.ok v_k)) (modI (.ok (a_14 : Int)) (.ok v_k)) (ap1 t__law_number (ixL (.ok v_cells) (.ok (a_14 : Int))))) fun x_18 =>
  .nx x_18
theorem ql__law_rows_1 (v_cells : (List Int)) (v_many : Int) (v_k : Int) (a_14 : Nat) (s_15 : (List (List Int))) (st : Sl) (h_16 : Mt [some ((sh (cL cI)).ro v_cells), some (cI.ro v_many), some (cI.ro v_k), some ((cL (cL cI)).ro s_15), none, none, none] st) : ∃ st1, (setN 4) ((fun n : Nat => cI.en (n : Int)) a_14) st = some st1 ∧ Fr (fun (s_15 : (List (List Int))) st => Mt [some ((sh (cL cI)).ro v_cells), some (cI.ro v_many), some (cI.ro v_k), some ((cL (cL cI)).ro s_15), none, none, none] st) (fun (s_15 : (List (List Int))) st => Mt [some ((sh (cL cI)).ro v_cells), some (cI.ro v_many), some (cI.ro v_k), some ((cL (cL cI)).ro s_15), none, none, none] st) (cL (cL cI)).ro (l__law_rows_1 st1) (tl__law_rows_1 v_cells v_many v_k a_14 s_15) :=
  for_body (P' := [some ((sh (cL cI)).ro v_cells), some (cI.ro v_many), some (cI.ro v_k), some ((cL (cL cI)).ro s_15), some (cI.ro (a_14 : Int)), none, none]) (tg_nm (c := cI) (a_14 : Int) (Nat.le_of_ble_eq_true rfl)) h_16 fun _ (h_17 : Mt [some ((sh (cL cI)).ro v_cells), some (cI.ro v_many), some (cI.ro v_k), some ((cL (cL cI)).ro s_15), some (cI.ro (a_14 : Int)), none, none] _) => (k_alias (i := 3) (q := 5) (xs := s_15) h_17 rfl (q_mod (q_fdiv (Mt.V (c := cI) (a := (a_14 : Int)) h_17 rfl) (Mt.V (c := cI) (a := v_k) h_17 rfl)) (Mt.V (c := cI) (a := v_many) h_17 rfl)) (q_mod (Mt.V (c := cI) (a := (a_14 : Int)) (Mt.drop h_17 5 none) rfl) (Mt.V (c := cI) (a := v_k) (Mt.drop h_17 5 none) rfl)) (q_mod (Mt.V (c := cI) (a := (a_14 : Int)) (Mt.drop h_17 5 none) rfl) (Mt.V (c := cI) (a := v_k) (Mt.drop h_17 5 none) rfl)) (q_er (c := cI) (q_call1 (c1 := cI) (cr := cI) e__law_number (q_ix (c := cI) (Mt.P (c := (cL cI)) (a := v_cells) (Mt.drop h_17 5 none) rfl) (Mt.V (c := cI) (a := (a_14 : Int)) (Mt.drop h_17 5 none) rfl)))) (Nat.le_of_ble_eq_true rfl) (by decide) fun x_18 _ (h_19 : Mt [some ((sh (cL cI)).ro v_cells), some (cI.ro v_many), some (cI.ro v_k), some ((cL (cL cI)).ro x_18), some (cI.ro (a_14 : Int)), none, none] _) => (k_nx (Mt.weak (Q := [some ((sh (cL cI)).ro v_cells), some (cI.ro v_many), some (cI.ro v_k), some ((cL (cL cI)).ro x_18), none, none, none]) h_19 ⟨(fun _ x => x), ⟨(fun _ x => x), ⟨(fun _ x => x), ⟨(fun _ x => x), trivial⟩⟩⟩⟩)))
def t__law_rows (v_cells : (List Int)) (v_many : Int) (v_k : Int) : Rs (List (List Int)) := fit (τ := Unit) (κ := Unit) <|
  lt (lcT (rng1 (.ok v_many)) (fun a_1 : Nat => (.ok true)) (fun a_1 : Nat => (repL (consT (.ok 0) (.ok [])) (.ok v_k)))) fun rows_4 =>
  (itf (gtI (mulI (.ok v_many) (.ok v_k)) (.ok 0)) ((fort (rng1 (lenL (.ok v_cells))) (tl__law_rows_1 v_cells v_many v_k) rows_4).thn fun (s_20 : (List (List Int))) =>
  .nx s_20) (.nx rows_4)).thn fun (s_22 : (List (List Int))) =>
  .rt s_22
theorem e__law_rows (v_cells : (List Int)) (v_many : Int) (v_k : Int) : Ro (cL (cL cI)).ro (m__law_rows [(cL cI).en v_cells, cI.en v_many, cI.en v_k]) (t__law_rows v_cells v_many v_k) :=
  have h_0 : Mt [some ((sh (cL cI)).ro v_cells), some (cI.ro v_many), some (cI.ro v_k), none, none, none, none] ([(cL cI).en v_cells, cI.en v_many, cI.en v_k].map (fun d => some (O.sh d)) ++ List.replicate (7 - 3) none) := mt_some rfl (mt_some rfl (mt_some rfl (mt_rep 4)))
  runD_q rfl (fin_q (Q := fun _ _ => True) (B := fun _ _ => False) (k_set (i := 3) (c := (cL (cL cI))) h_0 (q_lc (P := [some ((sh (cL cI)).ro v_cells), some (cI.ro v_many), some (cI.ro v_k), none, none, none, none]) (vs := [6]) (g := (fun n : Nat => cI.en (n : Int))) (c := (cL cI)) (q_rng1 (Mt.V (c := cI) (a := v_many) h_0 rfl)) h_0 fun (a_1 : Nat) _ (h_2 : Mt [some ((sh (cL cI)).ro v_cells), some (cI.ro v_many), some (cI.ro v_k), none, none, none, none] _) => lc_body (P' := [some ((sh (cL cI)).ro v_cells), some (cI.ro v_many), some (cI.ro v_k), none, none, none, some (cI.ro (a_1 : Int))]) (tg_nm (c := cI) (a_1 : Int) (Nat.le_of_ble_eq_true rfl)) h_2 fun _ (h_3 : Mt [some ((sh (cL cI)).ro v_cells), some (cI.ro v_many), some (cI.ro v_k), none, none, none, some (cI.ro (a_1 : Int))] _) => ⟨q_true, (q_rep (c := cI) (q_er (c := (cL cI)) (q_lst (c := cI) (q_cons (q_shI (q_int 0)) (q_nil (p := cI.ro))))) (Mt.V (c := cI) (a := v_k) h_3 rfl))⟩) (Nat.le_of_ble_eq_true rfl) fun rows_4 _ (h_5 : Mt [some ((sh (cL cI)).ro v_cells), some (cI.ro v_many), some (cI.ro v_k), some ((cL (cL cI)).ro rows_4), none, none, none] _) => (k_thn (Q := fun (s_22 : (List (List Int))) st => Mt [some ((sh (cL cI)).ro v_cells), some (cI.ro v_many), some (cI.ro v_k), some ((cL (cL cI)).ro s_22), none, none, none] st) (k_if (q_asB (q_gt (q_mul (Mt.V (c := cI) (a := v_many) h_5 rfl) (Mt.V (c := cI) (a := v_k) h_5 rfl)) (q_int 0))) (k_last (k_thn (Q := fun (s_20 : (List (List Int))) st => Mt [some ((sh (cL cI)).ro v_cells), some (cI.ro v_many), some (cI.ro v_k), some ((cL (cL cI)).ro s_20), none, none, none] st) (k_for (g := (fun n : Nat => cI.en (n : Int))) (s0 := rows_4) (N := fun (s_20 : (List (List Int))) => [some ((sh (cL cI)).ro v_cells), some (cI.ro v_many), some (cI.ro v_k), some ((cL (cL cI)).ro s_20), none, none, none]) (q_rng1 (q_len (c := cI) (Mt.V (c := (sh (cL cI))) (a := v_cells) h_5 rfl))) h_5 fun a s st h => ql__law_rows_1 v_cells v_many v_k a s st h) fun s_20 _ h_21 => (k_nx h_21))) (k_nx h_5)) fun s_22 _ h_23 => (k_retN (i := 3) (c := (cL (cL cI))) (x := s_22) h_23 rfl (su_refl _)))))
def tl__law_same_1 (v_found : (List Int)) (v_due : (List Int)) (a_1 : Nat) (s_2 : Unit) : Ft (Unit) (Unit) Bool :=
  itf (orB (notB (ap1 t__law_whole (ixL (.ok v_found) (.ok (a_1 : Int))))) (neT (ixL (.ok v_found) (.ok (a_1 : Int))) (ixL (.ok v_due) (.ok (a_1 : Int))))) (lt (.ok false) .rt) (.nx ())
theorem ql__law_same_1 (v_found : (List Int)) (v_due : (List Int)) (a_1 : Nat) (s_2 : Unit) (st : Sl) (h_3 : Mt [some ((sh (cL cI)).ro v_found), some ((sh (cL cI)).ro v_due), none] st) : ∃ st1, (setN 2) ((fun n : Nat => cI.en (n : Int)) a_1) st = some st1 ∧ Fr (fun (s_2 : Unit) st => Mt [some ((sh (cL cI)).ro v_found), some ((sh (cL cI)).ro v_due), none] st) (fun (s_2 : Unit) st => Mt [some ((sh (cL cI)).ro v_found), some ((sh (cL cI)).ro v_due), none] st) cB.ro (l__law_same_1 st1) (tl__law_same_1 v_found v_due a_1 s_2) :=
  for_body (P' := [some ((sh (cL cI)).ro v_found), some ((sh (cL cI)).ro v_due), some (cI.ro (a_1 : Int))]) (tg_nm (c := cI) (a_1 : Int) (Nat.le_of_ble_eq_true rfl)) h_3 fun _ (h_4 : Mt [some ((sh (cL cI)).ro v_found), some ((sh (cL cI)).ro v_due), some (cI.ro (a_1 : Int))] _) => (k_if (q_orT (q_notT (q_asB (q_er (c := cB) (q_call1 (c1 := cI) (cr := cB) e__law_whole (q_ix (c := cI) (Mt.P (c := (cL cI)) (a := v_found) h_4 rfl) (Mt.V (c := cI) (a := (a_1 : Int)) h_4 rfl)))))) (q_asB (q_ne (c := cI) y_I (q_ix (c := cI) (Mt.V (c := (sh (cL cI))) (a := v_found) h_4 rfl) (Mt.V (c := cI) (a := (a_1 : Int)) h_4 rfl)) (q_ix (c := cI) (Mt.V (c := (sh (cL cI))) (a := v_due) h_4 rfl) (Mt.V (c := cI) (a := (a_1 : Int)) h_4 rfl))))) (k_ret (c := cB) (q_shB (q_bl false)) (su_refl _)) (k_nx (Mt.weak (Q := [some ((sh (cL cI)).ro v_found), some ((sh (cL cI)).ro v_due), none]) h_4 ⟨(fun _ x => x), ⟨(fun _ x => x), trivial⟩⟩)))
def t__law_same (v_found : (List Int)) (v_due : (List Int)) : Rs Bool := fit (τ := Unit) (κ := Unit) <|
  itf (orB (notB (kindT true (.ok v_found))) (neT (lenL (.ok v_found)) (lenL (.ok v_due)))) (lt (.ok false) .rt) <|
  (fort (rng1 (lenL (.ok v_due))) (tl__law_same_1 v_found v_due) ()).thn fun (s_5 : Unit) =>
  lt (.ok true) .rt
theorem e__law_same (v_found : (List Int)) (v_due : (List Int)) : Ro cB.ro (m__law_same [(cL cI).en v_found, (cL cI).en v_due]) (t__law_same v_found v_due) :=
  have h_0 : Mt [some ((sh (cL cI)).ro v_found), some ((sh (cL cI)).ro v_due), none] ([(cL cI).en v_found, (cL cI).en v_due].map (fun d => some (O.sh d)) ++ List.replicate (3 - 2) none) := mt_some rfl (mt_some rfl (mt_rep 1))
  runD_q rfl (fin_q (Q := fun _ _ => True) (B := fun _ _ => False) (k_ifr (q_orT (q_notT (q_asB (q_isi (c := (cL cI)) (fun _ => isi_list_lst _) (Mt.V (c := (sh (cL cI))) (a := v_found) h_0 rfl)))) (q_asB (q_ne (c := cI) y_I (q_len (c := cI) (Mt.V (c := (sh (cL cI))) (a := v_found) h_0 rfl)) (q_len (c := cI) (Mt.V (c := (sh (cL cI))) (a := v_due) h_0 rfl))))) (k_ret (c := cB) (q_shB (q_bl false)) (su_refl _)) (k_thn (Q := fun (s_5 : Unit) st => Mt [some ((sh (cL cI)).ro v_found), some ((sh (cL cI)).ro v_due), none] st) (k_for (g := (fun n : Nat => cI.en (n : Int))) (s0 := ()) (N := fun (s_5 : Unit) => [some ((sh (cL cI)).ro v_found), some ((sh (cL cI)).ro v_due), none]) (q_rng1 (q_len (c := cI) (Mt.V (c := (sh (cL cI))) (a := v_due) h_0 rfl))) h_0 fun a s st h => ql__law_same_1 v_found v_due a s st h) fun s_5 _ h_6 => (k_ret (c := cB) (q_shB (q_bl true)) (su_refl _)))))
def tl_law_1 (a_20 : Nat) (s_21 : (List Int)) : Ft ((List Int)) ((List Int)) Bool :=
  lt (putL s_21 (addI (ixL (.ok s_21) (.ok (a_20 : Int))) (.ok 1)) (.ok (a_20 : Int))) fun purse_24 =>
  .nx purse_24
theorem ql_law_1 (v_script : (List Int)) (v_k : Int) (v_many : Int) (v_one : (List Int)) (v_other : (List Int)) (v_told : (List (List Int))) (a_20 : Nat) (s_21 : (List Int)) (st : Sl) (h_22 : Mt [some (cX.ro v_script), some (cI.ro v_k), some (cI.ro v_many), some ((sh (cL cI)).ro v_one), some ((sh (cL cI)).ro v_other), none, some ((sh (cL (cL cI))).ro v_told), some ((cL cI).ro s_21), none] st) : ∃ st1, (setN 8) ((fun n : Nat => cI.en (n : Int)) a_20) st = some st1 ∧ Fr (fun (s_21 : (List Int)) st => Mt [some (cX.ro v_script), some (cI.ro v_k), some (cI.ro v_many), some ((sh (cL cI)).ro v_one), some ((sh (cL cI)).ro v_other), none, some ((sh (cL (cL cI))).ro v_told), some ((cL cI).ro s_21), none] st) (fun (s_21 : (List Int)) st => Mt [some (cX.ro v_script), some (cI.ro v_k), some (cI.ro v_many), some ((sh (cL cI)).ro v_one), some ((sh (cL cI)).ro v_other), none, some ((sh (cL (cL cI))).ro v_told), some ((cL cI).ro s_21), none] st) cB.ro (l_law_1 st1) (tl_law_1 a_20 s_21) :=
  for_body (P' := [some (cX.ro v_script), some (cI.ro v_k), some (cI.ro v_many), some ((sh (cL cI)).ro v_one), some ((sh (cL cI)).ro v_other), none, some ((sh (cL (cL cI))).ro v_told), some ((cL cI).ro s_21), some (cI.ro (a_20 : Int))]) (tg_nm (c := cI) (a_20 : Int) (Nat.le_of_ble_eq_true rfl)) h_22 fun _ (h_23 : Mt [some (cX.ro v_script), some (cI.ro v_k), some (cI.ro v_many), some ((sh (cL cI)).ro v_one), some ((sh (cL cI)).ro v_other), none, some ((sh (cL (cL cI))).ro v_told), some ((cL cI).ro s_21), some (cI.ro (a_20 : Int))] _) => (k_last (k_put (i := 7) (c := cI) (xs := s_21) h_23 rfl (q_shI (q_prim (c := cI) (fun _ => rfl) (q_add (q_ix (c := cI) (Mt.V (c := (cL cI)) (a := s_21) h_23 rfl) (Mt.V (c := cI) (a := (a_20 : Int)) h_23 rfl)) (q_int 1)))) (Mt.V (c := cI) (a := (a_20 : Int)) h_23 rfl) fun purse_24 _ (h_25 : Mt [some (cX.ro v_script), some (cI.ro v_k), some (cI.ro v_many), some ((sh (cL cI)).ro v_one), some ((sh (cL cI)).ro v_other), none, some ((sh (cL (cL cI))).ro v_told), some ((cL cI).ro purse_24), some (cI.ro (a_20 : Int))] _) => (k_nx (Mt.weak (Q := [some (cX.ro v_script), some (cI.ro v_k), some (cI.ro v_many), some ((sh (cL cI)).ro v_one), some ((sh (cL cI)).ro v_other), none, some ((sh (cL (cL cI))).ro v_told), some ((cL cI).ro purse_24), none]) h_25 ⟨(fun _ x => x), ⟨(fun _ x => x), ⟨(fun _ x => x), ⟨(fun _ x => x), ⟨(fun _ x => x), ⟨(fun _ x => x), ⟨(fun _ x => x), trivial⟩⟩⟩⟩⟩⟩⟩))))
def tl_law_2 (v_k : Int) (a_17 : (List Int)) (s_18 : Unit) : Ft (((List Int)) × (Unit)) (((List Int)) × (Unit)) Bool :=
  (fort (rng1 (.ok v_k)) (tl_law_1) a_17).thn fun (s_26 : (List Int)) =>
  .nx (s_26, ())
theorem ql_law_2 (v_script : (List Int)) (v_k : Int) (v_many : Int) (v_one : (List Int)) (v_other : (List Int)) (v_told : (List (List Int))) (a_17 : (List Int)) (s_18 : Unit) (st : Sl) (h_19 : Mt [some (cX.ro v_script), some (cI.ro v_k), some (cI.ro v_many), some ((sh (cL cI)).ro v_one), some ((sh (cL cI)).ro v_other), none, some ((sh (cL (cL cI))).ro v_told), some ((cL cI).ro a_17), none] st) : Fr (fun (p_28 : (((List Int)) × (Unit))) st => Mt [some (cX.ro v_script), some (cI.ro v_k), some (cI.ro v_many), some ((sh (cL cI)).ro v_one), some ((sh (cL cI)).ro v_other), none, some ((sh (cL (cL cI))).ro v_told), some ((cL cI).ro p_28.1), none] st) (fun (p_28 : (((List Int)) × (Unit))) st => Mt [some (cX.ro v_script), some (cI.ro v_k), some (cI.ro v_many), some ((sh (cL cI)).ro v_one), some ((sh (cL cI)).ro v_other), none, some ((sh (cL (cL cI))).ro v_told), some ((cL cI).ro p_28.1), none] st) cB.ro (l_law_2 st) (tl_law_2 v_k a_17 s_18) :=
  (k_last (k_thn (Q := fun (s_26 : (List Int)) st => Mt [some (cX.ro v_script), some (cI.ro v_k), some (cI.ro v_many), some ((sh (cL cI)).ro v_one), some ((sh (cL cI)).ro v_other), none, some ((sh (cL (cL cI))).ro v_told), some ((cL cI).ro s_26), none] st) (k_for (g := (fun n : Nat => cI.en (n : Int))) (s0 := a_17) (N := fun (s_26 : (List Int)) => [some (cX.ro v_script), some (cI.ro v_k), some (cI.ro v_many), some ((sh (cL cI)).ro v_one), some ((sh (cL cI)).ro v_other), none, some ((sh (cL (cL cI))).ro v_told), some ((cL cI).ro s_26), none]) (q_rng1 (Mt.V (c := cI) (a := v_k) h_19 rfl)) h_19 fun a s st h => ql_law_1 v_script v_k v_many v_one v_other v_told a s st h) fun s_26 _ h_27 => (k_nx h_27)))
def t_law (v_script : (List Int)) : Rs Bool := fit (τ := Unit) (κ := Unit) <|
  lt (modI (ap2 t__law_cell_at (.ok v_script) (.ok 0)) (.ok 9)) fun k_1 =>
  lt (ap1 t__law_number (ap2 t__law_cell_at (.ok v_script) (.ok 1))) fun many_3 =>
  (itf (eqT (modI (fdivI (ap2 t__law_cell_at (.ok v_script) (.ok 0)) (.ok 9)) (.ok 3)) (.ok 1)) (lt (.ok 1) fun many_7 =>
  .nx many_7) (.nx many_3)).thn fun (s_9 : Int) =>
  lt (twoL (ap3 t__law_rows (sliceL (.ok v_script) (someI (.ok 2)) (someI (.ok 82))) (.ok 2) (.ok k_1))) fun (p_11 : ((List Int) × (List Int))) =>
  lt (consT (.ok p_11.1) (consT (.ok p_11.2) (.ok []))) fun handed_13 =>
  lt (consT (ap2 t_plus (ixL (.ok handed_13) (.ok 0)) (ixL (.ok handed_13) (.ok 1))) (consT (ap2 t_less (ixL (.ok handed_13) (.ok 0)) (ixL (.ok handed_13) (.ok 1))) (consT (ap2 t_taken (ixL (.ok handed_13) (.ok 0)) (.ok s_9)) (.ok [])))) fun told_15 =>
  itf (neT (.ok handed_13) (consT (.ok p_11.1) (consT (.ok p_11.2) (.ok [])))) (lt (.ok false) .rt) <|
  (lendT (tl_law_2 k_1) [] handed_13 ()).thn fun (s_31 : (List (List Int)) × Unit) =>
  itf (notB (ap2 t__law_same (ixL (.ok told_15) (.ok 0)) (lcT (rng1 (.ok k_1)) (fun a_32 : Nat => (.ok true)) (fun a_32 : Nat => (addI (ixL (.ok p_11.1) (.ok (a_32 : Int))) (ixL (.ok p_11.2) (.ok (a_32 : Int)))))))) (lt (.ok false) .rt) <|
  itf (notB (ap2 t__law_same (ixL (.ok told_15) (.ok 1)) (lcT (rng1 (.ok k_1)) (fun a_35 : Nat => (.ok true)) (fun a_35 : Nat => (subI (ixL (.ok p_11.1) (.ok (a_35 : Int))) (ixL (.ok p_11.2) (.ok (a_35 : Int)))))))) (lt (.ok false) .rt) <|
  lt (ap2 t__law_same (ixL (.ok told_15) (.ok 2)) (lcT (rng1 (.ok k_1)) (fun a_38 : Nat => (.ok true)) (fun a_38 : Nat => (mulI (ixL (.ok p_11.1) (.ok (a_38 : Int))) (.ok s_9))))) .rt
theorem e_law (v_script : (List Int)) : Ro cB.ro (m_law [cX.en v_script]) (t_law v_script) :=
  have h_0 : Mt [some (cX.ro v_script), none, none, none, none, none, none, none, none] ([cX.en v_script].map (fun d => some (O.sh d)) ++ List.replicate (9 - 1) none) := mt_some rfl (mt_rep 8)
  runD_q rfl (fin_q (Q := fun _ _ => True) (B := fun _ _ => False) (k_set (i := 1) (c := cI) h_0 (q_shI (q_prim (c := cI) (fun _ => rfl) (q_mod (q_er (c := cI) (q_call2 (c1 := cX) (c2 := cI) (cr := cI) e__law_cell_at (Mt.P (c := cX) (a := v_script) h_0 rfl) (q_int 0))) (q_int 9)))) (Nat.le_of_ble_eq_true rfl) fun k_1 _ (h_2 : Mt [some (cX.ro v_script), some (cI.ro k_1), none, none, none, none, none, none, none] _) => (k_set (i := 2) (c := cI) h_2 (q_shI (q_er (c := cI) (q_call1 (c1 := cI) (cr := cI) e__law_number (q_er (c := cI) (q_call2 (c1 := cX) (c2 := cI) (cr := cI) e__law_cell_at (Mt.P (c := cX) (a := v_script) h_2 rfl) (q_int 1)))))) (Nat.le_of_ble_eq_true rfl) fun many_3 _ (h_4 : Mt [some (cX.ro v_script), some (cI.ro k_1), some (cI.ro many_3), none, none, none, none, none, none] _) => (k_thn (Q := fun (s_9 : Int) st => Mt [some (cX.ro v_script), some (cI.ro k_1), some (cI.ro s_9), none, none, none, none, none, none] st) (k_if (q_asB (q_eq (c := cI) y_I (q_mod (q_fdiv (q_er (c := cI) (q_call2 (c1 := cX) (c2 := cI) (cr := cI) e__law_cell_at (Mt.P (c := cX) (a := v_script) h_4 rfl) (q_int 0))) (q_int 9)) (q_int 3)) (q_int 1))) (k_last (k_set (i := 2) (c := cI) h_4 (q_shI (q_int 1)) (Nat.le_of_ble_eq_true rfl) fun many_7 _ (h_8 : Mt [some (cX.ro v_script), some (cI.ro k_1), some (cI.ro many_7), none, none, none, none, none, none] _) => (k_nx h_8))) (k_nx h_4)) fun s_9 _ h_10 => (k_asg (e := twoE (cL cI)) (P' := fun (p_11 : ((List Int) × (List Int))) => [some (cX.ro v_script), some (cI.ro k_1), some (cI.ro s_9), some ((sh (cL cI)).ro p_11.1), some ((sh (cL cI)).ro p_11.2), none, none, none, none]) h_10 (q_two (c := (cL cI)) (q_er (c := (cL (cL cI))) (q_call3 (c1 := (cL cI)) (c2 := cI) (c3 := cI) (cr := (cL (cL cI))) e__law_rows (q_er (c := (cL cI)) (q_sliceX (Mt.P (c := cX) (a := v_script) h_10 rfl) (q_asI (q_int 2)) (q_asI (q_int 82)))) (q_int 2) (Mt.P (c := cI) (a := k_1) h_10 rfl)))) (fun p_11 => (tg_lst (tgs_cons (tg_nm (c := (cL cI)) p_11.1 (Nat.le_of_ble_eq_true rfl)) (tgs_cons (tg_nm (c := (cL cI)) p_11.2 (Nat.le_of_ble_eq_true rfl)) tgs_nil)) rfl)) fun p_11 _ (h_12 : Mt [some (cX.ro v_script), some (cI.ro k_1), some (cI.ro s_9), some ((sh (cL cI)).ro p_11.1), some ((sh (cL cI)).ro p_11.2), none, none, none, none] _) => (k_set (i := 5) (c := (cL (cL cI))) h_12 (q_lst (c := (cL cI)) (q_cons (q_list (c := cI) (Mt.P (c := (cL cI)) (a := p_11.1) h_12 rfl)) (q_cons (q_list (c := cI) (Mt.P (c := (cL cI)) (a := p_11.2) h_12 rfl)) (q_nil (p := (cL cI).ro))))) (Nat.le_of_ble_eq_true rfl) fun handed_13 _ (h_14 : Mt [some (cX.ro v_script), some (cI.ro k_1), some (cI.ro s_9), some ((sh (cL cI)).ro p_11.1), some ((sh (cL cI)).ro p_11.2), some ((cL (cL cI)).ro handed_13), none, none, none] _) => (k_set (i := 6) (c := (sh (cL (cL cI)))) h_14 (q_sh (c := (cL (cL cI))) (q_er (c := (cL (cL cI))) (q_lst (c := (cL cI)) (q_cons (q_own (wn_L wn_I) (q_call2 (c1 := (cL cI)) (c2 := (cL cI)) (cr := (cL cI)) e_plus (q_ix (c := (cL cI)) (Mt.V (c := (cL (cL cI))) (a := handed_13) h_14 rfl) (q_int 0)) (q_ix (c := (cL cI)) (Mt.V (c := (cL (cL cI))) (a := handed_13) h_14 rfl) (q_int 1)))) (q_cons (q_own (wn_L wn_I) (q_call2 (c1 := (cL cI)) (c2 := (cL cI)) (cr := (cL cI)) e_less (q_ix (c := (cL cI)) (Mt.V (c := (cL (cL cI))) (a := handed_13) h_14 rfl) (q_int 0)) (q_ix (c := (cL cI)) (Mt.V (c := (cL (cL cI))) (a := handed_13) h_14 rfl) (q_int 1)))) (q_cons (q_own (wn_L wn_I) (q_call2 (c1 := (cL cI)) (c2 := cI) (cr := (cL cI)) e_taken (q_ix (c := (cL cI)) (Mt.V (c := (cL (cL cI))) (a := handed_13) h_14 rfl) (q_int 0)) (Mt.V (c := cI) (a := s_9) h_14 rfl))) (q_nil (p := (cL cI).ro)))))))) (Nat.le_of_ble_eq_true rfl) fun told_15 _ (h_16 : Mt [some (cX.ro v_script), some (cI.ro k_1), some (cI.ro s_9), some ((sh (cL cI)).ro p_11.1), some ((sh (cL cI)).ro p_11.2), some ((cL (cL cI)).ro handed_13), some ((sh (cL (cL cI))).ro told_15), none, none] _) => (k_ifr (q_asB (q_ne (c := (cL (cL cI))) (y_L (y_L y_I)) (Mt.V (c := (cL (cL cI))) (a := handed_13) h_16 rfl) (q_er (c := (cL (sh (cL cI)))) (q_lst (c := (sh (cL cI))) (q_cons (q_sh (c := (cL cI)) (Mt.P (c := (cL cI)) (a := p_11.1) h_16 rfl)) (q_cons (q_sh (c := (cL cI)) (Mt.P (c := (cL cI)) (a := p_11.2) h_16 rfl)) (q_nil (p := (sh (cL cI)).ro)))))))) (k_ret (c := cB) (q_shB (q_bl false)) (su_refl _)) (k_thn (Q := fun (s_31 : (List (List Int)) × Unit) st => Mt [some (cX.ro v_script), some (cI.ro k_1), some (cI.ro s_9), some ((sh (cL cI)).ro p_11.1), some ((sh (cL cI)).ro p_11.2), some ((cL (cL cI)).ro s_31.1), some ((sh (cL (cL cI))).ro told_15), none, none] st) (k_lend (i := 5) (x := 7) (c := (cL cI)) (N := fun (s_29 : Unit) => [some (cX.ro v_script), some (cI.ro k_1), some (cI.ro s_9), some ((sh (cL cI)).ro p_11.1), some ((sh (cL cI)).ro p_11.2), none, some ((sh (cL (cL cI))).ro told_15), none, none]) (xs := handed_13) (s0 := ()) (by decide) (fun _ => rfl) (fun _ => rfl) h_16 fun a s st h => ql_law_2 v_script k_1 s_9 p_11.1 p_11.2 told_15 a s st h) fun s_31 _ h_30 => (k_ifr (q_notT (q_asB (q_er (c := cB) (q_call2 (c1 := (cL cI)) (c2 := (cL cI)) (cr := cB) e__law_same (q_ix (c := (cL cI)) (Mt.P (c := (cL (cL cI))) (a := told_15) h_30 rfl) (q_int 0)) (q_er (c := (cL cI)) (q_lc (P := [some (cX.ro v_script), some (cI.ro k_1), some (cI.ro s_9), some ((sh (cL cI)).ro p_11.1), some ((sh (cL cI)).ro p_11.2), some ((cL (cL cI)).ro s_31.1), some ((sh (cL (cL cI))).ro told_15), none, none]) (vs := [8]) (g := (fun n : Nat => cI.en (n : Int))) (c := cI) (q_rng1 (Mt.V (c := cI) (a := k_1) h_30 rfl)) h_30 fun (a_32 : Nat) _ (h_33 : Mt [some (cX.ro v_script), some (cI.ro k_1), some (cI.ro s_9), some ((sh (cL cI)).ro p_11.1), some ((sh (cL cI)).ro p_11.2), some ((cL (cL cI)).ro s_31.1), some ((sh (cL (cL cI))).ro told_15), none, none] _) => lc_body (P' := [some (cX.ro v_script), some (cI.ro k_1), some (cI.ro s_9), some ((sh (cL cI)).ro p_11.1), some ((sh (cL cI)).ro p_11.2), some ((cL (cL cI)).ro s_31.1), some ((sh (cL (cL cI))).ro told_15), none, some (cI.ro (a_32 : Int))]) (tg_nm (c := cI) (a_32 : Int) (Nat.le_of_ble_eq_true rfl)) h_33 fun _ (h_34 : Mt [some (cX.ro v_script), some (cI.ro k_1), some (cI.ro s_9), some ((sh (cL cI)).ro p_11.1), some ((sh (cL cI)).ro p_11.2), some ((cL (cL cI)).ro s_31.1), some ((sh (cL (cL cI))).ro told_15), none, some (cI.ro (a_32 : Int))] _) => ⟨q_true, (q_shI (q_prim (c := cI) (fun _ => rfl) (q_add (q_ix (c := cI) (Mt.V (c := (sh (cL cI))) (a := p_11.1) h_34 rfl) (Mt.V (c := cI) (a := (a_32 : Int)) h_34 rfl)) (q_ix (c := cI) (Mt.V (c := (sh (cL cI))) (a := p_11.2) h_34 rfl) (Mt.V (c := cI) (a := (a_32 : Int)) h_34 rfl)))))⟩)))))) (k_ret (c := cB) (q_shB (q_bl false)) (su_refl _)) (k_ifr (q_notT (q_asB (q_er (c := cB) (q_call2 (c1 := (cL cI)) (c2 := (cL cI)) (cr := cB) e__law_same (q_ix (c := (cL cI)) (Mt.P (c := (cL (cL cI))) (a := told_15) h_30 rfl) (q_int 1)) (q_er (c := (cL cI)) (q_lc (P := [some (cX.ro v_script), some (cI.ro k_1), some (cI.ro s_9), some ((sh (cL cI)).ro p_11.1), some ((sh (cL cI)).ro p_11.2), some ((cL (cL cI)).ro s_31.1), some ((sh (cL (cL cI))).ro told_15), none, none]) (vs := [8]) (g := (fun n : Nat => cI.en (n : Int))) (c := cI) (q_rng1 (Mt.V (c := cI) (a := k_1) h_30 rfl)) h_30 fun (a_35 : Nat) _ (h_36 : Mt [some (cX.ro v_script), some (cI.ro k_1), some (cI.ro s_9), some ((sh (cL cI)).ro p_11.1), some ((sh (cL cI)).ro p_11.2), some ((cL (cL cI)).ro s_31.1), some ((sh (cL (cL cI))).ro told_15), none, none] _) => lc_body (P' := [some (cX.ro v_script), some (cI.ro k_1), some (cI.ro s_9), some ((sh (cL cI)).ro p_11.1), some ((sh (cL cI)).ro p_11.2), some ((cL (cL cI)).ro s_31.1), some ((sh (cL (cL cI))).ro told_15), none, some (cI.ro (a_35 : Int))]) (tg_nm (c := cI) (a_35 : Int) (Nat.le_of_ble_eq_true rfl)) h_36 fun _ (h_37 : Mt [some (cX.ro v_script), some (cI.ro k_1), some (cI.ro s_9), some ((sh (cL cI)).ro p_11.1), some ((sh (cL cI)).ro p_11.2), some ((cL (cL cI)).ro s_31.1), some ((sh (cL (cL cI))).ro told_15), none, some (cI.ro (a_35 : Int))] _) => ⟨q_true, (q_shI (q_prim (c := cI) (fun _ => rfl) (q_sub (q_ix (c := cI) (Mt.V (c := (sh (cL cI))) (a := p_11.1) h_37 rfl) (Mt.V (c := cI) (a := (a_35 : Int)) h_37 rfl)) (q_ix (c := cI) (Mt.V (c := (sh (cL cI))) (a := p_11.2) h_37 rfl) (Mt.V (c := cI) (a := (a_35 : Int)) h_37 rfl)))))⟩)))))) (k_ret (c := cB) (q_shB (q_bl false)) (su_refl _)) (k_ret (c := cB) (q_call2 (c1 := (cL cI)) (c2 := (cL cI)) (cr := cB) e__law_same (q_ix (c := (cL cI)) (Mt.P (c := (cL (cL cI))) (a := told_15) h_30 rfl) (q_int 2)) (q_er (c := (cL cI)) (q_lc (P := [some (cX.ro v_script), some (cI.ro k_1), some (cI.ro s_9), some ((sh (cL cI)).ro p_11.1), some ((sh (cL cI)).ro p_11.2), some ((cL (cL cI)).ro s_31.1), some ((sh (cL (cL cI))).ro told_15), none, none]) (vs := [8]) (g := (fun n : Nat => cI.en (n : Int))) (c := cI) (q_rng1 (Mt.V (c := cI) (a := k_1) h_30 rfl)) h_30 fun (a_38 : Nat) _ (h_39 : Mt [some (cX.ro v_script), some (cI.ro k_1), some (cI.ro s_9), some ((sh (cL cI)).ro p_11.1), some ((sh (cL cI)).ro p_11.2), some ((cL (cL cI)).ro s_31.1), some ((sh (cL (cL cI))).ro told_15), none, none] _) => lc_body (P' := [some (cX.ro v_script), some (cI.ro k_1), some (cI.ro s_9), some ((sh (cL cI)).ro p_11.1), some ((sh (cL cI)).ro p_11.2), some ((cL (cL cI)).ro s_31.1), some ((sh (cL (cL cI))).ro told_15), none, some (cI.ro (a_38 : Int))]) (tg_nm (c := cI) (a_38 : Int) (Nat.le_of_ble_eq_true rfl)) h_39 fun _ (h_40 : Mt [some (cX.ro v_script), some (cI.ro k_1), some (cI.ro s_9), some ((sh (cL cI)).ro p_11.1), some ((sh (cL cI)).ro p_11.2), some ((cL (cL cI)).ro s_31.1), some ((sh (cL (cL cI))).ro told_15), none, some (cI.ro (a_38 : Int))] _) => ⟨q_true, (q_shI (q_prim (c := cI) (fun _ => rfl) (q_mul (q_ix (c := cI) (Mt.V (c := (sh (cL cI))) (a := p_11.1) h_40 rfl) (Mt.V (c := cI) (a := (a_38 : Int)) h_40 rfl)) (Mt.V (c := cI) (a := s_9) h_40 rfl))))⟩))) (su_refl _)))))))))))))
end M
/-! typed: loops that may leave by a return -/
namespace M
open PySem L2
section
variable {α κ κ' ρ : Type}
theorem fot_inv' {b : α → κ → Ft κ κ ρ} (I : Nat → κ → Prop) (R : ρ → Prop) : ∀ (xs : List α) (n : Nat) (s : κ), I n s → (∀ (i : Nat) (a : α) (s : κ), xs[i]? = some a → I (n + i) s → (∃ s', (b a s = .nx s' ∨ b a s = .ct s') ∧ I (n + i + 1) s') ∨ ∃ x, b a s = .rt x ∧ R x) →
    (∃ s', (fot b xs s : Ft κ κ' ρ) = .nx s' ∧ I (n + xs.length) s') ∨ ∃ x, (fot b xs s : Ft κ κ' ρ) = .rt x ∧ R x
  | [], n, s, h0, _ => .inl ⟨s, rfl, h0⟩
  | a :: as, n, s, h0, step => by
    rcases step 0 a s rfl h0 with ⟨s1, e1, h1⟩ | ⟨x, e1, h1⟩
    · have := fot_inv' (b := b) I R as (n + 1) s1 h1 fun i a' s' ha hi => by
        have := step (i + 1) a' s' (by simpa using ha) (by rw [show n + (i + 1) = n + 1 + i by omega]; exact hi)
        rw [show n + (i + 1) = n + 1 + i by omega] at this
        exact this
      have e : (fot b (a :: as) s : Ft κ κ' ρ) = fot b as s1 := by
        rcases e1 with e1 | e1
        · exact fot_nx e1
        · exact fot_ct e1
      rw [e, List.length_cons, show n + (as.length + 1) = n + 1 + as.length by omega]
      exact this
    · exact .inr ⟨x, fot_rt e1, h1⟩
end
theorem range_get {n i a : Nat} (h : (List.range n)[i]? = some a) : i < n ∧ a = i := by
  rcases Nat.lt_or_ge i n with z | z
  · rw [List.getElem?_range z] at h
    cases h
    exact ⟨z, rfl⟩
  · rw [List.getElem?_eq_none (by rw [List.length_range]; exact z)] at h
    cases h
theorem vf_D {r : List Int} {j : Nat} (h : j < r.length) : ixL (.ok r) (.ok (j : Int)) = .ok (vf r j) := ixL_D 0 h
end M
namespace M
open PySem L2
section
variable {τ τ' κ ρ : Type}
theorem fit_thn {A : Ft τ κ ρ} {K : τ → Ft τ' κ ρ} {r : Rs ρ} {P : τ → Prop} (h : ∃ s, A = .nx s ∧ P s) (k : ∀ s, P s → fit (K s) = r) : fit (A.thn K) = r := by
  obtain ⟨s, e, p⟩ := h
  rw [e]
  exact k s p
theorem fot_all {α : Type} {b : α → Unit → Ft Unit Unit ρ} {xs : List α} (h : ∀ a ∈ xs, b a () = .nx ()) : (fot b xs () : Ft Unit κ ρ) = .nx () :=
  fot_fold (f := fun _ _ => ()) fun a ha _ => h a ha
end
end M
namespace M
theorem lcT_copy {α : Type} {s : List α} (h : s.length < 16000000) : lcT (.ok s) (fun _ => .ok true) (fun a : α => .ok a) = .ok s :=
  (lcT_map (f := id) h fun _ _ => rfl).trans (by rw [List.map_id])
end M

/-! typed: data whose kind isn't said -/
namespace M
open PySem L2
theorem dyn1_ok {g : D → Option D} {a : D} : dyn1 g (.ok a) = ofO (g a) := rfl
theorem dyn2_ok {g : D → D → Option D} {a b : D} : dyn2 g (.ok a) (.ok b) = ofO (g a b) := rfl
theorem ofD_I {n : Int} : ofD cI (.ok (.int n)) = .ok n := rfl
theorem ofD_B {n : Bool} : ofD cB (.ok (.bl n)) = .ok n := rfl
theorem ofD_LI {xs : List Int} : ofD (cL cI) (.ok (.lst (xs.map D.int))) = .ok xs := ofD_en (cL cI) xs
theorem ofD_LI' {xs : List Int} : ofD (cL cI) (.ok ((cL cI).en xs)) = .ok xs := ofD_en (cL cI) xs
theorem ofD_LD {ds : List D} : ofD (cL cD) (.ok (.lst ds)) = .ok ds := by
  have := ofD_en (cL cD) ds
  rw [show (cL cD).en ds = .lst ds from congrArg D.lst (List.map_id ds)] at this
  exact this
theorem lenD_L {α : Type} {c : Cd α} {xs : List α} : lenD ((cL c).en xs) = some (.int xs.length) := by
  show some (D.int ((xs.map c.en).length : Nat)) = _
  rw [List.length_map]
theorem enI (n : Int) : cI.en n = .int n := rfl
theorem enS (n : Str) : cS.en n = .str n := rfl
theorem enLI (xs : List Int) : (cL cI).en xs = .lst (xs.map D.int) := rfl
theorem lenD_LI {xs : List Int} : lenD (.lst (xs.map D.int)) = some (.int xs.length) := by
  rw [len_lst, List.length_map]
end M

/-! typed: cells, powers -/
namespace M
open PySem L2
theorem cut_len' (ns : List Int) (a b : Nat) (h : ns.length ≤ 63) : ((ns.drop a).take b).length ≤ 63 := by
  rw [List.length_take, List.length_drop]; omega
theorem t_cell_at (ns : List Int) (j : Nat) : t__law_cell_at ns (j : Int) = .ok (ns.getD j 0) := by
  unfold t__law_cell_at
  by_cases h : j < ns.length
  · simp only [lt_ok, lt_ex, thnT_nx, thnT_rt, thnT_bk, thnT_ct, thnT_ex, itf_t, itf_f, fort_ok, fot_nil, fit_rt, fit_ex, fitU_nx, fitU_rt, fitU_ex, addI_ok, subI_ok, maxI_ok, minI_ok, negI_ok, absI_ok, ltI_ok, leI_ok, gtI_ok, geI_ok, intB_ok, notB_ok, andB_t, andB_f, orB_t, orB_f, ifT_ok, eqT_ok, neT_ok, toD_ok, toSome_ok, ofSome_ok, isNo_ok, isSo_ok, projR_ok, lenL_ok, theI_ok, sumI_ok, allB_ok, anyB_ok, kindT_ok, someI_ok, sliceL_ok, consT_ok, pair2_ok, pair3_ok, pair4_ok, ap1_ok, ap2_ok, ap3_ok, ap4_ok, ap5_ok, ap6_ok, zipT_ok, two_ok, enumT_ok, revT_ok, bind_ok, xk_ok, xb_ok, twoL_ok, xnot_ok, xand_t, xand_f, xor_t, xor_f, xcall_ok, xio_ok, xlist_ok, ifx_t, ifx_f, forx_ok, xrng_ok, fitIO_nx, fitIO_rt, decide_eq_true (show (j : Int) < (ns.length : Int) by omega), ixL_D 0 h]
  · simp only [lt_ok, lt_ex, thnT_nx, thnT_rt, thnT_bk, thnT_ct, thnT_ex, itf_t, itf_f, fort_ok, fot_nil, fit_rt, fit_ex, fitU_nx, fitU_rt, fitU_ex, addI_ok, subI_ok, maxI_ok, minI_ok, negI_ok, absI_ok, ltI_ok, leI_ok, gtI_ok, geI_ok, intB_ok, notB_ok, andB_t, andB_f, orB_t, orB_f, ifT_ok, eqT_ok, neT_ok, toD_ok, toSome_ok, ofSome_ok, isNo_ok, isSo_ok, projR_ok, lenL_ok, theI_ok, sumI_ok, allB_ok, anyB_ok, kindT_ok, someI_ok, sliceL_ok, consT_ok, pair2_ok, pair3_ok, pair4_ok, ap1_ok, ap2_ok, ap3_ok, ap4_ok, ap5_ok, ap6_ok, zipT_ok, two_ok, enumT_ok, revT_ok, bind_ok, xk_ok, xb_ok, twoL_ok, xnot_ok, xand_t, xand_f, xor_t, xor_f, xcall_ok, xio_ok, xlist_ok, ifx_t, ifx_f, forx_ok, xrng_ok, fitIO_nx, fitIO_rt, decide_eq_false (show ¬ (j : Int) < (ns.length : Int) by omega)]
    rw [List.getD_eq_getElem?_getD, List.getElem?_eq_none (by omega)]
    rfl
theorem fmod_nat (c : Int) {m : Nat} (h : 0 < m) : ∃ a : Nat, c.fmod (m : Int) = (a : Int) ∧ a < m := by
  have h1 := Int.emod_nonneg c (show (m : Int) ≠ 0 by omega)
  have h2 := Int.emod_lt_of_pos c (show 0 < (m : Int) by omega)
  exact ⟨(c % m).toNat, by rw [fmod_pos (by omega)]; omega, by omega⟩
/-- a cell divided, then brought round -/
theorem dm (c : Int) (a m : Nat) (ha : 0 < a ∧ a < 1073741824) (hm : 0 < m) : ∃ x : Nat, x < m ∧ modI (fdivI (.ok c) (.ok (a : Int))) (.ok (m : Int)) = .ok (x : Int) := by
  obtain ⟨x, hx, lt⟩ := fmod_nat (c.fdiv (a : Int)) hm
  exact ⟨x, lt, by rw [fdivI_ok (divOk_small (by omega) (by omega)), modI_ok (by omega), hx]⟩
theorem md (c : Int) (m : Nat) (hm : 0 < m) : ∃ x : Nat, x < m ∧ modI (.ok c) (.ok (m : Int)) = .ok (x : Int) := by
  obtain ⟨x, hx, lt⟩ := fmod_nat c hm
  exact ⟨x, lt, by rw [modI_ok (by omega), hx]⟩
theorem pow10_60 : powI (.ok 10) (.ok 60) = .ok ((10 ^ 60 : Nat) : Int) := by
  rw [powI_ok (by unfold powOk; decide)]
  rfl
theorem pow10_12 : powI (.ok 10) (.ok 12) = .ok ((10 ^ 12 : Nat) : Int) := by
  rw [powI_ok (by unfold powOk; decide)]
  rfl
theorem pow10_9 : powI (.ok 10) (.ok 9) = .ok ((10 ^ 9 : Nat) : Int) := by
  rw [powI_ok (by unfold powOk; decide)]
  rfl
theorem pow10_6 : powI (.ok 10) (.ok 6) = .ok ((10 ^ 6 : Nat) : Int) := by
  rw [powI_ok (by unfold powOk; decide)]
  rfl
theorem modw' {c : Int} {most : Nat} : (c.fmod (2 * (most : Int) + 1) - most).natAbs ≤ most := by
  rw [fmod_pos (by omega)]
  have h1 := Int.emod_nonneg c (show (2 * (most : Int) + 1) ≠ 0 by omega)
  have h2 := Int.emod_lt_of_pos c (show 0 < (2 * (most : Int) + 1) by omega)
  omega
end M

/-! typed: purses summed, mixed, weighed -/
namespace M
open PySem L2
theorem t_fit_L {α β : Type} {c : Cd α} {d : Cd β} {xs : List α} {ys : List β} (h : xs.length = ys.length) : t_fit ((cL c).en xs) ((cL d).en ys) = .ok () := by
  unfold t_fit
  simp only [lt_ok, lt_ex, thnT_nx, thnT_rt, thnT_bk, thnT_ct, thnT_ex, itf_t, itf_f, fort_ok, fot_nil, fit_rt, fit_ex, fitU_nx, fitU_rt, fitU_ex, addI_ok, subI_ok, maxI_ok, minI_ok, negI_ok, absI_ok, ltI_ok, leI_ok, gtI_ok, geI_ok, intB_ok, notB_ok, andB_t, andB_f, orB_t, orB_f, ifT_ok, eqT_ok, neT_ok, toD_ok, toSome_ok, ofSome_ok, isNo_ok, isSo_ok, projR_ok, lenL_ok, theI_ok, sumI_ok, allB_ok, anyB_ok, kindT_ok, someI_ok, sliceL_ok, consT_ok, pair2_ok, pair3_ok, pair4_ok, ap1_ok, ap2_ok, ap3_ok, ap4_ok, ap5_ok, ap6_ok, zipT_ok, two_ok, enumT_ok, revT_ok, bind_ok, xk_ok, xb_ok, twoL_ok, xnot_ok, xand_t, xand_f, xor_t, xor_f, xcall_ok, xio_ok, xlist_ok, ifx_t, ifx_f, forx_ok, xrng_ok, fitIO_nx, fitIO_rt, dyn1_ok, dyn2_ok, ofD_I, ofD_B, ofD_LI, ofD_LI', lenD_L, lenD_LI, enI, enS, enLI, ofO_some, isi_tup_tup, isi_list_lst, isi_int_int, isi_bool_int, isi_str_str, len_tup, len_lst, List.length_map, h, decide_true, Bool.not_true]
theorem range_zip (xs ys : List Int) (h : ys.length = xs.length) (F : Int → Int → Int) : ((List.range xs.length).map fun i => F (vf xs i) (vf ys i)) = List.zipWith F xs ys := by
  apply List.ext_getElem
  · simp [h]
  · intro i h1 h2
    have hi : i < xs.length := by simpa using h1
    have hi2 : i < ys.length := by omega
    simp [vf, List.getD, hi, hi2]
theorem t_plus_eq {xs ys : List Int} (h : ys.length = xs.length) (hl : xs.length < 1000000) : t_plus xs ys = .ok (plF xs ys) := by
  have l : lcT (.ok (List.range xs.length)) (fun _ => .ok true) (fun a : Nat => addI (ixL (.ok xs) (.ok (a : Int))) (ixL (.ok ys) (.ok (a : Int)))) = .ok (plF xs ys) := by
    rw [lcT_map (f := fun a : Nat => vf xs a + vf ys a) (by rw [List.length_range]; omega) fun a ha => by
      have ha := List.mem_range.mp ha
      rw [vf_D ha, vf_D (show a < ys.length by omega), addI_ok], range_zip xs ys h (· + ·)]
    rfl
  unfold t_plus
  simp only [lt_ok, lt_ex, thnT_nx, thnT_rt, thnT_bk, thnT_ct, thnT_ex, itf_t, itf_f, fort_ok, fot_nil, fit_rt, fit_ex, fitU_nx, fitU_rt, fitU_ex, addI_ok, subI_ok, maxI_ok, minI_ok, negI_ok, absI_ok, ltI_ok, leI_ok, gtI_ok, geI_ok, intB_ok, notB_ok, andB_t, andB_f, orB_t, orB_f, ifT_ok, eqT_ok, neT_ok, toD_ok, toSome_ok, ofSome_ok, isNo_ok, isSo_ok, projR_ok, lenL_ok, theI_ok, sumI_ok, allB_ok, anyB_ok, kindT_ok, someI_ok, sliceL_ok, consT_ok, pair2_ok, pair3_ok, pair4_ok, ap1_ok, ap2_ok, ap3_ok, ap4_ok, ap5_ok, ap6_ok, zipT_ok, two_ok, enumT_ok, revT_ok, bind_ok, xk_ok, xb_ok, twoL_ok, xnot_ok, xand_t, xand_f, xor_t, xor_f, xcall_ok, xio_ok, xlist_ok, ifx_t, ifx_f, forx_ok, xrng_ok, fitIO_nx, fitIO_rt, t_fit_L h.symm, rng1_ok (show xs.length < 16000000 by omega), l]
theorem t_less_eq {xs ys : List Int} (h : ys.length = xs.length) (hl : xs.length < 1000000) : t_less xs ys = .ok (miF xs ys) := by
  have l : lcT (.ok (List.range xs.length)) (fun _ => .ok true) (fun a : Nat => subI (ixL (.ok xs) (.ok (a : Int))) (ixL (.ok ys) (.ok (a : Int)))) = .ok (miF xs ys) := by
    rw [lcT_map (f := fun a : Nat => vf xs a - vf ys a) (by rw [List.length_range]; omega) fun a ha => by
      have ha := List.mem_range.mp ha
      rw [vf_D ha, vf_D (show a < ys.length by omega), subI_ok], range_zip xs ys h (· - ·)]
    rfl
  unfold t_less
  simp only [lt_ok, lt_ex, thnT_nx, thnT_rt, thnT_bk, thnT_ct, thnT_ex, itf_t, itf_f, fort_ok, fot_nil, fit_rt, fit_ex, fitU_nx, fitU_rt, fitU_ex, addI_ok, subI_ok, maxI_ok, minI_ok, negI_ok, absI_ok, ltI_ok, leI_ok, gtI_ok, geI_ok, intB_ok, notB_ok, andB_t, andB_f, orB_t, orB_f, ifT_ok, eqT_ok, neT_ok, toD_ok, toSome_ok, ofSome_ok, isNo_ok, isSo_ok, projR_ok, lenL_ok, theI_ok, sumI_ok, allB_ok, anyB_ok, kindT_ok, someI_ok, sliceL_ok, consT_ok, pair2_ok, pair3_ok, pair4_ok, ap1_ok, ap2_ok, ap3_ok, ap4_ok, ap5_ok, ap6_ok, zipT_ok, two_ok, enumT_ok, revT_ok, bind_ok, xk_ok, xb_ok, twoL_ok, xnot_ok, xand_t, xand_f, xor_t, xor_f, xcall_ok, xio_ok, xlist_ok, ifx_t, ifx_f, forx_ok, xrng_ok, fitIO_nx, fitIO_rt, t_fit_L h.symm, rng1_ok (show xs.length < 16000000 by omega), l]
theorem t_taken_eq {xs : List Int} {m : Int} (hl : xs.length < 1000000) (h : ∀ x ∈ xs, mulOk x m = true) : t_taken xs m = .ok (xs.map (· * m)) := by
  unfold t_taken
  rw [lcT_map (f := (· * m)) (by omega) fun x hx => mulI_ok (h x hx)]
  rfl
end M

/-! typed: the law's rows, cell by cell -/
namespace M
open PySem L2
theorem t_lnumber_eq (c : Int) : ∃ v : Int, t__law_number c = .ok v ∧ v.natAbs ≤ 10 ^ 60 := by
  unfold t__law_number
  obtain ⟨x1, h1, e1⟩ := md c 3 (by omega)
  have e1 : modI (.ok c) (.ok 3) = .ok (x1 : Int) := e1
  obtain ⟨x2, h2, e2⟩ := dm c 3 7 (by omega) (by omega)
  have e2 : modI (fdivI (.ok c) (.ok 3)) (.ok 7) = .ok (x2 : Int) := e2
  obtain ⟨x3, h3, e3⟩ := dm c 3 2001 (by omega) (by omega)
  have e3 : modI (fdivI (.ok c) (.ok 3)) (.ok 2001) = .ok (x3 : Int) := e3
  have p := pow10_60
  have big : 1000000 ≤ 10 ^ 60 := by decide
  generalize 10 ^ 60 = M at p big ⊢
  obtain ⟨x4, h4, e4⟩ := dm c 3 (2 * M + 1) (by omega) (by omega)
  have m2 : mulI (.ok 2) (.ok (M : Int)) = .ok (2 * (M : Int)) := mulI_ok (mulOk_left (by decide))
  have e4 : modI (fdivI (.ok c) (.ok 3)) (.ok (2 * (M : Int) + 1)) = .ok (x4 : Int) := by
    rw [show (2 * (M : Int) + 1) = ((2 * M + 1 : Nat) : Int) by omega]
    exact e4
  simp only [lt_ok, lt_ex, thnT_nx, thnT_rt, thnT_bk, thnT_ct, thnT_ex, itf_t, itf_f, fort_ok, fot_nil, fit_rt, fit_ex, fitU_nx, fitU_rt, fitU_ex, addI_ok, subI_ok, maxI_ok, minI_ok, negI_ok, absI_ok, ltI_ok, leI_ok, gtI_ok, geI_ok, intB_ok, notB_ok, andB_t, andB_f, orB_t, orB_f, ifT_ok, eqT_ok, neT_ok, toD_ok, toSome_ok, ofSome_ok, isNo_ok, isSo_ok, projR_ok, lenL_ok, theI_ok, sumI_ok, allB_ok, anyB_ok, kindT_ok, someI_ok, sliceL_ok, consT_ok, pair2_ok, pair3_ok, pair4_ok, ap1_ok, ap2_ok, ap3_ok, ap4_ok, ap5_ok, ap6_ok, zipT_ok, two_ok, enumT_ok, revT_ok, bind_ok, xk_ok, xb_ok, twoL_ok, xnot_ok, xand_t, xand_f, xor_t, xor_f, xcall_ok, xio_ok, xlist_ok, ifx_t, ifx_f, forx_ok, xrng_ok, fitIO_nx, fitIO_rt, e1, e2, e3, p, m2, e4]
  by_cases z : (x1 : Int) = 0
  · simp only [decide_eq_true z, lt_ok, lt_ex, thnT_nx, thnT_rt, thnT_bk, thnT_ct, thnT_ex, itf_t, itf_f, fort_ok, fot_nil, fit_rt, fit_ex, fitU_nx, fitU_rt, fitU_ex, addI_ok, subI_ok, maxI_ok, minI_ok, negI_ok, absI_ok, ltI_ok, leI_ok, gtI_ok, geI_ok, intB_ok, notB_ok, andB_t, andB_f, orB_t, orB_f, ifT_ok, eqT_ok, neT_ok, toD_ok, toSome_ok, ofSome_ok, isNo_ok, isSo_ok, projR_ok, lenL_ok, theI_ok, sumI_ok, allB_ok, anyB_ok, kindT_ok, someI_ok, sliceL_ok, consT_ok, pair2_ok, pair3_ok, pair4_ok, ap1_ok, ap2_ok, ap3_ok, ap4_ok, ap5_ok, ap6_ok, zipT_ok, two_ok, enumT_ok, revT_ok, bind_ok, xk_ok, xb_ok, twoL_ok, xnot_ok, xand_t, xand_f, xor_t, xor_f, xcall_ok, xio_ok, xlist_ok, ifx_t, ifx_f, forx_ok, xrng_ok, fitIO_nx, fitIO_rt]
    exact ⟨_, rfl, by omega⟩
  · by_cases y : (x1 : Int) = 1
    · simp only [decide_eq_false z, decide_eq_true y, lt_ok, lt_ex, thnT_nx, thnT_rt, thnT_bk, thnT_ct, thnT_ex, itf_t, itf_f, fort_ok, fot_nil, fit_rt, fit_ex, fitU_nx, fitU_rt, fitU_ex, addI_ok, subI_ok, maxI_ok, minI_ok, negI_ok, absI_ok, ltI_ok, leI_ok, gtI_ok, geI_ok, intB_ok, notB_ok, andB_t, andB_f, orB_t, orB_f, ifT_ok, eqT_ok, neT_ok, toD_ok, toSome_ok, ofSome_ok, isNo_ok, isSo_ok, projR_ok, lenL_ok, theI_ok, sumI_ok, allB_ok, anyB_ok, kindT_ok, someI_ok, sliceL_ok, consT_ok, pair2_ok, pair3_ok, pair4_ok, ap1_ok, ap2_ok, ap3_ok, ap4_ok, ap5_ok, ap6_ok, zipT_ok, two_ok, enumT_ok, revT_ok, bind_ok, xk_ok, xb_ok, twoL_ok, xnot_ok, xand_t, xand_f, xor_t, xor_f, xcall_ok, xio_ok, xlist_ok, ifx_t, ifx_f, forx_ok, xrng_ok, fitIO_nx, fitIO_rt]
      exact ⟨_, rfl, by omega⟩
    · simp only [decide_eq_false z, decide_eq_false y, lt_ok, lt_ex, thnT_nx, thnT_rt, thnT_bk, thnT_ct, thnT_ex, itf_t, itf_f, fort_ok, fot_nil, fit_rt, fit_ex, fitU_nx, fitU_rt, fitU_ex, addI_ok, subI_ok, maxI_ok, minI_ok, negI_ok, absI_ok, ltI_ok, leI_ok, gtI_ok, geI_ok, intB_ok, notB_ok, andB_t, andB_f, orB_t, orB_f, ifT_ok, eqT_ok, neT_ok, toD_ok, toSome_ok, ofSome_ok, isNo_ok, isSo_ok, projR_ok, lenL_ok, theI_ok, sumI_ok, allB_ok, anyB_ok, kindT_ok, someI_ok, sliceL_ok, consT_ok, pair2_ok, pair3_ok, pair4_ok, ap1_ok, ap2_ok, ap3_ok, ap4_ok, ap5_ok, ap6_ok, zipT_ok, two_ok, enumT_ok, revT_ok, bind_ok, xk_ok, xb_ok, twoL_ok, xnot_ok, xand_t, xand_f, xor_t, xor_f, xcall_ok, xio_ok, xlist_ok, ifx_t, ifx_f, forx_ok, xrng_ok, fitIO_nx, fitIO_rt]
      exact ⟨_, rfl, by omega⟩
theorem aliasL_ok {xs : List (List Int)} {a j : Nat} {e : Int} (ha : a < xs.length) (hj : j < xs[a].length) : aliasL xs (.ok (a : Int)) (.ok (j : Int)) (.ok (j : Int)) (.ok e) = .ok (xs.set a (xs[a].set j (xs[a][j] + e))) := by
  show (match atI xs (a : Int), ixN xs.length (a : Int) with
    | some row, some m => (match atI row (j : Int), ixN row.length (j : Int) with
      | some d, some n => Rs.ok (xs.set m (row.set n (d + e)))
      | _, _ => .bad)
    | _, _ => .bad) = _
  rw [atI_nat ha, ixN_nat ha]
  dsimp only
  rw [atI_nat hj, ixN_nat hj]
theorem step_bd {x v : Int} {a M : Nat} (h : x.natAbs < a * M + 1) (hv : v.natAbs ≤ M) : (x + v).natAbs < (a + 1) * M + 1 := by
  rw [Nat.succ_mul]
  generalize a * M = t at *
  omega
theorem step_up {n a M : Nat} (h : n < a * M + 1) : n < (a + 1) * M + 1 := by
  rw [Nat.succ_mul]
  generalize a * M = t at *
  omega
theorem t_lrows_spec {cs : List Int} {many k : Nat} (hm : many < 1000) (hk : k < 1000) (hc : cs.length ≤ 100) : ∃ rs, t__law_rows cs (many : Int) (k : Int) = .ok rs ∧ rs.length = many ∧ (∀ r ∈ rs, r.length = k) ∧ ∀ r ∈ rs, Low (2 ^ 210) r := by
  have zr : repL (.ok [(0 : Int)]) (.ok (k : Int)) = .ok (List.replicate k 0) := by rw [repL_one (by omega) (by omega), Int.toNat_natCast]
  have l1 : lcT (.ok (List.range many)) (fun _ => .ok true) (fun _ : Nat => (.ok (List.replicate k 0) : Rs (List Int))) = .ok ((List.range many).map fun _ => List.replicate k 0) := lcT_map (by rw [List.length_range]; omega) fun _ _ => rfl
  obtain ⟨r0, h0⟩ : ∃ r0, r0 = (List.range many).map fun _ => List.replicate k (0 : Int) := ⟨_, rfl⟩
  have r0l : r0.length = many := by rw [h0, List.length_map, List.length_range]
  have r0k : ∀ r ∈ r0, r.length = k ∧ Low (0 * 10 ^ 60 + 1) r := fun r hr => by
    rw [h0] at hr
    obtain ⟨_, _, rfl⟩ := List.mem_map.mp hr
    exact ⟨List.length_replicate .., fun x hx => by rw [(List.mem_replicate.mp hx).2]; decide⟩
  rw [← h0] at l1
  unfold t__law_rows
  simp only [lt_ok, lt_ex, thnT_nx, thnT_rt, thnT_bk, thnT_ct, thnT_ex, itf_t, itf_f, fort_ok, fot_nil, fit_rt, fit_ex, fitU_nx, fitU_rt, fitU_ex, addI_ok, subI_ok, maxI_ok, minI_ok, negI_ok, absI_ok, ltI_ok, leI_ok, gtI_ok, geI_ok, intB_ok, notB_ok, andB_t, andB_f, orB_t, orB_f, ifT_ok, eqT_ok, neT_ok, toD_ok, toSome_ok, ofSome_ok, isNo_ok, isSo_ok, projR_ok, lenL_ok, theI_ok, sumI_ok, allB_ok, anyB_ok, kindT_ok, someI_ok, sliceL_ok, consT_ok, pair2_ok, pair3_ok, pair4_ok, ap1_ok, ap2_ok, ap3_ok, ap4_ok, ap5_ok, ap6_ok, zipT_ok, two_ok, enumT_ok, revT_ok, bind_ok, xk_ok, xb_ok, twoL_ok, xnot_ok, xand_t, xand_f, xor_t, xor_f, xcall_ok, xio_ok, xlist_ok, ifx_t, ifx_f, forx_ok, xrng_ok, fitIO_nx, fitIO_rt, zr, rng1_ok (show many < 16000000 by omega), l1, mulI_ok (x := (many : Int)) (y := (k : Int)) (mulOk_left (by
    have : (2 : Nat) ^ 64 = 18446744073709551616 := by decide
    omega)), rng1_ok (show cs.length < 16000000 by omega)]
  by_cases z : (0 : Int) < (many : Int) * (k : Int)
  · have m0 : 0 < many := by
      rcases Nat.eq_zero_or_pos many with q | q
      · rw [q] at z; simp at z
      · exact q
    have k0 : 0 < k := by
      rcases Nat.eq_zero_or_pos k with q | q
      · rw [q] at z; simp at z
      · exact q
    obtain ⟨r1, e1, a1, a2⟩ := fot_inv (κ' := Unit) (b := tl__law_rows_1 cs (many : Int) (k : Int)) (fun i rs => rs.length = many ∧ ∀ r ∈ rs, r.length = k ∧ Low (i * 10 ^ 60 + 1) r) (List.range cs.length) 0 r0 ⟨r0l, r0k⟩ fun i a s hia ⟨h1, h2⟩ => by
      obtain ⟨hi, rfl⟩ := range_get hia
      rw [Nat.zero_add] at h2 ⊢
      have m1 : a / k % many < many := Nat.mod_lt _ m0
      have m2 : a % k < k := Nat.mod_lt _ k0
      have f1 : modI (fdivI (.ok (a : Int)) (.ok (k : Int))) (.ok (many : Int)) = .ok ((a / k % many : Nat) : Int) := by
        rw [fdivI_ok (divOk_small (by omega) (by omega)), modI_ok (by omega), fdiv_pos (by omega), fmod_pos (by omega)]
        congr 1
      have f2 : modI (.ok (a : Int)) (.ok (k : Int)) = .ok ((a % k : Nat) : Int) := by
        rw [modI_ok (by omega), fmod_pos (by omega)]
        congr 1
      obtain ⟨v, ev, vb⟩ := t_lnumber_eq (vf cs a)
      have h1' : a / k % many < s.length := by omega
      obtain ⟨g1, g2⟩ := h2 _ (List.getElem_mem h1')
      have h2' : a % k < (s[a / k % many]).length := by omega
      refine ⟨s.set (a / k % many) ((s[a / k % many]).set (a % k) ((s[a / k % many])[a % k] + v)), .inl ?_, by rw [List.length_set]; exact h1, fun r hr => ?_⟩
      · unfold tl__law_rows_1
        simp only [f1, f2, vf_D hi, lt_ok, lt_ex, thnT_nx, thnT_rt, thnT_bk, thnT_ct, thnT_ex, itf_t, itf_f, fort_ok, fot_nil, fit_rt, fit_ex, fitU_nx, fitU_rt, fitU_ex, addI_ok, subI_ok, maxI_ok, minI_ok, negI_ok, absI_ok, ltI_ok, leI_ok, gtI_ok, geI_ok, intB_ok, notB_ok, andB_t, andB_f, orB_t, orB_f, ifT_ok, eqT_ok, neT_ok, toD_ok, toSome_ok, ofSome_ok, isNo_ok, isSo_ok, projR_ok, lenL_ok, theI_ok, sumI_ok, allB_ok, anyB_ok, kindT_ok, someI_ok, sliceL_ok, consT_ok, pair2_ok, pair3_ok, pair4_ok, ap1_ok, ap2_ok, ap3_ok, ap4_ok, ap5_ok, ap6_ok, zipT_ok, two_ok, enumT_ok, revT_ok, bind_ok, xk_ok, xb_ok, twoL_ok, xnot_ok, xand_t, xand_f, xor_t, xor_f, xcall_ok, xio_ok, xlist_ok, ifx_t, ifx_f, forx_ok, xrng_ok, fitIO_nx, fitIO_rt, ev, aliasL_ok h1' h2']
      · rcases List.mem_or_eq_of_mem_set hr with q | q
        · exact ⟨(h2 r q).1, fun x hx => step_up ((h2 r q).2 x hx)⟩
        · rw [q]
          refine ⟨by rw [List.length_set]; exact g1, fun x hx => ?_⟩
          rcases List.mem_or_eq_of_mem_set hx with w | w
          · exact step_up (g2 x w)
          · rw [w]
            exact step_bd (g2 _ (List.getElem_mem h2')) vb
    refine ⟨r1, ?_, a1, fun r hr => (a2 r hr).1, fun r hr => (a2 r hr).2.mono ?_⟩
    · simp only [decide_eq_true z, lt_ok, lt_ex, thnT_nx, thnT_rt, thnT_bk, thnT_ct, thnT_ex, itf_t, itf_f, fort_ok, fot_nil, fit_rt, fit_ex, fitU_nx, fitU_rt, fitU_ex, addI_ok, subI_ok, maxI_ok, minI_ok, negI_ok, absI_ok, ltI_ok, leI_ok, gtI_ok, geI_ok, intB_ok, notB_ok, andB_t, andB_f, orB_t, orB_f, ifT_ok, eqT_ok, neT_ok, toD_ok, toSome_ok, ofSome_ok, isNo_ok, isSo_ok, projR_ok, lenL_ok, theI_ok, sumI_ok, allB_ok, anyB_ok, kindT_ok, someI_ok, sliceL_ok, consT_ok, pair2_ok, pair3_ok, pair4_ok, ap1_ok, ap2_ok, ap3_ok, ap4_ok, ap5_ok, ap6_ok, zipT_ok, two_ok, enumT_ok, revT_ok, bind_ok, xk_ok, xb_ok, twoL_ok, xnot_ok, xand_t, xand_f, xor_t, xor_f, xcall_ok, xio_ok, xlist_ok, ifx_t, ifx_f, forx_ok, xrng_ok, fitIO_nx, fitIO_rt, e1]
    · rw [List.length_range]
      have h1 : 0 + cs.length ≤ 100 := by omega
      have h2 := Nat.mul_le_mul_right (10 ^ 60) h1
      have h3 : 100 * 10 ^ 60 + 1 ≤ 2 ^ 210 := by decide
      exact Nat.le_trans (Nat.succ_le_succ h2) h3
  · refine ⟨r0, by simp only [decide_eq_false z, lt_ok, lt_ex, thnT_nx, thnT_rt, thnT_bk, thnT_ct, thnT_ex, itf_t, itf_f, fort_ok, fot_nil, fit_rt, fit_ex, fitU_nx, fitU_rt, fitU_ex, addI_ok, subI_ok, maxI_ok, minI_ok, negI_ok, absI_ok, ltI_ok, leI_ok, gtI_ok, geI_ok, intB_ok, notB_ok, andB_t, andB_f, orB_t, orB_f, ifT_ok, eqT_ok, neT_ok, toD_ok, toSome_ok, ofSome_ok, isNo_ok, isSo_ok, projR_ok, lenL_ok, theI_ok, sumI_ok, allB_ok, anyB_ok, kindT_ok, someI_ok, sliceL_ok, consT_ok, pair2_ok, pair3_ok, pair4_ok, ap1_ok, ap2_ok, ap3_ok, ap4_ok, ap5_ok, ap6_ok, zipT_ok, two_ok, enumT_ok, revT_ok, bind_ok, xk_ok, xb_ok, twoL_ok, xnot_ok, xand_t, xand_f, xor_t, xor_f, xcall_ok, xio_ok, xlist_ok, ifx_t, ifx_f, forx_ok, xrng_ok, fitIO_nx, fitIO_rt], r0l, fun r hr => (r0k r hr).1, fun r hr => (r0k r hr).2.mono (by decide)⟩
end M

/-! typed: the law's look at two lists that are the same -/
namespace M
open PySem L2
theorem t_lsame3_eq {xs : List Int} (h : xs.length < 1000000) : t__law_same xs xs = .ok true := by
  have loop : (fot (tl__law_same_1 xs xs) (List.range xs.length) () : Ft Unit Unit Bool) = .nx () := fot_all fun a ha => by
    have ha := List.mem_range.mp ha
    unfold tl__law_same_1
    have w : ∀ x : Int, t__law_whole x = .ok true := fun _ => rfl
    simp only [lt_ok, lt_ex, thnT_nx, thnT_rt, thnT_bk, thnT_ct, thnT_ex, itf_t, itf_f, fort_ok, fot_nil, fit_rt, fit_ex, fitU_nx, fitU_rt, fitU_ex, addI_ok, subI_ok, maxI_ok, minI_ok, negI_ok, absI_ok, ltI_ok, leI_ok, gtI_ok, geI_ok, intB_ok, notB_ok, andB_t, andB_f, orB_t, orB_f, ifT_ok, eqT_ok, neT_ok, toD_ok, toSome_ok, ofSome_ok, isNo_ok, isSo_ok, projR_ok, lenL_ok, theI_ok, sumI_ok, allB_ok, anyB_ok, kindT_ok, someI_ok, sliceL_ok, consT_ok, pair2_ok, pair3_ok, pair4_ok, ap1_ok, ap2_ok, ap3_ok, ap4_ok, ap5_ok, ap6_ok, zipT_ok, two_ok, enumT_ok, revT_ok, bind_ok, xk_ok, xb_ok, twoL_ok, xnot_ok, xand_t, xand_f, xor_t, xor_f, xcall_ok, xio_ok, xlist_ok, ifx_t, ifx_f, forx_ok, xrng_ok, fitIO_nx, fitIO_rt, vf_D ha, w, decide_true, Bool.not_true]
  unfold t__law_same
  simp only [lt_ok, lt_ex, thnT_nx, thnT_rt, thnT_bk, thnT_ct, thnT_ex, itf_t, itf_f, fort_ok, fot_nil, fit_rt, fit_ex, fitU_nx, fitU_rt, fitU_ex, addI_ok, subI_ok, maxI_ok, minI_ok, negI_ok, absI_ok, ltI_ok, leI_ok, gtI_ok, geI_ok, intB_ok, notB_ok, andB_t, andB_f, orB_t, orB_f, ifT_ok, eqT_ok, neT_ok, toD_ok, toSome_ok, ofSome_ok, isNo_ok, isSo_ok, projR_ok, lenL_ok, theI_ok, sumI_ok, allB_ok, anyB_ok, kindT_ok, someI_ok, sliceL_ok, consT_ok, pair2_ok, pair3_ok, pair4_ok, ap1_ok, ap2_ok, ap3_ok, ap4_ok, ap5_ok, ap6_ok, zipT_ok, two_ok, enumT_ok, revT_ok, bind_ok, xk_ok, xb_ok, twoL_ok, xnot_ok, xand_t, xand_f, xor_t, xor_f, xcall_ok, xio_ok, xlist_ok, ifx_t, ifx_f, forx_ok, xrng_ok, fitIO_nx, fitIO_rt, rng1_ok (show xs.length < 16000000 by omega), loop, decide_true, Bool.not_true]
end M

-- PRE: math_rows math_mix math_led math_shared math_sp math_siegel math_sta math_bl math_pl math_stair math_down
-- POST: tp_tools tp_dyn tp_draw6 tp_purses3 tp_lrows3 tp_lsame3
namespace M
open PySem L2
theorem lend3 {k : Nat} (hk : k < 1000) {xs : List (List Int)} (h : ∀ r ∈ xs, r.length = k) : ∃ s, (lendT (tl_law_2 (k : Int)) [] xs () : Ft (List (List Int) × Unit) Unit Bool) = .nx s := by
  obtain ⟨ys, s, e, _⟩ := lendT_inv (κ' := Unit) (b := tl_law_2 (k : Int)) (fun _ _ => True) (fun _ _ _ => True) xs [] () trivial fun i a s ha _ => by
    have ak := h a (List.mem_of_getElem? ha)
    obtain ⟨b, eb, _⟩ := fot_inv (κ' := List Int × Unit) (b := tl_law_1) (fun _ s => s.length = k) (List.range k) 0 a ak fun i j s hj hs => by
      obtain ⟨hi, rfl⟩ := range_get hj
      have jl : j < s.length := by omega
      refine ⟨s.set j (vf s j + 1), .inl ?_, by rw [List.length_set]; exact hs⟩
      unfold tl_law_1
      simp only [lt_ok, lt_ex, thnT_nx, thnT_rt, thnT_bk, thnT_ct, thnT_ex, itf_t, itf_f, fort_ok, fot_nil, fit_rt, fit_ex, fitU_nx, fitU_rt, fitU_ex, addI_ok, subI_ok, maxI_ok, minI_ok, negI_ok, absI_ok, ltI_ok, leI_ok, gtI_ok, geI_ok, intB_ok, notB_ok, andB_t, andB_f, orB_t, orB_f, ifT_ok, eqT_ok, neT_ok, toD_ok, toSome_ok, ofSome_ok, isNo_ok, isSo_ok, projR_ok, lenL_ok, theI_ok, sumI_ok, allB_ok, anyB_ok, kindT_ok, someI_ok, sliceL_ok, consT_ok, pair2_ok, pair3_ok, pair4_ok, ap1_ok, ap2_ok, ap3_ok, ap4_ok, ap5_ok, ap6_ok, zipT_ok, two_ok, enumT_ok, revT_ok, bind_ok, xk_ok, xb_ok, twoL_ok, xnot_ok, xand_t, xand_f, xor_t, xor_f, xcall_ok, xio_ok, xlist_ok, ifx_t, ifx_f, forx_ok, xrng_ok, fitIO_nx, fitIO_rt, vf_D jl, putL_ok jl]
    refine ⟨b, (), ?_, trivial, trivial⟩
    unfold tl_law_2
    simp only [lt_ok, lt_ex, thnT_nx, thnT_rt, thnT_bk, thnT_ct, thnT_ex, itf_t, itf_f, fort_ok, fot_nil, fit_rt, fit_ex, fitU_nx, fitU_rt, fitU_ex, addI_ok, subI_ok, maxI_ok, minI_ok, negI_ok, absI_ok, ltI_ok, leI_ok, gtI_ok, geI_ok, intB_ok, notB_ok, andB_t, andB_f, orB_t, orB_f, ifT_ok, eqT_ok, neT_ok, toD_ok, toSome_ok, ofSome_ok, isNo_ok, isSo_ok, projR_ok, lenL_ok, theI_ok, sumI_ok, allB_ok, anyB_ok, kindT_ok, someI_ok, sliceL_ok, consT_ok, pair2_ok, pair3_ok, pair4_ok, ap1_ok, ap2_ok, ap3_ok, ap4_ok, ap5_ok, ap6_ok, zipT_ok, two_ok, enumT_ok, revT_ok, bind_ok, xk_ok, xb_ok, twoL_ok, xnot_ok, xand_t, xand_f, xor_t, xor_f, xcall_ok, xio_ok, xlist_ok, ifx_t, ifx_f, forx_ok, xrng_ok, fitIO_nx, fitIO_rt, rng1_ok (show k < 16000000 by omega), eb]
  exact ⟨_, e⟩
theorem law_ok (ns : List Int) (h : ns.length ≤ 63) : t_law ns = .ok true := by
  have c0 : t__law_cell_at ns 0 = .ok (ns.getD 0 0) := t_cell_at ns 0
  have c1 : t__law_cell_at ns 1 = .ok (ns.getD 1 0) := t_cell_at ns 1
  generalize ns.getD 0 0 = n0 at c0
  generalize ns.getD 1 0 = n1 at c1
  obtain ⟨k, hk, ek⟩ := md n0 9 (by omega)
  have ek : modI (.ok n0) (.ok 9) = .ok (k : Int) := ek
  obtain ⟨x, hx, ex⟩ := dm n0 9 3 (by omega) (by omega)
  have ex : modI (fdivI (.ok n0) (.ok 9)) (.ok 3) = .ok (x : Int) := ex
  obtain ⟨v, ev, vb⟩ := t_lnumber_eq n1
  have cu : cutL ns (some 2) (some 82) = (ns.drop 2).take 80 := cutL_mid ns (by decide) (by decide)
  obtain ⟨rs, er, rl, rk, rlow⟩ := t_lrows_spec (cs := (ns.drop 2).take 80) (many := 2) (k := k) (by omega) (by omega) (by rw [List.length_take]; omega)
  have er : t__law_rows ((ns.drop 2).take 80) 2 (k : Int) = .ok rs := er
  match rs, rl with
  | [one, other], _ =>
    have k1 : one.length = k := rk one (by simp)
    have k2 : other.length = k := rk other (by simp)
    have lo : Low (2 ^ 210) one := rlow one (by simp)
    unfold t_law
    simp only [lt_ok, lt_ex, thnT_nx, thnT_rt, thnT_bk, thnT_ct, thnT_ex, itf_t, itf_f, fort_ok, fot_nil, fit_rt, fit_ex, fitU_nx, fitU_rt, fitU_ex, addI_ok, subI_ok, maxI_ok, minI_ok, negI_ok, absI_ok, ltI_ok, leI_ok, gtI_ok, geI_ok, intB_ok, notB_ok, andB_t, andB_f, orB_t, orB_f, ifT_ok, eqT_ok, neT_ok, toD_ok, toSome_ok, ofSome_ok, isNo_ok, isSo_ok, projR_ok, lenL_ok, theI_ok, sumI_ok, allB_ok, anyB_ok, kindT_ok, someI_ok, sliceL_ok, consT_ok, pair2_ok, pair3_ok, pair4_ok, ap1_ok, ap2_ok, ap3_ok, ap4_ok, ap5_ok, ap6_ok, zipT_ok, two_ok, enumT_ok, revT_ok, bind_ok, xk_ok, xb_ok, twoL_ok, xnot_ok, xand_t, xand_f, xor_t, xor_f, xcall_ok, xio_ok, xlist_ok, ifx_t, ifx_f, forx_ok, xrng_ok, fitIO_nx, fitIO_rt, c0, c1, ek, ex, ev, cu, er]
    refine fit_thn (P := fun s => s.natAbs ≤ 10 ^ 60) ?_ fun s hs => ?_
    · by_cases z : (x : Int) = 1
      · exact ⟨1, by simp only [lt_ok, lt_ex, thnT_nx, thnT_rt, thnT_bk, thnT_ct, thnT_ex, itf_t, itf_f, fort_ok, fot_nil, fit_rt, fit_ex, fitU_nx, fitU_rt, fitU_ex, addI_ok, subI_ok, maxI_ok, minI_ok, negI_ok, absI_ok, ltI_ok, leI_ok, gtI_ok, geI_ok, intB_ok, notB_ok, andB_t, andB_f, orB_t, orB_f, ifT_ok, eqT_ok, neT_ok, toD_ok, toSome_ok, ofSome_ok, isNo_ok, isSo_ok, projR_ok, lenL_ok, theI_ok, sumI_ok, allB_ok, anyB_ok, kindT_ok, someI_ok, sliceL_ok, consT_ok, pair2_ok, pair3_ok, pair4_ok, ap1_ok, ap2_ok, ap3_ok, ap4_ok, ap5_ok, ap6_ok, zipT_ok, two_ok, enumT_ok, revT_ok, bind_ok, xk_ok, xb_ok, twoL_ok, xnot_ok, xand_t, xand_f, xor_t, xor_f, xcall_ok, xio_ok, xlist_ok, ifx_t, ifx_f, forx_ok, xrng_ok, fitIO_nx, fitIO_rt, decide_eq_true z], by decide⟩
      · exact ⟨v, by simp only [lt_ok, lt_ex, thnT_nx, thnT_rt, thnT_bk, thnT_ct, thnT_ex, itf_t, itf_f, fort_ok, fot_nil, fit_rt, fit_ex, fitU_nx, fitU_rt, fitU_ex, addI_ok, subI_ok, maxI_ok, minI_ok, negI_ok, absI_ok, ltI_ok, leI_ok, gtI_ok, geI_ok, intB_ok, notB_ok, andB_t, andB_f, orB_t, orB_f, ifT_ok, eqT_ok, neT_ok, toD_ok, toSome_ok, ofSome_ok, isNo_ok, isSo_ok, projR_ok, lenL_ok, theI_ok, sumI_ok, allB_ok, anyB_ok, kindT_ok, someI_ok, sliceL_ok, consT_ok, pair2_ok, pair3_ok, pair4_ok, ap1_ok, ap2_ok, ap3_ok, ap4_ok, ap5_ok, ap6_ok, zipT_ok, two_ok, enumT_ok, revT_ok, bind_ok, xk_ok, xb_ok, twoL_ok, xnot_ok, xand_t, xand_f, xor_t, xor_f, xcall_ok, xio_ok, xlist_ok, ifx_t, ifx_f, forx_ok, xrng_ok, fitIO_nx, fitIO_rt, decide_eq_false z], vb⟩
    · have sb : s.natAbs < 2 ^ 210 := by
        have : 10 ^ 60 < 2 ^ 210 := by decide
        omega
      have mo : ∀ y ∈ one, mulOk y s = true := fun y hy => mulOk_of (lo y hy) sb (by omega)
      have e1 := t_plus_eq (xs := one) (ys := other) (by omega) (by omega)
      have e2 := t_less_eq (xs := one) (ys := other) (by omega) (by omega)
      have e3 := t_taken_eq (xs := one) (m := s) (by omega) mo
      have i0 : ixL (.ok [one, other]) (.ok 0) = .ok one := ixL_nat (j := 0) (by simp)
      have i1 : ixL (.ok [one, other]) (.ok 1) = .ok other := ixL_nat (j := 1) (by simp)
      have g0 : ∀ a b c : List Int, ixL (.ok [a, b, c]) (.ok 0) = .ok a := fun a b c => ixL_nat (j := 0) (by simp)
      have g1 : ∀ a b c : List Int, ixL (.ok [a, b, c]) (.ok 1) = .ok b := fun a b c => ixL_nat (j := 1) (by simp)
      have g2 : ∀ a b c : List Int, ixL (.ok [a, b, c]) (.ok 2) = .ok c := fun a b c => ixL_nat (j := 2) (by simp)
      have r := rng1_ok (show k < 16000000 by omega)
      have l1 : lcT (.ok (List.range k)) (fun _ => .ok true) (fun a : Nat => addI (ixL (.ok one) (.ok (a : Int))) (ixL (.ok other) (.ok (a : Int)))) = .ok (plF one other) := by
        rw [← k1, lcT_map (f := fun a : Nat => vf one a + vf other a) (by rw [List.length_range]; omega) fun a ha => by
          have ha := List.mem_range.mp ha
          rw [vf_D ha, vf_D (show a < other.length by omega), addI_ok], range_zip one other (by omega) (· + ·)]
        rfl
      have l2 : lcT (.ok (List.range k)) (fun _ => .ok true) (fun a : Nat => subI (ixL (.ok one) (.ok (a : Int))) (ixL (.ok other) (.ok (a : Int)))) = .ok (miF one other) := by
        rw [← k1, lcT_map (f := fun a : Nat => vf one a - vf other a) (by rw [List.length_range]; omega) fun a ha => by
          have ha := List.mem_range.mp ha
          rw [vf_D ha, vf_D (show a < other.length by omega), subI_ok], range_zip one other (by omega) (· - ·)]
        rfl
      have l3 : lcT (.ok (List.range k)) (fun _ => .ok true) (fun a : Nat => mulI (ixL (.ok one) (.ok (a : Int))) (.ok s)) = .ok (one.map (· * s)) := by
        rw [← k1, lcT_map (f := fun a : Nat => vf one a * s) (by rw [List.length_range]; omega) fun a ha => by
          have ha := List.mem_range.mp ha
          rw [vf_D ha, mulI_ok (mo _ (by
            unfold vf; rw [List.getD_eq_getElem?_getD, List.getElem?_eq_getElem ha]; exact List.getElem_mem ha))]]
        congr 1
        apply List.ext_getElem
        · simp
        · intro i h1 h2
          have hi : i < one.length := by simpa using h1
          simp [vf, List.getD, hi]
      have s1 := t_lsame3_eq (xs := plF one other) (by rw [plF_length (by omega)]; omega)
      have s2 := t_lsame3_eq (xs := miF one other) (by rw [miF_length (by omega)]; omega)
      have s3 := t_lsame3_eq (xs := one.map (· * s)) (by rw [List.length_map]; omega)
      obtain ⟨w, ew⟩ := lend3 (k := k) (xs := [one, other]) (by omega) fun r hr => rk r hr
      simp only [lt_ok, lt_ex, thnT_nx, thnT_rt, thnT_bk, thnT_ct, thnT_ex, itf_t, itf_f, fort_ok, fot_nil, fit_rt, fit_ex, fitU_nx, fitU_rt, fitU_ex, addI_ok, subI_ok, maxI_ok, minI_ok, negI_ok, absI_ok, ltI_ok, leI_ok, gtI_ok, geI_ok, intB_ok, notB_ok, andB_t, andB_f, orB_t, orB_f, ifT_ok, eqT_ok, neT_ok, toD_ok, toSome_ok, ofSome_ok, isNo_ok, isSo_ok, projR_ok, lenL_ok, theI_ok, sumI_ok, allB_ok, anyB_ok, kindT_ok, someI_ok, sliceL_ok, consT_ok, pair2_ok, pair3_ok, pair4_ok, ap1_ok, ap2_ok, ap3_ok, ap4_ok, ap5_ok, ap6_ok, zipT_ok, two_ok, enumT_ok, revT_ok, bind_ok, xk_ok, xb_ok, twoL_ok, xnot_ok, xand_t, xand_f, xor_t, xor_f, xcall_ok, xio_ok, xlist_ok, ifx_t, ifx_f, forx_ok, xrng_ok, fitIO_nx, fitIO_rt, i0, i1, e1, e2, e3, ew, g0, g1, g2, r, l1, l2, l3, s1, s2, s3, decide_true, Bool.not_true]
theorem law_true (ns : List Int) (h : ns.length ≤ 63) : m_law [.scr ns] = .ok (.sh (.bl true)) := law_q e_law (law_ok ns h)
end M

namespace M
open PySem L2
section
end
theorem all_mk {P : Program} {w : World} {K : PySem.W.Frag} {h : Heap} {mg : Str → Option Value} {fa : Addr} (X : K.In h) (G : h.Ns mainGlobals mg) (hfa : mg "law" = some (.ref fa))
    {od_fit an_fit : Option Addr} {sl_fit : Array (Option Value)} {oc_fit kV_fit dc_fit pm_fit cd_fit ct_fit : Value} {f_fit : Addr} (a_fit : PySem.W.nsIn K mainGlobals "fit" = some (some (.ref f_fit))) (l_fit : K.lookup f_fit = some ⟨oc_fit, od_fit, .func (PySem.W.fnOf "fit" "fit" (defArgs s_fit) (defBody s_fit) (defScope s_fit) .none kV_fit dc_fit pm_fit an_fit cd_fit ct_fit), sl_fit⟩) (c_fit : PySem.W.codeIn K cd_fit "fit" = true) (k_fit : PySem.W.keepIn K (.ref f_fit) = true)
    {od_taken an_taken : Option Addr} {sl_taken : Array (Option Value)} {oc_taken kV_taken dc_taken pm_taken cd_taken ct_taken : Value} {f_taken : Addr} (a_taken : PySem.W.nsIn K mainGlobals "taken" = some (some (.ref f_taken))) (l_taken : K.lookup f_taken = some ⟨oc_taken, od_taken, .func (PySem.W.fnOf "taken" "taken" (defArgs s_taken) (defBody s_taken) (defScope s_taken) .none kV_taken dc_taken pm_taken an_taken cd_taken ct_taken), sl_taken⟩) (c_taken : PySem.W.codeIn K cd_taken "taken" = true) (k_taken : PySem.W.keepIn K (.ref f_taken) = true)
    {od__law_cell_at an__law_cell_at : Option Addr} {sl__law_cell_at : Array (Option Value)} {oc__law_cell_at kV__law_cell_at dc__law_cell_at pm__law_cell_at cd__law_cell_at ct__law_cell_at : Value} {f__law_cell_at : Addr} (a__law_cell_at : PySem.W.nsIn K mainGlobals "_law_cell_at" = some (some (.ref f__law_cell_at))) (l__law_cell_at : K.lookup f__law_cell_at = some ⟨oc__law_cell_at, od__law_cell_at, .func (PySem.W.fnOf "_law_cell_at" "_law_cell_at" (defArgs s__law_cell_at) (defBody s__law_cell_at) (defScope s__law_cell_at) .none kV__law_cell_at dc__law_cell_at pm__law_cell_at an__law_cell_at cd__law_cell_at ct__law_cell_at), sl__law_cell_at⟩) (c__law_cell_at : PySem.W.codeIn K cd__law_cell_at "_law_cell_at" = true) (k__law_cell_at : PySem.W.keepIn K (.ref f__law_cell_at) = true)
    {od__law_whole an__law_whole : Option Addr} {sl__law_whole : Array (Option Value)} {oc__law_whole kV__law_whole dc__law_whole pm__law_whole cd__law_whole ct__law_whole : Value} {f__law_whole : Addr} (a__law_whole : PySem.W.nsIn K mainGlobals "_law_whole" = some (some (.ref f__law_whole))) (l__law_whole : K.lookup f__law_whole = some ⟨oc__law_whole, od__law_whole, .func (PySem.W.fnOf "_law_whole" "_law_whole" (defArgs s__law_whole) (defBody s__law_whole) (defScope s__law_whole) .none kV__law_whole dc__law_whole pm__law_whole an__law_whole cd__law_whole ct__law_whole), sl__law_whole⟩) (c__law_whole : PySem.W.codeIn K cd__law_whole "_law_whole" = true) (k__law_whole : PySem.W.keepIn K (.ref f__law_whole) = true)
    {od__law_number an__law_number : Option Addr} {sl__law_number : Array (Option Value)} {oc__law_number kV__law_number dc__law_number pm__law_number cd__law_number ct__law_number : Value} {f__law_number : Addr} (a__law_number : PySem.W.nsIn K mainGlobals "_law_number" = some (some (.ref f__law_number))) (l__law_number : K.lookup f__law_number = some ⟨oc__law_number, od__law_number, .func (PySem.W.fnOf "_law_number" "_law_number" (defArgs s__law_number) (defBody s__law_number) (defScope s__law_number) .none kV__law_number dc__law_number pm__law_number an__law_number cd__law_number ct__law_number), sl__law_number⟩) (c__law_number : PySem.W.codeIn K cd__law_number "_law_number" = true) (k__law_number : PySem.W.keepIn K (.ref f__law_number) = true)
    {od_plus an_plus : Option Addr} {sl_plus : Array (Option Value)} {oc_plus kV_plus dc_plus pm_plus cd_plus ct_plus : Value} {f_plus : Addr} (a_plus : PySem.W.nsIn K mainGlobals "plus" = some (some (.ref f_plus))) (l_plus : K.lookup f_plus = some ⟨oc_plus, od_plus, .func (PySem.W.fnOf "plus" "plus" (defArgs s_plus) (defBody s_plus) (defScope s_plus) .none kV_plus dc_plus pm_plus an_plus cd_plus ct_plus), sl_plus⟩) (c_plus : PySem.W.codeIn K cd_plus "plus" = true) (k_plus : PySem.W.keepIn K (.ref f_plus) = true)
    {od_less an_less : Option Addr} {sl_less : Array (Option Value)} {oc_less kV_less dc_less pm_less cd_less ct_less : Value} {f_less : Addr} (a_less : PySem.W.nsIn K mainGlobals "less" = some (some (.ref f_less))) (l_less : K.lookup f_less = some ⟨oc_less, od_less, .func (PySem.W.fnOf "less" "less" (defArgs s_less) (defBody s_less) (defScope s_less) .none kV_less dc_less pm_less an_less cd_less ct_less), sl_less⟩) (c_less : PySem.W.codeIn K cd_less "less" = true) (k_less : PySem.W.keepIn K (.ref f_less) = true)
    {od__law_rows an__law_rows : Option Addr} {sl__law_rows : Array (Option Value)} {oc__law_rows kV__law_rows dc__law_rows pm__law_rows cd__law_rows ct__law_rows : Value} {f__law_rows : Addr} (a__law_rows : PySem.W.nsIn K mainGlobals "_law_rows" = some (some (.ref f__law_rows))) (l__law_rows : K.lookup f__law_rows = some ⟨oc__law_rows, od__law_rows, .func (PySem.W.fnOf "_law_rows" "_law_rows" (defArgs s__law_rows) (defBody s__law_rows) (defScope s__law_rows) .none kV__law_rows dc__law_rows pm__law_rows an__law_rows cd__law_rows ct__law_rows), sl__law_rows⟩) (c__law_rows : PySem.W.codeIn K cd__law_rows "_law_rows" = true) (k__law_rows : PySem.W.keepIn K (.ref f__law_rows) = true)
    {od__law_same an__law_same : Option Addr} {sl__law_same : Array (Option Value)} {oc__law_same kV__law_same dc__law_same pm__law_same cd__law_same ct__law_same : Value} {f__law_same : Addr} (a__law_same : PySem.W.nsIn K mainGlobals "_law_same" = some (some (.ref f__law_same))) (l__law_same : K.lookup f__law_same = some ⟨oc__law_same, od__law_same, .func (PySem.W.fnOf "_law_same" "_law_same" (defArgs s__law_same) (defBody s__law_same) (defScope s__law_same) .none kV__law_same dc__law_same pm__law_same an__law_same cd__law_same ct__law_same), sl__law_same⟩) (c__law_same : PySem.W.codeIn K cd__law_same "_law_same" = true) (k__law_same : PySem.W.keepIn K (.ref f__law_same) = true)
    {od_law an_law : Option Addr} {sl_law : Array (Option Value)} {oc_law kV_law dc_law pm_law cd_law ct_law : Value} {f_law : Addr} (a_law : PySem.W.nsIn K mainGlobals "law" = some (some (.ref f_law))) (l_law : K.lookup f_law = some ⟨oc_law, od_law, .func (PySem.W.fnOf "law" "law" (defArgs s_law) (defBody s_law) (defScope s_law) .none kV_law dc_law pm_law an_law cd_law ct_law), sl_law⟩) (c_law : PySem.W.codeIn K cd_law "law" = true) (k_law : PySem.W.keepIn K (.ref f_law) = true)
    (z_bool : PySem.W.nsIn K mainGlobals "bool" = some none)
    (z_int : PySem.W.nsIn K mainGlobals "int" = some none)
    (z_isinstance : PySem.W.nsIn K mainGlobals "isinstance" = some none)
    (z_len : PySem.W.nsIn K mainGlobals "len" = some none)
    (z_list : PySem.W.nsIn K mainGlobals "list" = some none)
    (z_range : PySem.W.nsIn K mainGlobals "range" = some none) :
    ∃ fd : FuncData, (∀ (s : Shared) (v : Value), BindsTo s fd ⟨[v], []⟩ [("script", v)]) ∧ ∀ base : Heap, K.In base → base.Ns mainGlobals mg → FnOk P w K mg base (L2.CX P w) 3 fa fd ["script"] (SpD K (fun _ => 0) 1 m_law) := by
  have e := hfa.symm.trans (PySem.W.mg_of X G a_law)
  cases e
  have T : Txt mg := ⟨PySem.W.mg_none_of X G z_bool, PySem.W.mg_none_of X G z_int, PySem.W.mg_none_of X G z_isinstance, PySem.W.mg_none_of X G z_len, PySem.W.mg_none_of X G z_list, PySem.W.mg_none_of X G z_range⟩
  have F_fit := fun_mk (st := s_fit) l_fit c_fit k_fit
  have B_fit := F_fit.binds (ps := ["one", "other"]) fun _ _ _ _ _ _ us hl => match us, hl with | [_, _], _ => rfl
  have F_taken := fun_mk (st := s_taken) l_taken c_taken k_taken
  have B_taken := F_taken.binds (ps := ["purse", "many"]) fun _ _ _ _ _ _ us hl => match us, hl with | [_, _], _ => rfl
  have F__law_cell_at := fun_mk (st := s__law_cell_at) l__law_cell_at c__law_cell_at k__law_cell_at
  have B__law_cell_at := F__law_cell_at.binds (ps := ["script", "k"]) fun _ _ _ _ _ _ us hl => match us, hl with | [_, _], _ => rfl
  have F__law_whole := fun_mk (st := s__law_whole) l__law_whole c__law_whole k__law_whole
  have B__law_whole := F__law_whole.binds (ps := ["found"]) fun _ _ _ _ _ _ us hl => match us, hl with | [_], _ => rfl
  have F__law_number := fun_mk (st := s__law_number) l__law_number c__law_number k__law_number
  have B__law_number := F__law_number.binds (ps := ["cell"]) fun _ _ _ _ _ _ us hl => match us, hl with | [_], _ => rfl
  have F_plus := fun_mk (st := s_plus) l_plus c_plus k_plus
  have B_plus := F_plus.binds (ps := ["one", "other"]) fun _ _ _ _ _ _ us hl => match us, hl with | [_, _], _ => rfl
  have F_less := fun_mk (st := s_less) l_less c_less k_less
  have B_less := F_less.binds (ps := ["one", "other"]) fun _ _ _ _ _ _ us hl => match us, hl with | [_, _], _ => rfl
  have F__law_rows := fun_mk (st := s__law_rows) l__law_rows c__law_rows k__law_rows
  have B__law_rows := F__law_rows.binds (ps := ["cells", "many", "k"]) fun _ _ _ _ _ _ us hl => match us, hl with | [_, _, _], _ => rfl
  have F__law_same := fun_mk (st := s__law_same) l__law_same c__law_same k__law_same
  have B__law_same := F__law_same.binds (ps := ["found", "due"]) fun _ _ _ _ _ _ us hl => match us, hl with | [_, _], _ => rfl
  have F_law := fun_mk (st := s_law) l_law c_law k_law
  have B_law := F_law.binds (ps := ["script"]) fun _ _ _ _ _ _ us hl => match us, hl with | [_], _ => rfl
  refine ⟨PySem.W.fnOf "law" "law" (defArgs s_law) (defBody s_law) (defScope s_law) .none kV_law dc_law pm_law an_law cd_law ct_law, fun s v => .of_eq rfl, fun base _ _ => ?_⟩
  have C_fit := d_fit (P := P) (w := w) (base := base) (cl := fun _ => 0) T F_fit (PySem.W.mg_of X G a_fit) B_fit 
  have C_taken := d_taken (P := P) (w := w) (base := base) (cl := fun _ => 0) T F_taken (PySem.W.mg_of X G a_taken) B_taken 
  have C__law_cell_at := d__law_cell_at (P := P) (w := w) (base := base) (cl := fun _ => 0) T F__law_cell_at (PySem.W.mg_of X G a__law_cell_at) B__law_cell_at 
  have C__law_whole := d__law_whole (P := P) (w := w) (base := base) (cl := fun _ => 0) T F__law_whole (PySem.W.mg_of X G a__law_whole) B__law_whole 
  have C__law_number := d__law_number (P := P) (w := w) (base := base) (cl := fun _ => 0) T F__law_number (PySem.W.mg_of X G a__law_number) B__law_number 
  have C_plus := d_plus (P := P) (w := w) (base := base) (cl := fun _ => 0) T F_plus (PySem.W.mg_of X G a_plus) B_plus C_fit
  have C_less := d_less (P := P) (w := w) (base := base) (cl := fun _ => 0) T F_less (PySem.W.mg_of X G a_less) B_less C_fit
  have C__law_rows := d__law_rows (P := P) (w := w) (base := base) (cl := fun _ => 0) T F__law_rows (PySem.W.mg_of X G a__law_rows) B__law_rows C__law_number
  have C__law_same := d__law_same (P := P) (w := w) (base := base) (cl := fun _ => 0) T F__law_same (PySem.W.mg_of X G a__law_same) B__law_same C__law_whole
  have C_law := d_law (P := P) (w := w) (base := base) (cl := fun _ => 0) T F_law (PySem.W.mg_of X G a_law) B_law C__law_number C__law_rows C__law_same C__law_cell_at C_plus C_less C_taken
  exact C_law.F
theorem walk {l : PySem.W.OpenLaw} {q : Program} {loose : List Str} {XP : (Str → Option Value) → Heap → Prop} {YP : World → Heap → Prop} {d : DefRec} {K : Params → PySem.W.Frag} (hn : l.most = some 63) (hdf : d.params.defaults = [])
    (hlaw : ∀ ns : List Int, ns.length ≤ 63 → m_law [.scr ns] = .ok (.sh (.bl true)))
    (hY : ∀ (w : World) (h : Heap), YP w h → (K w.params).In h)
    (F : ∀ (w : World) (mg : Str → Option Value) (fa : Addr) (h : Heap), (K w.params).In h → h.Ns mainGlobals mg → mg d.name = some (.ref fa) →
      ∃ fd : FuncData, (∀ (s : Shared) (u : Value), BindsTo s fd ⟨[u], []⟩ [("script", u)]) ∧ ∀ base : Heap, (K w.params).In base → base.Ns mainGlobals mg → FnOk l.prog w (K w.params) mg base (L2.CX l.prog w) 3 fa fd ["script"] (SpD (K w.params) (fun _ => 0) 1 m_law)) :
    PySem.W.WalkO q loose XP YP l.row.toRowW d [] (fun f vs => PySem.call f vs) :=
  law_end hn (by decide) hdf ⟨rfl, by decide, by decide⟩ hlaw hY F
end M
open PySem PySem.W PyProof.Rows
set_option maxRecDepth 100000 in
set_option maxHeartbeats 0 in
theorem PySem.Challenge.cw_swapmart_k03_purses_summed_holds : PySem.Challenge.rw_swapmart_k03_purses_summed.Holds := by
  w_on; o_law; k_head; (case hw => w_witness2)
  k_fill
  refine M.walk (l := PySem.Challenge.rw_swapmart_k03_purses_summed) rfl rfl M.law_true (fun w h Y => PySem.W.kIn_of Y) ?F
  case F =>
    intro w mg fa h KX G hmg
    refine' M.all_mk KX G hmg ?a_fit ?l_fit ?c_fit ?k_fit ?a_taken ?l_taken ?c_taken ?k_taken ?a__law_cell_at ?l__law_cell_at ?c__law_cell_at ?k__law_cell_at ?a__law_whole ?l__law_whole ?c__law_whole ?k__law_whole ?a__law_number ?l__law_number ?c__law_number ?k__law_number ?a_plus ?l_plus ?c_plus ?k_plus ?a_less ?l_less ?c_less ?k_less ?a__law_rows ?l__law_rows ?c__law_rows ?k__law_rows ?a__law_same ?l__law_same ?c__law_same ?k__law_same ?a_law ?l_law ?c_law ?k_law ?z_bool ?z_int ?z_isinstance ?z_len ?z_list ?z_range
    (case a_fit => k_is); (case l_fit => k_is); (case c_fit => k_is); (case k_fit => k_is)
    (case a_taken => k_is); (case l_taken => k_is); (case c_taken => k_is); (case k_taken => k_is)
    (case a__law_cell_at => k_is); (case l__law_cell_at => k_is); (case c__law_cell_at => k_is); (case k__law_cell_at => k_is)
    (case a__law_whole => k_is); (case l__law_whole => k_is); (case c__law_whole => k_is); (case k__law_whole => k_is)
    (case a__law_number => k_is); (case l__law_number => k_is); (case c__law_number => k_is); (case k__law_number => k_is)
    (case a_plus => k_is); (case l_plus => k_is); (case c_plus => k_is); (case k_plus => k_is)
    (case a_less => k_is); (case l_less => k_is); (case c_less => k_is); (case k_less => k_is)
    (case a__law_rows => k_is); (case l__law_rows => k_is); (case c__law_rows => k_is); (case k__law_rows => k_is)
    (case a__law_same => k_is); (case l__law_same => k_is); (case c__law_same => k_is); (case k__law_same => k_is)
    (case a_law => k_is); (case l_law => k_is); (case c_law => k_is); (case k_law => k_is)
    (case z_bool => k_is)
    (case z_int => k_is)
    (case z_isinstance => k_is)
    (case z_len => k_is)
    (case z_list => k_is)
    (case z_range => k_is)
