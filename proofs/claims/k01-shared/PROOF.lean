import PyProof.Rows.All
import Wide.All
import OpenK.AllK
import Wide.FinOn
import HandS.ForMost
import HandS.ForExc
import HandS.Wide
import HandS.IsInst
import PySem.Challenge.RW_swapmart_k01_shared
set_option Elab.async false
set_option linter.all false
set_option maxRecDepth 100000
set_option maxHeartbeats 4000000
/-! Plain data for values; trees whose lists are one's own; the state of a def by slots. -/
namespace M
open PySem L2
/-- a value with all that hangs on it; scr: the script as it was handed in -/
inductive D where
  | non | bl (b : Bool) | int (i : Int) | str (x : Str) | lst (xs : List D) | tup (xs : List D) | scr (ns : List Int)
/-- a tree whose lst and tup knots are nobody else's; sh: a value that is never changed again -/
inductive O where
  | sh (d : D) | lst (xs : List O) | tup (xs : List O)
mutual
def O.er : O → D
  | .sh d => d
  | .lst xs => .lst (erL xs)
  | .tup xs => .tup (erL xs)
def erL : List O → List D
  | [] => []
  | o :: os => o.er :: erL os
end
theorem erL_map : ∀ os : List O, erL os = os.map O.er
  | [] => rfl
  | o :: os => by rw [erL, erL_map os]; rfl
mutual
inductive Rp (K : PySem.W.Frag) (S : Hp) : V → D → Prop
  | non : Rp K S .non .non
  | bl (b : Bool) : Rp K S (.bl b) (.bl b)
  | int (i : Int) : Rp K S (.int i) (.int i)
  | str (x : Str) : Rp K S (.str x) (.str x)
  | lst {a : Addr} {vs : List V} {ds : List D} : S a = some (.lst vs) → RpL K S vs ds → Rp K S (.ref a) (.lst ds)
  | tup {a : Addr} {vs : List V} {ds : List D} : S a = some (.tup vs) → RpL K S vs ds → Rp K S (.ref a) (.tup ds)
  | scr {a : Addr} {ns : List Int} : SqL K S a (ns.map V.int) → Rp K S (.ref a) (.scr ns)
inductive RpL (K : PySem.W.Frag) (S : Hp) : List V → List D → Prop
  | nil : RpL K S [] []
  | cons {v : V} {vs : List V} {d : D} {ds : List D} : Rp K S v d → RpL K S vs ds → RpL K S (v :: vs) (d :: ds)
end
mutual
inductive Ow (K : PySem.W.Frag) (S H : Hp) : V → O → List Addr → Prop
  | sh {v : V} {d : D} : Rp K S v d → Ow K S H v (.sh d) []
  | lst {a : Addr} {vs : List V} {os : List O} {f : List Addr} : H a = some (.lst vs) → OwL K S H vs os f → Ow K S H (.ref a) (.lst os) (a :: f)
  | tup {a : Addr} {vs : List V} {os : List O} {f : List Addr} : H a = some (.tup vs) → OwL K S H vs os f → Ow K S H (.ref a) (.tup os) (a :: f)
inductive OwL (K : PySem.W.Frag) (S H : Hp) : List V → List O → List Addr → Prop
  | nil : OwL K S H [] [] []
  | cons {v : V} {vs : List V} {o : O} {os : List O} {f g : List Addr} : Ow K S H v o f → OwL K S H vs os g → OwL K S H (v :: vs) (o :: os) (f ++ g)
end
section
variable {K : PySem.W.Frag} {S S' H H' : Hp}
mutual
theorem Rp.mono (e : Same S S') : ∀ {v : V} {d : D}, Rp K S v d → Rp K S' v d
  | _, _, .non => .non
  | _, _, .bl b => .bl b
  | _, _, .int i => .int i
  | _, _, .str x => .str x
  | _, _, .lst h r => .lst (e _ _ h) (RpL.mono e r)
  | _, _, .tup h r => .tup (e _ _ h) (RpL.mono e r)
  | _, _, .scr h => .scr (e.seq h)
theorem RpL.mono (e : Same S S') : ∀ {vs : List V} {ds : List D}, RpL K S vs ds → RpL K S' vs ds
  | _, _, .nil => .nil
  | _, _, .cons h r => .cons (Rp.mono e h) (RpL.mono e r)
end
theorem RpL.length : ∀ {vs : List V} {ds : List D}, RpL K S vs ds → vs.length = ds.length
  | _, _, .nil => rfl
  | _, _, .cons _ r => by rw [List.length_cons, List.length_cons, r.length]
theorem RpL.get : ∀ {vs : List V} {ds : List D} {i : Nat} {d : D}, RpL K S vs ds → ds[i]? = some d → ∃ v, vs[i]? = some v ∧ Rp K S v d
  | _, _, _, _, .nil, e => by simp at e
  | _, _, 0, _, .cons h _, e => by simp at e; subst e; exact ⟨_, rfl, h⟩
  | _, _, i + 1, _, .cons _ r, e => by
    obtain ⟨v, h1, h2⟩ := r.get (i := i) (by simpa using e)
    exact ⟨v, by simpa using h1, h2⟩
theorem RpL.get' : ∀ {vs : List V} {ds : List D} {i : Nat} {v : V}, RpL K S vs ds → vs[i]? = some v → ∃ d, ds[i]? = some d ∧ Rp K S v d
  | _, _, _, _, .nil, e => by simp at e
  | _, _, 0, _, .cons h _, e => by simp at e; subst e; exact ⟨_, rfl, h⟩
  | _, _, i + 1, _, .cons _ r, e => by
    obtain ⟨v, h1, h2⟩ := r.get' (i := i) (by simpa using e)
    exact ⟨v, by simpa using h1, h2⟩
theorem RpL.append : ∀ {vs ws : List V} {ds es : List D}, RpL K S vs ds → RpL K S ws es → RpL K S (vs ++ ws) (ds ++ es)
  | _, _, _, _, .nil, s => s
  | _, _, _, _, .cons h r, s => .cons h (r.append s)
theorem RpL.take : ∀ {vs : List V} {ds : List D} (n : Nat), RpL K S vs ds → RpL K S (vs.take n) (ds.take n)
  | _, _, 0, _ => .nil
  | _, _, _ + 1, .nil => .nil
  | _, _, n + 1, .cons h r => .cons h (r.take n)
theorem RpL.drop : ∀ {vs : List V} {ds : List D} (n : Nat), RpL K S vs ds → RpL K S (vs.drop n) (ds.drop n)
  | _, _, 0, r => r
  | _, _, _ + 1, .nil => .nil
  | _, _, n + 1, .cons _ r => r.drop n
theorem RpL.ints : ∀ (ns : List Int), RpL K S (ns.map V.int) (ns.map D.int)
  | [] => .nil
  | n :: ns => .cons (.int n) (RpL.ints ns)
theorem RpL.bools : ∀ (ns : List Bool), RpL K S (ns.map V.bl) (ns.map D.bl)
  | [] => .nil
  | n :: ns => .cons (.bl n) (RpL.bools ns)
theorem RpL.of_ints : ∀ {ns : List Int} {vs : List V}, RpL K S vs (ns.map D.int) → vs = ns.map V.int
  | [], _, .nil => rfl
  | n :: ns, _, .cons h r => by
    cases h
    rw [RpL.of_ints r]
    rfl
theorem RpL.of_bools : ∀ {ns : List Bool} {vs : List V}, RpL K S vs (ns.map D.bl) → vs = ns.map V.bl
  | [], _, .nil => rfl
  | n :: ns, _, .cons h r => by
    cases h
    rw [RpL.of_bools r]
    rfl
mutual
theorem Ow.mono (e : Same S S') : ∀ {v : V} {o : O} {f : List Addr}, Ow K S H v o f → (∀ b ∈ f, H' b = H b) → Ow K S' H' v o f
  | _, _, _, .sh r, _ => .sh (r.mono e)
  | _, _, _, .lst (a := a) h r, k => .lst ((k a (List.mem_cons_self)).trans h) (OwL.mono e r fun b hb => k b (List.mem_cons_of_mem _ hb))
  | _, _, _, .tup (a := a) h r, k => .tup ((k a (List.mem_cons_self)).trans h) (OwL.mono e r fun b hb => k b (List.mem_cons_of_mem _ hb))
theorem OwL.mono (e : Same S S') : ∀ {vs : List V} {os : List O} {f : List Addr}, OwL K S H vs os f → (∀ b ∈ f, H' b = H b) → OwL K S' H' vs os f
  | _, _, _, .nil, _ => .nil
  | _, _, _, .cons h r, k => .cons (Ow.mono e h fun b hb => k b (List.mem_append_left _ hb)) (OwL.mono e r fun b hb => k b (List.mem_append_right _ hb))
end
mutual
theorem Ow.there : ∀ {v : V} {o : O} {f : List Addr}, Ow K S H v o f → ∀ b ∈ f, H b ≠ none
  | _, _, _, .sh r, b, hb => by cases hb
  | _, _, _, .lst h r, b, hb => by
    rcases List.mem_cons.mp hb with rfl | hb
    · rw [h]; simp
    · exact OwL.there r b hb
  | _, _, _, .tup h r, b, hb => by
    rcases List.mem_cons.mp hb with rfl | hb
    · rw [h]; simp
    · exact OwL.there r b hb
theorem OwL.there : ∀ {vs : List V} {os : List O} {f : List Addr}, OwL K S H vs os f → ∀ b ∈ f, H b ≠ none
  | _, _, _, .nil, b, hb => by cases hb
  | _, _, _, .cons h r, b, hb => by
    rcases List.mem_append.mp hb with hb | hb
    · exact Ow.there h b hb
    · exact OwL.there r b hb
end
mutual
theorem Ow.rp {T : Hp} (e : Same S T) : ∀ {v : V} {o : O} {f : List Addr}, Ow K S H v o f → (∀ b ∈ f, T b = H b) → Rp K T v o.er
  | _, _, _, .sh r, _ => r.mono e
  | _, _, _, .lst (a := a) h r, k => .lst ((k a (List.mem_cons_self)).trans h) (OwL.rp e r fun b hb => k b (List.mem_cons_of_mem _ hb))
  | _, _, _, .tup (a := a) h r, k => .tup ((k a (List.mem_cons_self)).trans h) (OwL.rp e r fun b hb => k b (List.mem_cons_of_mem _ hb))
theorem OwL.rp {T : Hp} (e : Same S T) : ∀ {vs : List V} {os : List O} {f : List Addr}, OwL K S H vs os f → (∀ b ∈ f, T b = H b) → RpL K T vs (erL os)
  | _, _, _, .nil, _ => .nil
  | _, _, _, .cons h r, k => .cons (Ow.rp e h fun b hb => k b (List.mem_append_left _ hb)) (OwL.rp e r fun b hb => k b (List.mem_append_right _ hb))
end
theorem OwL.length : ∀ {vs : List V} {os : List O} {f : List Addr}, OwL K S H vs os f → vs.length = os.length
  | _, _, _, .nil => rfl
  | _, _, _, .cons _ r => by rw [List.length_cons, List.length_cons, r.length]
theorem OwL.append : ∀ {vs ws : List V} {os ps : List O} {f g : List Addr}, OwL K S H vs os f → OwL K S H ws ps g → OwL K S H (vs ++ ws) (os ++ ps) (f ++ g)
  | _, _, _, _, _, _, .nil, s => s
  | _, _, _, _, _, _, .cons h r, s => by
    rw [List.append_assoc]
    exact .cons h (r.append s)
theorem OwL.shs : ∀ {vs : List V} {ds : List D}, RpL K S vs ds → OwL K S H vs (ds.map O.sh) []
  | _, _, .nil => .nil
  | _, _, .cons h r => by
    have := OwL.cons (.sh h) (OwL.shs r)
    simpa using this
theorem OwL.get : ∀ {vs : List V} {os : List O} {f : List Addr} {i : Nat} {o : O}, OwL K S H vs os f → os[i]? = some o → ∃ v f1 g f2, vs[i]? = some v ∧ f = f1 ++ g ++ f2 ∧ Ow K S H v o g ∧
    ∀ (S' H' : Hp) (v' : V) (o' : O) (g' : List Addr), Same S S' → (∀ b ∈ f1 ++ f2, H' b = H b) → Ow K S' H' v' o' g' → OwL K S' H' (vs.set i v') (os.set i o') (f1 ++ g' ++ f2)
  | _, _, _, _, _, .nil, e => by simp at e
  | _, _, _, 0, _, .cons (f := f) (g := g) h r, e => by
    simp at e; subst e
    refine ⟨_, [], f, g, rfl, by simp, h, fun S' H' v' o' g' e k w => ?_⟩
    have := OwL.cons w (OwL.mono e r fun b hb => k b (by simpa using hb))
    simpa using this
  | _, _, _, i + 1, _, .cons (f := f) (g := g) h r, e => by
    obtain ⟨v, f1, g1, f2, h1, h2, h3, h4⟩ := r.get (i := i) (by simpa using e)
    refine ⟨v, f ++ f1, g1, f2, by simpa using h1, by rw [h2]; simp, h3, fun S' H' v' o' g' e k w => ?_⟩
    have q := h4 S' H' v' o' g' e (fun b hb => k b (by simp only [List.mem_append] at hb ⊢; rcases hb with z | z; exact .inl (.inr z); exact .inr z)) w
    have := OwL.cons (Ow.mono e h fun b hb => k b (by simp only [List.mem_append]; exact .inl (.inl hb))) q
    simpa [List.append_assoc] using this
/-- a new address in a heap -/
theorem same_upd {H : Hp} {p : Addr} {o : HO} (h : H p = none) : Same H (upd H p o) := fun b u e => by
  rw [upd_ne (ne_of_none e h)]; exact e
theorem upd_keep {H : Hp} {p b : Addr} {o : HO} (h : H p = none) (hb : H b ≠ none) : upd H p o b = H b := upd_ne fun e => hb (e ▸ h)
/-- S with what H has at f -/
def frz (f : List Addr) (S H : Hp) : Hp := fun b => if b ∈ f then H b else S b
theorem frz_in {f : List Addr} {S H : Hp} {b : Addr} (h : b ∈ f) : frz f S H b = H b := if_pos h
theorem frz_out {f : List Addr} {S H : Hp} {b : Addr} (h : b ∉ f) : frz f S H b = S b := if_neg h
theorem frz_same {f : List Addr} {S H : Hp} (h : ∀ b ∈ f, S b = none) : Same S (frz f S H) := fun b o e => by
  by_cases hb : b ∈ f
  · rw [h b hb] at e; cases e
  · rw [frz_out hb]; exact e
theorem frz_low {f : List Addr} {S H : Hp} (e : Same S H) : Same (frz f S H) H := fun b o h => by
  by_cases hb : b ∈ f
  · rw [frz_in hb] at h; exact h
  · rw [frz_out hb] at h; exact e b o h
theorem frz_mono {f : List Addr} {S T H : Hp} (e : Same S T) : Same (frz f S H) (frz f T H) := fun b o h => by
  by_cases hb : b ∈ f
  · rw [frz_in hb] at h ⊢; exact h
  · rw [frz_out hb] at h ⊢; exact e b o h
/-- the slots -/
inductive OwSt (K : PySem.W.Frag) (S H : Hp) : St → List (Option O) → List Addr → Prop
  | nil : OwSt K S H [] [] []
  | none {v : Option V} {σ : St} {st : List (Option O)} {f : List Addr} : OwSt K S H σ st f → OwSt K S H (v :: σ) (none :: st) f
  | some {v : V} {o : O} {σ : St} {st : List (Option O)} {f g : List Addr} : Ow K S H v o f → OwSt K S H σ st g → OwSt K S H (some v :: σ) (some o :: st) (f ++ g)
theorem OwSt.mono (e : Same S S') : ∀ {σ : St} {st : List (Option O)} {f : List Addr}, OwSt K S H σ st f → (∀ b ∈ f, H' b = H b) → OwSt K S' H' σ st f
  | _, _, _, .nil, _ => .nil
  | _, _, _, .none r, k => .none (r.mono e k)
  | _, _, _, .some h r, k => .some (h.mono e fun b hb => k b (List.mem_append_left _ hb)) (r.mono e fun b hb => k b (List.mem_append_right _ hb))
theorem OwSt.there : ∀ {σ : St} {st : List (Option O)} {f : List Addr}, OwSt K S H σ st f → ∀ b ∈ f, H b ≠ Option.none
  | _, _, _, .nil, b, hb => by cases hb
  | _, _, _, .none r, b, hb => r.there b hb
  | _, _, _, .some h r, b, hb => by
    rcases List.mem_append.mp hb with hb | hb
    · exact h.there b hb
    · exact r.there b hb
theorem OwSt.length : ∀ {σ : St} {st : List (Option O)} {f : List Addr}, OwSt K S H σ st f → σ.length = st.length
  | _, _, _, .nil => rfl
  | _, _, _, .none r => by rw [List.length_cons, List.length_cons, r.length]
  | _, _, _, .some _ r => by rw [List.length_cons, List.length_cons, r.length]
theorem OwSt.get : ∀ {σ : St} {st : List (Option O)} {f : List Addr} {i : Nat} {o : O}, OwSt K S H σ st f → st[i]? = Option.some (Option.some o) → ∃ v f1 g f2, σ[i]? = Option.some (Option.some v) ∧ f = f1 ++ g ++ f2 ∧ Ow K S H v o g ∧
    (∀ (S' H' : Hp) (v' : V) (o' : O) (g' : List Addr), Same S S' → (∀ b ∈ f1 ++ f2, H' b = H b) → Ow K S' H' v' o' g' → OwSt K S' H' (σ.set i (Option.some v')) (st.set i (Option.some o')) (f1 ++ g' ++ f2)) ∧
    ∀ (S' H' : Hp) (v' : Option V), Same S S' → (∀ b ∈ f1 ++ f2, H' b = H b) → OwSt K S' H' (σ.set i v') (st.set i Option.none) (f1 ++ f2)
  | _, _, _, _, _, .nil, e => by simp at e
  | _, _, _, 0, _, .none r, e => by simp at e
  | _, _, _, i + 1, _, .none (v := w) r, e => by
    obtain ⟨v, f1, g1, f2, h1, h2, h3, h4, h5⟩ := r.get (i := i) (by simpa using e)
    exact ⟨v, f1, g1, f2, by simpa using h1, h2, h3, fun S' H' v' o' g' e k w' => .none (h4 S' H' v' o' g' e k w'), fun S' H' v' e k => .none (h5 S' H' v' e k)⟩
  | _, _, _, 0, _, .some (f := f) (g := g) h r, e => by
    simp at e; subst e
    refine ⟨_, [], f, g, rfl, by simp, h, fun S' H' v' o' g' e k w => ?_, fun S' H' v' e k => ?_⟩
    · have := OwSt.some w (r.mono e fun b hb => k b (by simpa using hb))
      simpa using this
    · have := OwSt.none (v := v') (r.mono e fun b hb => k b (by simpa using hb))
      simpa using this
  | _, _, _, i + 1, _, .some (f := f) (g := g) h r, e => by
    obtain ⟨v, f1, g1, f2, h1, h2, h3, h4, h5⟩ := r.get (i := i) (by simpa using e)
    refine ⟨v, f ++ f1, g1, f2, by simpa using h1, by rw [h2]; simp, h3, fun S' H' v' o' g' e k w => ?_, fun S' H' v' e k => ?_⟩
    · have q := h4 S' H' v' o' g' e (fun b hb => k b (by simp only [List.mem_append] at hb ⊢; rcases hb with z | z; exact .inl (.inr z); exact .inr z)) w
      have := OwSt.some (h.mono e fun b hb => k b (by simp only [List.mem_append]; exact .inl (.inl hb))) q
      simpa [List.append_assoc] using this
    · have q := h5 S' H' v' e (fun b hb => k b (by simp only [List.mem_append] at hb ⊢; rcases hb with z | z; exact .inl (.inr z); exact .inr z))
      have := OwSt.some (h.mono e fun b hb => k b (by simp only [List.mem_append]; exact .inl (.inl hb))) q
      simpa [List.append_assoc] using this
/-- a slot is filled anew -/
theorem OwSt.set : ∀ {σ : St} {st : List (Option O)} {f : List Addr} {i : Nat}, OwSt K S H σ st f → i < st.length → ∃ f1 g f2, f = f1 ++ g ++ f2 ∧
    (∀ (S' H' : Hp) (v' : V) (o' : O) (g' : List Addr), Same S S' → (∀ b ∈ f1 ++ f2, H' b = H b) → Ow K S' H' v' o' g' → OwSt K S' H' (σ.set i (Option.some v')) (st.set i (Option.some o')) (f1 ++ g' ++ f2)) ∧
    ∀ (S' H' : Hp) (v' : Option V), Same S S' → (∀ b ∈ f1 ++ f2, H' b = H b) → OwSt K S' H' (σ.set i v') (st.set i Option.none) (f1 ++ f2)
  | _, _, _, _, .nil, e => by simp at e
  | _, _, _, 0, .none (f := f) r, e => by
    refine ⟨[], [], f, by simp, fun S' H' v' o' g' e k w => ?_, fun S' H' v' e k => ?_⟩
    · have := OwSt.some w (r.mono e fun b hb => k b (by simpa using hb))
      simpa using this
    · have := OwSt.none (v := v') (r.mono e fun b hb => k b (by simpa using hb))
      simpa using this
  | _, _, _, i + 1, .none r, e => by
    obtain ⟨f1, g1, f2, h2, h4, h5⟩ := r.set (i := i) (by simpa using e)
    exact ⟨f1, g1, f2, h2, fun S' H' v' o' g' e k w' => .none (h4 S' H' v' o' g' e k w'), fun S' H' v' e k => .none (h5 S' H' v' e k)⟩
  | _, _, _, 0, .some (f := f) (g := g) h r, e => by
    refine ⟨[], f, g, by simp, fun S' H' v' o' g' e k w => ?_, fun S' H' v' e k => ?_⟩
    · have := OwSt.some w (r.mono e fun b hb => k b (by simpa using hb))
      simpa using this
    · have := OwSt.none (v := v') (r.mono e fun b hb => k b (by simpa using hb))
      simpa using this
  | _, _, _, i + 1, .some (f := f) (g := g) h r, e => by
    obtain ⟨f1, g1, f2, h2, h4, h5⟩ := r.set (i := i) (by simpa using e)
    refine ⟨f ++ f1, g1, f2, by rw [h2]; simp, fun S' H' v' o' g' e k w => ?_, fun S' H' v' e k => ?_⟩
    · have q := h4 S' H' v' o' g' e (fun b hb => k b (by simp only [List.mem_append] at hb ⊢; rcases hb with z | z; exact .inl (.inr z); exact .inr z)) w
      have := OwSt.some (h.mono e fun b hb => k b (by simp only [List.mem_append]; exact .inl (.inl hb))) q
      simpa [List.append_assoc] using this
    · have q := h5 S' H' v' e (fun b hb => k b (by simp only [List.mem_append] at hb ⊢; rcases hb with z | z; exact .inl (.inr z); exact .inr z))
      have := OwSt.some (h.mono e fun b hb => k b (by simp only [List.mem_append]; exact .inl (.inl hb))) q
      simpa [List.append_assoc] using this
end
/-- S: what is read and stays; T: what is left alone; the slots' own trees stand outside T -/
structure RS (K : PySem.W.Frag) (S T : Hp) (st : List (Option O)) (σ : St) (H : Hp) : Prop where
  lo : Same S T
  th : Same T H
  own : ∃ f, OwSt K S H σ st f ∧ f.Nodup ∧ ∀ b ∈ f, T b = none
theorem RS.sh {K S T st σ H} (r : RS K S T st σ H) : Same S H := r.lo.trans r.th
/-- behind an expression: what is new is read, or left alone -/
structure Ext (S T H S' T' : Hp) : Prop where
  s : Same S S'
  t : Same T T'
  old : ∀ b, H b ≠ none → S' b = S b ∧ T' b = T b
theorem Ext.refl {S T H : Hp} : Ext S T H S T := ⟨Same.refl _, Same.refl _, fun _ _ => ⟨rfl, rfl⟩⟩
theorem Ext.trans {S T H S1 T1 H1 S2 T2 : Hp} (a : Ext S T H S1 T1) (h : Same H H1) (b : Ext S1 T1 H1 S2 T2) : Ext S T H S2 T2 :=
  ⟨a.s.trans b.s, a.t.trans b.t, fun c hc => by
    have h1 : H1 c ≠ none := by
      cases e : H c with
      | none => exact absurd e hc
      | some o => rw [h c o e]; simp
    obtain ⟨p, q⟩ := a.old c hc
    obtain ⟨p', q'⟩ := b.old c h1
    exact ⟨p'.trans p, q'.trans q⟩⟩
/-- behind a statement -/
structure Ex3 (S T S' T' : Hp) : Prop where
  s : Same S S'
  t : Same T T'
  old : ∀ b, T b ≠ none → S' b = S b
theorem Ex3.refl {S T : Hp} : Ex3 S T S T := ⟨Same.refl _, Same.refl _, fun _ _ => rfl⟩
theorem Ex3.trans {S T S1 T1 S2 T2 : Hp} (a : Ex3 S T S1 T1) (b : Ex3 S1 T1 S2 T2) : Ex3 S T S2 T2 :=
  ⟨a.s.trans b.s, a.t.trans b.t, fun c hc => by
    have h1 : T1 c ≠ none := by
      cases e : T c with
      | none => exact absurd e hc
      | some o => rw [a.t c o e]; simp
    exact (b.old c h1).trans (a.old c hc)⟩
theorem Ext.ex3 {S T H S' T' : Hp} (a : Ext S T H S' T') (h : Same T H) : Ex3 S T S' T' := ⟨a.s, a.t, fun b hb => by
  cases e : T b with
  | none => exact absurd e hb
  | some o => exact (a.old b (by rw [h b o e]; simp)).1⟩
theorem RS.mono {K S T st σ H H'} (r : RS K S T st σ H) (h : Same H H') : RS K S T st σ H' := by
  obtain ⟨f, w, nd, k⟩ := r.own
  refine ⟨r.lo, r.th.trans h, f, w.mono (Same.refl _) fun b hb => ?_, nd, k⟩
  have := w.there b hb
  cases e : H b with
  | none => exact absurd e this
  | some o => exact h b o e
theorem RS.ext {K S T st σ H S' T' H'} (r : RS K S T st σ H) (h : Same H H') (x : Ext S T H S' T') (st' : Same S' T') (th' : Same T' H') : RS K S' T' st σ H' := by
  obtain ⟨f, w, nd, k⟩ := r.own
  refine ⟨st', th', f, w.mono x.s fun b hb => ?_, nd, fun b hb => ?_⟩
  · have := w.there b hb
    cases e : H b with
    | none => exact absurd e this
    | some o => exact h b o e
  · rw [(x.old b (w.there b hb)).2]; exact k b hb
theorem same_ne {H H' : Hp} (h : Same H H') {b : Addr} (e : H b ≠ none) : H' b = H b := by
  cases q : H b with
  | none => exact absurd q e
  | some o => exact h b o q
/-- a slot takes a new tree -/
theorem RS.set {K S T st σ H} {i : Nat} {v : V} {o : O} {g : List Addr} (r : RS K S T st σ H) (hi : i < st.length) (w : Ow K S H v o g) (nd : g.Nodup) (hg : ∀ b ∈ g, T b = none)
    (dj : ∀ f, OwSt K S H σ st f → ∀ b ∈ g, b ∉ f) : RS K S T (st.set i (some o)) (σ.set i (some v)) H := by
  obtain ⟨f, ws, ndf, k⟩ := r.own
  obtain ⟨f1, g0, f2, e, h4, h5⟩ := ws.set hi
  have d := dj f ws
  subst e
  refine ⟨r.lo, r.th, f1 ++ g ++ f2, h4 S H v o g (Same.refl _) (fun _ _ => rfl) w, ?_, fun b hb => ?_⟩
  · simp only [List.nodup_append, List.mem_append] at ndf d ⊢
    obtain ⟨⟨n1, n2, n3⟩, n4, n5⟩ := ndf
    refine ⟨⟨n1, nd, fun a ha b hb e => d b hb (e ▸ .inl (.inl ha))⟩, n4, fun a ha b hb e => ?_⟩
    rcases ha with ha | ha
    · exact n5 a (.inl ha) b hb e
    · exact d a ha (e ▸ .inr hb)
  · simp only [List.mem_append] at hb k
    rcases hb with (hb | hb) | hb
    · exact k b (.inl (.inl hb))
    · exact hg b hb
    · exact k b (.inr hb)
theorem RS.setSh {K S T st σ H} {i : Nat} {v : V} {d : D} (r : RS K S T st σ H) (hi : i < st.length) (w : Rp K S v d) : RS K S T (st.set i (some (.sh d))) (σ.set i (some v)) H :=
  r.set hi (.sh w) .nil (fun b hb => by cases hb) fun _ _ b hb => by cases hb
/-- fresh addresses are in no slot -/
theorem OwSt.fresh {K : PySem.W.Frag} {S H H' : Hp} {σ : St} {st : List (Option O)} {f g : List Addr} (w : OwSt K S H' σ st f) (h : ∀ b ∈ g, H b = Option.none) (k : ∀ b ∈ f, H b ≠ Option.none) : ∀ b ∈ g, b ∉ f := fun b hb hf => k b hf (h b hb)
end M

/-! What an expression, a test, a statement is worth over the slots; the judgements. -/
namespace M
open PySem L2
/-- a value, an own error by its class's name, or nothing is told -/
inductive Rs (α : Type) where
  | ok (a : α) | ex (c : Str) | bad
def Rs.bind {α β : Type} : Rs α → (α → Rs β) → Rs β
  | .ok a, f => f a
  | .ex c, _ => .ex c
  | .bad, _ => .bad
instance : Monad Rs where
  pure := .ok
  bind := Rs.bind
theorem ok_bind {α β : Type} (a : α) (f : α → Rs β) : (Rs.ok a >>= f) = f a := rfl
theorem ex_bind {α β : Type} (c : Str) (f : α → Rs β) : ((Rs.ex c : Rs α) >>= f) = .ex c := rfl
theorem bad_bind {α β : Type} (f : α → Rs β) : ((Rs.bad : Rs α) >>= f) = .bad := rfl
abbrev Sl := List (Option O)
inductive Fl where
  | nx (st : Sl) | rt (o : O) | bk (st : Sl) | ct (st : Sl) | ex (c : Str) | bad
def Fl.thn : Fl → (Sl → Fl) → Fl
  | .nx st, f => f st
  | r, _ => r
abbrev Cl := Str → Addr
section
variable (K : PySem.W.Frag) (cl : Cl) (W : WX)
def PV (σ : St) (H : Hp) (r : Rs D) (Q : VK) : Prop := match r with
  | .ok d => ∀ v H', Same H H' → Rp K H' v d → Q v H'
  | .ex c => ∀ H', Same H H' → W (.ref (cl c)) none σ H'
  | .bad => False
def PVs (σ : St) (H : Hp) (r : Rs (List D)) (Q : List V → Hp → Prop) : Prop := match r with
  | .ok ds => ∀ vs H', Same H H' → RpL K H' vs ds → Q vs H'
  | .ex c => ∀ H', Same H H' → W (.ref (cl c)) none σ H'
  | .bad => False
def PB (σ : St) (H : Hp) (r : Rs Bool) (Q : Bool → Hp → Prop) : Prop := match r with
  | .ok b => ∀ H', Same H H' → Q b H'
  | .ex c => ∀ H', Same H H' → W (.ref (cl c)) none σ H'
  | .bad => False
def PP (S T : Hp) (σ : St) (H : Hp) (r : Rs D) (Q : VK) : Prop := match r with
  | .ok d => ∀ v S' T' H', Same H H' → Ext S T H S' T' → Same S' T' → Same T' H' → Rp K S' v d → Q v H'
  | .ex c => ∀ H', Same H H' → W (.ref (cl c)) none σ H'
  | .bad => False
def PPs (S T : Hp) (σ : St) (H : Hp) (r : Rs (List D)) (Q : List V → Hp → Prop) : Prop := match r with
  | .ok ds => ∀ vs S' T' H', Same H H' → Ext S T H S' T' → Same S' T' → Same T' H' → RpL K S' vs ds → Q vs H'
  | .ex c => ∀ H', Same H H' → W (.ref (cl c)) none σ H'
  | .bad => False
def PF (S T : Hp) (σ : St) (H : Hp) (r : Rs O) (Q : VK) : Prop := match r with
  | .ok o => ∀ v S' T' H' g, Same H H' → Ext S T H S' T' → Same S' T' → Same T' H' → Ow K S' H' v o g → g.Nodup → (∀ b ∈ g, T' b = none ∧ H b = none) → Q v H'
  | .ex c => ∀ H', Same H H' → W (.ref (cl c)) none σ H'
  | .bad => False
def PFs (S T : Hp) (σ : St) (H : Hp) (r : Rs (List O)) (Q : List V → Hp → Prop) : Prop := match r with
  | .ok os => ∀ vs S' T' H' g, Same H H' → Ext S T H S' T' → Same S' T' → Same T' H' → OwL K S' H' vs os g → g.Nodup → (∀ b ∈ g, T' b = none ∧ H b = none) → Q vs H'
  | .ex c => ∀ H', Same H H' → W (.ref (cl c)) none σ H'
  | .bad => False
def PSt (S T : Hp) (r : Fl) (E : Ends) : Prop := match r with
  | .nx st => ∀ S' T' σ H, Ex3 S T S' T' → RS K S' T' st σ H → E.nx σ H
  | .bk st => ∀ S' T' σ H, Ex3 S T S' T' → RS K S' T' st σ H → E.bk σ H
  | .ct st => ∀ S' T' σ H, Ex3 S T S' T' → RS K S' T' st σ H → E.ct σ H
  | .rt o => ∀ v S' T' H g, Ex3 S T S' T' → Same S' T' → Same T' H → Ow K S' H v o g → g.Nodup → (∀ b ∈ g, T' b = none) → E.rt v H
  | .ex c => ∀ σ T' H, Same T T' → Same T' H → W (.ref (cl c)) none σ H
  | .bad => False
end
section
variable (K : PySem.W.Frag) (W : WX) (cl : Cl)
/-- R t: t is the reading of the expression (R := PE X e), or of a statement around it -/
structure EV (R : TE → Prop) (f : Sl → Rs D) : Prop where
  ex : ∃ t, R t ∧ ∀ S T st σ H Q, RS K S T st σ H → PV K cl W σ H (f st) Q → t σ H Q
structure EVs (R : TA → Prop) (f : Sl → Rs (List D)) : Prop where
  ex : ∃ t, R t ∧ ∀ S T st σ H Q, RS K S T st σ H → PVs K cl W σ H (f st) Q → t σ H Q
structure ET (R : TT → Prop) (f : Sl → Rs Bool) : Prop where
  ex : ∃ t, R t ∧ ∀ S T st σ H Q, RS K S T st σ H → PB cl W σ H (f st) Q → t σ H Q
structure EP (R : TE → Prop) (f : Sl → Rs D) : Prop where
  ex : ∃ t, R t ∧ ∀ S T st σ H Q, RS K S T st σ H → PP K cl W S T σ H (f st) Q → t σ H Q
structure EPs (R : TA → Prop) (f : Sl → Rs (List D)) : Prop where
  ex : ∃ t, R t ∧ ∀ S T st σ H Q, RS K S T st σ H → PPs K cl W S T σ H (f st) Q → t σ H Q
structure EF (R : TE → Prop) (f : Sl → Rs O) : Prop where
  ex : ∃ t, R t ∧ ∀ S T st σ H Q, RS K S T st σ H → PF K cl W S T σ H (f st) Q → t σ H Q
structure EFs (R : TA → Prop) (f : Sl → Rs (List O)) : Prop where
  ex : ∃ t, R t ∧ ∀ S T st σ H Q, RS K S T st σ H → PFs K cl W S T σ H (f st) Q → t σ H Q
end
/-! over a family of contexts (a comprehension's block stands in many) -/
section
variable {ι : Type} (X : ι → Cx)
abbrev PEf (e : Expr) : TE → Prop := fun t => ∀ z, PE (X z) e t
abbrev PTf (e : Expr) : TT → Prop := fun t => ∀ z, PT (X z) e t
abbrev PWf (e : Expr) : TT → Prop := fun t => ∀ z, PW (X z) e t
abbrev PAf (es : List Expr) : TA → Prop := fun t => ∀ z, PA (X z) es t
abbrev POf (e : Option Expr) : TO → Prop := fun t => ∀ z, PO (X z) e t
abbrev PGf (e : Expr) : TG → Prop := fun t => ∀ z, PG (X z) e t
abbrev PGsf (es : List Expr) : TGs → Prop := fun t => ∀ z, PGs (X z) es t
abbrev PIf (tg e : Expr) : TI → Prop := fun t => ∀ z, PI (X z) tg e t
abbrev PTsf (es : List Expr) : TT → Prop := fun t => ∀ z, PTs (X z) es t
abbrev PSf (s : Stmt) : TS → Prop := fun t => ∀ z, PS (X z) s t
abbrev PSsf (s : List Stmt) : TS → Prop := fun t => ∀ z, PSs (X z) s t
end
section
variable (K : PySem.W.Frag) (W : WX) (cl : Cl)
structure SJ (R : TS → Prop) (f : Sl → Fl) : Prop where
  ex : ∃ t, R t ∧ ∀ S T st σ H E, RS K S T st σ H → PSt K cl W S T (f st) E → t E σ H
end
section
variable {X : Cx} {W : WX} {cl : Cl} {K : PySem.W.Frag}
theorem PSt.mono {S T S' T' : Hp} {r : Fl} {E : Ends} (x : Ex3 S T S' T') (h : PSt K cl W S T r E) : PSt K cl W S' T' r E := by
  cases r with
  | nx st => exact fun S2 T2 σ H y => h S2 T2 σ H (x.trans y)
  | bk st => exact fun S2 T2 σ H y => h S2 T2 σ H (x.trans y)
  | ct st => exact fun S2 T2 σ H y => h S2 T2 σ H (x.trans y)
  | rt o => exact fun v S2 T2 H g y => h v S2 T2 H g (x.trans y)
  | ex c => exact fun σ T2 H y => h σ T2 H (x.t.trans y)
  | bad => exact h
theorem PV.mono {σ : St} {H H' : Hp} {r : Rs D} {Q : VK} (x : Same H H') (h : PV K cl W σ H r Q) : PV K cl W σ H' r Q := by
  cases r with
  | ok d => exact fun v H2 y => h v H2 (x.trans y)
  | ex c => exact fun H2 y => h H2 (x.trans y)
  | bad => exact h
/-! ### what an expression is worth, taken so or so -/
def prim : D → Bool
  | .non | .bl _ | .int _ | .str _ => true
  | _ => false
def asPrim (r : Rs D) : Rs D := r.bind fun d => if prim d then .ok d else .bad
theorem Rp.prim {S S' : Hp} {v : V} {d : D} (h : Rp K S v d) (p : prim d = true) : Rp K S' v d := by
  cases h with
  | non => exact .non
  | bl b => exact .bl b
  | int i => exact .int i
  | str x => exact .str x
  | lst _ _ => cases p
  | tup _ _ => cases p
  | scr _ => cases p
/-- a number, a truth, a text, None may be kept -/
theorem EV.prm {R : TE → Prop} {f : Sl → Rs D} (h : EV K W cl R f) : EP K W cl R fun st => asPrim (f st) := by
  obtain ⟨t, pt, k⟩ := h.ex
  refine ⟨t, pt, fun S T st σ H Q r q => k S T st σ H Q r ?_⟩
  show PV _ _ _ _ _ _ _
  have q : PP K cl W S T σ H (asPrim (f st)) Q := q
  revert q
  cases f st with
  | bad => exact fun q => q
  | ex c => exact fun q => q
  | ok d =>
    intro q v H' hs rp
    have e1 : asPrim (.ok d) = if prim d = true then .ok d else .bad := rfl
    rw [e1] at q
    by_cases p : prim d = true
    · rw [if_pos p] at q
      exact q v S T H' hs .refl r.lo (r.th.trans hs) (rp.prim p)
    · rw [if_neg p] at q
      exact q.elim
/-- what stays may be looked at -/
theorem EP.v {R : TE → Prop} {f : Sl → Rs D} (h : EP K W cl R f) : EV K W cl R f := by
  obtain ⟨t, pt, k⟩ := h.ex
  refine ⟨t, pt, fun S T st σ H Q r q => k S T st σ H Q r ?_⟩
  revert q
  cases f st with
  | bad => exact fun q => q
  | ex c => exact fun q => q
  | ok d => exact fun q v S' T' H' hs _ h1 h2 rp => q v H' hs (rp.mono (h1.trans h2))
theorem EPs.v {R : TA → Prop} {f : Sl → Rs (List D)} (h : EPs K W cl R f) : EVs K W cl R f := by
  obtain ⟨t, pt, k⟩ := h.ex
  refine ⟨t, pt, fun S T st σ H Q r q => k S T st σ H Q r ?_⟩
  revert q
  cases f st with
  | bad => exact fun q => q
  | ex c => exact fun q => q
  | ok d => exact fun q v S' T' H' hs _ h1 h2 rp => q v H' hs (rp.mono (h1.trans h2))
/-- what stays is a tree without own knots -/
def mapRs {α β : Type} (g : α → β) : Rs α → Rs β
  | .ok a => .ok (g a)
  | .ex c => .ex c
  | .bad => .bad
theorem EP.f {R : TE → Prop} {f : Sl → Rs D} (h : EP K W cl R f) : EF K W cl R fun st => mapRs O.sh (f st) := by
  obtain ⟨t, pt, k⟩ := h.ex
  refine ⟨t, pt, fun S T st σ H Q r q => k S T st σ H Q r ?_⟩
  have q : PF K cl W S T σ H (mapRs O.sh (f st)) Q := q
  revert q
  cases f st with
  | bad => exact fun q => q
  | ex c => exact fun q => q
  | ok d => exact fun q v S' T' H' hs x h1 h2 rp => q v S' T' H' [] hs x h1 h2 (.sh rp) .nil fun b hb => by cases hb
/-- a new tree, frozen -/
theorem frz_ext {S T H S' T' H' : Hp} {g : List Addr} (x : Ext S T H S' T') (hn : ∀ b ∈ g, T' b = none ∧ H b = none) (h1 : Same S' T') (h2 : Same T' H') :
    Ext S T H (frz g S' H') (frz g T' H') ∧ Same (frz g S' H') (frz g T' H') ∧ Same (frz g T' H') H' := by
  have hs : ∀ b ∈ g, S' b = none := fun b hb => by
    cases e : S' b with
    | none => rfl
    | some o => have := h1 b o e; rw [(hn b hb).1] at this; cases this
  refine ⟨⟨x.s.trans (frz_same hs), x.t.trans (frz_same fun b hb => (hn b hb).1), fun b hb => ?_⟩, frz_mono h1, frz_low h2⟩
  have hg : b ∉ g := fun z => hb (hn b z).2
  rw [frz_out hg, frz_out hg]
  exact x.old b hb
theorem EF.p {R : TE → Prop} {f : Sl → Rs O} (h : EF K W cl R f) : EP K W cl R fun st => mapRs O.er (f st) := by
  obtain ⟨t, pt, k⟩ := h.ex
  refine ⟨t, pt, fun S T st σ H Q r q => k S T st σ H Q r ?_⟩
  have q : PP K cl W S T σ H (mapRs O.er (f st)) Q := q
  revert q
  cases f st with
  | bad => exact fun q => q
  | ex c => exact fun q => q
  | ok o =>
    intro q v S' T' H' g hs x h1 h2 w nd hn
    obtain ⟨x2, a, b⟩ := frz_ext x hn h1 h2
    refine q v _ _ H' hs x2 a b (w.rp (frz_same fun b hb => ?_) fun b hb => frz_in hb)
    cases e : S' b with
    | none => rfl
    | some o => have := h1 b o e; rw [(hn b hb).1] at this; cases this
/-! ### statements, one behind the other -/
variable {ι : Type} {Y : ι → Cx}
theorem s_nil : SJ K W cl (PSsf Y []) Fl.nx := ⟨_, fun _ => pss_nil, fun S T st σ H E r q => q S T σ H .refl r⟩
theorem s_cons {s : Stmt} {ss : List Stmt} {f g : Sl → Fl} (h : SJ K W cl (PSf Y s) f) (k : SJ K W cl (PSsf Y ss) g) : SJ K W cl (PSsf Y (s :: ss)) fun st => (f st).thn g := by
  obtain ⟨t, pt, a⟩ := h.ex
  obtain ⟨u, pu, b⟩ := k.ex
  refine ⟨_, fun z => pss_cons (pt z) (pu z), fun S T st σ H E r q => a S T st σ H _ r ?_⟩
  revert q
  show PSt _ _ _ _ _ ((f st).thn g) _ → _
  cases f st with
  | nx st' => exact fun q S' T' σ' H' x r' => b S' T' st' σ' H' E r' (q.mono x)
  | rt o => exact fun q => q
  | bk st' => exact fun q => q
  | ct st' => exact fun q => q
  | ex c => exact fun q => q
  | bad => exact fun q => q
theorem s_one {s : Stmt} {f : Sl → Fl} (h : SJ K W cl (PSf Y s) f) : SJ K W cl (PSsf Y [s]) f := by
  obtain ⟨t, pt, a⟩ := h.ex
  exact ⟨_, fun z => pss_one (pt z), a⟩
end
end M

/-! Expressions. -/
namespace M
open PySem L2
def ofO {α : Type} : Option α → Rs α
  | some a => .ok a
  | none => .bad
theorem ofO_ok {α : Type} {o : Option α} {a : α} (h : ofO o = .ok a) : o = some a := by
  cases o with
  | none => cases h
  | some b => cases h; rfl
def getV (i : Nat) (st : Sl) : Rs D := match st[i]? with
  | some (some o) => .ok o.er
  | _ => .bad
/-- a slot that holds what stays -/
def getP (i : Nat) (st : Sl) : Rs D := match st[i]? with
  | some (some (.sh d)) => .ok d
  | _ => .bad
/-! values -/
def addD : D → D → Option D
  | .int i, .int j => some (.int (i + j))
  | .str x, .str y => if x.length + y.length ≤ sizeLine then some (.str (x ++ y)) else none
  | _, _ => none
def subD : D → D → Option D
  | .int i, .int j => some (.int (i - j))
  | _, _ => none
def mulOk (i j : Int) : Bool := !(decide (Builtin.Int.intBits i > shortFactorBits) && decide (Builtin.Int.intBits j > shortFactorBits) && Builtin.Int.intTooBig (Builtin.Int.intBits i + Builtin.Int.intBits j))
def mulD : D → D → Option D
  | .int i, .int j => if mulOk i j = true then some (.int (i * j)) else none
  | _, _ => none
def divOk (i j : Int) : Bool := decide (j ≠ 0) && !Builtin.divisionGoesByPylong i j
def fdivD : D → D → Option D
  | .int i, .int j => if divOk i j = true then some (.int (i.fdiv j)) else none
  | _, _ => none
def modD : D → D → Option D
  | .int i, .int j => if j ≠ 0 then some (.int (i.fmod j)) else none
  | _, _ => none
def powOk (i j : Int) : Bool := decide (0 ≤ j) && decide (j ≤ 1000000) && decide (i.natAbs < 2 ^ 64)
def powD : D → D → Option D
  | .int i, .int j => if powOk i j = true then some (.int (i ^ j.toNat)) else none
  | _, _ => none
def cmpD (p : Int → Int → Bool) : D → D → Option D
  | .int i, .int j => some (.bl (p i j))
  | _, _ => none
def ltD : D → D → Option D := cmpD fun i j => decide (i < j)
def leD : D → D → Option D := cmpD fun i j => decide (i ≤ j)
def gtD : D → D → Option D := cmpD fun i j => decide (j < i)
def geD : D → D → Option D := cmpD fun i j => decide (j ≤ i)
def isND : D → D → Option D
  | .non, .non => some (.bl true)
  | .bl _, .non | .int _, .non | .str _, .non | .lst _, .non | .tup _, .non | .scr _, .non => some (.bl false)
  | _, _ => none
def notND (a b : D) : Option D := match isND a b with
  | some (.bl k) => some (.bl (!k))
  | _ => none
mutual
def D.py : D → PyData
  | .non => .none
  | .bl b => .bool b
  | .int i => .int i
  | .str x => .str x
  | .lst xs => .list (pyL xs)
  | .tup xs => .tuple (pyL xs)
  | .scr ns => .list (ns.map .int)
def pyL : List D → List PyData
  | [] => []
  | d :: ds => d.py :: pyL ds
end
def eqB (a b : D) : Bool := PyData.eqv a.py b.py
def eqOk (a b : D) : Bool := SeqAt.shaped a.py && SeqAt.shaped b.py
def eqD (a b : D) : Option D := if eqOk a b = true then some (.bl (eqB a b)) else none
def neD (a b : D) : Option D := if eqOk a b = true then some (.bl (!eqB a b)) else none
def ixD : D → D → Option D
  | .lst ds, .int i => atI ds i
  | .tup ds, .int i => atI ds i
  | .scr ns, .int i => (atI ns i).map .int
  | _, _ => none
def negD : D → Option D
  | .int i => some (.int (-i))
  | _ => none
def lenD : D → Option D
  | .lst ds => some (.int ds.length)
  | .tup ds => some (.int ds.length)
  | .scr ns => some (.int ns.length)
  | .str x => if x.length ≤ sizeLine then some (.int x.length) else none
  | _ => none
def absD : D → Option D
  | .int i => some (.int (if i < 0 then -i else i))
  | _ => none
def intD : D → Option D
  | .int i => some (.int i)
  | .bl k => some (.int (if k then 1 else 0))
  | _ => none
def max2D : D → D → Option D
  | .int i, .int j => some (.int (if j > i then j else i))
  | _, _ => none
def min2D : D → D → Option D
  | .int i, .int j => some (.int (if j < i then j else i))
  | _, _ => none
def intsD : List D → Option (List Int)
  | [] => some []
  | .int i :: r => (intsD r).map (i :: ·)
  | _ => none
def boolsD : List D → Option (List Bool)
  | [] => some []
  | .bl i :: r => (boolsD r).map (i :: ·)
  | _ => none
def elems : D → Option (List D)
  | .lst ds => some ds
  | .scr ns => some (ns.map .int)
  | _ => none
def sumD (d : D) : Option D := (elems d).bind fun ds => (intsD ds).map fun ns => .int ns.sum
def allD (d : D) : Option D := (elems d).bind fun ds => (boolsD ds).map fun ns => .bl (ns.all id)
def anyD (d : D) : Option D := (elems d).bind fun ds => (boolsD ds).map fun ns => .bl (ns.any id)
def cutL {α : Type} (xs : List α) (lo hi : Option Int) : List α := (xs.drop (HT.sIx xs.length 0 lo)).take (HT.sIx xs.length xs.length hi - HT.sIx xs.length 0 lo)
theorem intsD_eq : ∀ {ds : List D} {ns : List Int}, intsD ds = some ns → ds = ns.map .int
  | [], ns, h => by cases h; rfl
  | .int i :: r, ns, h => by
    cases e : intsD r with
    | none => simp [intsD, e] at h
    | some ms =>
      simp [intsD, e] at h
      subst h
      rw [intsD_eq e]
      rfl
  | .non :: r, ns, h => by simp [intsD] at h
  | .bl _ :: r, ns, h => by simp [intsD] at h
  | .str _ :: r, ns, h => by simp [intsD] at h
  | .lst _ :: r, ns, h => by simp [intsD] at h
  | .tup _ :: r, ns, h => by simp [intsD] at h
  | .scr _ :: r, ns, h => by simp [intsD] at h
theorem boolsD_eq : ∀ {ds : List D} {ns : List Bool}, boolsD ds = some ns → ds = ns.map .bl
  | [], ns, h => by cases h; rfl
  | .bl i :: r, ns, h => by
    cases e : boolsD r with
    | none => simp [boolsD, e] at h
    | some ms =>
      simp [boolsD, e] at h
      subst h
      rw [boolsD_eq e]
      rfl
  | .non :: r, ns, h => by simp [boolsD] at h
  | .int _ :: r, ns, h => by simp [boolsD] at h
  | .str _ :: r, ns, h => by simp [boolsD] at h
  | .lst _ :: r, ns, h => by simp [boolsD] at h
  | .tup _ :: r, ns, h => by simp [boolsD] at h
  | .scr _ :: r, ns, h => by simp [boolsD] at h
section
variable {K : PySem.W.Frag} {S H : Hp}
/-- a list of values is a list of data -/
theorem Rp.seqL {v : V} {d : D} {ds : List D} (h : Rp K S v d) (e : elems d = some ds) : ∃ a vs, v = .ref a ∧ SqL K S a vs ∧ RpL K S vs ds := by
  cases h with
  | lst h r => cases e; exact ⟨_, _, rfl, SqL.of h, r⟩
  | scr h => cases e; exact ⟨_, _, rfl, h, .ints _⟩
  | non => cases e
  | bl _ => cases e
  | int _ => cases e
  | str _ => cases e
  | tup _ _ => cases e
mutual
theorem Rp.dp : ∀ {v : V} {d : D}, Rp K S v d → Dp K S v d.py
  | _, _, .non => .non
  | _, _, .bl b => .bl b
  | _, _, .int i => .int i
  | _, _, .str x => .str x
  | _, _, .lst h r => .lst (SqL.of h) (RpL.dp r)
  | _, _, .tup h r => .tup (SqT.of h) (RpL.dp r)
  | _, _, .scr h => .lst h (dpInts _)
theorem RpL.dp : ∀ {vs : List V} {ds : List D}, RpL K S vs ds → DpAll K S vs (pyL ds)
  | _, _, .nil => .nil
  | _, _, .cons h r => .cons (Rp.dp h) (RpL.dp r)
theorem dpInts : ∀ ns : List Int, DpAll K S (ns.map V.int) (ns.map PyData.int)
  | [] => .nil
  | n :: ns => .cons (.int n) (dpInts ns)
end
end
section
variable {ι : Type} {X : ι → Cx} {W : WX} {cl : Cl} {K : PySem.W.Frag}
/-! ### names, constants -/
theorem v_nm {e : Expr} {i : Nat} (h : PEf X e (tVar i)) : EV K W cl (PEf X e) (getV i) := by
  refine ⟨_, h, fun S T st σ H Q r q => ?_⟩
  have q : PV K cl W σ H (getV i st) Q := q
  unfold getV at q
  revert q
  cases e : st[i]? with
  | none => exact fun q => q.elim
  | some z =>
    cases z with
    | none => exact fun q => q.elim
    | some o =>
      intro q
      obtain ⟨f, w, nd, k⟩ := r.own
      obtain ⟨v, f1, g, f2, h1, h2, h3, _⟩ := w.get e
      exact ⟨v, h1, q v H (Same.refl _) (h3.rp r.sh fun _ _ => rfl)⟩
theorem p_nm {e : Expr} {i : Nat} (h : PEf X e (tVar i)) : EP K W cl (PEf X e) (getP i) := by
  refine ⟨_, h, fun S T st σ H Q r q => ?_⟩
  have q : PP K cl W S T σ H (getP i st) Q := q
  unfold getP at q
  revert q
  cases e : st[i]? with
  | none => exact fun q => q.elim
  | some z =>
    cases z with
    | none => exact fun q => q.elim
    | some o =>
      cases o with
      | lst _ => exact fun q => q.elim
      | tup _ => exact fun q => q.elim
      | sh d =>
        intro q
        obtain ⟨f, w, nd, k⟩ := r.own
        obtain ⟨v, f1, g, f2, h1, h2, h3, _⟩ := w.get e
        cases h3 with
        | sh rp => exact ⟨v, h1, q v S T H (Same.refl _) .refl r.lo r.th rp⟩
theorem v_c {e : Expr} {v : V} {d : D} (h : PEf X e (tC v)) (hd : ∀ H, Rp K H v d) : EV K W cl (PEf X e) fun _ => .ok d :=
  ⟨_, h, fun S T st σ H Q r q => q v H (Same.refl _) (hd H)⟩
theorem v_int {i : Int} {j pos} : EV K W cl (PEf X (.Constant (.int i) j pos)) fun _ => .ok (.int i) := v_c (fun _ => pe_int) fun _ => .int i
theorem v_bl {b : Bool} {j pos} : EV K W cl (PEf X (.Constant (.bool b) j pos)) fun _ => .ok (.bl b) := v_c (fun _ => pe_bl) fun _ => .bl b
theorem v_non {j pos} : EV K W cl (PEf X (.Constant .none j pos)) fun _ => .ok .non := v_c (fun _ => pe_non) fun _ => .non
theorem v_str {x : Str} {j pos} : EV K W cl (PEf X (.Constant (.str x) j pos)) fun _ => .ok (.str x) := v_c (fun _ => pe_str) fun _ => .str x
theorem p_c {e : Expr} {v : V} {d : D} (h : PEf X e (tC v)) (hd : ∀ H, Rp K H v d) : EP K W cl (PEf X e) fun _ => .ok d :=
  ⟨_, h, fun S T st σ H Q r q => q v S T H (Same.refl _) .refl r.lo r.th (hd S)⟩
theorem p_int {i : Int} {j pos} : EP K W cl (PEf X (.Constant (.int i) j pos)) fun _ => .ok (.int i) := p_c (fun _ => pe_int) fun _ => .int i
theorem p_bl {b : Bool} {j pos} : EP K W cl (PEf X (.Constant (.bool b) j pos)) fun _ => .ok (.bl b) := p_c (fun _ => pe_bl) fun _ => .bl b
theorem p_non {j pos} : EP K W cl (PEf X (.Constant .none j pos)) fun _ => .ok .non := p_c (fun _ => pe_non) fun _ => .non
theorem p_str {x : Str} {j pos} : EP K W cl (PEf X (.Constant (.str x) j pos)) fun _ => .ok (.str x) := p_c (fun _ => pe_str) fun _ => .str x
/-! ### operators -/
/-- a rule by values does what g tells -/
def Op2 (K : PySem.W.Frag) (r : R2) (g : D → D → Option D) : Prop := ∀ (H : Hp) (v w : V) (d e z : D) (Q : VK), Rp K H v d → Rp K H w e → g d e = some z → (∀ v' H', Same H H' → Rp K H' v' z → Q v' H') → r v w H Q
def bin2 (g : D → D → Option D) (a b : Rs D) : Rs D := a.bind fun x => b.bind fun y => ofO (g x y)
theorem op2_run {ta tb : TE} {r : R2} {g : D → D → Option D} {fa fb : Sl → Rs D} (hg : Op2 K r g)
    (ka : ∀ S T st σ H Q, RS K S T st σ H → PV K cl W σ H (fa st) Q → ta σ H Q) (kb : ∀ S T st σ H Q, RS K S T st σ H → PV K cl W σ H (fb st) Q → tb σ H Q)
    {S T st σ H Q} (rs : RS K S T st σ H) (q : PV K cl W σ H (bin2 g (fa st) (fb st)) Q) : tOp r ta tb σ H Q := by
  refine ka S T st σ H _ rs ?_
  revert q
  cases fa st with
  | bad => exact fun q => q
  | ex c => exact fun q => q
  | ok d =>
    intro q v H1 h1 r1
    refine kb S T st σ H1 _ (rs.mono h1) ?_
    revert q
    cases fb st with
    | bad => exact fun q => q
    | ex c => exact fun q H2 h2 => q H2 (h1.trans h2)
    | ok e =>
      intro q w H2 h2 r2
      cases ez : g d e with
      | none =>
        have q' : PV K cl W σ H (ofO (g d e)) Q := q
        rw [ez] at q'
        exact q'.elim
      | some z =>
        have q' : PV K cl W σ H (ofO (g d e)) Q := q
        rw [ez] at q'
        exact hg H2 v w d e z Q (r1.mono h2) r2 ez fun v' H3 h3 r3 => q' v' H3 ((h1.trans h2).trans h3) r3
theorem v_op {a b : Expr} {op : Operator} {pos : Pos} {r : R2} {g : D → D → Option D} {fa fb : Sl → Rs D} (ho : ∀ z, OpR (X z) (binaryOp op) r) (hg : Op2 K r g) (ha : EV K W cl (PEf X a) fa) (hb : EV K W cl (PEf X b) fb) :
    EV K W cl (PEf X (.BinOp a op b pos)) fun st => bin2 g (fa st) (fb st) := by
  obtain ⟨ta, pa, ka⟩ := ha.ex
  obtain ⟨tb, pb, kb⟩ := hb.ex
  exact ⟨_, fun z => pe_op (ho z) (pa z) (pb z), fun S T st σ H Q rs q => op2_run hg ka kb rs q⟩
theorem v_cmp {a b : Expr} {op : CmpOp} {pos : Pos} {r : R2} {g : D → D → Option D} {fa fb : Sl → Rs D} (ho : ∀ z, OpR (X z) (compareOp op) r) (hg : Op2 K r g) (hm : behindInMarks op b = false) (ha : EV K W cl (PEf X a) fa) (hb : EV K W cl (PEf X b) fb) :
    EV K W cl (PEf X (.Compare a [op] [b] pos)) fun st => bin2 g (fa st) (fb st) := by
  obtain ⟨ta, pa, ka⟩ := ha.ex
  obtain ⟨tb, pb, kb⟩ := hb.ex
  exact ⟨_, fun z => pe_cmpR (ho z) (pa z) (pb z) hm, fun S T st σ H Q rs q => op2_run hg ka kb rs q⟩
def asB (r : Rs D) : Rs Bool := r.bind fun d => match d with
  | .bl k => .ok k
  | _ => .bad
/-- a truth, as a test -/
theorem t_val {e : Expr} {f : Sl → Rs D} (h : EV K W cl (PEf X e) f) (he : ∀ z whole, isTrue e (X z).env whole = (do let v ← whole; standAt e.pos; holding [v] (truthy v)) := by intro _ _; rfl) : ET K W cl (PTf X e) fun st => asB (f st) := by
  obtain ⟨t, p, k⟩ := h.ex
  refine ⟨_, fun z => pt_val (p z) (he z), fun S T st σ H Q r q => k S T st σ H _ r ?_⟩
  have q : PB cl W σ H (asB (f st)) Q := q
  revert q
  cases f st with
  | bad => exact fun q => q
  | ex c => exact fun q => q
  | ok d =>
    intro q v H1 h1 rp
    cases rp with
    | bl b => exact ⟨b, rfl, q H1 h1⟩
    | non => exact q.elim
    | int _ => exact q.elim
    | str _ => exact q.elim
    | lst _ _ => exact q.elim
    | tup _ _ => exact q.elim
    | scr _ => exact q.elim
theorem t_cmp {a b : Expr} {op : CmpOp} {pos : Pos} {r : R2} {g : D → D → Option D} {fa fb : Sl → Rs D} (ho : ∀ z, OpR (X z) (compareOp op) r) (hg : Op2 K r g) (hm : behindInMarks op b = false) (ha : EV K W cl (PEf X a) fa) (hb : EV K W cl (PEf X b) fb) :
    ET K W cl (PTf X (.Compare a [op] [b] pos)) fun st => asB (bin2 g (fa st) (fb st)) := by
  obtain ⟨ta, pa, ka⟩ := ha.ex
  obtain ⟨tb, pb, kb⟩ := hb.ex
  refine ⟨_, fun z => pt_cmpR (ho z) (pa z) (pb z) hm, fun S T st σ H Q rs q => op2_run (Q := fun x H' => ∃ k, x = .bl k ∧ Q k H') hg ka kb rs ?_⟩
  have q : PB cl W σ H (asB (bin2 g (fa st) (fb st))) Q := q
  revert q
  cases bin2 g (fa st) (fb st) with
  | bad => exact fun q => q
  | ex c => exact fun q => q
  | ok d =>
    intro q v H1 h1 rp
    cases rp with
    | bl b => exact ⟨b, rfl, q H1 h1⟩
    | non => exact q.elim
    | int _ => exact q.elim
    | str _ => exact q.elim
    | lst _ _ => exact q.elim
    | tup _ _ => exact q.elim
    | scr _ => exact q.elim
def notT (r : Rs Bool) : Rs Bool := r.bind fun b => .ok (!b)
def andT (a b : Rs Bool) : Rs Bool := a.bind fun x => if x = true then b else .ok false
def orT (a b : Rs Bool) : Rs Bool := a.bind fun x => if x = true then .ok true else b
theorem t_not {a : Expr} {pos : Pos} {f : Sl → Rs Bool} (h : ET K W cl (PTf X a) f) : ET K W cl (PTf X (.UnaryOp .Not a pos)) fun st => notT (f st) := by
  obtain ⟨t, p, k⟩ := h.ex
  refine ⟨_, fun z => pt_not (p z), fun S T st σ H Q r q => k S T st σ H _ r ?_⟩
  have q : PB cl W σ H (notT (f st)) Q := q
  revert q
  cases f st with
  | bad => exact fun q => q
  | ex c => exact fun q => q
  | ok d => exact fun q H1 h1 => q H1 h1
theorem PB.mono {σ : St} {H H' : Hp} {r : Rs Bool} {Q : Bool → Hp → Prop} (x : Same H H') (h : PB cl W σ H r Q) : PB cl W σ H' r Q := by
  cases r with
  | ok d => exact fun H2 y => h H2 (x.trans y)
  | ex c => exact fun H2 y => h H2 (x.trans y)
  | bad => exact h
theorem w_and1 {a : Expr} {pos : Pos} {f : Sl → Rs Bool} (h : ET K W cl (PTf X a) f) : ET K W cl (PWf X (.BoolOp .And [a] pos)) f := by
  obtain ⟨t, p, k⟩ := h.ex
  exact ⟨_, fun z => pw_and1 (p z), k⟩
theorem w_or1 {a : Expr} {pos : Pos} {f : Sl → Rs Bool} (h : ET K W cl (PTf X a) f) : ET K W cl (PWf X (.BoolOp .Or [a] pos)) f := by
  obtain ⟨t, p, k⟩ := h.ex
  exact ⟨_, fun z => pw_or1 (p z), k⟩
theorem w_and {a b : Expr} {rest : List Expr} {pos : Pos} {f g : Sl → Rs Bool} (h : ET K W cl (PTf X a) f) (h2 : ET K W cl (PWf X (.BoolOp .And (b :: rest) pos)) g) :
    ET K W cl (PWf X (.BoolOp .And (a :: b :: rest) pos)) fun st => andT (f st) (g st) := by
  obtain ⟨t, p, k⟩ := h.ex
  obtain ⟨u, pu, ku⟩ := h2.ex
  refine ⟨_, fun z => pw_and (p z) (pu z), fun S T st σ H Q r q => k S T st σ H _ r ?_⟩
  have q : PB cl W σ H (andT (f st) (g st)) Q := q
  revert q
  cases f st with
  | bad => exact fun q => q
  | ex c => exact fun q => q
  | ok d =>
    cases d with
    | false => exact fun q H1 h1 => iteF (q H1 h1)
    | true => exact fun q H1 h1 => iteT (ku S T st σ H1 Q (r.mono h1) (PB.mono (r := g st) h1 q))
theorem w_or {a b : Expr} {rest : List Expr} {pos : Pos} {f g : Sl → Rs Bool} (h : ET K W cl (PTf X a) f) (h2 : ET K W cl (PWf X (.BoolOp .Or (b :: rest) pos)) g) :
    ET K W cl (PWf X (.BoolOp .Or (a :: b :: rest) pos)) fun st => orT (f st) (g st) := by
  obtain ⟨t, p, k⟩ := h.ex
  obtain ⟨u, pu, ku⟩ := h2.ex
  refine ⟨_, fun z => pw_or (p z) (pu z), fun S T st σ H Q r q => k S T st σ H _ r ?_⟩
  have q : PB cl W σ H (orT (f st) (g st)) Q := q
  revert q
  cases f st with
  | bad => exact fun q => q
  | ex c => exact fun q => q
  | ok d =>
    cases d with
    | true => exact fun q H1 h1 => iteT (q H1 h1)
    | false => exact fun q H1 h1 => iteF (ku S T st σ H1 Q (r.mono h1) (PB.mono (r := g st) h1 q))
theorem t_w {e : Expr} {f : Sl → Rs Bool} (h : ET K W cl (PWf X e) f) : ET K W cl (PTf X e) f := by
  obtain ⟨t, p, k⟩ := h.ex
  exact ⟨_, fun z => (p z).pt, k⟩
/-- truths joined, as a value -/
def andV (a b : Rs D) : Rs D := a.bind fun x => match x with
  | .bl true => b
  | .bl false => .ok (.bl false)
  | _ => .bad
def orV (a b : Rs D) : Rs D := a.bind fun x => match x with
  | .bl false => b
  | .bl true => .ok (.bl true)
  | _ => .bad
def notV (a : Rs D) : Rs D := a.bind fun x => match x with
  | .bl b => .ok (.bl (!b))
  | _ => .bad
theorem v_one {a : Expr} {op : BoolOp} {pos : Pos} {f : Sl → Rs D} (h : EV K W cl (PEf X a) f) : EV K W cl (PEf X (.BoolOp op [a] pos)) f := by
  obtain ⟨t, p, k⟩ := h.ex
  exact ⟨_, fun z => pe_one (p z), k⟩
theorem v_and {a b : Expr} {rest : List Expr} {pos : Pos} {f g : Sl → Rs D} (h : EV K W cl (PEf X a) f) (h2 : EV K W cl (PEf X (.BoolOp .And (b :: rest) pos)) g) :
    EV K W cl (PEf X (.BoolOp .And (a :: b :: rest) pos)) fun st => andV (f st) (g st) := by
  obtain ⟨t, p, k⟩ := h.ex
  obtain ⟨u, pu, ku⟩ := h2.ex
  refine ⟨_, fun z => pe_and (p z) (pu z), fun S T st σ H Q r q => k S T st σ H _ r ?_⟩
  have q : PV K cl W σ H (andV (f st) (g st)) Q := q
  revert q
  cases f st with
  | bad => exact fun q => q
  | ex c => exact fun q => q
  | ok d =>
    intro q v H1 h1 rp
    cases rp with
    | bl b =>
      refine ⟨b, rfl, ?_⟩
      cases b with
      | false => exact iteF (q _ H1 h1 (.bl false))
      | true => exact iteT (ku S T st σ H1 Q (r.mono h1) (PV.mono (r := g st) h1 q))
    | non => exact q.elim
    | int _ => exact q.elim
    | str _ => exact q.elim
    | lst _ _ => exact q.elim
    | tup _ _ => exact q.elim
    | scr _ => exact q.elim
theorem v_or {a b : Expr} {rest : List Expr} {pos : Pos} {f g : Sl → Rs D} (h : EV K W cl (PEf X a) f) (h2 : EV K W cl (PEf X (.BoolOp .Or (b :: rest) pos)) g) :
    EV K W cl (PEf X (.BoolOp .Or (a :: b :: rest) pos)) fun st => orV (f st) (g st) := by
  obtain ⟨t, p, k⟩ := h.ex
  obtain ⟨u, pu, ku⟩ := h2.ex
  refine ⟨_, fun z => pe_or (p z) (pu z), fun S T st σ H Q r q => k S T st σ H _ r ?_⟩
  have q : PV K cl W σ H (orV (f st) (g st)) Q := q
  revert q
  cases f st with
  | bad => exact fun q => q
  | ex c => exact fun q => q
  | ok d =>
    intro q v H1 h1 rp
    cases rp with
    | bl b =>
      refine ⟨b, rfl, ?_⟩
      cases b with
      | true => exact iteT (q _ H1 h1 (.bl true))
      | false => exact iteF (ku S T st σ H1 Q (r.mono h1) (PV.mono (r := g st) h1 q))
    | non => exact q.elim
    | int _ => exact q.elim
    | str _ => exact q.elim
    | lst _ _ => exact q.elim
    | tup _ _ => exact q.elim
    | scr _ => exact q.elim
theorem v_not {a : Expr} {pos : Pos} {f : Sl → Rs D} (h : EV K W cl (PEf X a) f) : EV K W cl (PEf X (.UnaryOp .Not a pos)) fun st => notV (f st) := by
  obtain ⟨t, p, k⟩ := h.ex
  refine ⟨_, fun z => pe_not (p z), fun S T st σ H Q r q => k S T st σ H _ r ?_⟩
  have q : PV K cl W σ H (notV (f st)) Q := q
  revert q
  cases f st with
  | bad => exact fun q => q
  | ex c => exact fun q => q
  | ok d =>
    intro q v H1 h1 rp
    cases rp with
    | bl b => exact ⟨b, rfl, q _ H1 h1 (.bl _)⟩
    | non => exact q.elim
    | int _ => exact q.elim
    | str _ => exact q.elim
    | lst _ _ => exact q.elim
    | tup _ _ => exact q.elim
    | scr _ => exact q.elim
/-! ### the operators' rules -/
theorem op_mulX {X : Cx} : OpR X (binaryOp .Mult) (rI (fun i j => mulOk i j = true) fun i j => .int (i * j)) := opI fun i j _ _ _ _ _ hc q => PyProof.Rows.mul_int q (by
  unfold IntMulOk
  intro z
  unfold mulOk at hc
  rw [z] at hc
  cases hc)
theorem op_fdivX {X : Cx} : OpR X (binaryOp .FloorDiv) (rI (fun i j => divOk i j = true) fun i j => .int (i.fdiv j)) := opI fun i j _ _ _ _ _ hc q => by
  unfold divOk at hc
  rw [Bool.and_eq_true] at hc
  exact PyProof.Rows.floordiv_int (of_decide_eq_true hc.1) q (.inl (by simpa using hc.2))
theorem o2I {C : Int → Int → Prop} {g : D → D → Option D} {h : Int → Int → V} {hd : Int → Int → D} (hh : ∀ i j H, Rp K H (h i j) (hd i j)) (e : ∀ i j z, g (.int i) (.int j) = some z → C i j ∧ z = hd i j) (no : ∀ d d2 z, g d d2 = some z → (∃ i, d = .int i) ∧ ∃ j, d2 = .int j) : Op2 K (rI C h) g := by
  intro H v w d d2 z Q r1 r2 ez q
  obtain ⟨⟨i, rfl⟩, ⟨j, rfl⟩⟩ := no _ _ _ ez
  cases r1
  cases r2
  obtain ⟨c, rfl⟩ := e i j z ez
  exact ⟨i, j, rfl, rfl, c, q _ _ (Same.refl _) (hh _ _ _)⟩
theorem o2I0 {g : D → D → Option D} {h : Int → Int → V} {hd : Int → Int → D} (hh : ∀ i j H, Rp K H (h i j) (hd i j)) (e : ∀ i j z, g (.int i) (.int j) = some z → z = hd i j) (no : ∀ d d2 z, g d d2 = some z → (∃ i, d = .int i) ∧ ∃ j, d2 = .int j) : Op2 K (rI0 h) g := by
  intro H v w d d2 z Q r1 r2 ez q
  obtain ⟨⟨i, rfl⟩, ⟨j, rfl⟩⟩ := no _ _ _ ez
  cases r1
  cases r2
  obtain rfl := e i j z ez
  exact ⟨i, j, rfl, rfl, q _ _ (Same.refl _) (hh _ _ _)⟩
theorem o_sub : Op2 K (rI0 fun i j => .int (i - j)) subD := o2I0 (hd := fun i j => .int (i - j)) (fun i j H => .int _) (fun i j z h => by cases h; rfl) fun d d2 z h => by cases d <;> cases d2 <;> first | exact ⟨⟨_, rfl⟩, ⟨_, rfl⟩⟩ | cases h
theorem o_add : Op2 K (fun v w H Q => rI0 (fun i j => .int (i + j)) v w H Q ∨ ∃ i j, v = .str i ∧ w = .str j ∧ i.length + j.length ≤ sizeLine ∧ Q (.str (i ++ j)) H) addD := by
  intro H v w d d2 z Q r1 r2 ez q
  cases d with
  | int i => cases d2 with
    | int j => cases r1; cases r2; cases ez; exact .inl ⟨i, j, rfl, rfl, q _ _ (Same.refl _) (.int _)⟩
    | _ => cases ez
  | str x => cases d2 with
    | str y =>
      cases r1; cases r2
      have ez : (if x.length + y.length ≤ sizeLine then some (D.str (x ++ y)) else none) = some z := ez
      by_cases c : x.length + y.length ≤ sizeLine
      · rw [if_pos c] at ez
        cases ez
        exact .inr ⟨x, y, rfl, rfl, c, q _ _ (Same.refl _) (.str _)⟩
      · rw [if_neg c] at ez
        cases ez
    | _ => cases ez
  | _ => cases ez
theorem op_addX {X : Cx} : OpR X (binaryOp .Add) (fun v w H Q => rI0 (fun i j => .int (i + j)) v w H Q ∨ ∃ i j, v = .str i ∧ w = .str j ∧ i.length + j.length ≤ sizeLine ∧ Q (.str (i ++ j)) H) := op_add.or op_add_str
theorem o_mul : Op2 K (rI (fun i j => mulOk i j = true) fun i j => .int (i * j)) mulD := o2I (hd := fun i j => .int (i * j)) (fun i j H => .int _) (fun i j z h => by
  have h : (if mulOk i j = true then some (D.int (i * j)) else none) = some z := h
  by_cases c : mulOk i j = true
  · rw [if_pos c] at h; cases h; exact ⟨c, rfl⟩
  · rw [if_neg c] at h; cases h) fun d d2 z h => by cases d <;> cases d2 <;> first | exact ⟨⟨_, rfl⟩, ⟨_, rfl⟩⟩ | cases h
theorem o_fdiv : Op2 K (rI (fun i j => divOk i j = true) fun i j => .int (i.fdiv j)) fdivD := o2I (hd := fun i j => .int (i.fdiv j)) (fun i j H => .int _) (fun i j z h => by
  have h : (if divOk i j = true then some (D.int (i.fdiv j)) else none) = some z := h
  by_cases c : divOk i j = true
  · rw [if_pos c] at h; cases h; exact ⟨c, rfl⟩
  · rw [if_neg c] at h; cases h) fun d d2 z h => by cases d <;> cases d2 <;> first | exact ⟨⟨_, rfl⟩, ⟨_, rfl⟩⟩ | cases h
theorem o_mod : Op2 K (rI (fun _ j => j ≠ 0) fun i j => .int (i.fmod j)) modD := o2I (hd := fun i j => .int (i.fmod j)) (fun i j H => .int _) (fun i j z h => by
  have h : (if j ≠ 0 then some (D.int (i.fmod j)) else none) = some z := h
  by_cases c : j ≠ 0
  · rw [if_pos c] at h; cases h; exact ⟨c, rfl⟩
  · rw [if_neg c] at h; cases h) fun d d2 z h => by cases d <;> cases d2 <;> first | exact ⟨⟨_, rfl⟩, ⟨_, rfl⟩⟩ | cases h
theorem o_pow : Op2 K (rI CPow fun i j => .int (i ^ j.toNat)) powD := o2I (hd := fun i j => .int (i ^ j.toNat)) (fun i j H => .int _) (fun i j z h => by
  have h : (if powOk i j = true then some (D.int (i ^ j.toNat)) else none) = some z := h
  by_cases c : powOk i j = true
  · rw [if_pos c] at h
    cases h
    unfold powOk at c
    simp only [Bool.and_eq_true, decide_eq_true_eq] at c
    exact ⟨⟨c.1.1, c.1.2, c.2⟩, rfl⟩
  · rw [if_neg c] at h; cases h) fun d d2 z h => by cases d <;> cases d2 <;> first | exact ⟨⟨_, rfl⟩, ⟨_, rfl⟩⟩ | cases h
theorem o_cmp {p : Int → Int → Bool} : Op2 K (rI0 fun i j => .bl (p i j)) (cmpD p) := o2I0 (hd := fun i j => .bl (p i j)) (fun i j H => .bl _) (fun i j z h => by cases h; rfl) fun d d2 z h => by cases d <;> cases d2 <;> first | exact ⟨⟨_, rfl⟩, ⟨_, rfl⟩⟩ | cases h
theorem o_eq : Op2 K (rEqD K) eqD := by
  intro H v w d e z Q r1 r2 ez q
  unfold eqD eqOk at ez
  by_cases c : (SeqAt.shaped d.py && SeqAt.shaped e.py) = true
  · rw [if_pos c] at ez
    cases ez
    rw [Bool.and_eq_true] at c
    exact ⟨_, _, r1.dp, r2.dp, c.1, c.2, q _ _ (Same.refl _) (.bl _)⟩
  · rw [if_neg c] at ez
    cases ez
theorem o_ne : Op2 K (rNeD K) neD := by
  intro H v w d e z Q r1 r2 ez q
  unfold neD eqOk at ez
  by_cases c : (SeqAt.shaped d.py && SeqAt.shaped e.py) = true
  · rw [if_pos c] at ez
    cases ez
    rw [Bool.and_eq_true] at c
    exact ⟨_, _, r1.dp, r2.dp, c.1, c.2, q _ _ (Same.refl _) (.bl _)⟩
  · rw [if_neg c] at ez
    cases ez
theorem o_isN : Op2 K (fun x y H Q => y = .non ∧ Q (.bl (decide (x = .non))) H) isND := by
  intro H v w d e z Q r1 r2 ez q
  cases e with
  | non =>
    cases r2
    refine ⟨rfl, ?_⟩
    cases r1 <;> cases ez <;> exact q _ _ (Same.refl _) (.bl _)
  | _ => cases d <;> cases ez
theorem o_notN : Op2 K (fun x y H Q => y = .non ∧ Q (.bl (!decide (x = .non))) H) notND := by
  intro H v w d e z Q r1 r2 ez q
  cases e with
  | non =>
    cases r2
    refine ⟨rfl, ?_⟩
    cases r1 <;> cases ez <;> exact q _ _ (Same.refl _) (.bl _)
  | _ => cases d <;> cases ez
theorem o_ix : Op2 K (rIx K) ixD := by
  intro H v w d e z Q r1 r2 ez q
  have key : ∀ {vs : List V} {ds : List D} {i : Int}, RpL K H vs ds → atI ds i = some z → ∃ u, atI vs i = some u ∧ Rp K H u z := fun {vs ds i} r h => by
    unfold atI at h ⊢
    rw [r.length]
    cases e : ixN ds.length i with
    | none => rw [e] at h; cases h
    | some j =>
      rw [e] at h
      exact r.get h
  cases e with
  | int i =>
    cases r2
    cases r1 with
    | lst h r =>
      obtain ⟨u, h1, h2⟩ := key r ez
      exact .inl ⟨_, _, i, u, rfl, rfl, SqL.of h, h1, q _ _ (Same.refl _) h2⟩
    | tup h r =>
      obtain ⟨u, h1, h2⟩ := key r ez
      exact .inr (.inl ⟨_, _, i, u, rfl, rfl, SqT.of h, h1, q _ _ (Same.refl _) h2⟩)
    | scr h =>
      rename_i a ns
      have ez : (atI ns i).map D.int = some z := ez
      have ez' : atI (ns.map D.int) i = some z := by
        unfold atI at ez ⊢
        rw [List.length_map]
        cases e : ixN ns.length i with
        | none => rw [e] at ez; cases ez
        | some j =>
          rw [e] at ez
          show (ns.map D.int)[j]? = some z
          rw [List.getElem?_map]
          exact ez
      obtain ⟨u, h1, h2⟩ := key (.ints ns) ez'
      exact .inl ⟨_, _, i, u, rfl, rfl, h, h1, q _ _ (Same.refl _) h2⟩
    | _ => cases ez
  | _ => cases d <;> cases ez
theorem v_ix {a b : Expr} {pos : Pos} {fa fb : Sl → Rs D} (ha : EV K W cl (PEf X a) fa) (hb : EV K W cl (PEf X b) fb) (hK : ∀ z, (X z).K = K := by intro _; rfl) (hs : PlainIx b := by exact fun _ _ => rfl) : EV K W cl (PEf X (.Subscript a b pos)) fun st => bin2 ixD (fa st) (fb st) := by
  obtain ⟨ta, pa, ka⟩ := ha.ex
  obtain ⟨tb, pb, kb⟩ := hb.ex
  exact ⟨_, fun z => pe_ix (hK z ▸ ix_seq) (pa z) (pb z) hs, fun S T st σ H Q rs q => op2_run o_ix ka kb rs q⟩
/-- an item of what stays, stays -/
theorem p_ix {a b : Expr} {pos : Pos} {fa fb : Sl → Rs D} (ha : EP K W cl (PEf X a) fa) (hb : EV K W cl (PEf X b) fb) (hK : ∀ z, (X z).K = K := by intro _; rfl) (hs : PlainIx b := by exact fun _ _ => rfl) : EP K W cl (PEf X (.Subscript a b pos)) fun st => bin2 ixD (fa st) (fb st) := by
  obtain ⟨ta, pa, ka⟩ := ha.ex
  obtain ⟨tb, pb, kb⟩ := hb.ex
  refine ⟨_, fun z => pe_ix (hK z ▸ ix_seq) (pa z) (pb z) hs, fun S T st σ H Q rs q => ?_⟩
  refine ka S T st σ H _ rs ?_
  have q : PP K cl W S T σ H (bin2 ixD (fa st) (fb st)) Q := q
  revert q
  cases fa st with
  | bad => exact fun q => q
  | ex c => exact fun q => q
  | ok d =>
    intro q v S1 T1 H1 h1 x1 s1 t1 r1
    refine kb S1 T1 st σ H1 _ (rs.ext h1 x1 s1 t1) ?_
    revert q
    cases fb st with
    | bad => exact fun q => q
    | ex c => exact fun q H2 h2 => q H2 (h1.trans h2)
    | ok e =>
      intro q w H2 h2 r2
      cases ez : ixD d e with
      | none =>
        have q' : PP K cl W S T σ H (ofO (ixD d e)) Q := q
        rw [ez] at q'
        exact q'.elim
      | some z =>
        have q' : PP K cl W S T σ H (ofO (ixD d e)) Q := q
        rw [ez] at q'
        cases e with
        | int i =>
          cases r2
          -- the rule's answer over S1, carried to the heap
          have fin : ∀ {vs : List V} {ds : List D}, RpL K S1 vs ds → atI ds i = some z → ∃ u, atI vs i = some u ∧ Q u H2 := fun {vs ds} r h => by
            unfold atI at h ⊢
            rw [r.length]
            cases e : ixN ds.length i with
            | none => rw [e] at h; cases h
            | some j =>
              rw [e] at h
              obtain ⟨u, h3, h4⟩ := r.get h
              exact ⟨u, h3, q' u S1 T1 H2 (h1.trans h2) x1 s1 (t1.trans h2) h4⟩
          have up : Same S1 H2 := (s1.trans t1).trans h2
          cases r1 with
          | lst h r =>
            obtain ⟨u, h3, h4⟩ := fin r ez
            exact .inl ⟨_, _, i, u, rfl, rfl, SqL.of (up _ _ h), h3, h4⟩
          | tup h r =>
            obtain ⟨u, h3, h4⟩ := fin r ez
            exact .inr (.inl ⟨_, _, i, u, rfl, rfl, SqT.of (up _ _ h), h3, h4⟩)
          | scr h =>
            rename_i a ns
            have ez : (atI ns i).map D.int = some z := ez
            have ez' : atI (ns.map D.int) i = some z := by
              unfold atI at ez ⊢
              rw [List.length_map]
              cases e : ixN ns.length i with
              | none => rw [e] at ez; cases ez
              | some j =>
                rw [e] at ez
                show (ns.map D.int)[j]? = some z
                rw [List.getElem?_map]
                exact ez
            obtain ⟨u, h3, h4⟩ := fin (.ints ns) ez'
            exact .inl ⟨_, _, i, u, rfl, rfl, up.seq h, h3, h4⟩
          | _ => cases ez
        | _ => cases d <;> cases ez
end
end M

/-! Expressions that make lists, calls. -/
namespace M
open PySem L2
section
variable {ι : Type} {X : ι → Cx} {W : WX} {cl : Cl} {K : PySem.W.Frag}
theorem no_low {S T H H' : Hp} (h : Same S H') {p : Addr} (e : H' p = none) : S p = none := h.free e
/-- a new list or tuple over the parts os -/
theorem new_knot {S T S1 T1 H H1 : Hp} {σ : St} {Q : VK} {vs : List V} {os : List O} {g : List Addr} (tp : Bool)
    (q : PF K cl W S T σ H (.ok (if tp then O.tup os else O.lst os)) Q) (hs : Same H H1) (x : Ext S T H S1 T1) (s1 : Same S1 T1) (t1 : Same T1 H1) (w : OwL K S1 H1 vs os g) (nd : g.Nodup) (hn : ∀ b ∈ g, T1 b = none ∧ H b = none)
    {p : Addr} (hp : H1 p = none) : Q (.ref p) (upd H1 p (if tp then .tup vs else .lst vs)) := by
  have hu : Same H1 (upd H1 p (if tp then HO.tup vs else HO.lst vs)) := same_upd hp
  have w2 : OwL K S1 (upd H1 p (if tp then HO.tup vs else HO.lst vs)) vs os g := w.mono (.refl _) fun b hb => upd_keep hp (w.there b hb)
  refine q (.ref p) S1 T1 _ (p :: g) (hs.trans hu) x s1 (t1.trans hu) ?_ ?_ ?_
  · cases tp with
    | false => exact .lst upd_same w2
    | true => exact .tup upd_same w2
  · exact List.nodup_cons.mpr ⟨fun hm => w.there p hm hp, nd⟩
  · intro b hb
    rcases List.mem_cons.mp hb with rfl | hb
    · exact ⟨t1.free hp, hs.free hp⟩
    · exact hn b hb
theorem new_list {S T S1 T1 H H1 : Hp} {σ : St} {Q : VK} {vs : List V} {ds : List D}
    (q : PF K cl W S T σ H (.ok (O.lst (ds.map .sh))) Q) (hs : Same H H1) (x : Ext S T H S1 T1) (s1 : Same S1 T1) (t1 : Same T1 H1) (w : RpL K S1 vs ds) {p : Addr} (hp : H1 p = none) : Q (.ref p) (upd H1 p (.lst vs)) :=
  new_knot (os := ds.map .sh) (g := []) false q hs x s1 t1 (OwL.shs w) .nil (fun b hb => by cases hb) hp
/-! ### arguments -/
theorem vs_nil : EVs K W cl (PAf X []) fun _ => .ok [] := ⟨_, fun _ => pa_nil, fun S T st σ H Q r q => q [] H (.refl _) .nil⟩
def consR {α : Type} (a : Rs α) (b : Rs (List α)) : Rs (List α) := a.bind fun x => b.bind fun xs => .ok (x :: xs)
theorem vs_cons {e : Expr} {es : List Expr} {f : Sl → Rs D} {g : Sl → Rs (List D)} (h : EV K W cl (PEf X e) f) (k : EVs K W cl (PAf X es) g) (hs : ∀ z, starEach (e :: es) (X z).env = (false, eval e (X z).env) :: starEach es (X z).env := by intro _; rfl) :
    EVs K W cl (PAf X (e :: es)) fun st => consR (f st) (g st) := by
  obtain ⟨t, p, ka⟩ := h.ex
  obtain ⟨u, pu, kb⟩ := k.ex
  refine ⟨_, fun z => pa_cons (p z) (pu z) (hs z), fun S T st σ H Q r q => ka S T st σ H _ r ?_⟩
  have q : PVs K cl W σ H (consR (f st) (g st)) Q := q
  revert q
  cases f st with
  | bad => exact fun q => q
  | ex c => exact fun q => q
  | ok d =>
    intro q v H1 h1 r1
    refine kb S T st σ H1 _ (r.mono h1) ?_
    revert q
    cases g st with
    | bad => exact fun q => q
    | ex c => exact fun q H2 h2 => q H2 (h1.trans h2)
    | ok ds => exact fun q vs H2 h2 r2 => q (v :: vs) H2 (h1.trans h2) (.cons (r1.mono h2) r2)
theorem ps_nil : EPs K W cl (PAf X []) fun _ => .ok [] := ⟨_, fun _ => pa_nil, fun S T st σ H Q r q => q [] S T H (.refl _) .refl r.lo r.th .nil⟩
theorem ps_cons {e : Expr} {es : List Expr} {f : Sl → Rs D} {g : Sl → Rs (List D)} (h : EP K W cl (PEf X e) f) (k : EPs K W cl (PAf X es) g) (hs : ∀ z, starEach (e :: es) (X z).env = (false, eval e (X z).env) :: starEach es (X z).env := by intro _; rfl) :
    EPs K W cl (PAf X (e :: es)) fun st => consR (f st) (g st) := by
  obtain ⟨t, p, ka⟩ := h.ex
  obtain ⟨u, pu, kb⟩ := k.ex
  refine ⟨_, fun z => pa_cons (p z) (pu z) (hs z), fun S T st σ H Q r q => ka S T st σ H _ r ?_⟩
  have q : PPs K cl W S T σ H (consR (f st) (g st)) Q := q
  revert q
  cases f st with
  | bad => exact fun q => q
  | ex c => exact fun q => q
  | ok d =>
    intro q v S1 T1 H1 h1 x1 s1 t1 r1
    refine kb S1 T1 st σ H1 _ (r.ext h1 x1 s1 t1) ?_
    revert q
    cases g st with
    | bad => exact fun q => q
    | ex c => exact fun q H2 h2 => q H2 (h1.trans h2)
    | ok ds => exact fun q vs S2 T2 H2 h2 x2 s2 t2 r2 => q (v :: vs) S2 T2 H2 (h1.trans h2) (x1.trans h1 x2) s2 t2 (.cons (r1.mono x2.s) r2)
/-- trees, one behind the other; n of them -/
structure EFn (K : PySem.W.Frag) (W : WX) (cl : Cl) (R : TA → Prop) (n : Nat) (f : Sl → Rs (List O)) : Prop where
  run : EFs K W cl R f
  len : ∀ st os, f st = .ok os → os.length = n
theorem fs_nil : EFn K W cl (PAf X []) 0 fun _ => .ok [] :=
  ⟨⟨_, fun _ => pa_nil, fun S T st σ H Q r q => q [] S T H [] (.refl _) .refl r.lo r.th .nil .nil fun b hb => by cases hb⟩, fun st os h => by cases h; rfl⟩
theorem fs_cons {n : Nat} {e : Expr} {es : List Expr} {f : Sl → Rs O} {g : Sl → Rs (List O)} (h : EF K W cl (PEf X e) f) (k : EFn K W cl (PAf X es) n g) (hs : ∀ z, starEach (e :: es) (X z).env = (false, eval e (X z).env) :: starEach es (X z).env := by intro _; rfl) :
    EFn K W cl (PAf X (e :: es)) (n + 1) fun st => consR (f st) (g st) := by
  obtain ⟨t, p, ka⟩ := h.ex
  obtain ⟨u, pu, kb⟩ := k.run.ex
  refine ⟨⟨_, fun z => pa_cons (p z) (pu z) (hs z), fun S T st σ H Q r q => ka S T st σ H _ r ?_⟩, fun st os h => ?_⟩
  · have q : PFs K cl W S T σ H (consR (f st) (g st)) Q := q
    revert q
    cases f st with
    | bad => exact fun q => q
    | ex c => exact fun q => q
    | ok d =>
      intro q v S1 T1 H1 g1 h1 x1 s1 t1 w1 n1 k1
      refine kb S1 T1 st σ H1 _ (r.ext h1 x1 s1 t1) ?_
      revert q
      cases g st with
      | bad => exact fun q => q
      | ex c => exact fun q H2 h2 => q H2 (h1.trans h2)
      | ok ds =>
        intro q vs S2 T2 H2 g2 h2 x2 s2 t2 w2 n2 k2
        have th := w1.there
        refine q (v :: vs) S2 T2 H2 (g1 ++ g2) (h1.trans h2) (x1.trans h1 x2) s2 t2 (.cons (w1.mono x2.s fun b hb => same_ne h2 (th b hb)) w2) ?_ fun b hb => ?_
        · rw [List.nodup_append]
          refine ⟨n1, n2, fun a ha b hb e => th a ha ?_⟩
          rw [e]
          exact (k2 b hb).2
        · rcases List.mem_append.mp hb with hb | hb
          · exact ⟨by rw [(x2.old b (th b hb)).2]; exact (k1 b hb).1, (k1 b hb).2⟩
          · exact ⟨(k2 b hb).1, h1.free (k2 b hb).2⟩
  · have h : consR (f st) (g st) = .ok os := h
    revert h
    cases f st with
    | bad => intro h; cases h
    | ex c => intro h; cases h
    | ok d =>
      cases e : g st with
      | bad => intro h; cases h
      | ex c => intro h; cases h
      | ok ds =>
        intro h
        cases h
        rw [List.length_cons, k.len st ds e]
theorem f_lst {n : Nat} {es : List Expr} {pos : Pos} {f : Sl → Rs (List O)} (h : EFn K W cl (PAf X es) n f) (hn : n ≤ sizeLine := by decide) : EF K W cl (PEf X (.List es pos)) fun st => mapRs O.lst (f st) := by
  obtain ⟨t, p, ka⟩ := h.run.ex
  refine ⟨_, fun z => pe_lst (p z), fun S T st σ H Q r q => ka S T st σ H _ r ?_⟩
  have q : PF K cl W S T σ H (mapRs O.lst (f st)) Q := q
  have ln := h.len st
  revert q ln
  cases f st with
  | bad => exact fun q _ => q
  | ex c => exact fun q _ => q
  | ok os => exact fun q ln vs S1 T1 H1 g1 h1 x1 s1 t1 w1 n1 k1 => ⟨by rw [w1.length, ln os rfl]; exact hn, fun p hp => new_knot false q h1 x1 s1 t1 w1 n1 k1 hp⟩
theorem f_tup {n : Nat} {es : List Expr} {x1 : Nat} {pos : Pos} {f : Sl → Rs (List O)} (h : EFn K W cl (PAf X es) n f) (hn : n ≤ sizeLine := by decide) : EF K W cl (PEf X (.Tuple es x1 pos)) fun st => mapRs O.tup (f st) := by
  obtain ⟨t, p, ka⟩ := h.run.ex
  refine ⟨_, fun z => pe_tup (p z), fun S T st σ H Q r q => ka S T st σ H _ r ?_⟩
  have q : PF K cl W S T σ H (mapRs O.tup (f st)) Q := q
  have ln := h.len st
  revert q ln
  cases f st with
  | bad => exact fun q _ => q
  | ex c => exact fun q _ => q
  | ok os => exact fun q ln vs S1 T1 H1 g1 h1 x1 s1 t1 w1 n1 k1 => ⟨by rw [w1.length, ln os rfl]; exact hn, fun p hp => new_knot true q h1 x1 s1 t1 w1 n1 k1 hp⟩
/-! ### one operand -/
def Op1 (K : PySem.W.Frag) (r : V → Hp → VK → Prop) (g : D → Option D) : Prop := ∀ (H : Hp) (v : V) (d z : D) (Q : VK), Rp K H v d → g d = some z → (∀ v' H', Same H H' → Rp K H' v' z → Q v' H') → r v H Q
def un1 (g : D → Option D) (a : Rs D) : Rs D := a.bind fun x => ofO (g x)
theorem op1_run {ta : TE} {r : V → Hp → VK → Prop} {g : D → Option D} {fa : Sl → Rs D} (hg : Op1 K r g) (ka : ∀ S T st σ H Q, RS K S T st σ H → PV K cl W σ H (fa st) Q → ta σ H Q)
    {S T st σ H Q} (rs : RS K S T st σ H) (q : PV K cl W σ H (un1 g (fa st)) Q) : ta σ H fun x H1 => r x H1 Q := by
  refine ka S T st σ H _ rs ?_
  revert q
  cases fa st with
  | bad => exact fun q => q
  | ex c => exact fun q => q
  | ok d =>
    intro q v H1 h1 r1
    have q' : PV K cl W σ H (ofO (g d)) Q := q
    cases ez : g d with
    | none => rw [ez] at q'; exact q'.elim
    | some z =>
      rw [ez] at q'
      exact hg H1 v d z Q r1 ez fun v' H3 h3 r3 => q' v' H3 (h1.trans h3) r3
theorem v_un {a : Expr} {op : UnaryOp} {pos : Pos} {r : V → Hp → VK → Prop} {g : D → Option D} {fa : Sl → Rs D} (ho : ∀ z, UnR (X z) (unaryOp op) r) (hg : Op1 K r g) (ha : EV K W cl (PEf X a) fa) : EV K W cl (PEf X (.UnaryOp op a pos)) fun st => un1 g (fa st) := by
  obtain ⟨ta, pa, ka⟩ := ha.ex
  exact ⟨_, fun z => pe_un (ho z) (pa z), fun S T st σ H Q rs q => op1_run hg ka rs q⟩
theorem o_neg : Op1 K (rU fun i => .int (-i)) negD := by
  intro H v d z Q r e q
  cases r with
  | int i => cases e; exact ⟨i, rfl, q _ _ (.refl _) (.int _)⟩
  | _ => cases e
/-- a built-in's call with one argument, by the rule of its values -/
theorem v_call1 {R : TE → Prop} {a : Expr} {r : List V → Hp → VK → Prop} {g : D → Option D} {fa : Sl → Rs D} (hp : ∀ t, PAf X [a] t → R (tCB r t)) (hg : Op1 K (fun x => r [x]) g) (ha : EV K W cl (PEf X a) fa)
    (hs : ∀ z, starEach [a] (X z).env = [(false, eval a (X z).env)] := by intro _; rfl) : EV K W cl R fun st => un1 g (fa st) := by
  obtain ⟨ta, pa, ka⟩ := ha.ex
  exact ⟨_, hp _ fun z => pa_cons (pa z) pa_nil (hs z), fun S T st σ H Q rs q => op1_run (r := fun x => r [x]) hg ka rs q⟩
theorem v_call2 {R : TE → Prop} {a b : Expr} {r : List V → Hp → VK → Prop} {g : D → D → Option D} {fa fb : Sl → Rs D} (hp : ∀ t, PAf X [a, b] t → R (tCB r t)) (hg : Op2 K (fun x y => r [x, y]) g) (ha : EV K W cl (PEf X a) fa) (hb : EV K W cl (PEf X b) fb)
    (hs : ∀ z, starEach [a, b] (X z).env = [(false, eval a (X z).env), (false, eval b (X z).env)] := by intro _; rfl) (hs2 : ∀ z, starEach [b] (X z).env = [(false, eval b (X z).env)] := by intro _; rfl) : EV K W cl R fun st => bin2 g (fa st) (fb st) := by
  obtain ⟨ta, pa, ka⟩ := ha.ex
  obtain ⟨tb, pb, kb⟩ := hb.ex
  exact ⟨_, hp _ fun z => pa_cons (pa z) (pa_cons (pb z) pa_nil (hs2 z)) ((hs z).trans (by rw [← hs2 z])), fun S T st σ H Q rs q => op2_run (r := fun x y => r [x, y]) hg ka kb rs q⟩
abbrev rLen (K : PySem.W.Frag) : List V → Hp → VK → Prop := fun xs H Q => ∃ x n, xs = [x] ∧ LenV K x H n ∧ Q (.int n) H
abbrev rAbs : List V → Hp → VK → Prop := fun xs H Q => ∃ i, xs = [.int i] ∧ Q (.int (if i < 0 then -i else i)) H
abbrev rInt1 : List V → Hp → VK → Prop := fun xs H Q => (∃ i, xs = [.int i] ∧ Q (.int i) H) ∨ ∃ k, xs = [.bl k] ∧ Q (.int (if k then 1 else 0)) H
abbrev rMax2 : List V → Hp → VK → Prop := fun xs H Q => ∃ i j, xs = [.int i, .int j] ∧ Q (.int (if j > i then j else i)) H
abbrev rMin2 : List V → Hp → VK → Prop := fun xs H Q => ∃ i j, xs = [.int i, .int j] ∧ Q (.int (if j < i then j else i)) H
theorem o_len : Op1 K (fun x H Q => ∃ y n, [x] = [y] ∧ LenV K y H n ∧ Q (.int n) H) lenD := by
  intro H v d z Q r e q
  refine ⟨v, ?_⟩
  cases r with
  | lst h r => cases e; exact ⟨_, rfl, .inl ⟨_, SqL.of h, r.length.symm⟩, q _ _ (.refl _) (.int _)⟩
  | tup h r => cases e; exact ⟨_, rfl, .inr ⟨_, SqT.of h, r.length.symm⟩, q _ _ (.refl _) (.int _)⟩
  | scr h =>
    rename_i a ns
    cases e
    exact ⟨ns.length, rfl, .inl ⟨_, h, by rw [List.length_map]⟩, q _ _ (.refl _) (.int _)⟩
  | str x =>
    have e : (if x.length ≤ sizeLine then some (D.int x.length) else none) = some z := e
    by_cases c : x.length ≤ sizeLine
    · rw [if_pos c] at e
      cases e
      exact ⟨x.length, rfl, ⟨c, rfl⟩, q _ _ (.refl _) (.int _)⟩
    · rw [if_neg c] at e
      cases e
  | non => cases e
  | bl _ => cases e
  | int _ => cases e
theorem o_abs : Op1 K (fun x H Q => ∃ i, [x] = [.int i] ∧ Q (.int (if i < 0 then -i else i)) H) absD := by
  intro H v d z Q r e q
  cases r with
  | int i => cases e; exact ⟨i, rfl, q _ _ (.refl _) (.int _)⟩
  | _ => cases e
theorem o_int : Op1 K (fun x H Q => (∃ i, [x] = [.int i] ∧ Q (.int i) H) ∨ ∃ k, [x] = [.bl k] ∧ Q (.int (if k then 1 else 0)) H) intD := by
  intro H v d z Q r e q
  cases r with
  | int i => cases e; exact .inl ⟨i, rfl, q _ _ (.refl _) (.int _)⟩
  | bl k => cases e; exact .inr ⟨k, rfl, q _ _ (.refl _) (.int _)⟩
  | _ => cases e
theorem o_max2 : Op2 K (fun x y H Q => ∃ i j, [x, y] = [.int i, .int j] ∧ Q (.int (if j > i then j else i)) H) max2D := by
  intro H v w d e z Q r1 r2 ez q
  cases d with
  | int i => cases e with
    | int j => cases r1; cases r2; cases ez; exact ⟨i, j, rfl, q _ _ (.refl _) (.int _)⟩
    | _ => cases ez
  | _ => cases ez
theorem o_min2 : Op2 K (fun x y H Q => ∃ i j, [x, y] = [.int i, .int j] ∧ Q (.int (if j < i then j else i)) H) min2D := by
  intro H v w d e z Q r1 r2 ez q
  cases d with
  | int i => cases e with
    | int j => cases r1; cases r2; cases ez; exact ⟨i, j, rfl, q _ _ (.refl _) (.int _)⟩
    | _ => cases ez
  | _ => cases ez
theorem o_sum : Op1 K (fun x => rSum K [x]) sumD := by
  intro H v d z Q r e q
  unfold sumD at e
  cases e1 : elems d with
  | none => rw [e1] at e; cases e
  | some ds =>
    obtain ⟨a, vs, rfl, h, rl⟩ := r.seqL e1
    rw [e1] at e
    have e : (intsD ds).map (fun ns => D.int ns.sum) = some z := e
    cases e2 : intsD ds with
    | none => rw [e2] at e; cases e
    | some ns =>
      rw [e2] at e
      cases e
      rw [intsD_eq e2] at rl
      rw [rl.of_ints] at h
      exact ⟨a, ns, rfl, h, q _ _ (.refl _) (.int _)⟩
theorem o_all : Op1 K (fun x => rAll K [x]) allD := by
  intro H v d z Q r e q
  unfold allD at e
  cases e1 : elems d with
  | none => rw [e1] at e; cases e
  | some ds =>
    obtain ⟨a, vs, rfl, h, rl⟩ := r.seqL e1
    rw [e1] at e
    have e : (boolsD ds).map (fun ns => D.bl (ns.all id)) = some z := e
    cases e2 : boolsD ds with
    | none => rw [e2] at e; cases e
    | some ns =>
      rw [e2] at e
      cases e
      rw [boolsD_eq e2] at rl
      rw [rl.of_bools] at h
      exact ⟨a, ns, rfl, h, q _ _ (.refl _) (.bl _)⟩
theorem o_any : Op1 K (fun x => rAny K [x]) anyD := by
  intro H v d z Q r e q
  unfold anyD at e
  cases e1 : elems d with
  | none => rw [e1] at e; cases e
  | some ds =>
    obtain ⟨a, vs, rfl, h, rl⟩ := r.seqL e1
    rw [e1] at e
    have e : (boolsD ds).map (fun ns => D.bl (ns.any id)) = some z := e
    cases e2 : boolsD ds with
    | none => rw [e2] at e; cases e
    | some ns =>
      rw [e2] at e
      cases e
      rw [boolsD_eq e2] at rl
      rw [rl.of_bools] at h
      exact ⟨a, ns, rfl, h, q _ _ (.refl _) (.bl _)⟩
/-! ### isinstance with a built-in class -/
def tyN : D → String
  | .non => "NoneType" | .bl _ => "bool" | .int _ => "int" | .str _ => "str" | .lst _ => "list" | .tup _ => "tuple" | .scr _ => "list"
def isi (T : String) : D → Option D := fun d => (kitB (tyN d) T).map .bl
theorem Rp.ty {H : Hp} {v : V} {d : D} (h : Rp K H v d) : TyX K H v (.type (tyN d)) := by
  cases h with
  | non => exact .base .non
  | bl b => exact .base (.bl b)
  | int i => exact .base (.int i)
  | str x => exact .base (.str x)
  | lst h _ => exact .base (.lst h)
  | tup h _ => exact .base (.tup h)
  | scr h =>
    rcases h with (h | ⟨o, h⟩) | ⟨o, its, n, h, c, _⟩
    · exact .base (.lst h)
    · exact .base (.frz h)
    · exact .kList h c
theorem o_isi {T : String} : Op1 K (fun x => rIsi K [x, .ty T]) (isi T) := by
  intro H v d z Q r e q
  unfold isi at e
  cases e1 : kitB (tyN d) T with
  | none => rw [e1] at e; cases e
  | some b =>
    rw [e1] at e
    cases e
    exact ⟨v, .ty T, _, _, b, rfl, .ty T, r.ty, kit_ty e1, q _ _ (.refl _) (.bl _)⟩
theorem v_isi {a : Expr} {R : TE → Prop} {T : String} {b : Expr} {fa : Sl → Rs D} (hp : ∀ t, PAf X [a, b] t → R (tCB (rIsi K) t)) (hb : PEf X b (tC (.ty T))) (ha : EV K W cl (PEf X a) fa)
    (hs : ∀ z, starEach [a, b] (X z).env = [(false, eval a (X z).env), (false, eval b (X z).env)] := by intro _; rfl) (hs2 : ∀ z, starEach [b] (X z).env = [(false, eval b (X z).env)] := by intro _; rfl) : EV K W cl R fun st => un1 (isi T) (fa st) := by
  obtain ⟨ta, pa, ka⟩ := ha.ex
  exact ⟨_, hp _ fun z => pa_cons (pa z) (pa_cons (hb z) pa_nil (hs2 z)) ((hs z).trans (by rw [← hs2 z])), fun S T' st σ H Q rs q => op1_run (r := fun x => rIsi K [x, .ty T]) o_isi ka rs q⟩
/-! ### slices -/
structure EO (K : PySem.W.Frag) (W : WX) (cl : Cl) (R : TO → Prop) (f : Sl → Rs (Option Int)) : Prop where
  ex : ∃ t, R t ∧ ∀ S T st σ H (Q : Option Int → Hp → Prop), RS K S T st σ H → (match f st with
    | .ok o => ∀ H', Same H H' → Q o H'
    | .ex c => ∀ H', Same H H' → W (.ref (cl c)) none σ H'
    | .bad => False) → t σ H Q
theorem o_none : EO K W cl (POf X none) fun _ => .ok none := ⟨_, fun _ => po_none, fun S T st σ H Q r q => q H (.refl _)⟩
def asI (r : Rs D) : Rs (Option Int) := r.bind fun d => match d with
  | .int i => .ok (some i)
  | _ => .bad
theorem o_some {e : Expr} {f : Sl → Rs D} (h : EV K W cl (PEf X e) f) : EO K W cl (POf X (some e)) fun st => asI (f st) := by
  obtain ⟨t, p, k⟩ := h.ex
  refine ⟨_, fun z => po_some (p z), fun S T st σ H Q r q => k S T st σ H _ r ?_⟩
  revert q
  cases f st with
  | bad => exact fun q => q
  | ex c => exact fun q => q
  | ok d =>
    intro q v H1 h1 rp
    cases rp with
    | int i => exact ⟨i, rfl, q H1 h1⟩
    | _ => exact q.elim
theorem RpL.cut {S : Hp} {vs : List V} {ds : List D} (r : RpL K S vs ds) (lo hi : Option Int) : RpL K S (cutL vs lo hi) (cutL ds lo hi) := by
  unfold cutL
  rw [r.length]
  exact (r.drop _).take _
def sliceF (d : Rs D) (a b : Rs (Option Int)) : Rs O := d.bind fun d => a.bind fun lo => b.bind fun hi => match elems d with
  | some ds => .ok (.lst ((cutL ds lo hi).map .sh))
  | none => .bad
/-- a slice of a list that stays -/
theorem f_slice {e : Expr} {lo hi : Option Expr} {p2 pos : Pos} {fe : Sl → Rs D} {fl fh : Sl → Rs (Option Int)} (he : EP K W cl (PEf X e) fe) (hl : EO K W cl (POf X lo) fl) (hh : EO K W cl (POf X hi) fh) (hK : ∀ z, (X z).K = K := by intro _; rfl) :
    EF K W cl (PEf X (.Subscript e (.Slice lo hi none p2) pos)) fun st => sliceF (fe st) (fl st) (fh st) := by
  obtain ⟨te, pe, ke⟩ := he.ex
  obtain ⟨tl, pl, kl⟩ := hl.ex
  obtain ⟨th, ph, kh⟩ := hh.ex
  refine ⟨_, fun z => pe_slice (hK z ▸ sl_list) (pe z) (pl z) (ph z), fun S T st σ H Q r q => ke S T st σ H _ r ?_⟩
  have q : PF K cl W S T σ H (sliceF (fe st) (fl st) (fh st)) Q := q
  revert q
  cases fe st with
  | bad => exact fun q => q
  | ex c => exact fun q => q
  | ok d =>
    intro q v S1 T1 H1 h1 x1 s1 t1 r1
    refine kl S1 T1 st σ H1 _ (r.ext h1 x1 s1 t1) ?_
    revert q
    cases fl st with
    | bad => exact fun q => q
    | ex c => exact fun q H2 h2 => q H2 (h1.trans h2)
    | ok l =>
      intro q H2 h2
      refine kh S1 T1 st σ H2 _ ((r.ext h1 x1 s1 t1).mono h2) ?_
      revert q
      cases fh st with
      | bad => exact fun q => q
      | ex c => exact fun q H3 h3 => q H3 ((h1.trans h2).trans h3)
      | ok u =>
        intro q H3 h3
        have q' : PF K cl W S T σ H (match elems d with
          | some ds => .ok (.lst ((cutL ds l u).map .sh))
          | none => .bad) Q := q
        cases e1 : elems d with
        | none => rw [e1] at q'; exact q'.elim
        | some ds =>
          rw [e1] at q'
          obtain ⟨a, vs, rfl, hq, rl⟩ := r1.seqL e1
          have up : Same T1 H3 := (t1.trans h2).trans h3
          exact ⟨a, vs, rfl, (s1.trans up).seq hq, fun p hp => new_list (ds := cutL ds l u) q' ((h1.trans h2).trans h3) x1 s1 up (rl.cut l u) hp⟩
theorem RpL.prims {S S' : Hp} : ∀ {vs : List V} {ds : List D}, RpL K S vs ds → ds.all prim = true → RpL K S' vs ds
  | _, _, .nil, _ => .nil
  | _, _, .cons h r, p => by
    rw [List.all_cons, Bool.and_eq_true] at p
    exact .cons (h.prim p.1) (RpL.prims r p.2)
def sliceV (d : Rs D) (a b : Rs (Option Int)) : Rs O := d.bind fun d => a.bind fun lo => b.bind fun hi => match elems d with
  | some ds => if (cutL ds lo hi).all prim = true then .ok (.lst ((cutL ds lo hi).map .sh)) else .bad
  | none => .bad
/-- a slice, of numbers and the like, of any list -/
theorem f_sliceV {e : Expr} {lo hi : Option Expr} {p2 pos : Pos} {fe : Sl → Rs D} {fl fh : Sl → Rs (Option Int)} (he : EV K W cl (PEf X e) fe) (hl : EO K W cl (POf X lo) fl) (hh : EO K W cl (POf X hi) fh) (hK : ∀ z, (X z).K = K := by intro _; rfl) :
    EF K W cl (PEf X (.Subscript e (.Slice lo hi none p2) pos)) fun st => sliceV (fe st) (fl st) (fh st) := by
  obtain ⟨te, pe, ke⟩ := he.ex
  obtain ⟨tl, pl, kl⟩ := hl.ex
  obtain ⟨th, ph, kh⟩ := hh.ex
  refine ⟨_, fun z => pe_slice (hK z ▸ sl_list) (pe z) (pl z) (ph z), fun S T st σ H Q r q => ke S T st σ H _ r ?_⟩
  have q : PF K cl W S T σ H (sliceV (fe st) (fl st) (fh st)) Q := q
  revert q
  cases fe st with
  | bad => exact fun q => q
  | ex c => exact fun q => q
  | ok d =>
    intro q v H1 h1 r1
    refine kl S T st σ H1 _ (r.mono h1) ?_
    revert q
    cases fl st with
    | bad => exact fun q => q
    | ex c => exact fun q H2 h2 => q H2 (h1.trans h2)
    | ok l =>
      intro q H2 h2
      refine kh S T st σ H2 _ ((r.mono h1).mono h2) ?_
      revert q
      cases fh st with
      | bad => exact fun q => q
      | ex c => exact fun q H3 h3 => q H3 ((h1.trans h2).trans h3)
      | ok u =>
        intro q H3 h3
        have q' : PF K cl W S T σ H (match elems d with
          | some ds => if (cutL ds l u).all prim = true then .ok (.lst ((cutL ds l u).map .sh)) else .bad
          | none => .bad) Q := q
        cases e1 : elems d with
        | none => rw [e1] at q'; exact q'.elim
        | some ds =>
          rw [e1] at q'
          have q' : PF K cl W S T σ H (if (cutL ds l u).all prim = true then .ok (.lst ((cutL ds l u).map .sh)) else .bad) Q := q'
          by_cases c : (cutL ds l u).all prim = true
          · rw [if_pos c] at q'
            obtain ⟨a, vs, rfl, hq, rl⟩ := r1.seqL e1
            have up : Same H H3 := (h1.trans h2).trans h3
            exact ⟨a, vs, rfl, (h2.trans h3).seq hq, fun p hp => new_list (ds := cutL ds l u) q' up .refl r.lo (r.th.trans up) ((rl.cut l u).prims c) hp⟩
          · rw [if_neg c] at q'
            exact q'.elim
/-! ### list(..), + of lists, * -/
def listElems : D → Option (List D)
  | .lst ds => some ds
  | .tup ds => some ds
  | .scr ns => some (ns.map .int)
  | _ => none
theorem Rp.seqLT {S : Hp} {v : V} {d : D} {ds : List D} (h : Rp K S v d) (e : listElems d = some ds) : ∃ a vs, v = .ref a ∧ (SqL K S a vs ∨ SqT K S a vs) ∧ RpL K S vs ds := by
  cases h with
  | lst h r => cases e; exact ⟨_, _, rfl, .inl (SqL.of h), r⟩
  | tup h r => cases e; exact ⟨_, _, rfl, .inr (SqT.of h), r⟩
  | scr h => cases e; exact ⟨_, _, rfl, .inl h, .ints _⟩
  | non => cases e
  | bl _ => cases e
  | int _ => cases e
  | str _ => cases e
theorem Same.seqT {S H : Hp} {a : Addr} {xs : List V} (e : Same S H) (h : SqT K S a xs) : SqT K H a xs := by
  rcases h with (h | ⟨o, h⟩) | h
  · exact .inl (.inl (e _ _ h))
  · exact .inl (.inr ⟨o, e _ _ h⟩)
  · exact .inr h
def listF (a : Rs D) : Rs O := a.bind fun d => match listElems d with
  | some ds => .ok (.lst (ds.map .sh))
  | none => .bad
def listVF (a : Rs D) : Rs O := a.bind fun d => match listElems d with
  | some ds => if ds.all prim = true then .ok (.lst (ds.map .sh)) else .bad
  | none => .bad
abbrev rListOf (K : PySem.W.Frag) : List V → Hp → VK → Prop := fun xs H Q => ∃ p ys, xs = [.ref p] ∧ (SqL K H p ys ∨ SqT K H p ys) ∧ ∀ l, H l = none → Q (.ref l) (upd H l (.lst ys))
theorem f_list {R : TE → Prop} {a : Expr} {fa : Sl → Rs D} (hp : ∀ t, PAf X [a] t → R (tCB (rListOf K) t)) (ha : EP K W cl (PEf X a) fa) (hs : ∀ z, starEach [a] (X z).env = [(false, eval a (X z).env)] := by intro _; rfl) : EF K W cl R fun st => listF (fa st) := by
  obtain ⟨ta, pa, ka⟩ := ha.ex
  refine ⟨_, hp _ fun z => pa_cons (pa z) pa_nil (hs z), fun S T st σ H Q r q => ka S T st σ H _ r ?_⟩
  have q : PF K cl W S T σ H (listF (fa st)) Q := q
  revert q
  cases fa st with
  | bad => exact fun q => q
  | ex c => exact fun q => q
  | ok d =>
    intro q v S1 T1 H1 h1 x1 s1 t1 r1
    have q' : PF K cl W S T σ H (match listElems d with
      | some ds => .ok (.lst (ds.map .sh))
      | none => .bad) Q := q
    cases e1 : listElems d with
    | none => rw [e1] at q'; exact q'.elim
    | some ds =>
      rw [e1] at q'
      obtain ⟨a, vs, rfl, hq, rl⟩ := r1.seqLT e1
      have up := s1.trans t1
      exact ⟨a, vs, rfl, hq.imp up.seq (Same.seqT up), fun p hp => new_list q' h1 x1 s1 t1 rl hp⟩
theorem f_listV {R : TE → Prop} {a : Expr} {fa : Sl → Rs D} (hp : ∀ t, PAf X [a] t → R (tCB (rListOf K) t)) (ha : EV K W cl (PEf X a) fa) (hs : ∀ z, starEach [a] (X z).env = [(false, eval a (X z).env)] := by intro _; rfl) : EF K W cl R fun st => listVF (fa st) := by
  obtain ⟨ta, pa, ka⟩ := ha.ex
  refine ⟨_, hp _ fun z => pa_cons (pa z) pa_nil (hs z), fun S T st σ H Q r q => ka S T st σ H _ r ?_⟩
  have q : PF K cl W S T σ H (listVF (fa st)) Q := q
  revert q
  cases fa st with
  | bad => exact fun q => q
  | ex c => exact fun q => q
  | ok d =>
    intro q v H1 h1 r1
    have q' : PF K cl W S T σ H (match listElems d with
      | some ds => if ds.all prim = true then .ok (.lst (ds.map .sh)) else .bad
      | none => .bad) Q := q
    cases e1 : listElems d with
    | none => rw [e1] at q'; exact q'.elim
    | some ds =>
      rw [e1] at q'
      have q' : PF K cl W S T σ H (if ds.all prim = true then .ok (.lst (ds.map .sh)) else .bad) Q := q'
      by_cases c : ds.all prim = true
      · rw [if_pos c] at q'
        obtain ⟨a, vs, rfl, hq, rl⟩ := r1.seqLT e1
        exact ⟨a, vs, rfl, hq, fun p hp => new_list q' h1 .refl r.lo (r.th.trans h1) (rl.prims c) hp⟩
      · rw [if_neg c] at q'
        exact q'.elim
def catF (a b : Rs D) : Rs O := a.bind fun x => b.bind fun y => match x, y with
  | .lst ds, .lst es => if ds.length + es.length ≤ sizeLine then .ok (.lst ((ds ++ es).map .sh)) else .bad
  | _, _ => .bad
theorem f_cat {a b : Expr} {pos : Pos} {fa fb : Sl → Rs D} (ha : EP K W cl (PEf X a) fa) (hb : EP K W cl (PEf X b) fb) : EF K W cl (PEf X (.BinOp a .Add b pos)) fun st => catF (fa st) (fb st) := by
  obtain ⟨ta, pa, ka⟩ := ha.ex
  obtain ⟨tb, pb, kb⟩ := hb.ex
  refine ⟨_, fun z => pe_op op_cat (pa z) (pb z), fun S T st σ H Q r q => ka S T st σ H _ r ?_⟩
  have q : PF K cl W S T σ H (catF (fa st) (fb st)) Q := q
  revert q
  cases fa st with
  | bad => exact fun q => q
  | ex c => exact fun q => q
  | ok d =>
    intro q v S1 T1 H1 h1 x1 s1 t1 r1
    refine kb S1 T1 st σ H1 _ (r.ext h1 x1 s1 t1) ?_
    revert q
    cases fb st with
    | bad => exact fun q => q
    | ex c => exact fun q H2 h2 => q H2 (h1.trans h2)
    | ok e =>
      intro q w S2 T2 H2 h2 x2 s2 t2 r2
      cases r1 with
      | @lst a1 vs ds l1 q1 =>
        cases r2 with
        | @lst a2 ws es l2 q2 =>
          have q' : PF K cl W S T σ H (if ds.length + es.length ≤ sizeLine then .ok (.lst ((ds ++ es).map .sh)) else .bad) Q := q
          by_cases c : ds.length + es.length ≤ sizeLine
          · rw [if_pos c] at q'
            refine ⟨a1, a2, vs, ws, rfl, rfl, ((s1.trans t1).trans h2) _ _ l1, (s2.trans t2) _ _ l2, by rw [q1.length, q2.length]; exact c, fun p hp => ?_⟩
            exact new_list (ds := ds ++ es) q' (h1.trans h2) (x1.trans h1 x2) s2 t2 ((q1.mono x2.s).append q2) hp
          · rw [if_neg c] at q'
            exact q'.elim
        | _ => exact q.elim
      | _ => exact q.elim
def repOk (n : Nat) (k : Int) : Bool := decide (-(2 ^ 63) ≤ k) && decide (k < 2 ^ 63) && decide (n * k.toNat ≤ sizeLine)
def repF (a b : Rs D) : Rs O := a.bind fun x => b.bind fun y => match x, y with
  | .lst ds, .int k => if repOk ds.length k = true then .ok (.lst ((List.replicate k.toNat ds).flatten.map .sh)) else .bad
  | _, _ => .bad
theorem RpL.rep {S : Hp} {vs : List V} {ds : List D} (r : RpL K S vs ds) : ∀ n : Nat, RpL K S (List.replicate n vs).flatten (List.replicate n ds).flatten
  | 0 => .nil
  | n + 1 => by
    rw [List.replicate_succ, List.replicate_succ, List.flatten_cons, List.flatten_cons]
    exact r.append (r.rep n)
theorem f_rep {a b : Expr} {pos : Pos} {fa fb : Sl → Rs D} (ha : EP K W cl (PEf X a) fa) (hb : EV K W cl (PEf X b) fb) : EF K W cl (PEf X (.BinOp a .Mult b pos)) fun st => repF (fa st) (fb st) := by
  obtain ⟨ta, pa, ka⟩ := ha.ex
  obtain ⟨tb, pb, kb⟩ := hb.ex
  refine ⟨_, fun z => pe_op op_rep (pa z) (pb z), fun S T st σ H Q r q => ka S T st σ H _ r ?_⟩
  have q : PF K cl W S T σ H (repF (fa st) (fb st)) Q := q
  revert q
  cases fa st with
  | bad => exact fun q => q
  | ex c => exact fun q => q
  | ok d =>
    intro q v S1 T1 H1 h1 x1 s1 t1 r1
    refine kb S1 T1 st σ H1 _ (r.ext h1 x1 s1 t1) ?_
    revert q
    cases fb st with
    | bad => exact fun q => q
    | ex c => exact fun q H2 h2 => q H2 (h1.trans h2)
    | ok e =>
      intro q w H2 h2 r2
      cases r1 with
      | @lst a1 vs ds l1 q1 =>
        cases r2 with
        | int k =>
          have q' : PF K cl W S T σ H (if repOk ds.length k = true then .ok (.lst ((List.replicate k.toNat ds).flatten.map .sh)) else .bad) Q := q
          by_cases c : repOk ds.length k = true
          · rw [if_pos c] at q'
            unfold repOk at c
            simp only [Bool.and_eq_true, decide_eq_true_eq] at c
            refine ⟨a1, k, vs, rfl, rfl, ((s1.trans t1).trans h2) _ _ l1, c.1.1, c.1.2, by rw [q1.length]; exact c.2, fun p hp => ?_⟩
            exact new_list (ds := (List.replicate k.toNat ds).flatten) q' (h1.trans h2) x1 s1 (t1.trans h2) (q1.rep _) hp
          · rw [if_neg c] at q'
            exact q'.elim
        | _ => exact q.elim
      | _ => exact q.elim
/-! ### e1 if t else e2 -/
def ifR {α : Type} (c : Rs Bool) (a b : Rs α) : Rs α := c.bind fun k => if k = true then a else b
theorem v_if {c a b : Expr} {pos : Pos} {fc : Sl → Rs Bool} {fa fb : Sl → Rs D} (hc : ET K W cl (PTf X c) fc) (ha : EV K W cl (PEf X a) fa) (hb : EV K W cl (PEf X b) fb) : EV K W cl (PEf X (.IfExp c a b pos)) fun st => ifR (fc st) (fa st) (fb st) := by
  obtain ⟨tc, pc, kc⟩ := hc.ex
  obtain ⟨ta, pa, ka⟩ := ha.ex
  obtain ⟨tb, pb, kb⟩ := hb.ex
  refine ⟨_, fun z => pe_ifExp (pc z) (pa z) (pb z), fun S T st σ H Q r q => kc S T st σ H _ r ?_⟩
  have q : PV K cl W σ H (ifR (fc st) (fa st) (fb st)) Q := q
  revert q
  cases fc st with
  | bad => exact fun q => q
  | ex c => exact fun q => q
  | ok k =>
    cases k with
    | true => exact fun q H1 h1 => iteT (ka S T st σ H1 Q (r.mono h1) (PV.mono (r := fa st) h1 q))
    | false => exact fun q H1 h1 => iteF (kb S T st σ H1 Q (r.mono h1) (PV.mono (r := fb st) h1 q))
/-! ### an own def called -/
/-- the promise of a def: m tells what it gives -/
def SpD (K : PySem.W.Frag) (cl : Cl) (n : Nat) (m : List D → Rs O) : Sp := fun vs H Q E => ∃ S ds, ds.length = n ∧ Same S H ∧ RpL K S vs ds ∧ match m ds with
  | .ok o => ∀ v S' H' g, Same S S' → Same H H' → (∀ b, H b ≠ none → S' b = S b) → Same S' H' → Ow K S' H' v o g → g.Nodup → (∀ b ∈ g, S' b = none ∧ H b = none) → Q v H'
  | .ex c => ∀ H', Same H H' → E (.ref (cl c)) none H'
  | .bad => False
theorem SpD.len {n : Nat} {m : List D → Rs O} : ∀ vs H Q E, SpD K cl n m vs H Q E → vs.length = n := fun vs H Q E ⟨S, ds, h, _, r, _⟩ => r.length.trans h
def callR {α : Type} (n : Nat) (m : List D → Rs α) (a : Rs (List D)) : Rs α := a.bind fun ds => if ds.length = n then m ds else .bad
theorem f_call {n : Nat} {m : List D → Rs O} {R : TE → Prop} {es : List Expr} {fa : Sl → Rs (List D)} (hp : ∀ t, PAf X es t → R (tCallS (SpD K cl n m) (WE W) t)) (ha : EPs K W cl (PAf X es) fa) : EF K W cl R fun st => callR n m (fa st) := by
  obtain ⟨ta, pa, ka⟩ := ha.ex
  refine ⟨_, hp _ pa, fun S T st σ H Q r q => ka S T st σ H _ r ?_⟩
  have q : PF K cl W S T σ H (callR n m (fa st)) Q := q
  revert q
  cases fa st with
  | bad => exact fun q => q
  | ex c => exact fun q => q
  | ok ds =>
    intro q vs S1 T1 H1 h1 x1 s1 t1 r1
    have q : PF K cl W S T σ H (if ds.length = n then m ds else .bad) Q := q
    by_cases hn : ds.length = n
    · rw [if_pos hn] at q
      refine ⟨S1, ds, hn, s1.trans t1, r1, ?_⟩
      revert q
      cases m ds with
      | bad => exact fun q => q
      | ex c => exact fun q H2 h2 => q H2 (h1.trans h2)
      | ok o =>
        intro q v S2 H2 g e1 e2 e3 e4 w nd hg
        -- what is left alone: T1, and what of S2 is new
        let T2 : Hp := fun b => match H1 b with
          | none => S2 b
          | some _ => T1 b
        have T2n : ∀ b, H1 b = none → T2 b = S2 b := fun b h => by show (match H1 b with | none => S2 b | some _ => T1 b) = S2 b; rw [h]
        have T2s : ∀ b, H1 b ≠ none → T2 b = T1 b := fun b h => by
          show (match H1 b with | none => S2 b | some _ => T1 b) = T1 b
          cases e : H1 b with
          | none => exact absurd e h
          | some u => rfl
        have n1 : ∀ b o, T1 b = some o → H1 b ≠ none := fun b o h => by rw [t1 b o h]; simp
        refine q v S2 T2 H2 g (h1.trans e2) (x1.trans h1 ⟨e1, fun b o h => ?_, fun b hb => ⟨e3 b hb, T2s b hb⟩⟩) (fun b o h => ?_) (fun b o h => ?_) w nd fun b hb => ⟨?_, h1.free (hg b hb).2⟩
        · rw [T2s b (n1 b o h)]; exact h
        · by_cases hb : H1 b = none
          · rw [T2n b hb]; exact h
          · rw [T2s b hb]; rw [e3 b hb] at h; exact s1 b o h
        · by_cases hb : H1 b = none
          · rw [T2n b hb] at h; exact e4 b o h
          · rw [T2s b hb] at h; exact e2 b o (t1 b o h)
        · rw [T2n b (hg b hb).2]; exact (hg b hb).1
    · rw [if_neg hn] at q
      exact q.elim
/-- the same with arguments that are only looked at -/
theorem v_call {n : Nat} {m : List D → Rs O} {R : TE → Prop} {es : List Expr} {fa : Sl → Rs (List D)} (hp : ∀ t, PAf X es t → R (tCallS (SpD K cl n m) (WE W) t)) (ha : EVs K W cl (PAf X es) fa) : EV K W cl R fun st => mapRs O.er (callR n m (fa st)) := by
  obtain ⟨ta, pa, ka⟩ := ha.ex
  refine ⟨_, hp _ pa, fun S T st σ H Q r q => ka S T st σ H _ r ?_⟩
  have q : PV K cl W σ H (mapRs O.er (callR n m (fa st))) Q := q
  revert q
  cases fa st with
  | bad => exact fun q => q
  | ex c => exact fun q => q
  | ok ds =>
    intro q vs H1 h1 r1
    have q : PV K cl W σ H (mapRs O.er (if ds.length = n then m ds else .bad)) Q := q
    by_cases hn : ds.length = n
    · rw [if_pos hn] at q
      refine ⟨H1, ds, hn, .refl _, r1, ?_⟩
      revert q
      cases m ds with
      | bad => exact fun q => q
      | ex c => exact fun q H2 h2 => q H2 (h1.trans h2)
      | ok o => exact fun q v S2 H2 g e1 e2 e3 e4 w nd hg => q v H2 (h1.trans e2) (w.rp e4 fun _ _ => rfl)
    · rw [if_neg hn] at q
      exact q.elim
/-- a tree without what stays, but numbers and the like, from arguments that are only looked at -/
def O.clo : O → Bool
  | .sh d => prim d
  | .lst xs => xs.attach.all fun ⟨x, _⟩ => x.clo
  | .tup xs => xs.attach.all fun ⟨x, _⟩ => x.clo
end
end M

/-! Targets, what is walked, comprehensions. -/
namespace M
open PySem L2
section
variable {ι : Type} {X : ι → Cx} {W : WX} {cl : Cl} {K : PySem.W.Frag}
/-! ### targets; vs: the slots that they fill -/
structure EG (K : PySem.W.Frag) (R : TG → Prop) (vs : List Nat) (f : D → Sl → Option Sl) : Prop where
  ex : ∃ t, R t ∧ ∀ S T st σ H v d st' Q, RS K S T st σ H → Rp K S v d → f d st = some st' → (∀ σ', σ'.length = σ.length → (∀ k, k ∉ vs → σ'[k]? = σ[k]?) → RS K S T st' σ' H → Q σ' H) → t v σ H Q
structure EGs (K : PySem.W.Frag) (R : TGs → Prop) (vs : List Nat) (f : List D → Sl → Option Sl) : Prop where
  ex : ∃ t, R t ∧ ∀ S T st σ H us ds st' Q, RS K S T st σ H → RpL K S us ds → f ds st = some st' → (∀ σ', σ'.length = σ.length → (∀ k, k ∉ vs → σ'[k]? = σ[k]?) → RS K S T st' σ' H → Q σ' H) → t us σ H Q
def setN (i : Nat) (d : D) (st : Sl) : Option Sl := if i < st.length then some (st.set i (some (.sh d))) else none
theorem RS.len {S T : Hp} {st : Sl} {σ : St} {H : Hp} (r : RS K S T st σ H) : σ.length = st.length := by
  obtain ⟨f, w, _⟩ := r.own
  exact w.length
theorem g_nm {e : Expr} {i : Nat} (h : PGf X e (gName i)) : EG K (PGf X e) [i] (setN i) := by
  refine ⟨_, h, fun S T st σ H v d st' Q r rp e q => ?_⟩
  unfold setN at e
  by_cases c : i < st.length
  · rw [if_pos c] at e
    cases e
    refine q (σ.set i (some v)) (List.length_set ..) (fun k hk => ?_) (r.setSh c rp)
    exact List.getElem?_set_ne fun e => hk (by rw [e]; simp)
  · rw [if_neg c] at e
    cases e
def setNil : List D → Sl → Option Sl
  | [], st => some st
  | _, _ => none
def setCons (f : D → Sl → Option Sl) (g : List D → Sl → Option Sl) : List D → Sl → Option Sl
  | d :: ds, st => (f d st).bind (g ds)
  | [], _ => none
theorem gs_nil : EGs K (PGsf X []) [] setNil := by
  refine ⟨_, fun _ => pgs_nil, fun S T st σ H us ds st' Q r rp e q => ?_⟩
  cases rp with
  | nil => cases e; exact ⟨rfl, q σ rfl (fun _ _ => rfl) r⟩
  | cons _ _ => cases e
theorem gs_cons {e : Expr} {es : List Expr} {vs us : List Nat} {f : D → Sl → Option Sl} {g : List D → Sl → Option Sl} (h : EG K (PGf X e) vs f) (k : EGs K (PGsf X es) us g)
    (hs : ∀ z, (assignEach (e :: es) (X z).env).map (·.2) = assign e (X z).env :: (assignEach es (X z).env).map (·.2) := by intro _; rfl) : EGs K (PGsf X (e :: es)) (vs ++ us) (setCons f g) := by
  obtain ⟨t, p, a⟩ := h.ex
  obtain ⟨u, pu, b⟩ := k.ex
  refine ⟨_, fun z => pgs_cons (p z) (pu z) (hs z), fun S T st σ H ws ds st' Q r rp e q => ?_⟩
  cases rp with
  | nil => cases e
  | @cons v vs' d ds' h1 h2 =>
    have e : (f d st).bind (g ds') = some st' := e
    cases e1 : f d st with
    | none => rw [e1] at e; cases e
    | some st1 =>
      rw [e1] at e
      refine ⟨v, vs', rfl, a S T st σ H v d st1 _ r h1 e1 fun σ1 l1 k1 r1 => ?_⟩
      refine b S T st1 σ1 H vs' ds' st' Q r1 h2 e fun σ2 l2 k2 r2 => ?_
      refine q σ2 (l2.trans l1) (fun k hk => ?_) r2
      rw [List.mem_append, not_or] at hk
      exact (k2 k hk.2).trans (k1 k hk.1)
def setTup (n : Nat) (g : List D → Sl → Option Sl) : D → Sl → Option Sl
  | .tup ds, st => if ds.length = n then g ds st else none
  | _, _ => none
theorem g_tup {es : List Expr} {k n : Nat} {pos : Pos} {vs : List Nat} {g : List D → Sl → Option Sl} (hp : ∀ t, PGsf X es t → PGf X (.Tuple es k pos) (gTup K n t)) (h : EGs K (PGsf X es) vs g) :
    EG K (PGf X (.Tuple es k pos)) vs (setTup n g) := by
  obtain ⟨t, p, a⟩ := h.ex
  refine ⟨_, hp _ p, fun S T st σ H v d st' Q r rp e q => ?_⟩
  cases rp with
  | @tup ad ws ds hh rl =>
    have e : (if ds.length = n then g ds st else none) = some st' := e
    by_cases c : ds.length = n
    · rw [if_pos c] at e
      exact ⟨ad, ws, rfl, SqT.of (r.sh _ _ hh), rl.length.trans c, a S T st σ H ws ds st' Q r rl e q⟩
    · rw [if_neg c] at e
      cases e
  | _ => cases e
def setLst (n : Nat) (g : List D → Sl → Option Sl) : D → Sl → Option Sl
  | .lst ds, st => if ds.length = n then g ds st else none
  | _, _ => none
theorem g_lst {es : List Expr} {k n : Nat} {pos : Pos} {vs : List Nat} {g : List D → Sl → Option Sl} (hp : ∀ t, PGsf X es t → PGf X (.Tuple es k pos) (gLst K n t)) (h : EGs K (PGsf X es) vs g) :
    EG K (PGf X (.Tuple es k pos)) vs (setLst n g) := by
  obtain ⟨t, p, a⟩ := h.ex
  refine ⟨_, hp _ p, fun S T st σ H v d st' Q r rp e q => ?_⟩
  cases rp with
  | @lst ad ws ds hh rl =>
    have e : (if ds.length = n then g ds st else none) = some st' := e
    by_cases c : ds.length = n
    · rw [if_pos c] at e
      exact ⟨ad, ws, rfl, SqL.of (r.sh _ _ hh), rl.length.trans c, a S T st σ H ws ds st' Q r rl e q⟩
    · rw [if_neg c] at e
      cases e
  | _ => cases e
/-! ### what is walked -/
/-- an item as it comes: it stood, or it is a new tuple -/
def Yl (K : PySem.W.Frag) (S H : Hp) (x : V) (H' : Hp) (d : D) : Prop := (H' = H ∧ Rp K S x d) ∨ ∃ p us es, x = .ref p ∧ H p = none ∧ H' = upd H p (.tup us) ∧ RpL K S us es ∧ d = .tup es
structure Yields (K : PySem.W.Frag) (J : It) (S : Hp) (ds : List D) : Prop where
  stop : ∀ i H, Same S H → ds.length ≤ i → J.stop i H
  go : ∀ i H, Same S H → i < ds.length → J.go i H
  yld : ∀ i H x H' d, Same S H → ds[i]? = some d → J.yld i H x H' → Yl K S H x H' d
theorem Yields.mono {J : It} {S S' : Hp} {ds : List D} (y : Yields K J S ds) (h : Same S S') : Yields K J S' ds :=
  ⟨fun i H k => y.stop i H (h.trans k), fun i H k => y.go i H (h.trans k), fun i H x H' d k e q => by
    rcases y.yld i H x H' d (h.trans k) e q with ⟨a, b⟩ | ⟨p, us, es, a, b, c, r, e2⟩
    · exact .inl ⟨a, b.mono h⟩
    · exact .inr ⟨p, us, es, a, b, c, r.mono h, e2⟩⟩
/-- behind an item -/
theorem Yl.ext {S T H H' : Hp} {x : V} {d : D} {st : Sl} {σ : St} (y : Yl K S H x H' d) (r : RS K S T st σ H) : ∃ S' T', Same H H' ∧ Ext S T H S' T' ∧ RS K S' T' st σ H' ∧ Rp K S' x d := by
  rcases y with ⟨rfl, h⟩ | ⟨p, us, es, rfl, hp, rfl, h, rfl⟩
  · exact ⟨S, T, .refl _, .refl, r, h⟩
  · have hs := same_upd (o := .tup us) hp
    have sp : S p = none := r.sh.free hp
    have tp : T p = none := r.th.free hp
    have e1 : Same S (upd S p (.tup us)) := same_upd sp
    have e2 : Same T (upd T p (.tup us)) := same_upd tp
    have x : Ext S T H (upd S p (.tup us)) (upd T p (.tup us)) := ⟨e1, e2, fun b hb => ⟨upd_ne fun e => hb (e ▸ hp), upd_ne fun e => hb (e ▸ hp)⟩⟩
    have up : ∀ {A B : Hp}, Same A B → Same (upd A p (.tup us)) (upd B p (.tup us)) := fun {A B} k b o e => by
      by_cases hb : b = p
      · subst hb; rw [upd_same] at e ⊢; exact e
      · rw [upd_ne hb] at e ⊢; exact k b o e
    exact ⟨_, _, hs, x, r.ext hs x (up r.lo) (up r.th), .tup upd_same (h.mono e1)⟩
structure EI (K : PySem.W.Frag) (W : WX) (cl : Cl) (R : TI → Prop) (f : Sl → Rs (List D)) : Prop where
  ex : ∃ t, R t ∧ ∀ S T st σ H (Q : It → Hp → Prop), RS K S T st σ H → (match f st with
    | .ok ds => ∀ J S' T' H', Same H H' → Ext S T H S' T' → RS K S' T' st σ H' → Yields K J S' ds → Q J H'
    | .ex c => ∀ H', Same H H' → W (.ref (cl c)) none σ H'
    | .bad => False) → t σ H Q
def elemsR (a : Rs D) : Rs (List D) := a.bind fun d => ofO (elems d)
theorem RpL.det {S : Hp} {us ws : List V} {ds : List D} (r : RpL K S us ds) (e : us = ws) : RpL K S ws ds := e ▸ r
/-- a list that stays -/
theorem i_list {tg e : Expr} {f : Sl → Rs D} (h : EP K W cl (PEf X e) f) (hK : ∀ z, (X z).K = K := by intro _; rfl) : EI K W cl (PIf X tg e) fun st => elemsR (f st) := by
  obtain ⟨t, p, a⟩ := h.ex
  refine ⟨iList K t, fun z => hK z ▸ pi_list (p z), fun S T st σ H Q r q => a S T st σ H _ r ?_⟩
  revert q
  show (match elemsR (f st) with | .ok ds => _ | .ex c => _ | .bad => _) → _
  cases f st with
  | bad => exact fun q => q
  | ex c => exact fun q => q
  | ok d =>
    show (match ofO (elems d) with | .ok ds => _ | .ex c => _ | .bad => _) → _
    cases e1 : elems d with
    | none => exact fun q => q.elim
    | some ds =>
      intro q v S1 T1 H1 h1 x1 s1 t1 r1
      have q : ∀ J S' T' H', Same H H' → Ext S T H S' T' → RS K S' T' st σ H' → Yields K J S' ds → Q J H' := q
      obtain ⟨ad, us, rfl, hq, rl⟩ := r1.seqL e1
      refine ⟨ad, rfl, ⟨us, (s1.trans t1).seq hq⟩, q (Itl K ad) S1 T1 H1 h1 x1 (r.ext h1 x1 s1 t1) ⟨fun i H2 k hi => ?_, fun i H2 k hi => ?_, fun i H2 x H3 d k e y => ?_⟩⟩
      · exact ⟨us, k.seq hq, by rw [rl.length]; exact hi⟩
      · exact ⟨us, us[i]'(by rw [rl.length]; exact hi), k.seq hq, by simp⟩
      · obtain ⟨y1, y2⟩ := y
        have := y2 us (k.seq hq)
        obtain ⟨u, e2, r2⟩ := rl.get e
        rw [this] at e2
        cases e2
        exact .inl ⟨y1, r2⟩
def rangeL (lo : Int) (n : Nat) : List D := (List.range n).map fun i => D.int (lo + (i : Nat))
theorem range_yields {lo : Int} {n : Nat} {S : Hp} : Yields K (Itr lo n) S (rangeL lo n) := by
  have hl : (rangeL lo n).length = n := by unfold rangeL; rw [List.length_map, List.length_range]
  refine ⟨fun i H k hi => by rw [hl] at hi; exact hi, fun i H k hi => by rw [hl] at hi; exact hi, fun i H x H' d k e y => ?_⟩
  obtain ⟨y1, y2⟩ := y
  have hi : i < n := by
    have := (List.getElem?_eq_some_iff.mp e).1
    rw [hl] at this; exact this
  have e2 : (rangeL lo n)[i]? = some (D.int (lo + (i : Nat))) := by
    unfold rangeL
    rw [List.getElem?_map, List.getElem?_range hi]
    rfl
  rw [e2] at e
  cases e
  rw [y2]
  exact .inl ⟨y1, .int _⟩
def rngOk (j : Int) : Bool := decide (-(2 ^ 62) ≤ j) && decide (j < 2 ^ 62)
def range1 (a : Rs D) : Rs (List D) := a.bind fun d => match d with
  | .int j => if rngOk j = true then .ok (rangeL 0 j.toNat) else .bad
  | _ => .bad
def range2 (a b : Rs D) : Rs (List D) := a.bind fun d => b.bind fun e => match d, e with
  | .int i, .int j => if (rngOk i && rngOk j) = true then .ok (rangeL i (j - i).toNat) else .bad
  | _, _ => .bad
theorem i_range1 {a : Expr} {R : TI → Prop} {f : Sl → Rs D} (hp : ∀ t, PAf X [a] t → R (iRng1 t)) (h : EV K W cl (PEf X a) f) (hs : ∀ z, starEach [a] (X z).env = [(false, eval a (X z).env)] := by intro _; rfl) : EI K W cl R fun st => range1 (f st) := by
  obtain ⟨t, p, k⟩ := h.ex
  refine ⟨_, hp _ fun z => pa_cons (p z) pa_nil (hs z), fun S T st σ H Q r q => k S T st σ H _ r ?_⟩
  revert q
  show (match range1 (f st) with | .ok ds => _ | .ex c => _ | .bad => _) → _
  cases f st with
  | bad => exact fun q => q
  | ex c => exact fun q => q
  | ok d =>
    cases d with
    | int j =>
      show (match (if rngOk j = true then Rs.ok (rangeL 0 j.toNat) else Rs.bad) with | .ok ds => _ | .ex c => _ | .bad => _) → _
      by_cases c : rngOk j = true
      · rw [if_pos c]
        intro q v H1 h1 r1
        cases r1
        unfold rngOk at c
        simp only [Bool.and_eq_true, decide_eq_true_eq] at c
        exact ⟨j, rfl, c.1, c.2, q (Itr 0 j.toNat) S T H1 h1 .refl (r.mono h1) range_yields⟩
      · rw [if_neg c]
        exact fun q => q.elim
    | _ => exact fun q => q.elim
theorem i_range2 {a b : Expr} {R : TI → Prop} {f g : Sl → Rs D} (hp : ∀ t, PAf X [a, b] t → R (iRng2 t)) (h : EV K W cl (PEf X a) f) (h2 : EV K W cl (PEf X b) g) (hs : ∀ z, starEach [a, b] (X z).env = [(false, eval a (X z).env), (false, eval b (X z).env)] := by intro _; rfl) (hs2 : ∀ z, starEach [b] (X z).env = [(false, eval b (X z).env)] := by intro _; rfl) :
    EI K W cl R fun st => range2 (f st) (g st) := by
  obtain ⟨t, p, k⟩ := h.ex
  obtain ⟨u, pu, ku⟩ := h2.ex
  refine ⟨_, hp _ fun z => pa_cons (p z) (pa_cons (pu z) pa_nil (hs2 z)) ((hs z).trans (by rw [← hs2 z])), fun S T st σ H Q r q => k S T st σ H _ r ?_⟩
  revert q
  show (match range2 (f st) (g st) with | .ok ds => _ | .ex c => _ | .bad => _) → _
  cases f st with
  | bad => exact fun q => q
  | ex c => exact fun q => q
  | ok d =>
    intro q v H1 h1 r1
    refine ku S T st σ H1 _ (r.mono h1) ?_
    revert q
    show (match range2 (.ok d) (g st) with | .ok ds => _ | .ex c => _ | .bad => _) → _
    cases g st with
    | bad => exact fun q => q
    | ex c => exact fun q H2 h2 => q H2 (h1.trans h2)
    | ok e =>
      cases d with
      | int i =>
        cases e with
        | int j =>
          show (match (if (rngOk i && rngOk j) = true then Rs.ok (rangeL i (j - i).toNat) else Rs.bad) with | .ok ds => _ | .ex c => _ | .bad => _) → _
          by_cases c : (rngOk i && rngOk j) = true
          · rw [if_pos c]
            intro q w H2 h2 r2
            cases r1
            cases r2
            unfold rngOk at c
            simp only [Bool.and_eq_true, decide_eq_true_eq] at c
            exact ⟨i, j, rfl, ⟨c.1.1, c.1.2, c.2.1, c.2.2⟩, q (Itr i (j - i).toNat) S T H2 (h1.trans h2) .refl (r.mono (h1.trans h2)) range_yields⟩
          · rw [if_neg c]
            exact fun q => q.elim
        | _ => exact fun q => q.elim
      | _ => exact fun q => q.elim
/-- zip of two lists that stay -/
def zipD (ds es : List D) : List D := (ds.zip es).map fun p => D.tup [p.1, p.2]
def zipR (a b : Rs D) : Rs (List D) := a.bind fun d => b.bind fun e => (ofO (elems d)).bind fun ds => (ofO (elems e)).bind fun es => .ok (zipD ds es)
theorem i_zip {R : TI → Prop} {a b : Expr} {f g : Sl → Rs D} (hp : ∀ t, PAf X [a, b] t → R (iZip K t)) (h : EP K W cl (PEf X a) f) (h2 : EP K W cl (PEf X b) g) (hs : ∀ z, starEach [a, b] (X z).env = [(false, eval a (X z).env), (false, eval b (X z).env)] := by intro _; rfl) (hs2 : ∀ z, starEach [b] (X z).env = [(false, eval b (X z).env)] := by intro _; rfl) :
    EI K W cl R fun st => zipR (f st) (g st) := by
  obtain ⟨t, p, k⟩ := h.ex
  obtain ⟨u, pu, ku⟩ := h2.ex
  refine ⟨_, hp _ fun z => pa_cons (p z) (pa_cons (pu z) pa_nil (hs2 z)) ((hs z).trans (by rw [← hs2 z])), fun S T st σ H Q r q => k S T st σ H _ r ?_⟩
  revert q
  show (match zipR (f st) (g st) with | .ok ds => _ | .ex c => _ | .bad => _) → _
  cases f st with
  | bad => exact fun q => q
  | ex c => exact fun q => q
  | ok d =>
    intro q v S1 T1 H1 h1 x1 s1 t1 r1
    refine ku S1 T1 st σ H1 _ (r.ext h1 x1 s1 t1) ?_
    revert q
    show (match zipR (.ok d) (g st) with | .ok ds => _ | .ex c => _ | .bad => _) → _
    cases g st with
    | bad => exact fun q => q
    | ex c => exact fun q H2 h2 => q H2 (h1.trans h2)
    | ok e =>
      show (match (ofO (elems d)).bind (fun ds => (ofO (elems e)).bind fun es => .ok (zipD ds es)) with | .ok ds => _ | .ex c => _ | .bad => _) → _
      cases e1 : elems d with
      | none => exact fun q => q.elim
      | some ds =>
        cases e2 : elems e with
        | none => exact fun q => q.elim
        | some es =>
          intro q w S2 T2 H2 h2 x2 s2 t2 r2
          have q : ∀ J S' T' H', Same H H' → Ext S T H S' T' → RS K S' T' st σ H' → Yields K J S' (zipD ds es) → Q J H' := q
          obtain ⟨ad, us, rfl, hq, rl⟩ := (r1.mono x2.s).seqL e1
          obtain ⟨bd, ws, rfl, hq2, rl2⟩ := r2.seqL e2
          have rs2 := (r.ext h1 x1 s1 t1).ext h2 x2 s2 t2
          have zl : (zipD ds es).length = min ds.length es.length := by unfold zipD; rw [List.length_map, List.length_zip]
          refine ⟨ad, bd, us, ws, rfl, (s2.trans t2).seq hq, (s2.trans t2).seq hq2, q (Itz K ad bd) S2 T2 H2 (h1.trans h2) (x1.trans h1 x2) rs2 ⟨fun i H3 k hi => ?_, fun i H3 k hi => ?_, fun i H3 x H4 dd k e y => ?_⟩⟩
          · exact ⟨us, ws, k.seq hq, k.seq hq2, by rw [rl.length, rl2.length]; rw [zl] at hi; omega⟩
          · rw [zl] at hi
            exact ⟨us, ws, us[i]'(by rw [rl.length]; omega), ws[i]'(by rw [rl2.length]; omega), k.seq hq, k.seq hq2, by simp, by simp⟩
          · obtain ⟨p, x1', y1', ex, hp, eh, k1, k2⟩ := y
            unfold zipD at e
            rw [List.getElem?_map] at e
            cases e3 : (ds.zip es)[i]? with
            | none => rw [e3] at e; cases e
            | some pr =>
              rw [e3] at e
              cases e
              obtain ⟨d1, d2⟩ := pr
              rw [List.getElem?_zip_eq_some] at e3
              obtain ⟨u1, f1, g1⟩ := rl.get e3.1
              obtain ⟨u2, f2, g2⟩ := rl2.get e3.2
              rw [k1 us (k.seq hq)] at f1
              rw [k2 ws (k.seq hq2)] at f2
              cases f1
              cases f2
              exact .inr ⟨p, _, _, ex, hp, eh, .cons g1 (.cons g2 .nil), rfl⟩
/-- enumerate of a list that stays -/
def enumD (ds : List D) : List D := ds.zipIdx.map fun p => D.tup [.int (p.2 : Nat), p.1]
def enumR (a : Rs D) : Rs (List D) := a.bind fun d => (ofO (elems d)).bind fun ds => .ok (enumD ds)
theorem i_enum {R : TI → Prop} {a : Expr} {f : Sl → Rs D} (hp : ∀ t, PAf X [a] t → R (iEnum K t)) (h : EP K W cl (PEf X a) f) (hs : ∀ z, starEach [a] (X z).env = [(false, eval a (X z).env)] := by intro _; rfl) : EI K W cl R fun st => enumR (f st) := by
  obtain ⟨t, p, k⟩ := h.ex
  refine ⟨_, hp _ fun z => pa_cons (p z) pa_nil (hs z), fun S T st σ H Q r q => k S T st σ H _ r ?_⟩
  revert q
  show (match enumR (f st) with | .ok ds => _ | .ex c => _ | .bad => _) → _
  cases f st with
  | bad => exact fun q => q
  | ex c => exact fun q => q
  | ok d =>
    show (match (ofO (elems d)).bind (fun ds => .ok (enumD ds)) with | .ok ds => _ | .ex c => _ | .bad => _) → _
    cases e1 : elems d with
    | none => exact fun q => q.elim
    | some ds =>
      intro q v S1 T1 H1 h1 x1 s1 t1 r1
      have q : ∀ J S' T' H', Same H H' → Ext S T H S' T' → RS K S' T' st σ H' → Yields K J S' (enumD ds) → Q J H' := q
      obtain ⟨ad, us, rfl, hq, rl⟩ := r1.seqL e1
      have zl : (enumD ds).length = ds.length := by unfold enumD; rw [List.length_map, List.length_zipIdx]
      refine ⟨ad, us, rfl, (s1.trans t1).seq hq, q (Ite K ad) S1 T1 H1 h1 x1 (r.ext h1 x1 s1 t1) ⟨fun i H3 k hi => ?_, fun i H3 k hi => ?_, fun i H3 x H4 dd k e y => ?_⟩⟩
      · exact ⟨us, k.seq hq, by rw [rl.length]; rw [zl] at hi; exact hi⟩
      · rw [zl] at hi
        exact ⟨us, us[i]'(by rw [rl.length]; exact hi), k.seq hq, by simp⟩
      · obtain ⟨p, x1', ex, hp, eh, k1⟩ := y
        unfold enumD at e
        rw [List.getElem?_map, List.getElem?_zipIdx] at e
        cases e3 : ds[i]? with
        | none => rw [e3] at e; cases e
        | some dd =>
          rw [e3] at e
          cases e
          obtain ⟨u1, f1, g1⟩ := rl.get e3
          rw [k1 us (k.seq hq)] at f1
          cases f1
          exact .inr ⟨p, _, _, ex, hp, eh, .cons (by rw [Nat.zero_add]; exact .int _) (.cons g1 .nil), rfl⟩
def revR (a : Rs D) : Rs (List D) := a.bind fun d => (ofO (elems d)).bind fun ds => .ok ds.reverse
theorem i_rev {R : TI → Prop} {a : Expr} {f : Sl → Rs D} (hp : ∀ t, PAf X [a] t → R (iRev K t)) (h : EP K W cl (PEf X a) f) (hs : ∀ z, starEach [a] (X z).env = [(false, eval a (X z).env)] := by intro _; rfl) : EI K W cl R fun st => revR (f st) := by
  obtain ⟨t, p, k⟩ := h.ex
  refine ⟨_, hp _ fun z => pa_cons (p z) pa_nil (hs z), fun S T st σ H Q r q => k S T st σ H _ r ?_⟩
  revert q
  show (match revR (f st) with | .ok ds => _ | .ex c => _ | .bad => _) → _
  cases f st with
  | bad => exact fun q => q
  | ex c => exact fun q => q
  | ok d =>
    show (match (ofO (elems d)).bind (fun ds => .ok ds.reverse) with | .ok ds => _ | .ex c => _ | .bad => _) → _
    cases e1 : elems d with
    | none => exact fun q => q.elim
    | some ds =>
      intro q v S1 T1 H1 h1 x1 s1 t1 r1
      have q : ∀ J S' T' H', Same H H' → Ext S T H S' T' → RS K S' T' st σ H' → Yields K J S' ds.reverse → Q J H' := q
      obtain ⟨ad, us, rfl, hq, rl⟩ := r1.seqL e1
      refine ⟨ad, us, rfl, (s1.trans t1).seq hq, q (Itv K ad us.length) S1 T1 H1 h1 x1 (r.ext h1 x1 s1 t1) ⟨fun i H3 k hi => ?_, fun i H3 k hi => ?_, fun i H3 x H4 dd k e y => ?_⟩⟩
      · rw [List.length_reverse] at hi
        show us.length ≤ i
        rw [rl.length]; exact hi
      · rw [List.length_reverse] at hi
        exact ⟨by rw [rl.length]; exact hi, us, us[us.length - 1 - i]'(by have := rl.length; omega), k.seq hq, by simp⟩
      · obtain ⟨y1, y2⟩ := y
        have hi : i < ds.length := by
          have := (List.getElem?_eq_some_iff.mp e).1
          rw [List.length_reverse] at this; exact this
        rw [List.getElem?_reverse hi] at e
        obtain ⟨u1, f1, g1⟩ := rl.get e
        have := y2 us (k.seq hq)
        rw [rl.length, f1] at this
        cases this
        exact .inl ⟨y1, g1⟩
/-! ### comprehensions -/
def wipeS (st : Sl) : List Nat → Sl
  | [] => st
  | v :: vs => (wipeS st vs).set v none
theorem wipeS_length (st : Sl) : ∀ vs, (wipeS st vs).length = st.length
  | [] => rfl
  | v :: vs => by unfold wipeS; rw [List.length_set, wipeS_length st vs]
theorem wipe_get (σ : St) (k : Nat) : ∀ vs : List Nat, (wipe σ vs)[k]? = if k ∈ vs then (σ[k]?).map fun _ => none else σ[k]?
  | [] => by simp [wipe]
  | v :: vs => by
    unfold wipe
    by_cases hv : v = k
    · subst hv
      rw [if_pos (by simp)]
      by_cases hl : v < σ.length
      · rw [List.getElem?_set_self (by rw [wipe_length]; exact hl)]
        simp [hl]
      · rw [List.getElem?_eq_none (by rw [List.length_set, wipe_length]; omega), List.getElem?_eq_none (by omega)]
        rfl
    · rw [List.getElem?_set_ne hv, wipe_get σ k vs]
      have hkv : ¬ k = v := fun e => hv e.symm
      by_cases hk : k ∈ vs
      · rw [if_pos hk, if_pos (by simp [hk])]
      · rw [if_neg hk, if_neg (by simp [hk, hkv])]
theorem wipe_ext {σ σ' : St} {vs : List Nat} (hl : σ'.length = σ.length) (h : ∀ k, k ∉ vs → σ'[k]? = σ[k]?) : wipe σ' vs = wipe σ vs := by
  apply List.ext_getElem?
  intro k
  rw [wipe_get, wipe_get]
  by_cases hk : k ∈ vs
  · rw [if_pos hk, if_pos hk]
    by_cases hl2 : k < σ.length
    · simp [hl2, hl ▸ hl2]
    · rw [List.getElem?_eq_none (by omega), List.getElem?_eq_none (by omega)]
  · rw [if_neg hk, if_neg hk]
    exact h k hk
theorem wipe_wipe (σ : St) (vs : List Nat) : wipe (wipe σ vs) vs = wipe σ vs := wipe_ext (wipe_length _ _) fun k hk => by rw [wipe_get, if_neg hk]
mutual
theorem Ow.det {S S' H : Hp} : ∀ {v : V} {o : O} {f g : List Addr}, Ow K S H v o f → Ow K S' H v o g → f = g
  | _, _, _, _, .sh _, .sh _ => rfl
  | _, _, _, _, .lst h r, .lst h' r' => by
    rw [h] at h'
    cases h'
    rw [OwL.det r r']
  | _, _, _, _, .tup h r, .tup h' r' => by
    rw [h] at h'
    cases h'
    rw [OwL.det r r']
theorem OwL.det {S S' H : Hp} : ∀ {vs : List V} {os : List O} {f g : List Addr}, OwL K S H vs os f → OwL K S' H vs os g → f = g
  | _, _, _, _, .nil, .nil => rfl
  | _, _, _, _, .cons h r, .cons h' r' => by rw [Ow.det h h', OwL.det r r']
end
theorem OwSt.det {S S' H : Hp} : ∀ {σ : St} {st : Sl} {f g : List Addr}, OwSt K S H σ st f → OwSt K S' H σ st g → f = g
  | _, _, _, _, .nil, .nil => rfl
  | _, _, _, _, .none r, .none r' => r.det r'
  | _, _, _, _, .some h r, .some h' r' => by rw [h.det h', r.det r']
theorem OwSt.unset {S H : Hp} {σ : St} {st : Sl} {f : List Addr} (w : OwSt K S H σ st f) (i : Nat) : ∃ f', OwSt K S H (σ.set i Option.none) (st.set i Option.none) f' ∧ ∀ b ∈ f', b ∈ f ∧ (f.Nodup → f'.Nodup) := by
  by_cases hi : i < st.length
  · obtain ⟨f1, g, f2, e, _, h⟩ := w.set hi
    refine ⟨f1 ++ f2, h S H Option.none (.refl _) fun _ _ => rfl, fun b hb => ?_⟩
    subst e
    refine ⟨by simp only [List.mem_append] at hb ⊢; rcases hb with z | z; exact .inl (.inl z); exact .inr z, fun nd => ?_⟩
    simp only [List.nodup_append, List.mem_append] at nd ⊢
    exact ⟨nd.1.1, nd.2.1, fun a ha b hb => nd.2.2 a (.inl ha) b hb⟩
  · rw [List.set_eq_of_length_le (by rw [w.length]; omega), List.set_eq_of_length_le (by omega)]
    exact ⟨f, w, fun b hb => ⟨hb, id⟩⟩
theorem RS.unset {S T : Hp} {st : Sl} {σ : St} {H : Hp} (r : RS K S T st σ H) (i : Nat) : RS K S T (st.set i none) (σ.set i none) H := by
  obtain ⟨f, w, nd, k⟩ := r.own
  obtain ⟨f', w', h⟩ := w.unset i
  refine ⟨r.lo, r.th, f', w', ?_, fun b hb => k b (h b hb).1⟩
  cases f' with
  | nil => exact .nil
  | cons a l => exact (h a (by simp)).2 nd
theorem RS.wipe {S T : Hp} {st : Sl} {σ : St} {H : Hp} (r : RS K S T st σ H) : ∀ vs : List Nat, RS K S T (wipeS st vs) (L2.wipe σ vs) H
  | [] => r
  | v :: vs => by
    unfold wipeS L2.wipe
    exact (r.wipe vs).unset v
def noEx {α : Type} : Rs α → Rs α
  | .ok a => .ok a
  | _ => .bad
def lcF (tg : D → Sl → Option Sl) (ts : Sl → Rs Bool) (el : Sl → Rs O) (st : Sl) : List D → Rs (List O)
  | [] => .ok []
  | d :: ds => match tg d st with
    | none => .bad
    | some st1 => (noEx (ts st1)).bind fun b => if b = true then (noEx (el st1)).bind fun o => (lcF tg ts el st ds).bind fun os => .ok (o :: os) else lcF tg ts el st ds
abbrev W0 : WX := fun _ _ _ _ => False
/-- the blocks of a comprehension in X -/
abbrev Bk (ι : Type) := ι × Shared × Hp × Addr × List (Str × Addr) × List Addr
abbrev blkf (X : ι → Cx) (scope : Scope) : Bk ι → Cx := fun z => (X z.1).blk z.2.1 z.2.2.1 scope (compEnvC scope z.2.2.2.2.1 z.2.2.2.1 (X z.1).env) z.2.2.2.2.2
def lenOk {α : Type} (r : Rs (List α)) : Rs (List α) := r.bind fun os => if os.length < sizeLine then .ok os else .bad
def lcR (it : Rs (List D)) (tg : D → Sl → Option Sl) (ts : Sl → Rs Bool) (el : Sl → Rs O) (vs : List Nat) (st : Sl) : Rs O := mapRs O.lst (it.bind fun ds => lenOk (lcF tg ts el (wipeS st vs) ds))
theorem f_lc {R : TE → Prop} {elt tgE iter : Expr} {ifs : List Expr} {scope : Scope} {vs us : List Nat} {fi : Sl → Rs (List D)} {tg : D → Sl → Option Sl} {ts : Sl → Rs Bool} {el : Sl → Rs O}
    (hp : ∀ wi g tt te, PIf X tgE iter wi → PGf (blkf X scope) tgE g → PTsf (blkf X scope) ifs tt → PEf (blkf X scope) elt te → R (tLc wi g tt te vs))
    (hi : EI K W cl (PIf X tgE iter) fi) (hg : EG K (PGf (blkf X scope) tgE) us tg) (ht : ET K W0 cl (PTsf (blkf X scope) ifs) ts) (he : EF K W0 cl (PEf (blkf X scope) elt) el) (hu : ∀ k ∈ us, k ∈ vs := by decide) :
    EF K W cl R fun st => lcR (fi st) tg ts el vs st := by
  obtain ⟨wi, pi, ki⟩ := hi.ex
  obtain ⟨g, pg, kg⟩ := hg.ex
  obtain ⟨tt, pt, kt⟩ := ht.ex
  obtain ⟨te, pe, ke⟩ := he.ex
  refine ⟨_, hp _ _ _ _ pi pg pt pe, fun S T st σ H Q r q => ki S T st σ H _ r ?_⟩
  have q : PF K cl W S T σ H (lcR (fi st) tg ts el vs st) Q := q
  revert q
  unfold lcR
  cases fi st with
  | bad => exact fun q => q
  | ex c => exact fun q => q
  | ok ds =>
    intro q J S1 T1 H1 h1 x1 r1 y1 D hD
    have q : PF K cl W S T σ H (mapRs O.lst (lenOk (lcF tg ts el (wipeS st vs) ds))) Q := q
    cases e0 : lcF tg ts el (wipeS st vs) ds with
    | bad => rw [e0] at q; exact q.elim
    | ex c =>
      -- a comprehension lets nothing out
      exfalso
      have noex : ∀ ds c, lcF tg ts el (wipeS st vs) ds ≠ .ex c := by
        intro ds
        induction ds with
        | nil => intro c h; cases h
        | cons d ds ih =>
          intro c h
          unfold lcF at h
          cases e1 : tg d (wipeS st vs) with
          | none => rw [e1] at h; cases h
          | some st1 =>
            rw [e1] at h
            dsimp only at h
            cases e2 : noEx (ts st1) with
            | bad => rw [e2] at h; cases h
            | ex c =>
              cases e3 : ts st1 with
              | ok _ => rw [e3] at e2; cases e2
              | ex _ => rw [e3] at e2; cases e2
              | bad => rw [e3] at e2; cases e2
            | ok b =>
              rw [e2] at h
              cases b with
              | false => exact ih _ h
              | true =>
                have h : ((noEx (el st1)).bind fun o => (lcF tg ts el (wipeS st vs) ds).bind fun os => Rs.ok (o :: os)) = .ex c := h
                cases e3 : noEx (el st1) with
                | bad => rw [e3] at h; cases h
                | ex c =>
                  cases e4 : el st1 with
                  | ok _ => rw [e4] at e3; cases e3
                  | ex _ => rw [e4] at e3; cases e3
                  | bad => rw [e4] at e3; cases e3
                | ok o =>
                  rw [e3] at h
                  have h : (lcF tg ts el (wipeS st vs) ds).bind (fun os => Rs.ok (o :: os)) = .ex c := h
                  cases e4 : lcF tg ts el (wipeS st vs) ds with
                  | bad => rw [e4] at h; cases h
                  | ok _ => rw [e4] at h; cases h
                  | ex c' => exact ih _ e4
      exact noex ds c e0
    | ok all =>
      rw [e0] at q
      have q : PF K cl W S T σ H (mapRs O.lst (if all.length < sizeLine then .ok all else .bad)) Q := q
      by_cases hall : all.length < sizeLine
      · rw [if_pos hall] at q
        have q : PF K cl W S T σ H (.ok (.lst all)) Q := q
        -- the list so far
        let Pv : Nat → Hp → Prop := fun i H2 => ∃ S2 T2 acc os f rest, Same H1 H2 ∧ Ext S1 T1 H1 S2 T2 ∧ RS K S2 T2 (wipeS st vs) (wipe σ vs) H2 ∧ H2 D = some (.lst acc) ∧ OwL K S2 H2 acc os f ∧ (D :: f).Nodup ∧
          (∀ b ∈ D :: f, T2 b = none ∧ H1 b = none) ∧ lcF tg ts el (wipeS st vs) (ds.drop i) = .ok rest ∧ os ++ rest = all
        have st0 : Pv 0 (upd H1 D (.lst [])) := by
          have hu := same_upd (o := .lst []) hD
          refine ⟨S1, T1, [], [], [], all, hu, .refl, (r1.wipe vs).mono hu, upd_same, .nil, by simp, fun b hb => ?_, by rw [List.drop_zero]; exact e0, rfl⟩
          rw [List.mem_singleton] at hb
          subst hb
          exact ⟨r1.th.free hD, hD⟩
        refine ⟨fun i m H2 => m = ds.length - i ∧ i ≤ ds.length ∧ Pv i H2, ⟨ds.length, by simp, Nat.zero_le _, st0⟩, ?_⟩
        rintro i m H2 ⟨rfl, hi, S2, T2, acc, os, f, rest, hs, x2, r2, hl, ow, nd, fr, er, eo⟩
        by_cases hlt : i < ds.length
        · refine .inr ⟨y1.go i H2 (x2.s.trans r2.sh) hlt, fun H3 => Pv (i + 1) H3, fun H3 p3 => ⟨ds.length - (i + 1), by omega, rfl, hlt, p3⟩, fun x H3 y => ?_⟩
          have ed : ds[i]? = some ds[i] := by simp [hlt]
          have yl := (y1.mono x2.s).yld i H2 x H3 ds[i] r2.sh ed y
          obtain ⟨S3, T3, hs3, x3, r3, rp3⟩ := yl.ext r2
          have edrop : ds.drop i = ds[i] :: ds.drop (i + 1) := by rw [List.drop_eq_getElem_cons hlt]
          rw [edrop] at er
          unfold lcF at er
          cases e1 : tg ds[i] (wipeS st vs) with
          | none => rw [e1] at er; cases er
          | some st1 =>
            rw [e1] at er
            dsimp only at er
            refine kg S3 T3 (wipeS st vs) (wipe σ vs) H3 x ds[i] st1 _ r3 rp3 e1 fun σ4 l4 k4 r4 => ⟨?_, ?_⟩
            · rw [← wipe_wipe σ vs]
              exact wipe_ext l4 fun k hk => k4 k fun z => hk (hu k z)
            · refine kt S3 T3 st1 σ4 H3 _ r4 ?_
              cases e2 : ts st1 with
              | bad => rw [e2] at er; cases er
              | ex c => rw [e2] at er; cases er
              | ok b =>
                rw [e2] at er
                intro H4 h4
                have up : Same H1 H4 := hs.trans (hs3.trans h4)
                have x13 : Ext S1 T1 H1 S3 T3 := x2.trans hs x3
                -- what stood of the list stands
                have kept : ∀ {S5 T5 H5 : Hp}, Same H4 H5 → Same S3 S5 → (∀ b, H4 b ≠ none → T5 b = T3 b) → H5 D = some (.lst acc) ∧ OwL K S5 H5 acc os f ∧ (∀ b ∈ D :: f, T5 b = none) := fun {S5 T5 H5} a b c => by
                  have e5 : Same H2 H5 := (hs3.trans h4).trans a
                  refine ⟨e5 _ _ hl, ow.mono (x3.s.trans b) fun z hz => same_ne e5 (ow.there z hz), fun z hz => ?_⟩
                  have hz2 : H2 z ≠ none := by
                    rcases List.mem_cons.mp hz with rfl | hz
                    · rw [hl]; simp
                    · exact ow.there z hz
                  rw [c z (by rw [same_ne (hs3.trans h4) hz2]; exact hz2), (x3.old z hz2).2]
                  exact (fr z hz).1
                cases b with
                | false =>
                  refine iteF ?_
                  obtain ⟨k1, k2, k3⟩ := kept (S5 := S3) (T5 := T3) (.refl H4) (.refl _) fun _ _ => rfl
                  exact ⟨S3, T3, acc, os, f, rest, up, x13, r3.mono h4, k1, k2, nd, fun z hz => ⟨k3 z hz, (fr z hz).2⟩, er, eo⟩
                | true =>
                  refine iteT (ke S3 T3 st1 σ4 H4 _ (r4.mono h4) ?_)
                  have er : ((noEx (el st1)).bind fun o => (lcF tg ts el (wipeS st vs) (ds.drop (i + 1))).bind fun os => Rs.ok (o :: os)) = .ok rest := er
                  cases e3 : el st1 with
                  | bad => rw [e3] at er; cases er
                  | ex c => rw [e3] at er; cases er
                  | ok o =>
                    rw [e3] at er
                    have er : (lcF tg ts el (wipeS st vs) (ds.drop (i + 1))).bind (fun os => Rs.ok (o :: os)) = .ok rest := er
                    cases e4 : lcF tg ts el (wipeS st vs) (ds.drop (i + 1)) with
                    | bad => rw [e4] at er; cases er
                    | ex c => rw [e4] at er; cases er
                    | ok rest' =>
                      rw [e4] at er
                      cases er
                      intro v S5 T5 H5 g5 h5 x5 s5 t5 w5 n5 k5
                      obtain ⟨k1, k2, k3⟩ := kept h5 x5.s fun z hz => (x5.old z hz).2
                      have hln : acc.length = os.length := k2.length
                      have hal : os.length < sizeLine := by
                        have := congrArg List.length eo
                        rw [List.length_append, List.length_cons] at this
                        omega
                      refine ⟨acc, k1, by rw [hln]; exact hal, ?_⟩
                      have Df : D ∉ f := (List.nodup_cons.mp nd).1
                      have Dg : D ∉ g5 := fun z => by
                        have := (k5 D z).2
                        have e6 : H4 D = some (.lst acc) := (hs3.trans h4) _ _ hl
                        rw [e6] at this; cases this
                      have same6 : ∀ b, b ≠ D → (upd H5 D (.lst (acc ++ [v]))) b = H5 b := fun b hb => upd_ne hb
                      have T5D : T5 D = none := k3 D (by simp)
                      have r5 : RS K S5 T5 (wipeS st vs) (wipe σ vs) H5 := (r3.mono h4).ext h5 x5 s5 t5
                      obtain ⟨fs, ws, ns, ks⟩ := r5.own
                      have Dfs : D ∉ fs := fun z => by
                        -- D is new, the slots' trees are old
                        obtain ⟨fs0, ws0, _, _⟩ := (r1.wipe vs).own
                        have th0 := ws0.there
                        have e15 : Same H1 H5 := up.trans h5
                        have := (ws0.mono (.refl _) fun b hb => same_ne e15 (th0 b hb)).det ws
                        subst this
                        exact th0 D z hD
                      refine ⟨S5, T5, acc ++ [v], os ++ [o], f ++ g5, rest', fun b u e => ?_, x13.trans up x5, ⟨s5, fun b u e => ?_, fs, ws.mono (.refl _) fun b hb => same6 b fun e => Dfs (e ▸ hb), ns, ks⟩, upd_same, ?_, ?_, fun b hb => ?_, e4, ?_⟩
                      · rw [same6 b (ne_of_none e hD)]; exact h5 _ _ (up _ _ e)
                      · rw [same6 b fun z => by rw [z, T5D] at e; cases e]; exact t5 _ _ e
                      · have w1 : OwL K S5 (upd H5 D (.lst (acc ++ [v]))) acc os f := k2.mono (.refl _) fun b hb => same6 b fun e => Df (e ▸ hb)
                        have w2 : Ow K S5 (upd H5 D (.lst (acc ++ [v]))) v o g5 := w5.mono (.refl _) fun b hb => same6 b fun e => Dg (e ▸ hb)
                        have := w1.append (.cons w2 .nil)
                        simpa using this
                      · rw [List.nodup_cons, List.mem_append, List.nodup_append]
                        refine ⟨fun z => z.elim Df Dg, (List.nodup_cons.mp nd).2, n5, fun a ha b hb e => ?_⟩
                        have := (k5 b hb).2
                        subst e
                        have th : H2 a ≠ none := ow.there a ha
                        rw [same_ne (hs3.trans h4) th] at this
                        exact th this
                      · rcases List.mem_cons.mp hb with rfl | hb
                        · exact ⟨T5D, hD⟩
                        · rcases List.mem_append.mp hb with hb | hb
                          · exact ⟨k3 b (List.mem_cons_of_mem _ hb), (fr b (List.mem_cons_of_mem _ hb)).2⟩
                          · exact ⟨(k5 b hb).1, up.free (k5 b hb).2⟩
                      · rw [List.append_assoc]; exact eo
        · have e : i = ds.length := by omega
          subst e
          rw [List.drop_length] at er
          cases er
          rw [List.append_nil] at eo
          subst eo
          refine .inl ⟨y1.stop _ H2 (x2.s.trans r2.sh) (Nat.le_refl _), ?_⟩
          exact q (.ref D) S2 T2 H2 (D :: f) (h1.trans hs) (x1.trans h1 x2) r2.lo r2.th (.lst hl ow) nd fun b hb => ⟨(fr b hb).1, h1.free (fr b hb).2⟩
      · rw [if_neg hall] at q
        exact q.elim
end
end M

/-! Statements, loops, defs. -/
namespace M
open PySem L2
section
variable {ι : Type} {X : ι → Cx} {W : WX} {cl : Cl} {K : PySem.W.Frag}
/-- a slot's tree and what may be put in its place -/
theorem RS.focus {S T : Hp} {st : Sl} {σ : St} {H : Hp} {i : Nat} {o : O} (r : RS K S T st σ H) (e : st[i]? = some (some o)) : ∃ v g, σ[i]? = some (some v) ∧ Ow K S H v o g ∧ g.Nodup ∧ (∀ b ∈ g, T b = none) ∧
    (∀ f, OwSt K S H σ st f → ∀ b ∈ g, b ∈ f) ∧
    ∀ (H2 : Hp) (o2 : O) (g2 : List Addr), (∀ b, b ∉ g → H2 b = H b) → Ow K S H2 v o2 g2 → g2.Nodup → (∀ b ∈ g2, b ∈ g ∨ (T b = none ∧ ∀ f, OwSt K S H σ st f → b ∉ f)) → RS K S T (st.set i (some o2)) σ H2 := by
  obtain ⟨f, w, nd, k⟩ := r.own
  obtain ⟨v, f1, g, f2, h1, h2, h3, h4, _⟩ := w.get e
  subst h2
  have nd' := nd
  simp only [List.nodup_append, List.mem_append] at nd'
  obtain ⟨⟨n1, n2, n3⟩, n4, n5⟩ := nd'
  refine ⟨v, g, h1, h3, n2, fun b hb => k b (by simp [hb]), fun f' w' b hb => ?_, fun H2 o2 g2 hk w2 nd2 hg2 => ?_⟩
  · rw [← w.det w']; simp [hb]
  have out : ∀ b ∈ f1 ++ f2, b ∉ g := fun b hb hg => by
    rcases List.mem_append.mp hb with z | z
    · exact n3 b z b hg rfl
    · exact n5 b (.inr hg) b z rfl
  have hσ : σ.set i (some v) = σ := by
    apply List.ext_getElem?
    intro j
    by_cases hj : i = j
    · subst hj
      have := (List.getElem?_eq_some_iff.mp h1).1
      rw [List.getElem?_set_self this, h1]
    · rw [List.getElem?_set_ne hj]
  have w3 := h4 S H2 v o2 g2 (.refl _) (fun b hb => hk b (out b hb)) w2
  rw [hσ] at w3
  refine ⟨r.lo, fun b u e => ?_, _, w3, ?_, fun b hb => ?_⟩
  · rw [hk b fun z => by rw [k b (by simp [z])] at e; cases e]
    exact r.th b u e
  · simp only [List.nodup_append, List.mem_append]
    have dj : ∀ b ∈ g2, b ∉ f1 ∧ b ∉ f2 := fun b hb => by
      rcases hg2 b hb with z | ⟨_, z⟩
      · exact ⟨fun y => n3 b y b z rfl, fun y => n5 b (.inr z) b y rfl⟩
      · have := z _ w
        simp only [List.mem_append, not_or] at this
        exact ⟨this.1.1, this.2⟩
    refine ⟨⟨n1, nd2, fun a ha b hb e => (dj b hb).1 (e ▸ ha)⟩, n4, fun a ha b hb e => ?_⟩
    rcases ha with ha | ha
    · exact n5 a (.inl ha) b hb e
    · exact (dj a ha).2 (e ▸ hb)
  · simp only [List.mem_append] at hb
    rcases hb with (hb | hb) | hb
    · exact k b (by simp [hb])
    · rcases hg2 b hb with z | z
      · exact k b (by simp [z])
      · exact z.1
    · exact k b (by simp [hb])
/-- fresh knots are in no slot's tree -/
theorem RS.fresh {S T S1 T1 : Hp} {st : Sl} {σ : St} {H H1 : Hp} {g : List Addr} (r : RS K S T st σ H) (h : Same H H1) (hn : ∀ b ∈ g, T1 b = none ∧ H b = none) : ∀ b ∈ g, T1 b = none ∧ ∀ f, OwSt K S1 H1 σ st f → b ∉ f := fun b hb => by
  refine ⟨(hn b hb).1, fun f w hf => ?_⟩
  obtain ⟨f0, w0, _, _⟩ := r.own
  have th := w0.there
  have := (w0.mono (H' := H1) (.refl _) fun c hc => same_ne h (th c hc)).det w
  subst this
  exact th b hf (hn b hb).2
def setO (i : Nat) (r : Rs O) (st : Sl) : Fl := match r with
  | .ok o => if i < st.length then .nx (st.set i (some o)) else .bad
  | .ex c => .ex c
  | .bad => .bad
/-- x = e, x takes the tree -/
theorem s_setO {R : TE → Prop} {i : Nat} {s : Stmt} {f : Sl → Rs O} (hp : ∀ t, R t → PSf X s (tAsg t (gName i))) (h : EF K W cl R f) : SJ K W cl (PSf X s) fun st => setO i (f st) st := by
  obtain ⟨t, p, a⟩ := h.ex
  refine ⟨_, hp _ p, fun S T st σ H E r q => a S T st σ H _ r ?_⟩
  have q : PSt K cl W S T (setO i (f st) st) E := q
  revert q
  unfold setO
  cases f st with
  | bad => exact fun q => q
  | ex c => exact fun q H1 h1 => q σ T H1 (.refl _) (r.th.trans h1)
  | ok o =>
    intro q v S1 T1 H1 g h1 x1 s1 t1 w1 n1 k1
    have q : PSt K cl W S T (if i < st.length then .nx (st.set i (some o)) else .bad) E := q
    by_cases c : i < st.length
    · rw [if_pos c] at q
      have r1 := r.ext h1 x1 s1 t1
      have fr := r.fresh (S1 := S1) h1 k1
      exact q S1 T1 (σ.set i (some v)) H1 (x1.ex3 r.th) (r1.set c w1 n1 (fun b hb => (k1 b hb).1) fun f w b hb => (fr b hb).2 f w)
    · rw [if_neg c] at q
      exact q.elim
def asgR (g : D → Sl → Option Sl) (r : Rs D) (st : Sl) : Fl := match r with
  | .ok d => match g d st with
    | some st' => .nx st'
    | none => .bad
  | .ex c => .ex c
  | .bad => .bad
/-- target = e, of what stays -/
theorem s_asg {R : TE → Prop} {tg : Expr} {vs : List Nat} {s : Stmt} {f : Sl → Rs D} {g : D → Sl → Option Sl} (hp : ∀ t u, R t → PGf X tg u → PSf X s (tAsg t u)) (hg : EG K (PGf X tg) vs g) (h : EP K W cl R f) : SJ K W cl (PSf X s) fun st => asgR g (f st) st := by
  obtain ⟨t, p, a⟩ := h.ex
  obtain ⟨u, pu, b⟩ := hg.ex
  refine ⟨_, hp _ _ p pu, fun S T st σ H E r q => a S T st σ H _ r ?_⟩
  have q : PSt K cl W S T (asgR g (f st) st) E := q
  revert q
  unfold asgR
  cases f st with
  | bad => exact fun q => q
  | ex c => exact fun q H1 h1 => q σ T H1 (.refl _) (r.th.trans h1)
  | ok d =>
    intro q v S1 T1 H1 h1 x1 s1 t1 w1
    cases e : g d st with
    | none =>
      have q : PSt K cl W S T (match g d st with | some st' => .nx st' | none => .bad) E := q
      rw [e] at q
      exact q.elim
    | some st' =>
      have q : PSt K cl W S T (match g d st with | some st' => .nx st' | none => .bad) E := q
      rw [e] at q
      exact b S1 T1 st σ H1 v d st' _ (r.ext h1 x1 s1 t1) w1 e fun σ' _ _ r' => q S1 T1 σ' H1 (x1.ex3 r.th) r'
/-- x = e by the slot -/
theorem s_set {R : TE → Prop} {i : Nat} {s : Stmt} {f : Sl → Rs D} (hp : ∀ t, R t → PSf X s (tAsg t (gName i))) (h : EP K W cl R f) : SJ K W cl (PSf X s) fun st => setO i (mapRs O.sh (f st)) st := s_setO hp h.f
/-- a, b = e1, e2: two names -/
def parR (i j : Nat) (r : Rs (List D)) (st : Sl) : Fl := match r with
  | .ok [d, e] => if i < st.length ∧ j < st.length then .nx ((st.set i (some (.sh d))).set j (some (.sh e))) else .bad
  | .ok _ => .bad
  | .ex c => .ex c
  | .bad => .bad
theorem s_par {R : TA → Prop} {i j : Nat} {s : Stmt} {f : Sl → Rs (List D)} (hp : ∀ t, R t → PSf X s (tPar i j t)) (h : EPs K W cl R f) : SJ K W cl (PSf X s) fun st => parR i j (f st) st := by
  obtain ⟨t, p, a⟩ := h.ex
  refine ⟨_, hp _ p, fun S T st σ H E r q => a S T st σ H _ r ?_⟩
  have q : PSt K cl W S T (parR i j (f st) st) E := q
  revert q
  cases f st with
  | bad => exact fun q => q
  | ex c => exact fun q H1 h1 => q σ T H1 (.refl _) (r.th.trans h1)
  | ok ds =>
    intro q vs S1 T1 H1 h1 x1 s1 t1 r1
    cases r1 with
    | nil => exact q.elim
    | cons ha r1 =>
      cases r1 with
      | nil => exact q.elim
      | cons hb r1 =>
        cases r1 with
        | cons _ _ => exact q.elim
        | nil =>
          rename_i v d w e
          have q : PSt K cl W S T (if i < st.length ∧ j < st.length then .nx ((st.set i (some (.sh d))).set j (some (.sh e))) else .bad) E := q
          by_cases c : i < st.length ∧ j < st.length
          · rw [if_pos c] at q
            exact ⟨v, w, rfl, q S1 T1 _ H1 (x1.ex3 r.th) (((r.ext h1 x1 s1 t1).setSh c.1 ha).setSh (by rw [List.length_set]; exact c.2) hb)⟩
          · rw [if_neg c] at q
            exact q.elim
def retR (r : Rs O) : Fl := match r with
  | .ok o => .rt o
  | .ex c => .ex c
  | .bad => .bad
theorem s_ret {R : TE → Prop} {s : Stmt} {f : Sl → Rs O} (hp : ∀ t, R t → PSf X s (tRet t)) (h : EF K W cl R f) : SJ K W cl (PSf X s) fun st => retR (f st) := by
  obtain ⟨t, p, a⟩ := h.ex
  refine ⟨_, hp _ p, fun S T st σ H E r q => a S T st σ H _ r ?_⟩
  have q : PSt K cl W S T (retR (f st)) E := q
  revert q
  cases f st with
  | bad => exact fun q => q
  | ex c => exact fun q H1 h1 => q σ T H1 (.refl _) (r.th.trans h1)
  | ok o => exact fun q v S1 T1 H1 g h1 x1 s1 t1 w1 n1 k1 => q v S1 T1 H1 g (x1.ex3 r.th) s1 t1 w1 n1 fun b hb => (k1 b hb).1
/-- return x, with its tree -/
def retN (i : Nat) (st : Sl) : Fl := match st[i]? with
  | some (some o) => .rt o
  | _ => .bad
theorem s_retN {i : Nat} {s : Stmt} (hp : PSf X s (tRet (tVar i))) : SJ K W cl (PSf X s) (retN i) := by
  refine ⟨_, hp, fun S T st σ H E r q => ?_⟩
  unfold retN at q
  revert q
  cases e : st[i]? with
  | none => exact fun q => q.elim
  | some z =>
    cases z with
    | none => exact fun q => q.elim
    | some o =>
      intro q
      obtain ⟨v, g, h1, h2, h3, h4, _⟩ := r.focus e
      exact ⟨v, h1, q v S T H g .refl r.lo r.th h2 h3 h4⟩
theorem s_ret0 {s : Stmt} (hp : PSf X s tRetN) : SJ K W cl (PSf X s) fun _ => .rt (.sh .non) := by
  refine ⟨_, hp, fun S T st σ H E r q => ?_⟩
  exact q .non S T H [] .refl r.lo r.th (.sh .non) .nil fun b hb => by cases hb
def ifS (c : Rs Bool) (a b : Fl) : Fl := match c with
  | .ok k => if k = true then a else b
  | .ex c => .ex c
  | .bad => .bad
theorem s_if {c : Expr} {a b : List Stmt} {pos : Pos} {fc : Sl → Rs Bool} {f g : Sl → Fl} (hc : ET K W cl (PTf X c) fc) (ha : SJ K W cl (PSsf X a) f) (hb : SJ K W cl (PSsf X b) g) : SJ K W cl (PSf X (.If c a b pos)) fun st => ifS (fc st) (f st) (g st) := by
  obtain ⟨t, p, k⟩ := hc.ex
  obtain ⟨ta, pa, ka⟩ := ha.ex
  obtain ⟨tb, pb, kb⟩ := hb.ex
  refine ⟨_, fun z => ps_if (p z) (pa z) (pb z), fun S T st σ H E r q => k S T st σ H _ r ?_⟩
  have q : PSt K cl W S T (ifS (fc st) (f st) (g st)) E := q
  revert q
  cases fc st with
  | bad => exact fun q => q
  | ex c => exact fun q H1 h1 => q σ T H1 (.refl _) (r.th.trans h1)
  | ok k =>
    cases k with
    | true => exact fun q H1 h1 => iteT (ka S T st σ H1 E (r.mono h1) q)
    | false => exact fun q H1 h1 => iteF (kb S T st σ H1 E (r.mono h1) q)
def dropR (r : Rs D) (st : Sl) : Fl := match r with
  | .ok _ => .nx st
  | .ex c => .ex c
  | .bad => .bad
theorem s_expr {R : TE → Prop} {s : Stmt} {f : Sl → Rs D} (hp : ∀ t, R t → PSf X s (tDrop t)) (h : EV K W cl R f) : SJ K W cl (PSf X s) fun st => dropR (f st) st := by
  obtain ⟨t, p, a⟩ := h.ex
  refine ⟨_, hp _ p, fun S T st σ H E r q => a S T st σ H _ r ?_⟩
  have q : PSt K cl W S T (dropR (f st) st) E := q
  revert q
  cases f st with
  | bad => exact fun q => q
  | ex c => exact fun q H1 h1 => q σ T H1 (.refl _) (r.th.trans h1)
  | ok o => exact fun q v H1 h1 _ => q S T σ H1 .refl (r.mono h1)
theorem s_pass {s : Stmt} (hp : PSf X s tNext) : SJ K W cl (PSf X s) fun st => .nx st := ⟨_, hp, fun S T st σ H E r q => q S T σ H .refl r⟩
theorem s_break {s : Stmt} (hp : PSf X s tBreak) : SJ K W cl (PSf X s) fun st => .bk st := ⟨_, hp, fun S T st σ H E r q => q S T σ H .refl r⟩
theorem s_cont {s : Stmt} (hp : PSf X s tCont) : SJ K W cl (PSf X s) fun st => .ct st := ⟨_, hp, fun S T st σ H E r q => q S T σ H .refl r⟩
theorem s_raise {s : Stmt} {c : Str} (hp : PSf X s fun _ σ H => W (.ref (cl c)) none σ H) : SJ K W cl (PSf X s) fun _ => .ex c := ⟨_, hp, fun S T st σ H E r q => q σ T H (.refl _) r.th⟩
/-! ### loops -/
def forF (tg : D → Sl → Option Sl) (body : Sl → Fl) : List D → Sl → Fl
  | [], st => .nx st
  | d :: ds, st => match tg d st with
    | none => .bad
    | some st1 => match body st1 with
      | .nx st2 => forF tg body ds st2
      | .ct st2 => forF tg body ds st2
      | .bk st2 => .nx st2
      | .rt o => .rt o
      | .ex c => .ex c
      | .bad => .bad
def forR (it : Rs (List D)) (tg : D → Sl → Option Sl) (body : Sl → Fl) (st : Sl) : Fl := match it with
  | .ok ds => forF tg body ds st
  | .ex c => .ex c
  | .bad => .bad
theorem s_for {tgE iter : Expr} {bs : List Stmt} {s : Stmt} {us : List Nat} {fi : Sl → Rs (List D)} {tg : D → Sl → Option Sl} {body : Sl → Fl} (hp : ∀ wi g tb, PIf X tgE iter wi → PGf X tgE g → PSsf X bs tb → PSf X s (tFor wi g tb))
    (hi : EI K W cl (PIf X tgE iter) fi) (hg : EG K (PGf X tgE) us tg) (hb : SJ K W cl (PSsf X bs) body) : SJ K W cl (PSf X s) fun st => forR (fi st) tg body st := by
  obtain ⟨wi, pi, ki⟩ := hi.ex
  obtain ⟨g, pg, kg⟩ := hg.ex
  obtain ⟨tb, pb, kb⟩ := hb.ex
  refine ⟨_, hp _ _ _ pi pg pb, fun S T st σ H E r q => ki S T st σ H _ r ?_⟩
  have q : PSt K cl W S T (forR (fi st) tg body st) E := q
  revert q
  cases fi st with
  | bad => exact fun q => q
  | ex c => exact fun q H1 h1 => q σ T H1 (.refl _) (r.th.trans h1)
  | ok ds =>
    intro q J S1 T1 H1 h1 x1 r1 y1
    have q : PSt K cl W S1 T1 (forF tg body ds st) E := PSt.mono (x1.ex3 r.th) q
    refine ⟨fun i m σ2 H2 => m = ds.length - i ∧ i ≤ ds.length ∧ ∃ S2 T2 st2, Ex3 S1 T1 S2 T2 ∧ RS K S2 T2 st2 σ2 H2 ∧ PSt K cl W S2 T2 (forF tg body (ds.drop i) st2) E, ⟨ds.length, by simp, Nat.zero_le _, S1, T1, st, .refl, r1, by rw [List.drop_zero]; exact q⟩, ?_⟩
    rintro i m σ2 H2 ⟨rfl, hi, S2, T2, st2, x2, r2, q2⟩
    by_cases hlt : i < ds.length
    · have edrop : ds.drop i = ds[i] :: ds.drop (i + 1) := by rw [List.drop_eq_getElem_cons hlt]
      rw [edrop] at q2
      unfold forF at q2
      cases e1 : tg ds[i] st2 with
      | none => rw [e1] at q2; exact q2.elim
      | some st3 =>
        rw [e1] at q2
        dsimp only at q2
        refine .inr ⟨y1.go i H2 (x2.s.trans r2.sh) hlt, fun σ3 H3 => i + 1 ≤ ds.length ∧ ∃ S2 T2 st2, Ex3 S1 T1 S2 T2 ∧ RS K S2 T2 st2 σ3 H3 ∧ PSt K cl W S2 T2 (forF tg body (ds.drop (i + 1)) st2) E, fun σ3 H3 p3 => ⟨ds.length - (i + 1), by omega, rfl, p3⟩, fun x H3 y => ?_⟩
        have yl := (y1.mono x2.s).yld i H2 x H3 ds[i] r2.sh (by simp [hlt]) y
        obtain ⟨S3, T3, hs3, x3, r3, rp3⟩ := yl.ext r2
        have q3 := PSt.mono (x3.ex3 r2.th) q2
        refine kg S3 T3 st2 σ2 H3 x ds[i] st3 _ r3 rp3 e1 fun σ4 l4 k4 r4 => kb S3 T3 st3 σ4 H3 _ r4 ?_
        have x13 := x2.trans (x3.ex3 r2.th)
        revert q3
        cases body st3 with
        | nx st4 => exact fun q3 S5 T5 σ5 H5 x5 r5 => ⟨hlt, S5, T5, st4, x13.trans x5, r5, PSt.mono (r := forF tg body (ds.drop (i + 1)) st4) x5 q3⟩
        | ct st4 => exact fun q3 S5 T5 σ5 H5 x5 r5 => ⟨hlt, S5, T5, st4, x13.trans x5, r5, PSt.mono (r := forF tg body (ds.drop (i + 1)) st4) x5 q3⟩
        | bk st4 => exact fun q3 S5 T5 σ5 H5 x5 r5 => q3 S5 T5 σ5 H5 x5 r5
        | rt o => exact fun q3 => q3
        | ex c => exact fun q3 => q3
        | bad => exact fun q3 => q3
    · have e : i = ds.length := by omega
      subst e
      rw [List.drop_length] at q2
      exact .inl ⟨y1.stop _ H2 (x2.s.trans r2.sh) (Nat.le_refl _), q2 S2 T2 σ2 H2 .refl r2⟩
/-- a while, by fuel -/
def whileN (c : Sl → Rs Bool) (body : Sl → Fl) : Nat → Sl → Fl
  | 0, _ => .bad
  | n + 1, st => match c st with
    | .ex e => .ex e
    | .bad => .bad
    | .ok false => .nx st
    | .ok true => match body st with
      | .nx st2 => whileN c body n st2
      | .ct st2 => whileN c body n st2
      | .bk st2 => .nx st2
      | .rt o => .rt o
      | .ex e => .ex e
      | .bad => .bad
open Classical in
noncomputable def whileF (c : Sl → Rs Bool) (body : Sl → Fl) (st : Sl) : Fl := if h : ∃ n, whileN c body n st ≠ .bad then whileN c body h.choose st else .bad
theorem whileN_succ {c : Sl → Rs Bool} {body : Sl → Fl} : ∀ (n : Nat) (st : Sl), whileN c body n st ≠ .bad → whileN c body (n + 1) st = whileN c body n st
  | 0, st, h => absurd rfl h
  | n + 1, st, h => by
    unfold whileN at h ⊢
    cases e : c st with
    | ex _ => rfl
    | bad => rfl
    | ok b =>
      rw [e] at h
      cases b with
      | false => rfl
      | true =>
        dsimp only at h ⊢
        cases e2 : body st with
        | nx st2 =>
          rw [e2] at h
          exact whileN_succ n st2 h
        | ct st2 =>
          rw [e2] at h
          exact whileN_succ n st2 h
        | bk _ => rfl
        | rt _ => rfl
        | ex _ => rfl
        | bad => rfl
theorem whileN_le {c : Sl → Rs Bool} {body : Sl → Fl} {n : Nat} {st : Sl} (h : whileN c body n st ≠ .bad) : ∀ m, whileN c body (n + m) st = whileN c body n st
  | 0 => rfl
  | m + 1 => by
    have ih := whileN_le h m
    have := whileN_succ (n + m) st (by rw [ih]; exact h)
    exact this.trans ih
theorem whileN_eq {c : Sl → Rs Bool} {body : Sl → Fl} {n m : Nat} {st : Sl} (h : whileN c body n st ≠ .bad) (h2 : whileN c body m st ≠ .bad) : whileN c body n st = whileN c body m st := by
  rcases Nat.le_total n m with k | k
  · obtain ⟨d, rfl⟩ := Nat.exists_eq_add_of_le k
    exact (whileN_le h d).symm
  · obtain ⟨d, rfl⟩ := Nat.exists_eq_add_of_le k
    exact whileN_le h2 d
theorem whileF_of {c : Sl → Rs Bool} {body : Sl → Fl} {n : Nat} {st : Sl} (h : whileN c body n st ≠ .bad) : whileF c body st = whileN c body n st := by
  unfold whileF
  have ex : ∃ n, whileN c body n st ≠ .bad := ⟨n, h⟩
  rw [dif_pos ex]
  exact whileN_eq ex.choose_spec h
theorem whileF_bad {c : Sl → Rs Bool} {body : Sl → Fl} {st : Sl} (h : ∀ n, whileN c body n st = .bad) : whileF c body st = .bad := by
  unfold whileF
  rw [dif_neg fun ⟨n, k⟩ => k (h n)]
/-- one turn -/
theorem whileF_eq (c : Sl → Rs Bool) (body : Sl → Fl) (st : Sl) : whileF c body st = (match c st with
    | .ex e => .ex e
    | .bad => .bad
    | .ok false => .nx st
    | .ok true => match body st with
      | .nx st2 => whileF c body st2
      | .ct st2 => whileF c body st2
      | .bk st2 => .nx st2
      | .rt o => .rt o
      | .ex e => .ex e
      | .bad => .bad) := by
  by_cases h : ∃ n, whileN c body n st ≠ .bad
  · obtain ⟨n, h⟩ := h
    rw [whileF_of h]
    cases n with
    | zero => exact absurd rfl h
    | succ n =>
      unfold whileN at h ⊢
      cases e : c st with
      | ex _ => rfl
      | bad => rfl
      | ok b =>
        rw [e] at h
        cases b with
        | false => rfl
        | true =>
          dsimp only at h ⊢
          cases e2 : body st with
          | nx st2 => rw [e2] at h; exact (whileF_of h).symm
          | ct st2 => rw [e2] at h; exact (whileF_of h).symm
          | bk _ => rfl
          | rt _ => rfl
          | ex _ => rfl
          | bad => rfl
  · have h : ∀ n, whileN c body n st = .bad := fun n => Classical.byContradiction fun k => h ⟨n, k⟩
    rw [whileF_bad h]
    have h1 : ∀ n, whileN c body (n + 1) st = .bad := fun n => h (n + 1)
    unfold whileN at h1
    cases e : c st with
    | ex _ => rw [e] at h1; exact (h1 0).symm
    | bad => rfl
    | ok b =>
      rw [e] at h1
      cases b with
      | false => exact (h1 0).symm
      | true =>
        dsimp only at h1 ⊢
        cases e2 : body st with
        | nx st2 => rw [e2] at h1; exact (whileF_bad h1).symm
        | ct st2 => rw [e2] at h1; exact (whileF_bad h1).symm
        | bk _ => rw [e2] at h1; exact (h1 0).symm
        | rt _ => rw [e2] at h1; exact (h1 0).symm
        | ex _ => rw [e2] at h1; exact (h1 0).symm
        | bad => rfl
theorem s_while {c : Expr} {bs : List Stmt} {s : Stmt} {fc : Sl → Rs Bool} {body : Sl → Fl} (hp : ∀ tc tb, PTf X c tc → PSsf X bs tb → PSf X s (tWhile tc tb)) (hc : ET K W cl (PTf X c) fc) (hb : SJ K W cl (PSsf X bs) body) :
    SJ K W cl (PSf X s) (whileF fc body) := by
  obtain ⟨tc, pc, kc⟩ := hc.ex
  obtain ⟨tb, pb, kb⟩ := hb.ex
  refine ⟨_, hp _ _ pc pb, fun S T st σ H E r q => ?_⟩
  by_cases h : ∃ n, whileN fc body n st ≠ .bad
  · obtain ⟨n, h⟩ := h
    rw [whileF_of h] at q
    refine ⟨fun m σ2 H2 => ∃ S2 T2 st2, Ex3 S T S2 T2 ∧ RS K S2 T2 st2 σ2 H2 ∧ PSt K cl W S2 T2 (whileN fc body m st2) E, ⟨n, S, T, st, .refl, r, q⟩, ?_⟩
    rintro m σ2 H2 ⟨S2, T2, st2, x2, r2, q2⟩
    cases m with
    | zero => exact q2.elim
    | succ m =>
      refine kc S2 T2 st2 σ2 H2 _ r2 ?_
      unfold whileN at q2
      revert q2
      cases fc st2 with
      | bad => exact fun q => q
      | ex c => exact fun q H1 h1 => q σ2 T2 H1 (.refl _) (r2.th.trans h1)
      | ok b =>
        cases b with
        | false => exact fun q H1 h1 => iteF (q S2 T2 σ2 H1 .refl (r2.mono h1))
        | true =>
          intro q H1 h1
          refine iteT ⟨fun σ3 H3 => ∃ S2 T2 st2, Ex3 S T S2 T2 ∧ RS K S2 T2 st2 σ3 H3 ∧ PSt K cl W S2 T2 (whileN fc body m st2) E, fun σ3 H3 p3 => ⟨m, Nat.lt_succ_self _, p3⟩, kb S2 T2 st2 σ2 H1 _ (r2.mono h1) ?_⟩
          revert q
          show PSt K cl W S2 T2 (match body st2 with
            | .nx st2 => whileN fc body m st2
            | .ct st2 => whileN fc body m st2
            | .bk st2 => .nx st2
            | .rt o => .rt o
            | .ex e => .ex e
            | .bad => .bad) E → _
          cases body st2 with
          | nx st4 => exact fun q3 S5 T5 σ5 H5 x5 r5 => ⟨S5, T5, st4, x2.trans x5, r5, PSt.mono (r := whileN fc body m st4) x5 q3⟩
          | ct st4 => exact fun q3 S5 T5 σ5 H5 x5 r5 => ⟨S5, T5, st4, x2.trans x5, r5, PSt.mono (r := whileN fc body m st4) x5 q3⟩
          | bk st4 => exact fun q3 S5 T5 σ5 H5 x5 r5 => q3 S5 T5 σ5 H5 x5 r5
          | rt o => exact fun q3 => q3
          | ex c => exact fun q3 => q3
          | bad => exact fun q3 => q3
  · have h : ∀ n, whileN fc body n st = .bad := fun n => Classical.byContradiction fun k => h ⟨n, k⟩
    rw [whileF_bad h] at q
    exact q.elim
/-! ### one's own lists changed -/
def appR (i : Nat) (r : Rs O) (st : Sl) : Fl := match st[i]? with
  | some (some (.lst os)) => match r with
    | .ok o => if os.length < sizeLine then .nx (st.set i (some (.lst (os ++ [o])))) else .bad
    | .ex c => .ex c
    | .bad => .bad
  | _ => .bad
theorem s_app {i : Nat} {e : Expr} {s : Stmt} {f : Sl → Rs O} (hp : ∀ t, PAf X [e] t → PSf X s (tDrop (tBM K "list" rAppend (tVar i) t))) (h : EF K W cl (PEf X e) f) (hs : ∀ z, starEach [e] (X z).env = [(false, eval e (X z).env)] := by intro _; rfl) :
    SJ K W cl (PSf X s) fun st => appR i (f st) st := by
  obtain ⟨t, p, a⟩ := h.ex
  refine ⟨_, hp _ fun z => pa_cons (p z) pa_nil (hs z), fun S T st σ H E r q => ?_⟩
  have q : PSt K cl W S T (appR i (f st) st) E := q
  unfold appR at q
  cases e0 : st[i]? with
  | none => rw [e0] at q; exact q.elim
  | some z =>
    rw [e0] at q
    cases z with
    | none => exact q.elim
    | some o0 =>
      cases o0 with
      | sh _ => exact q.elim
      | tup _ => exact q.elim
      | lst os =>
        dsimp only at q
        obtain ⟨v, g, h1, h2, _⟩ := r.focus e0
        cases h2 with
        | @lst p0 vs _ f0 hl0 ow0 =>
          refine ⟨.ref p0, h1, .inl ⟨rfl, vs, SqL.of hl0⟩, a S T st σ H _ r ?_⟩
          revert q
          cases f st with
          | bad => exact fun q => q
          | ex c => exact fun q H1 h1 => q σ T H1 (.refl _) (r.th.trans h1)
          | ok o =>
            intro q v1 S1 T1 H1 g1 hs1 x1 s1 t1 w1 n1 k1
            have q : PSt K cl W S T (if os.length < sizeLine then .nx (st.set i (some (.lst (os ++ [o])))) else .bad) E := q
            by_cases c : os.length < sizeLine
            · rw [if_pos c] at q
              have r1 := r.ext hs1 x1 s1 t1
              obtain ⟨v2, g2, e2, w2, n2, k2, inn, put⟩ := r1.focus e0
              rw [h1] at e2
              cases e2
              cases w2 with
              | @lst _ vs2 _ f2 hl2 ow2 =>
                have fr := r.fresh (S1 := S1) hs1 k1
                obtain ⟨fA, wA, _, _⟩ := r1.own
                have pg : ∀ b ∈ g1, b ∉ p0 :: f2 := fun b hb hm => (fr b hb).2 fA wA (inn fA wA b hm)
                have pf : p0 ∉ f2 := (List.nodup_cons.mp n2).1
                have pg1 : p0 ∉ g1 := fun z => pg p0 z (by simp)
                refine ⟨p0, vs2, v1, rfl, rfl, hl2, by rw [ow2.length]; exact c, ?_⟩
                refine q S1 T1 σ _ (x1.ex3 r.th) (put (upd H1 p0 (.lst (vs2 ++ [v1]))) (.lst (os ++ [o])) (p0 :: (f2 ++ g1)) (fun b hb => upd_ne fun e => hb (by rw [e]; simp)) ?_ ?_ fun b hb => ?_)
                · have w3 : OwL K S1 (upd H1 p0 (.lst (vs2 ++ [v1]))) vs2 os f2 := ow2.mono (.refl _) fun b hb => upd_ne fun e => pf (e ▸ hb)
                  have w4 : Ow K S1 (upd H1 p0 (.lst (vs2 ++ [v1]))) v1 o g1 := w1.mono (.refl _) fun b hb => upd_ne fun e => pg1 (e ▸ hb)
                  have := w3.append (.cons w4 .nil)
                  rw [List.append_nil] at this
                  exact .lst upd_same this
                · rw [List.nodup_cons, List.mem_append, List.nodup_append]
                  exact ⟨fun z => z.elim pf pg1, (List.nodup_cons.mp n2).2, n1, fun a ha b hb e => pg b hb (by rw [← e]; simp [ha])⟩
                · rcases List.mem_cons.mp hb with rfl | hb
                  · exact .inl (by simp)
                  · rcases List.mem_append.mp hb with hb | hb
                    · exact .inl (by simp [hb])
                    · exact .inr (fr b hb)
            · rw [if_neg c] at q
              exact q.elim
/-- x[k] = e -/
def putR (i : Nat) (r : Rs O) (k : Rs D) (st : Sl) : Fl := match r with
  | .ok o => match st[i]? with
    | some (some (.lst os)) => match k with
      | .ok (.int j) => match ixN os.length j with
        | some m => .nx (st.set i (some (.lst (os.set m o))))
        | none => .bad
      | _ => .bad
    | _ => .bad
  | .ex c => .ex c
  | .bad => .bad
theorem s_put {R : TE → Prop} {i : Nat} {e2 : Expr} {s : Stmt} {f : Sl → Rs O} {k : Sl → Rs D} (hp : ∀ t u, R t → PEf X e2 u → PSf X s (tAsg t (gSub (tVar i) u rSetL))) (h : EF K W cl R f) (hk : EV K W0 cl (PEf X e2) k) :
    SJ K W cl (PSf X s) fun st => putR i (f st) (k st) st := by
  obtain ⟨t, p, a⟩ := h.ex
  obtain ⟨u, pu, b⟩ := hk.ex
  refine ⟨_, hp _ _ p pu, fun S T st σ H E r q => a S T st σ H _ r ?_⟩
  have q : PSt K cl W S T (putR i (f st) (k st) st) E := q
  revert q
  unfold putR
  cases f st with
  | bad => exact fun q => q
  | ex c => exact fun q H1 h1 => q σ T H1 (.refl _) (r.th.trans h1)
  | ok o =>
    intro q v1 S1 T1 H1 g1 hs1 x1 s1 t1 w1 n1 k1
    dsimp only at q
    cases e0 : st[i]? with
    | none => rw [e0] at q; exact q.elim
    | some z =>
      rw [e0] at q
      cases z with
      | none => exact q.elim
      | some o0 =>
        cases o0 with
        | sh _ => exact q.elim
        | tup _ => exact q.elim
        | lst os =>
          dsimp only at q
          have r1 := r.ext hs1 x1 s1 t1
          obtain ⟨vv, gg, h1, _⟩ := r1.focus e0
          refine ⟨vv, h1, b S1 T1 st σ H1 _ r1 ?_⟩
          revert q
          cases k st with
          | bad => exact fun q => q.elim
          | ex c => exact fun q => q.elim
          | ok d =>
            cases d with
            | int j =>
              intro q w H2 hs2 rw2
              cases rw2
              dsimp only at q
              cases e3 : ixN os.length j with
              | none => rw [e3] at q; exact q.elim
              | some m =>
                rw [e3] at q
                have r2 := r1.mono hs2
                obtain ⟨v2, g2, e2, w2, n2, k2, inn, put⟩ := r2.focus e0
                rw [h1] at e2
                cases e2
                cases w2 with
                | @lst p0 vs2 _ f2 hl2 ow2 =>
                  have fr := r.fresh (S1 := S1) (hs1.trans hs2) k1
                  obtain ⟨fA, wA, _, _⟩ := r2.own
                  have pg : ∀ b ∈ g1, b ∉ p0 :: f2 := fun b hb hm => (fr b hb).2 fA wA (inn fA wA b hm)
                  have pf : p0 ∉ f2 := (List.nodup_cons.mp n2).1
                  have pg1 : p0 ∉ g1 := fun z => pg p0 z (by simp)
                  have hm : m < os.length := (ixN_seq e3).2.1
                  obtain ⟨ov, fa, fb, fc, c1, c2, c3, c4⟩ := ow2.get (i := m) (o := os[m]) (by simp [hm])
                  subst c2
                  refine ⟨p0, vs2, j, m, rfl, rfl, hl2, by rw [ow2.length]; exact e3, ?_⟩
                  have nf := (List.nodup_cons.mp n2).2
                  refine q S1 T1 σ _ (x1.ex3 r.th) (put (upd H2 p0 (.lst (vs2.set m v1))) (.lst (os.set m o)) (p0 :: (fa ++ g1 ++ fc)) (fun b hb => upd_ne fun e => hb (by rw [e]; simp)) ?_ ?_ fun b hb => ?_)
                  · have th1 := w1.there
                    have w4 : Ow K S1 (upd H2 p0 (.lst (vs2.set m v1))) v1 o g1 := w1.mono (.refl _) fun b hb => Eq.trans (upd_ne fun (e : b = p0) => pg1 (e ▸ hb)) (same_ne hs2 (th1 b hb))
                    have w5 := c4 S1 (upd H2 p0 (.lst (vs2.set m v1))) v1 o g1 (.refl _) (fun b hb => upd_ne fun e => pf (by rw [← e]; simp only [List.mem_append] at hb ⊢; rcases hb with z | z; exact .inl (.inl z); exact .inr z)) w4
                    exact .lst upd_same w5
                  · simp only [List.nodup_append, List.mem_append] at nf
                    obtain ⟨⟨m1, m2, m3⟩, m4, m5⟩ := nf
                    have da : ∀ b ∈ g1, b ∉ fa ∧ b ∉ fc := fun b hb => by
                      have := pg b hb
                      simp only [List.mem_cons, List.mem_append, not_or] at this
                      exact ⟨this.2.1.1, this.2.2⟩
                    rw [List.nodup_cons]
                    simp only [List.mem_append] at pf
                    refine ⟨fun z => ?_, ?_⟩
                    · simp only [List.mem_append] at z
                      rcases z with (z | z) | z
                      · exact pf (.inl (.inl z))
                      · exact pg1 z
                      · exact pf (.inr z)
                    · simp only [List.nodup_append, List.mem_append]
                      refine ⟨⟨m1, n1, fun a ha b hb e => (da b hb).1 (e ▸ ha)⟩, m4, fun a ha b hb e => ?_⟩
                      rcases ha with ha | ha
                      · exact m5 a (.inl ha) b hb e
                      · exact (da a ha).2 (e ▸ hb)
                  · rcases List.mem_cons.mp hb with rfl | hb
                    · exact .inl (by simp)
                    · simp only [List.mem_append] at hb
                      rcases hb with (hb | hb) | hb
                      · exact .inl (by simp [hb])
                      · exact .inr (fr b hb)
                      · exact .inl (by simp [hb])
            | _ => exact fun q => q.elim
/-! ### one's own tree is left as it is from here on -/
def frzS (i : Nat) (f : Sl → Fl) (st : Sl) : Fl := match st[i]? with
  | some (some o) => f (st.set i (some (.sh o.er)))
  | _ => .bad
theorem s_frz {R : TS → Prop} {f : Sl → Fl} (i : Nat) (h : SJ K W cl R f) : SJ K W cl R (frzS i f) := by
  obtain ⟨t, p, a⟩ := h.ex
  refine ⟨t, p, fun S T st σ H E r q => ?_⟩
  unfold frzS at q
  cases e0 : st[i]? with
  | none => rw [e0] at q; exact q.elim
  | some z =>
    rw [e0] at q
    cases z with
    | none => exact q.elim
    | some o =>
      obtain ⟨f, w, nd, k⟩ := r.own
      obtain ⟨v, f1, g, f2, h1, h2, h3, h4, _⟩ := w.get e0
      subst h2
      have kg : ∀ b ∈ g, T b = none := fun b hb => k b (by simp [hb])
      have ks : ∀ b ∈ g, S b = none := fun b hb => r.lo.free (kg b hb)
      have hσ : σ.set i (some v) = σ := by
        apply List.ext_getElem?
        intro j
        by_cases hj : i = j
        · subst hj
          have := (List.getElem?_eq_some_iff.mp h1).1
          rw [List.getElem?_set_self this, h1]
        · rw [List.getElem?_set_ne hj]
      have w3 := h4 (frz g S H) H v (.sh o.er) [] (frz_same ks) (fun _ _ => rfl) (.sh (h3.rp (frz_same ks) fun b hb => frz_in hb))
      rw [hσ] at w3
      have x : Ex3 S T (frz g S H) (frz g T H) := ⟨frz_same ks, frz_same kg, fun b hb => frz_out fun z => hb (kg b z)⟩
      simp only [List.nodup_append, List.mem_append] at nd
      obtain ⟨⟨n1, n2, n3⟩, n4, n5⟩ := nd
      refine a (frz g S H) (frz g T H) _ σ H E ⟨frz_mono r.lo, frz_low r.th, _, w3, ?_, fun b hb => ?_⟩ (PSt.mono x q)
      · simp only [List.nodup_append, List.mem_append]
        exact ⟨⟨n1, .nil, fun a ha b hb => by cases hb⟩, n4, fun a ha b hb e => ha.elim (fun z => n5 a (.inl z) b hb e) fun z => by cases z⟩
      · simp only [List.mem_append] at hb
        have hg : b ∉ g := fun z => by
          rcases hb with (hb | hb) | hb
          · exact n3 b hb b z rfl
          · cases hb
          · exact n5 b (.inr z) b hb rfl
        rw [frz_out hg]
        rcases hb with (hb | hb) | hb
        · exact k b (by simp [hb])
        · cases hb
        · exact k b (by simp [hb])
end
/-! ### a def -/
def fin : Fl → Rs O
  | .rt o => .ok o
  | .nx _ => .ok (.sh .non)
  | .ex c => .ex c
  | _ => .bad
def runD (N n : Nat) (fb : Sl → Fl) (ds : List D) : Rs O := if ds.length = n then fin (fb (ds.map (fun d => some (.sh d)) ++ List.replicate (N - n) none)) else .bad
theorem st_args {K : PySem.W.Frag} {S H : Hp} {σ : St} {st : Sl} (w : OwSt K S H σ st []) : ∀ {vs : List V} {ds : List D}, RpL K S vs ds → OwSt K S H (vs.map some ++ σ) (ds.map (fun d => some (.sh d)) ++ st) []
  | _, _, .nil => w
  | _, _, .cons h r => by
    have := OwSt.some (.sh h) (st_args w r)
    exact this
theorem st_none {K : PySem.W.Frag} {S H : Hp} : ∀ n : Nat, OwSt K S H (List.replicate n none) (List.replicate n none) []
  | 0 => .nil
  | n + 1 => .none (st_none n)
section
variable {P : Program} {w : World} {K : PySem.W.Frag} {mg : Str → Option Value} {base : Heap} {cl : Cl}
theorem def_ok {x qual : Str} {st : Stmt} {f : Addr} {fd : FuncData} {N ps : List Str} {k : Nat} {fb : Sl → Fl} (F : Fun K x qual st f fd) (Sc : FnScope N ps (defScope st))
    (body : ∀ (cdv : Value) (A : Around) (outer : List Env) (s : Shared) (H : Hp) (E : XK), Room k (A.deeper (PyProof.Rows.envOfC qual (defScope st) s.heap.objs.size f cdv)) →
      SJ K (fun c d _ H => E c d H) cl (PSsf (fun _ : Unit => cxOf (L2.CX P w) P w K mg base N qual (defScope st) f cdv A outer s H E) (defBody st)) fb) :
    FnOk P w K mg base (L2.CX P w) (k + 1) f fd ps (SpD K cl ps.length (runD N.length ps.length fb)) := by
  refine F.okX Sc SpD.len fun cdv A outer s H vs Q E hr ⟨S, ds, hl, hs, rl, m⟩ => ?_
  obtain ⟨t, p, a⟩ := (body cdv A outer s H E hr).ex
  have hv : vs.length = ps.length := rl.length.trans hl
  have w0 : OwSt K S H (L2.start N vs) (ds.map (fun d => some (.sh d)) ++ List.replicate (N.length - ps.length) none) [] := by
    unfold L2.start
    rw [hv]
    exact st_args (st_none _) rl
  refine ⟨t, p (), a S H _ _ H _ ⟨hs, .refl _, [], w0, .nil, fun b hb => by cases hb⟩ ?_⟩
  unfold runD at m
  rw [if_pos hl] at m
  revert m
  cases fb (ds.map (fun d => some (.sh d)) ++ List.replicate (N.length - ps.length) none) with
  | bad => exact fun m => m
  | bk _ => exact fun m => m.elim
  | ct _ => exact fun m => m.elim
  | ex c => exact fun m σ T' H' h1 h2 => m H' (h1.trans h2)
  | nx st' => exact fun m S' T' σ' H' x r' => m .non S' H' [] x.s (x.t.trans r'.th) x.old r'.sh (.sh .non) .nil fun b hb => by cases hb
  | rt o => exact fun m v S' T' H' g x h1 h2 w1 nd hg => m v S' H' g x.s (x.t.trans h2) x.old (h1.trans h2) w1 nd fun b hb => ⟨h1.free (hg b hb), x.t.free (hg b hb)⟩
end
end M

/-! What a printed text leans on; the end of a law. -/
namespace M
open PySem L2
section
variable {ι : Type} {X : ι → Cx} {W : WX} {cl : Cl} {K : PySem.W.Frag}
theorem t_none : ET K W cl (PTsf X []) fun _ => .ok true := ⟨_, fun _ => pts_nil, fun S T st σ H Q r q => q H (.refl _)⟩
theorem t_one {c : Expr} {f : Sl → Rs Bool} (h : ET K W cl (PTf X c) f) : ET K W cl (PTsf X [c]) f := by
  obtain ⟨t, p, k⟩ := h.ex
  exact ⟨t, fun z => pts_one (p z), k⟩
theorem s_never {s : Stmt} (hp : PSf X s tNever) : SJ K W cl (PSf X s) fun _ => .bad := ⟨_, hp, fun S T st σ H E r q => q⟩
end
/-- a def of the text, as its callers need it -/
structure CallOk (P : Program) (w : World) (K : PySem.W.Frag) (mg : Str → Option Value) (base : Heap) (cl : Cl) (x : Str) (k n : Nat) (m : List D → Rs O) (f : Addr) (fd : FuncData) (ps : List Str) : Prop where
  F : FnOk P w K mg base (L2.CX P w) k f fd ps (SpD K cl n m)
  g : mg x = some (.ref f)
  kp : PySem.W.keepIn K (.ref f) = true
  b : Binds K fd ps []
theorem law_end {l : PySem.W.OpenLaw} {k : Nat} {q : Program} {loose : List Str} {XP : (Str → Option Value) → Heap → Prop} {YP : World → Heap → Prop} {d : DefRec} {K : Params → PySem.W.Frag} {cl : Cl} {m : List D → Rs O} (hn : l.most = some 63) (h63 : 63 ≤ sizeLine) (hdf : d.params.defaults = [])
    (hr : Room k callerA) (hlaw : ∀ ns : List Int, ns.length ≤ 63 → m [.scr ns] = .ok (.sh (.bl true)))
    (hY : ∀ (w : World) (h : Heap), YP w h → (K w.params).In h)
    (F : ∀ (w : World) (mg : Str → Option Value) (fa : Addr) (h : Heap), (K w.params).In h → h.Ns mainGlobals mg → mg d.name = some (.ref fa) →
      ∃ fd : FuncData, (∀ (s : Shared) (u : Value), BindsTo s fd ⟨[u], []⟩ [("script", u)]) ∧ ∀ base : Heap, (K w.params).In base → base.Ns mainGlobals mg → FnOk l.prog w (K w.params) mg base (L2.CX l.prog w) k fa fd ["script"] (SpD (K w.params) cl 1 m)) :
    PySem.W.WalkO q loose XP YP l.row.toRowW d [] (fun f vs => PySem.call f vs) := by
  refine L2.walk_of (n := 63) (k := k) (x := "script") (CX := fun w => L2.CX l.prog w) (sp := fun w => SpD (K w.params) cl 1 m) hn h63 hdf hr hY F (fun w H a ns hl hO hS => ?_) fun w H s e s' z => ?_
  · refine ⟨H, [.scr ns], rfl, .refl _, .cons (.scr hS) .nil, ?_⟩
    rw [hlaw ns hl]
    intro v S' H' g _ _ _ _ ow _ _
    cases ow with
    | sh r => cases r; rfl
  · obtain ⟨_, _, _, _, _, _, _, _, _, _, _, _, z⟩ := z
    exact z.elim
end M

/-! How the words of a printed text are reckoned: rules for simp. -/
namespace M
open PySem L2
/-- said so that simp rewrites by it, and the kernel does not reckon both sides -/
theorem said {α : Sort u} {a b : α} (h : a = b) : a = b := h
section
variable {α β : Type}
@[simp] theorem bind_ok (a : α) (f : α → Rs β) : (Rs.ok a).bind f = f a := rfl
@[simp] theorem bind_ex (c : Str) (f : α → Rs β) : (Rs.ex c : Rs α).bind f = .ex c := rfl
@[simp] theorem bind_bad (f : α → Rs β) : (Rs.bad : Rs α).bind f = .bad := rfl
@[simp] theorem ofO_some (a : α) : ofO (some a) = .ok a := rfl
@[simp] theorem ofO_none : ofO (none : Option α) = .bad := rfl
@[simp] theorem mapRs_ok (g : α → β) (a : α) : mapRs g (.ok a) = .ok (g a) := rfl
@[simp] theorem mapRs_ex (g : α → β) (c : Str) : mapRs g (.ex c) = .ex c := rfl
@[simp] theorem mapRs_bad (g : α → β) : mapRs g .bad = .bad := rfl
@[simp] theorem noEx_ok (a : α) : noEx (.ok a) = .ok a := rfl
@[simp] theorem bin2_ok (g : D → D → Option D) (a b : D) : bin2 g (.ok a) (.ok b) = ofO (g a b) := rfl
@[simp] theorem un1_ok (g : D → Option D) (a : D) : un1 g (.ok a) = ofO (g a) := rfl
@[simp] theorem er_sh (d : D) : (O.sh d).er = d := by rw [O.er]
@[simp] theorem er_lst (os : List O) : (O.lst os).er = .lst (os.map O.er) := by rw [O.er, erL_map]
@[simp] theorem er_tup (os : List O) : (O.tup os).er = .tup (os.map O.er) := by rw [O.er, erL_map]
@[simp] theorem map_er_sh (ds : List D) : (ds.map O.sh).map O.er = ds := by
  induction ds with
  | nil => rfl
  | cons d ds ih => rw [List.map_cons, List.map_cons, ih, er_sh]
@[simp] theorem getV_0 (o : O) (st : Sl) : getV 0 (some o :: st) = .ok o.er := rfl
@[simp] theorem getV_s (i : Nat) (o : Option O) (st : Sl) : getV (i + 1) (o :: st) = getV i st := rfl
@[simp] theorem getP_0 (d : D) (st : Sl) : getP 0 (some (.sh d) :: st) = .ok d := rfl
@[simp] theorem getP_s (i : Nat) (o : Option O) (st : Sl) : getP (i + 1) (o :: st) = getP i st := rfl
@[simp] theorem add_int (i j : Int) : addD (.int i) (.int j) = some (.int (i + j)) := rfl
@[simp] theorem sub_int (i j : Int) : subD (.int i) (.int j) = some (.int (i - j)) := rfl
theorem mul_int (i j : Int) : mulD (.int i) (.int j) = if mulOk i j = true then some (.int (i * j)) else none := said rfl
theorem fdiv_int (i j : Int) : fdivD (.int i) (.int j) = if divOk i j = true then some (.int (i.fdiv j)) else none := said rfl
@[simp] theorem mod_int (i j : Int) : modD (.int i) (.int j) = if j ≠ 0 then some (.int (i.fmod j)) else none := said rfl
@[simp] theorem pow_int (i j : Int) : powD (.int i) (.int j) = if powOk i j = true then some (.int (i ^ j.toNat)) else none := said rfl
@[simp] theorem lt_int (i j : Int) : ltD (.int i) (.int j) = some (.bl (decide (i < j))) := rfl
@[simp] theorem le_int (i j : Int) : leD (.int i) (.int j) = some (.bl (decide (i ≤ j))) := rfl
@[simp] theorem gt_int (i j : Int) : gtD (.int i) (.int j) = some (.bl (decide (j < i))) := rfl
@[simp] theorem ge_int (i j : Int) : geD (.int i) (.int j) = some (.bl (decide (j ≤ i))) := rfl
@[simp] theorem neg_int (i : Int) : negD (.int i) = some (.int (-i)) := rfl
@[simp] theorem len_lst (ds : List D) : lenD (.lst ds) = some (.int ds.length) := rfl
@[simp] theorem len_tup (ds : List D) : lenD (.tup ds) = some (.int ds.length) := rfl
@[simp] theorem len_scr (ns : List Int) : lenD (.scr ns) = some (.int ns.length) := rfl
@[simp] theorem abs_int (i : Int) : absD (.int i) = some (.int (if i < 0 then -i else i)) := rfl
@[simp] theorem int_int (i : Int) : intD (.int i) = some (.int i) := rfl
@[simp] theorem int_bl (k : Bool) : intD (.bl k) = some (.int (if k then 1 else 0)) := rfl
@[simp] theorem max2_int (i j : Int) : max2D (.int i) (.int j) = some (.int (if j > i then j else i)) := rfl
@[simp] theorem min2_int (i j : Int) : min2D (.int i) (.int j) = some (.int (if j < i then j else i)) := rfl
@[simp] theorem ix_lst (ds : List D) (i : Int) : ixD (.lst ds) (.int i) = atI ds i := rfl
@[simp] theorem ix_tup' (ds : List D) (i : Int) : ixD (.tup ds) (.int i) = atI ds i := rfl
@[simp] theorem ix_scr (ns : List Int) (i : Int) : ixD (.scr ns) (.int i) = (atI ns i).map .int := rfl
@[simp] theorem elems_lst (ds : List D) : elems (.lst ds) = some ds := rfl
@[simp] theorem elems_scr (ns : List Int) : elems (.scr ns) = some (ns.map .int) := rfl
@[simp] theorem asB_ok (k : Bool) : asB (.ok (.bl k)) = .ok k := rfl
@[simp] theorem asB_bad : asB .bad = .bad := rfl
@[simp] theorem asI_ok (i : Int) : asI (.ok (.int i)) = .ok (some i) := rfl
@[simp] theorem asPrim_int (i : Int) : asPrim (.ok (.int i)) = .ok (.int i) := rfl
@[simp] theorem asPrim_bl (k : Bool) : asPrim (.ok (.bl k)) = .ok (.bl k) := rfl
@[simp] theorem asPrim_str (x : Str) : asPrim (.ok (.str x)) = .ok (.str x) := rfl
@[simp] theorem asPrim_non : asPrim (.ok .non) = .ok .non := rfl
@[simp] theorem asPrim_bad : asPrim .bad = .bad := rfl
@[simp] theorem ifS_ok (k : Bool) (a b : Fl) : ifS (.ok k) a b = if k = true then a else b := rfl
@[simp] theorem ifR_ok {α : Type} (k : Bool) (a b : Rs α) : ifR (.ok k) a b = if k = true then a else b := rfl
@[simp] theorem thn_nx (st : Sl) (f : Sl → Fl) : (Fl.nx st).thn f = f st := rfl
@[simp] theorem thn_rt (o : O) (f : Sl → Fl) : (Fl.rt o).thn f = .rt o := rfl
@[simp] theorem thn_bk (st : Sl) (f : Sl → Fl) : (Fl.bk st).thn f = .bk st := rfl
@[simp] theorem thn_ct (st : Sl) (f : Sl → Fl) : (Fl.ct st).thn f = .ct st := rfl
@[simp] theorem thn_ex (c : Str) (f : Sl → Fl) : (Fl.ex c).thn f = .ex c := rfl
@[simp] theorem thn_bad (f : Sl → Fl) : Fl.bad.thn f = .bad := rfl
theorem thn_ite (c : Prop) [Decidable c] (a b : Fl) (f : Sl → Fl) : (if c then a else b).thn f = if c then a.thn f else b.thn f := by split <;> rfl
@[simp] theorem retR_ok (o : O) : retR (.ok o) = .rt o := rfl
@[simp] theorem retR_bad : retR .bad = .bad := rfl
@[simp] theorem retN_0 (o : O) (st : Sl) : retN 0 (some o :: st) = .rt o := rfl
@[simp] theorem retN_s (i : Nat) (o : Option O) (st : Sl) : retN (i + 1) (o :: st) = retN i st := rfl
@[simp] theorem dropR_ok (d : D) (st : Sl) : dropR (.ok d) st = .nx st := rfl
@[simp] theorem setO_ok (i : Nat) (o : O) (st : Sl) : setO i (.ok o) st = if i < st.length then .nx (st.set i (some o)) else .bad := rfl
@[simp] theorem setO_bad (i : Nat) (st : Sl) : setO i .bad st = .bad := rfl
@[simp] theorem notT_ok (k : Bool) : notT (.ok k) = .ok (!k) := rfl
@[simp] theorem andT_ok (k : Bool) (b : Rs Bool) : andT (.ok k) b = if k = true then b else .ok false := rfl
@[simp] theorem orT_ok (k : Bool) (b : Rs Bool) : orT (.ok k) b = if k = true then .ok true else b := rfl
theorem andV_ok (k : Bool) (b : Rs D) : andV (.ok (.bl k)) b = if k = true then b else .ok (.bl false) := by cases k <;> rfl
@[simp] theorem andV_t (b : Rs D) : andV (.ok (.bl true)) b = b := rfl
@[simp] theorem andV_f (b : Rs D) : andV (.ok (.bl false)) b = .ok (.bl false) := rfl
@[simp] theorem andV_bb (k l : Bool) : andV (.ok (.bl k)) (.ok (.bl l)) = .ok (.bl (k && l)) := by cases k <;> rfl
@[simp] theorem orV_t (b : Rs D) : orV (.ok (.bl true)) b = .ok (.bl true) := rfl
@[simp] theorem orV_f (b : Rs D) : orV (.ok (.bl false)) b = b := rfl
@[simp] theorem orV_bb (k l : Bool) : orV (.ok (.bl k)) (.ok (.bl l)) = .ok (.bl (k || l)) := by cases k <;> rfl
@[simp] theorem notV_ok (k : Bool) : notV (.ok (.bl k)) = .ok (.bl (!k)) := rfl
@[simp] theorem consR_ok {α : Type} (a : α) (l : List α) : consR (.ok a) (.ok l) = .ok (a :: l) := rfl
@[simp] theorem callR_ok {α : Type} (n : Nat) (m : List D → Rs α) (ds : List D) : callR n m (.ok ds) = if ds.length = n then m ds else .bad := rfl
@[simp] theorem forR_ok (ds : List D) (tg : D → Sl → Option Sl) (body : Sl → Fl) (st : Sl) : forR (.ok ds) tg body st = forF tg body ds st := rfl
@[simp] theorem elemsR_ok (d : D) : elemsR (.ok d) = ofO (elems d) := rfl
@[simp] theorem asgR_ok (g : D → Sl → Option Sl) (d : D) (st : Sl) : asgR g (.ok d) st = match g d st with
  | some st' => .nx st'
  | none => .bad := rfl
@[simp] theorem setN_eq (i : Nat) (d : D) (st : Sl) : setN i d st = if i < st.length then some (st.set i (some (.sh d))) else none := rfl
@[simp] theorem setNil_eq (st : Sl) : setNil [] st = some st := rfl
@[simp] theorem setCons_eq (f : D → Sl → Option Sl) (g : List D → Sl → Option Sl) (d : D) (ds : List D) (st : Sl) : setCons f g (d :: ds) st = (f d st).bind (g ds) := rfl
@[simp] theorem setTup_eq (n : Nat) (g : List D → Sl → Option Sl) (ds : List D) (st : Sl) : setTup n g (.tup ds) st = if ds.length = n then g ds st else none := rfl
@[simp] theorem parR_ok (i j : Nat) (d e : D) (st : Sl) : parR i j (.ok [d, e]) st = if i < st.length ∧ j < st.length then .nx ((st.set i (some (.sh d))).set j (some (.sh e))) else .bad := rfl
theorem range1_ok (j : Int) : range1 (.ok (.int j)) = if rngOk j = true then .ok (rangeL 0 j.toNat) else .bad := said rfl
theorem range2_ok (i j : Int) : range2 (.ok (.int i)) (.ok (.int j)) = if (rngOk i && rngOk j) = true then .ok (rangeL i (j - i).toNat) else .bad := said rfl
@[simp] theorem zipR_ok (ds es : List D) : zipR (.ok (.lst ds)) (.ok (.lst es)) = .ok (zipD ds es) := rfl
@[simp] theorem enumR_ok (ds : List D) : enumR (.ok (.lst ds)) = .ok (enumD ds) := rfl
@[simp] theorem sliceF_ok (ds : List D) (lo hi : Option Int) : sliceF (.ok (.lst ds)) (.ok lo) (.ok hi) = .ok (.lst ((cutL ds lo hi).map .sh)) := rfl
@[simp] theorem sliceF_scr (ns : List Int) (lo hi : Option Int) : sliceF (.ok (.scr ns)) (.ok lo) (.ok hi) = .ok (.lst ((cutL (ns.map D.int) lo hi).map .sh)) := rfl
@[simp] theorem listF_ok (ds : List D) : listF (.ok (.lst ds)) = .ok (.lst (ds.map .sh)) := rfl
@[simp] theorem listF_tup (ds : List D) : listF (.ok (.tup ds)) = .ok (.lst (ds.map .sh)) := rfl
end
@[simp] theorem fin_rt (o : O) : fin (.rt o) = .ok o := rfl
@[simp] theorem fin_nx (st : Sl) : fin (.nx st) = .ok (.sh .non) := rfl
@[simp] theorem fin_ex (c : Str) : fin (.ex c) = .ex c := rfl
@[simp] theorem fin_bad : fin .bad = .bad := rfl
theorem fin_ite (c : Prop) [Decidable c] (a b : Fl) : fin (if c then a else b) = if c then fin a else fin b := by split <;> rfl
@[simp] theorem runD_0 (N : Nat) (fb : Sl → Fl) : runD N 0 fb [] = fin (fb (List.replicate N none)) := rfl
@[simp] theorem runD_1 (N : Nat) (fb : Sl → Fl) (a : D) : runD N 1 fb [a] = fin (fb (some (.sh a) :: List.replicate (N - 1) none)) := rfl
@[simp] theorem runD_2 (N : Nat) (fb : Sl → Fl) (a b : D) : runD N 2 fb [a, b] = fin (fb (some (.sh a) :: some (.sh b) :: List.replicate (N - 2) none)) := rfl
@[simp] theorem runD_3 (N : Nat) (fb : Sl → Fl) (a b c : D) : runD N 3 fb [a, b, c] = fin (fb (some (.sh a) :: some (.sh b) :: some (.sh c) :: List.replicate (N - 3) none)) := rfl
@[simp] theorem runD_4 (N : Nat) (fb : Sl → Fl) (a b c d : D) : runD N 4 fb [a, b, c, d] = fin (fb (some (.sh a) :: some (.sh b) :: some (.sh c) :: some (.sh d) :: List.replicate (N - 4) none)) := rfl
@[simp] theorem runD_5 (N : Nat) (fb : Sl → Fl) (a b c d e : D) : runD N 5 fb [a, b, c, d, e] = fin (fb (some (.sh a) :: some (.sh b) :: some (.sh c) :: some (.sh d) :: some (.sh e) :: List.replicate (N - 5) none)) := rfl
/-! equality of numbers, truths, texts -/
@[simp] theorem eqOk_int (i j : Int) : eqOk (.int i) (.int j) = true := rfl
@[simp] theorem eqB_int (i j : Int) : eqB (.int i) (.int j) = decide (i = j) := by
  show (i == j) = _
  exact Bool.beq_eq_decide_eq i j
@[simp] theorem eq_int (i j : Int) : eqD (.int i) (.int j) = some (.bl (decide (i = j))) := by
  unfold eqD
  rw [if_pos (eqOk_int i j), eqB_int]
@[simp] theorem ne_int (i j : Int) : neD (.int i) (.int j) = some (.bl (!decide (i = j))) := by
  unfold neD
  rw [if_pos (eqOk_int i j), eqB_int]
/-! isinstance -/
theorem kb_int_int : kitB "int" "int" = some true := by decide +kernel
theorem kb_int_bool : kitB "int" "bool" = some false := by decide +kernel
theorem kb_bool_bool : kitB "bool" "bool" = some true := by decide +kernel
theorem kb_bool_int : kitB "bool" "int" = some true := by decide +kernel
theorem kb_list_list : kitB "list" "list" = some true := by decide +kernel
theorem kb_tuple_tuple : kitB "tuple" "tuple" = some true := by decide +kernel
theorem kb_tuple_list : kitB "tuple" "list" = some false := by decide +kernel
theorem kb_list_tuple : kitB "list" "tuple" = some false := by decide +kernel
theorem kb_str_str : kitB "str" "str" = some true := by decide +kernel
theorem kb_list_int : kitB "list" "int" = some false := by decide +kernel
theorem kb_tuple_int : kitB "tuple" "int" = some false := by decide +kernel
theorem kb_str_int : kitB "str" "int" = some false := by decide +kernel
theorem kb_none_int : kitB "NoneType" "int" = some false := by decide +kernel
@[simp] theorem isi_int_int (i : Int) : isi "int" (.int i) = some (.bl true) := by unfold isi tyN; rw [kb_int_int]; rfl
@[simp] theorem isi_bool_int (i : Int) : isi "bool" (.int i) = some (.bl false) := by unfold isi tyN; rw [kb_int_bool]; rfl
@[simp] theorem isi_bool_bl (i : Bool) : isi "bool" (.bl i) = some (.bl true) := by unfold isi tyN; rw [kb_bool_bool]; rfl
@[simp] theorem isi_int_bl (i : Bool) : isi "int" (.bl i) = some (.bl true) := by unfold isi tyN; rw [kb_bool_int]; rfl
@[simp] theorem isi_list_lst (ds : List D) : isi "list" (.lst ds) = some (.bl true) := by unfold isi tyN; rw [kb_list_list]; rfl
@[simp] theorem isi_tup_tup (ds : List D) : isi "tuple" (.tup ds) = some (.bl true) := by unfold isi tyN; rw [kb_tuple_tuple]; rfl
@[simp] theorem isi_list_tup (ds : List D) : isi "list" (.tup ds) = some (.bl false) := by unfold isi tyN; rw [kb_tuple_list]; rfl
@[simp] theorem isi_tup_lst (ds : List D) : isi "tuple" (.lst ds) = some (.bl false) := by unfold isi tyN; rw [kb_list_tuple]; rfl
@[simp] theorem isi_str_str (x : Str) : isi "str" (.str x) = some (.bl true) := by unfold isi tyN; rw [kb_str_str]; rfl
/-! loops -/
@[simp] theorem er_comp_sh : O.er ∘ O.sh = id := funext fun d => er_sh d
@[simp] theorem er_sh_comp {α : Type} (f : α → D) : O.er ∘ O.sh ∘ f = f := funext fun d => er_sh (f d)
theorem rangeL_length (lo : Int) (n : Nat) : (rangeL lo n).length = n := by unfold rangeL; rw [List.length_map, List.length_range]
theorem rangeL_get {lo : Int} {n i : Nat} {d : D} (h : (rangeL lo n)[i]? = some d) : i < n ∧ d = .int (lo + (i : Nat)) := by
  have hi : i < n := by
    have := (List.getElem?_eq_some_iff.mp h).1
    rw [rangeL_length] at this; exact this
  refine ⟨hi, ?_⟩
  unfold rangeL at h
  rw [List.getElem?_map, List.getElem?_range hi] at h
  cases h
  rfl
/-- a loop that goes through: by an invariant over the turn and the slots -/
theorem forF_nx {tg : D → Sl → Option Sl} {body : Sl → Fl} (I : Nat → Sl → Prop) : ∀ (ds : List D) (k : Nat) (st : Sl), I k st →
    (∀ i d st, ds[i]? = some d → I (k + i) st → ∃ st1 st2, tg d st = some st1 ∧ (body st1 = .nx st2 ∨ body st1 = .ct st2) ∧ I (k + i + 1) st2) → ∃ st', forF tg body ds st = .nx st' ∧ I (k + ds.length) st'
  | [], k, st, h0, _ => ⟨st, rfl, h0⟩
  | d :: ds, k, st, h0, step => by
    obtain ⟨st1, st2, e1, e2, h2⟩ := step 0 d st rfl h0
    obtain ⟨st', e3, h3⟩ := forF_nx I ds (k + 1) st2 h2 fun i d' st' hd hi => by
      have := step (i + 1) d' st' (by simpa using hd) (by rw [← Nat.add_assoc, Nat.add_right_comm]; exact hi)
      have e : k + 1 + i + 1 = k + (i + 1) + 1 := by omega
      rw [e]; exact this
    refine ⟨st', ?_, by rw [List.length_cons]; have e : k + (ds.length + 1) = k + 1 + ds.length := by omega
                        rw [e]; exact h3⟩
    unfold forF
    rw [e1]
    rcases e2 with e2 | e2 <;> (dsimp only; rw [e2]; exact e3)
theorem sIx_pos {n d : Nat} {j : Int} (h : 0 ≤ j) : HT.sIx n d (some j) = min j.toNat n := by
  show (if j < 0 then (j + (n : Int)).toNat else min j.toNat n) = _
  rw [if_neg (by omega)]
theorem cutL_to {α : Type} (xs : List α) {j : Int} (h : 0 ≤ j) : cutL xs none (some j) = xs.take j.toNat := by
  unfold cutL
  rw [sIx_pos h]
  show List.take (min j.toNat xs.length - 0) (xs.drop 0) = _
  rw [List.drop_zero, Nat.sub_zero]
  rcases Nat.le_total j.toNat xs.length with c | c
  · rw [Nat.min_eq_left c]
  · rw [Nat.min_eq_right c, List.take_length, List.take_of_length_le c]
theorem cutL_from {α : Type} (xs : List α) {i : Int} (h : 0 ≤ i) : cutL xs (some i) none = xs.drop i.toNat := by
  unfold cutL
  rw [sIx_pos h]
  show List.take (xs.length - _) _ = _
  rcases Nat.le_total i.toNat xs.length with c | c
  · rw [Nat.min_eq_left c, List.take_of_length_le]
    rw [List.length_drop]; exact Nat.le_refl _
  · rw [Nat.min_eq_right c, List.drop_of_length_le c, List.drop_length]
    exact List.take_nil
theorem cutL_mid {α : Type} (xs : List α) {i j : Int} (h : 0 ≤ i) (h2 : 0 ≤ j) : cutL xs (some i) (some j) = (xs.drop i.toNat).take (j.toNat - i.toNat) := by
  unfold cutL
  rw [sIx_pos h, sIx_pos h2]
  rcases Nat.le_total i.toNat xs.length with c | c
  · rw [Nat.min_eq_left c]
    rcases Nat.le_total j.toNat xs.length with d | d
    · rw [Nat.min_eq_left d]
    · rw [Nat.min_eq_right d, List.take_of_length_le (by rw [List.length_drop]; exact Nat.le_refl _), List.take_of_length_le (by rw [List.length_drop]; omega)]
  · rw [Nat.min_eq_right c, List.drop_of_length_le c, List.drop_length, List.take_nil, List.take_nil]
/-! sizes -/
theorem divOk_small {i j : Int} (h : 0 < j) (h2 : j < 1073741824) : divOk i j = true := by
  unfold divOk
  rw [PyProof.noPylong_small (x := i) (y := j) (by omega), decide_eq_true (by omega : j ≠ 0)]
  rfl
theorem divOk_log {i j : Int} (h : j ≠ 0) (h2 : j.natAbs.log2 < 9000) : divOk i j = true := by
  unfold divOk
  rw [PyProof.noPylong_of_log2 (x := i) (y := j) h2, decide_eq_true h]
  rfl
theorem bits_le {i : Int} {a : Nat} (h : i.natAbs < 2 ^ a) : Builtin.Int.intBits i ≤ a := by
  unfold Builtin.Int.intBits
  split
  · exact Nat.zero_le _
  · rename_i hn
    have h0 : i.natAbs ≠ 0 := fun e => by
      apply hn
      rw [beq_iff_eq]
      omega
    have := (Nat.log2_lt h0).mpr h
    omega
theorem mulOk_of {i j : Int} {a b : Nat} (ha : i.natAbs < 2 ^ a) (hb : j.natAbs < 2 ^ b) (h : a + b ≤ 134217728) : mulOk i j = true := by
  have h1 := bits_le ha
  have h2 := bits_le hb
  have e : bitsLine = 134217728 := by decide
  have h4 : Builtin.Int.intTooBig (Builtin.Int.intBits i + Builtin.Int.intBits j) = false := by
    unfold Builtin.Int.intTooBig
    rw [e]
    exact decide_eq_false (by omega)
  unfold mulOk
  rw [h4, Bool.and_false]
  rfl
theorem mulOk_left {i j : Int} (h : i.natAbs < 2 ^ 64) : mulOk i j = true := by
  have h1 := bits_le h
  unfold mulOk
  have e : shortFactorBits = 64 := rfl
  rw [e]
  have h3 : ¬ (Builtin.Int.intBits i > 64) := by omega
  simp [h3]
theorem mulOk_right {i j : Int} (h : j.natAbs < 2 ^ 64) : mulOk i j = true := by
  have h1 := bits_le h
  unfold mulOk
  have e : shortFactorBits = 64 := rfl
  rw [e]
  have h3 : ¬ (Builtin.Int.intBits j > 64) := by omega
  simp [h3]
theorem rngOk_of {j : Int} (h1 : -(2 ^ 62) ≤ j) (h2 : j < 2 ^ 62) : rngOk j = true := by
  unfold rngOk
  rw [decide_eq_true h1, decide_eq_true h2]
  rfl
theorem fdiv_pos {i j : Int} (h : 0 < j) : i.fdiv j = i / j := Int.fdiv_eq_ediv_of_nonneg i (by omega)
theorem fmod_pos {i j : Int} (h : 0 < j) : i.fmod j = i % j := Int.fmod_eq_emod_of_nonneg i (by omega)
theorem atI_ofNat {α : Type} {xs : List α} {j : Nat} (h : j < xs.length) : atI xs (j : Int) = some xs[j] := atI_nat (by simp [h])
end M

/-! Lists within lists of one's own. -/
namespace M
open PySem L2
section
variable {ι : Type} {X : ι → Cx} {W : WX} {cl : Cl} {K : PySem.W.Frag}
/-- x[a][j] = e -/
def put2R (i : Nat) (r : Rs O) (a k : Rs D) (st : Sl) : Fl := match r with
  | .ok o => match st[i]? with
    | some (some (.lst os)) => match a with
      | .ok (.int p) => match atI os p with
        | some (.lst ps) => match k with
          | .ok (.int j) => match ixN os.length p, ixN ps.length j with
            | some m, some n => .nx (st.set i (some (.lst (os.set m (.lst (ps.set n o))))))
            | _, _ => .bad
          | _ => .bad
        | _ => .bad
      | _ => .bad
    | _ => .bad
  | .ex c => .ex c
  | .bad => .bad
/-- the inner list's change, by its knot -/
theorem RS.put2 {S T : Hp} {st : Sl} {σ : St} {H : Hp} {i m n : Nat} {os ps : List O} {o : O} {v1 : V} {g1 : List Addr} (r : RS K S T st σ H) (e : st[i]? = some (some (.lst os))) (e2 : os[m]? = some (.lst ps)) (hn : n < ps.length)
    (w1 : Ow K S H v1 o g1) (n1 : g1.Nodup) (fr : ∀ b ∈ g1, T b = none ∧ ∀ f, OwSt K S H σ st f → b ∉ f) :
    ∃ p0 p1 vs us, σ[i]? = some (some (.ref p0)) ∧ H p0 = some (.lst vs) ∧ vs.length = os.length ∧ vs[m]? = some (.ref p1) ∧ H p1 = some (.lst us) ∧ us.length = ps.length ∧ RpL K H us (ps.map O.er) ∧
      RS K S T (st.set i (some (.lst (os.set m (.lst (ps.set n o)))))) σ (upd H p1 (.lst (us.set n v1))) := by
  obtain ⟨v2, g2, h1, w2, n2, k2, inn, put⟩ := r.focus e
  cases w2 with
  | @lst p0 vs _ f2 hl2 ow2 =>
    obtain ⟨ov, fa, fb, fc, c1, c2, c3, c4⟩ := ow2.get e2
    subst c2
    cases c3 with
    | @lst p1 us _ f3 hl3 ow3 =>
      obtain ⟨ov4, ga, gb, gc, d1, d2, d3, d4⟩ := ow3.get (i := n) (o := ps[n]) (by simp [hn])
      subst d2
      obtain ⟨fA, wA, _, _⟩ := r.own
      have inA := inn fA wA
      have new : ∀ b ∈ g1, b ∉ p0 :: (fa ++ (p1 :: (ga ++ gb ++ gc)) ++ fc) := fun b hb hm => (fr b hb).2 fA wA (inA b hm)
      have nd := n2
      simp only [List.nodup_cons, List.nodup_append, List.mem_append, List.mem_cons, not_or] at nd
      have np1 : p1 ∉ g1 := fun z => new p1 z (by simp)
      have rp : RpL K H us (ps.map O.er) := by
        rw [← erL_map]
        exact ow3.rp r.sh fun _ _ => rfl
      refine ⟨p0, p1, vs, us, h1, hl2, ow2.length, c1, hl3, ow3.length, rp, ?_⟩
      obtain ⟨⟨⟨q1, q2, q3, q3'⟩, q4⟩, ⟨q5, ⟨q6, ⟨q7, q8, q9⟩, q10, q11⟩, q12⟩, q13, q14⟩ := nd
      have u : ∀ b, b ≠ p1 → (upd H p1 (.lst (us.set n v1))) b = H b := fun b hb => upd_ne hb
      have w4 : Ow K S (upd H p1 (.lst (us.set n v1))) v1 o g1 := w1.mono (.refl _) fun b hb => u b fun z => np1 (z ▸ hb)
      have w5 := d4 S (upd H p1 (.lst (us.set n v1))) v1 o g1 (.refl _) (fun b hb => u b fun z => by
        subst z
        rcases List.mem_append.mp hb with z | z
        · exact q6.1.1 z
        · exact q6.2 z) w4
      have w6 : Ow K S (upd H p1 (.lst (us.set n v1))) (.ref p1) (.lst (ps.set n o)) (p1 :: (ga ++ g1 ++ gc)) := .lst upd_same w5
      have w7 := c4 S (upd H p1 (.lst (us.set n v1))) (.ref p1) (.lst (ps.set n o)) _ (.refl _) (fun b hb => u b fun z => by
        subst z
        rcases List.mem_append.mp hb with z | z
        · exact q12 b z b (.inl rfl) rfl
        · exact q14 b (.inr (.inl rfl)) b z rfl) w6
      have hvs : vs.set m (.ref p1) = vs := by
        apply List.ext_getElem?
        intro j
        by_cases hj : m = j
        · subst hj
          rw [List.getElem?_set_self ((List.getElem?_eq_some_iff.mp c1).1), c1]
        · rw [List.getElem?_set_ne hj]
      rw [hvs] at w7
      have p01 : p0 ≠ p1 := q2
      have g1n : ∀ b ∈ g1, b ≠ p0 ∧ b ∉ fa ∧ b ≠ p1 ∧ b ∉ ga ∧ b ∉ gc ∧ b ∉ fc := fun b hb => by
        have := new b hb
        simp only [List.mem_cons, List.mem_append, not_or] at this
        exact ⟨this.1, this.2.1.1, this.2.1.2.1, this.2.1.2.2.1.1, this.2.1.2.2.2, this.2.2⟩
      refine put (upd H p1 (.lst (us.set n v1))) (.lst (os.set m (.lst (ps.set n o)))) (p0 :: (fa ++ (p1 :: (ga ++ g1 ++ gc)) ++ fc)) (fun b hb => u b fun z => hb (by rw [z]; simp)) (.lst ((u p0 p01).trans hl2) w7) ?_ fun b hb => ?_
      · simp only [List.nodup_cons, List.nodup_append, List.mem_append, List.mem_cons, not_or]
        refine ⟨⟨⟨q1, q2, ⟨q3.1, fun z => (g1n p0 z).1 rfl⟩, q3'⟩, q4⟩, ⟨q5, ⟨⟨⟨q6.1.1, np1⟩, q6.2⟩, ⟨q7, n1, fun a ha b hb z => (g1n b hb).2.2.2.1 (z ▸ ha)⟩, q10, fun a ha b hb z => ?_⟩, fun a ha b hb z => ?_⟩, q13, fun a ha b hb z => ?_⟩
        · rcases ha with ha | ha
          · exact q11 a (.inl ha) b hb z
          · exact (g1n a ha).2.2.2.2.1 (z ▸ hb)
        · rcases hb with hb | (hb | hb) | hb
          · exact q12 a ha b (.inl hb) z
          · exact q12 a ha b (.inr (.inl (.inl hb))) z
          · exact (g1n b hb).2.1 (z ▸ ha)
          · exact q12 a ha b (.inr (.inr hb)) z
        · rcases ha with ha | ha | (ha | ha) | ha
          · exact q14 a (.inl ha) b hb z
          · exact q14 a (.inr (.inl ha)) b hb z
          · exact q14 a (.inr (.inr (.inl (.inl ha)))) b hb z
          · exact (g1n a ha).2.2.2.2.2 (z ▸ hb)
          · exact q14 a (.inr (.inr (.inr ha))) b hb z
      · simp only [List.mem_cons, List.mem_append] at hb
        rcases hb with hb | (hb | hb | (hb | hb) | hb) | hb
        · exact .inl (by simp [hb])
        · exact .inl (by simp [hb])
        · exact .inl (by simp [hb])
        · exact .inl (by simp [hb])
        · exact .inr (fr b hb)
        · exact .inl (by simp [hb])
        · exact .inl (by simp [hb])
theorem atI_ix {α : Type} {xs : List α} {i : Int} {x : α} (h : atI xs i = some x) : ∃ m, ixN xs.length i = some m ∧ xs[m]? = some x := by
  unfold atI at h
  cases e : ixN xs.length i with
  | none => rw [e] at h; cases h
  | some m => rw [e] at h; exact ⟨m, rfl, h⟩
theorem ix_atI {α : Type} {xs : List α} {i : Int} {x : α} {m : Nat} (h : ixN xs.length i = some m) (e : xs[m]? = some x) : atI xs i = some x := by
  unfold atI
  rw [h]
  exact e
/-- x[a][j] = e, x one's own with its lists -/
theorem s_put2 {R : TE → Prop} {i : Nat} {ea ek : Expr} {s : Stmt} {f : Sl → Rs O} {fa fk : Sl → Rs D} (hp : ∀ t u v, R t → PEf X ea u → PEf X ek v → PSf X s (tAsg t (gSub (tOp (rIx K) (tVar i) u) v rSetL))) (h : EF K W cl R f) (ha : EV K W0 cl (PEf X ea) fa) (hk : EV K W0 cl (PEf X ek) fk) :
    SJ K W cl (PSf X s) fun st => put2R i (f st) (fa st) (fk st) st := by
  obtain ⟨t, p, a⟩ := h.ex
  obtain ⟨u, pu, b⟩ := ha.ex
  obtain ⟨w, pw, c⟩ := hk.ex
  refine ⟨_, hp _ _ _ p pu pw, fun S T st σ H E r q => a S T st σ H _ r ?_⟩
  have q : PSt K cl W S T (put2R i (f st) (fa st) (fk st) st) E := q
  revert q
  unfold put2R
  cases f st with
  | bad => exact fun q => q
  | ex c => exact fun q H1 h1 => q σ T H1 (.refl _) (r.th.trans h1)
  | ok o =>
    intro q v1 S1 T1 H1 g1 hs1 x1 s1 t1 w1 n1 k1
    dsimp only at q
    cases e0 : st[i]? with
    | none => rw [e0] at q; exact q.elim
    | some z =>
      rw [e0] at q
      cases z with
      | none => exact q.elim
      | some o0 =>
        cases o0 with
        | sh _ => exact q.elim
        | tup _ => exact q.elim
        | lst os =>
          dsimp only at q
          have r1 := r.ext hs1 x1 s1 t1
          obtain ⟨vv, gg, hv1, _⟩ := r1.focus e0
          refine ⟨vv, hv1, b S1 T1 st σ H1 _ r1 ?_⟩
          revert q
          cases fa st with
          | bad => exact fun q => q.elim
          | ex c => exact fun q => q.elim
          | ok d =>
            cases d with
            | int pI =>
              intro q wv H2 hs2 rw2
              cases rw2
              dsimp only at q
              cases e1 : atI os pI with
              | none => rw [e1] at q; exact q.elim
              | some oi =>
                rw [e1] at q
                cases oi with
                | sh _ => exact q.elim
                | tup _ => exact q.elim
                | lst ps =>
                  dsimp only at q
                  obtain ⟨m, e2, e3⟩ := atI_ix e1
                  have r2 := r1.mono hs2
                  -- the inner list, read
                  obtain ⟨v2, g2, hv2, w2, _⟩ := r2.focus e0
                  rw [hv1] at hv2
                  cases hv2
                  cases w2 with
                  | @lst p0 vs0 _ f2 hl2 ow2 =>
                    obtain ⟨ov, fA, fB, fC, c1, c2, c3, c4⟩ := ow2.get e3
                    refine .inl ⟨p0, vs0, pI, ov, rfl, rfl, SqL.of hl2, ix_atI (by rw [ow2.length]; exact e2) c1, c S1 T1 st σ H2 _ r2 ?_⟩
                    revert q
                    cases fk st with
                    | bad => exact fun q => q.elim
                    | ex c => exact fun q => q.elim
                    | ok dk =>
                      cases dk with
                      | int jI =>
                        intro q wk H3 hs3 rw3
                        cases rw3
                        dsimp only at q
                        cases e4 : ixN ps.length jI with
                        | none => rw [e2, e4] at q; exact q.elim
                        | some n =>
                          rw [e2, e4] at q
                          have r3 := r2.mono hs3
                          have hs13 := hs2.trans hs3
                          have th1 := w1.there
                          have w13 : Ow K S1 H3 v1 o g1 := w1.mono (.refl _) fun b hb => same_ne hs13 (th1 b hb)
                          have fr := r.fresh (S1 := S1) (hs1.trans hs13) k1
                          obtain ⟨q0, q1, ws, us, z1, z2, z3, z4, z5, z6, z7, z8⟩ := r3.put2 e0 e3 (ixN_seq e4).2.1 w13 n1 fr
                          rw [hv1] at z1
                          cases z1
                          have : vs0 = ws := by
                            have := hs3 _ _ hl2
                            rw [this] at z2
                            cases z2
                            rfl
                          subst this
                          rw [c1] at z4
                          cases z4
                          exact ⟨q1, us, jI, n, rfl, rfl, z5, by rw [z6]; exact e4, q S1 T1 σ _ (x1.ex3 r.th) z8⟩
                      | _ => exact fun q => q.elim
            | _ => exact fun q => q.elim
/-- row = rows[k]; row[j] = row[j2] + e: one of the own lists, changed by another name -/
def aliasR (i r : Nat) (a k j : Rs D) (e : Rs D) (st : Sl) : Fl := match st[i]? with
  | some (some (.lst os)) => match a with
    | .ok (.int p) => match atI os p with
      | some (.lst ps) => match k, e, j with
        | .ok (.int k), .ok e, .ok (.int j) => match ixN os.length p, atI ps k, ixN ps.length j with
          | some m, some d, some n => match addD d.er e with
            | some z => if prim z = true then .nx ((st.set r none).set i (some (.lst (os.set m (.lst (ps.set n (.sh z))))))) else .bad
            | none => .bad
          | _, _, _ => .bad
        | _, _, _ => .bad
      | _ => .bad
    | _ => .bad
  | _ => .bad
theorem RS.unsetV {S T : Hp} {st : Sl} {σ : St} {H : Hp} (r : RS K S T st σ H) (i : Nat) (v : Option V) : RS K S T (st.set i none) (σ.set i v) H := by
  obtain ⟨f, w, nd, k⟩ := r.own
  by_cases hi : i < st.length
  · obtain ⟨f1, g, f2, e, _, h⟩ := w.set hi
    subst e
    simp only [List.nodup_append, List.mem_append] at nd
    refine ⟨r.lo, r.th, f1 ++ f2, h S H v (.refl _) fun _ _ => rfl, ?_, fun b hb => k b ?_⟩
    · simp only [List.nodup_append, List.mem_append]
      exact ⟨nd.1.1, nd.2.1, fun a ha b hb => nd.2.2 a (.inl ha) b hb⟩
    · simp only [List.mem_append] at hb ⊢
      rcases hb with z | z
      · exact .inl (.inl z)
      · exact .inr z
  · have h1 : st.set i none = st := List.set_eq_of_length_le (by omega)
    have h2 : σ.set i v = σ := List.set_eq_of_length_le (by rw [w.length]; omega)
    rw [h1, h2]
    exact r
abbrev rAddX : R2 := fun v w H Q => rI0 (fun i j => .int (i + j)) v w H Q ∨ ∃ i j, v = .str i ∧ w = .str j ∧ i.length + j.length ≤ sizeLine ∧ Q (.str (i ++ j)) H
theorem s_alias {i r : Nat} {ea ek ej ee : Expr} {s1 s2 : Stmt} {ss : List Stmt} {fa fk fj fe : Sl → Rs D} {g : Sl → Fl} (hir : i ≠ r) (hp1 : ∀ u, PEf X ea u → PSf X s1 (tAsg (tOp (rIx K) (tVar i) u) (gName r)))
    (hp2 : ∀ u v w, PEf X ek u → PEf X ee v → PEf X ej w → PSf X s2 (tAsg (tOp rAddX (tOp (rIx K) (tVar r) u) v) (gSub (tVar r) w rSetL)))
    (ha : EV K W0 cl (PEf X ea) fa) (hk : EV K W0 cl (PEf X ek) fk) (he : EV K W0 cl (PEf X ee) fe) (hj : EV K W0 cl (PEf X ej) fj) (rest : SJ K W cl (PSsf X ss) g) :
    SJ K W cl (PSsf X (s1 :: s2 :: ss)) fun st => (if r < st.length then aliasR i r (fa st) (fk (st.set r none)) (fj (st.set r none)) (fe (st.set r none)) st else .bad).thn g := by
  obtain ⟨ta, pa, ka⟩ := ha.ex
  obtain ⟨tk, pk, kk⟩ := hk.ex
  obtain ⟨tj, pj, kj⟩ := hj.ex
  obtain ⟨te, pe, ke⟩ := he.ex
  obtain ⟨tr, pr, kr⟩ := rest.ex
  refine ⟨_, fun z => pss_cons (hp1 _ pa z) (pss_cons (hp2 _ _ _ pk pe pj z) (pr z)), fun S T st σ H E rs q => ?_⟩
  have q : PSt K cl W S T ((if r < st.length then aliasR i r (fa st) (fk (st.set r none)) (fj (st.set r none)) (fe (st.set r none)) st else .bad).thn g) E := q
  by_cases hrl : r < st.length
  · rw [if_pos hrl] at q
    unfold aliasR at q
    cases e0 : st[i]? with
    | none => rw [e0] at q; exact q.elim
    | some z =>
      rw [e0] at q
      cases z with
      | none => exact q.elim
      | some o0 =>
        cases o0 with
        | sh _ => exact q.elim
        | tup _ => exact q.elim
        | lst os =>
          dsimp only at q
          obtain ⟨vv, gg, hv1, ww, _⟩ := rs.focus e0
          cases ww with
          | @lst p0 vs _ f2 hl2 ow2 =>
            refine ⟨.ref p0, hv1, ka S T st σ H _ rs ?_⟩
            revert q
            cases fa st with
            | bad => exact fun q => q.elim
            | ex c => exact fun q => q.elim
            | ok d =>
              cases d with
              | int pI =>
                intro q wv H2 hs2 rw2
                cases rw2
                dsimp only at q
                cases e1 : atI os pI with
                | none => rw [e1] at q; exact q.elim
                | some oi =>
                  rw [e1] at q
                  cases oi with
                  | sh _ => exact q.elim
                  | tup _ => exact q.elim
                  | lst ps =>
                    dsimp only at q
                    obtain ⟨m, e2, e3⟩ := atI_ix e1
                    obtain ⟨ov, fA, fB, fC, c1, c2, c3, c4⟩ := ow2.get e3
                    cases c3 with
                    | @lst p1 us _ f3 hl3 ow3 =>
                      refine .inl ⟨p0, vs, pI, .ref p1, rfl, rfl, SqL.of (hs2 _ _ hl2), ix_atI (by rw [ow2.length]; exact e2) c1, ?_⟩
                      have hσl : r < σ.length := by rw [rs.len]; exact hrl
                      have r1 : RS K S T (st.set r none) (σ.set r (some (.ref p1))) H2 := (rs.mono hs2).unsetV r _
                      have hσr : (σ.set r (some (V.ref p1)))[r]? = some (some (.ref p1)) := List.getElem?_set_self hσl
                      have rp3 : RpL K H us (erL ps) := ow3.rp rs.sh fun _ _ => rfl
                      refine ⟨.ref p1, hσr, kk S T _ _ H2 _ r1 ?_⟩
                      revert q
                      cases fk (st.set r none) with
                      | bad => exact fun q => q.elim
                      | ex c => exact fun q => q.elim
                      | ok dk =>
                        cases dk with
                        | int kI =>
                          intro q wk H3 hs3 rk
                          cases rk
                          skip
                          cases efe : fe (st.set r none) with
                          | bad => rw [efe] at q; exact q.elim
                          | ex c => rw [efe] at q; exact q.elim
                          | ok dE =>
                            rw [efe] at q
                            cases efj : fj (st.set r none) with
                            | bad => rw [efj] at q; exact q.elim
                            | ex c => rw [efj] at q; exact q.elim
                            | ok dj =>
                              rw [efj] at q
                              cases dj with
                              | int jI =>
                                dsimp only at q
                                rw [e2] at q
                                cases e5 : atI ps kI with
                                | none => rw [e5] at q; exact q.elim
                                | some od =>
                                  rw [e5] at q
                                  cases e6 : ixN ps.length jI with
                                  | none => rw [e6] at q; exact q.elim
                                  | some n =>
                                    rw [e6] at q
                                    dsimp only at q
                                    cases e7 : addD od.er dE with
                                    | none => rw [e7] at q; exact q.elim
                                    | some z =>
                                      rw [e7] at q
                                      dsimp only at q
                                      by_cases pz : prim z = true
                                      · rw [if_pos pz] at q
                                        obtain ⟨kn, e8, e9⟩ := atI_ix e5
                                        have e10 : (erL ps)[kn]? = some od.er := by rw [erL_map, List.getElem?_map, e9]; rfl
                                        obtain ⟨uv, u1, u2⟩ := rp3.get e10
                                        have hs23 := hs2.trans hs3
                                        refine .inl ⟨p1, us, kI, uv, rfl, rfl, SqL.of (hs23 _ _ hl3), ix_atI (by rw [ow3.length]; exact e8) u1, ?_⟩
                                        refine ke S T _ _ H3 _ (r1.mono hs3) ?_
                                        rw [efe]
                                        intro ev H4 hs4 re
                                        refine o_add (K := K) H4 uv ev od.er dE z _ (u2.mono (hs23.trans hs4)) re e7 fun zv H5 hs5 rz => ?_
                                        refine ⟨.ref p1, hσr, kj S T _ _ H5 _ (((r1.mono hs3).mono hs4).mono hs5) ?_⟩
                                        rw [efj]
                                        intro jv H6 hs6 rj
                                        cases rj
                                        have r6 := (((r1.mono hs3).mono hs4).mono hs5).mono hs6
                                        have e11 : (st.set r none)[i]? = some (some (.lst os)) := by rw [List.getElem?_set_ne (Ne.symm hir)]; exact e0
                                        obtain ⟨q0, q1, ws, us2, z1, z2, z3, z4, z5, z6, z7, z8⟩ := r6.put2 (v1 := zv) (g1 := []) (o := .sh z) e11 e3 (ixN_seq e6).2.1 (.sh (rz.prim pz)) .nil fun b hb => by cases hb
                                        have hσi : (σ.set r (some (V.ref p1)))[i]? = some (some (.ref p0)) := by rw [List.getElem?_set_ne (Ne.symm hir)]; exact hv1
                                        rw [hσi] at z1
                                        cases z1
                                        have hs26 : Same H H6 := ((hs23.trans hs4).trans hs5).trans hs6
                                        have a1 := hs26 _ _ hl2
                                        rw [a1] at z2
                                        cases z2
                                        rw [c1] at z4
                                        cases z4
                                        refine ⟨p1, us2, jI, n, rfl, rfl, z5, by rw [z6]; exact e6, ?_⟩
                                        exact kr S T _ _ _ E z8 q
                                      · rw [if_neg pz] at q
                                        exact q.elim
                              | _ => exact q.elim
                        | _ => exact fun q => q.elim
              | _ => exact fun q => q.elim
  · rw [if_neg hrl] at q
    exact q.elim
/-- x.append(y), y's own tree goes over -/
def appNR (i j : Nat) (st : Sl) : Fl := match st[i]?, st[j]? with
  | some (some (.lst os)), some (some o) => if os.length < sizeLine ∧ i ≠ j then .nx ((st.set j none).set i (some (.lst (os ++ [o])))) else .bad
  | _, _ => .bad
theorem s_appN {i j : Nat} {s : Stmt} (hp : PSf X s (tDrop (tBM K "list" rAppend (tVar i) (tCons (tVar j) tNil)))) : SJ K W cl (PSf X s) (appNR i j) := by
  refine ⟨_, hp, fun S T st σ H E r q => ?_⟩
  unfold appNR at q
  cases e0 : st[i]? with
  | none => rw [e0] at q; exact q.elim
  | some z =>
    rw [e0] at q
    cases z with
    | none => exact q.elim
    | some o0 =>
      cases o0 with
      | sh _ => exact q.elim
      | tup _ => exact q.elim
      | lst os =>
        cases e1 : st[j]? with
        | none => rw [e1] at q; exact q.elim
        | some y =>
          rw [e1] at q
          cases y with
          | none => exact q.elim
          | some o =>
            dsimp only at q
            by_cases c : os.length < sizeLine ∧ i ≠ j
            · rw [if_pos c] at q
              obtain ⟨vj, gj, h1, w1, n1, k1, in1, _⟩ := r.focus e1
              obtain ⟨f, wf, nf, kf⟩ := r.own
              have r2 := r.unsetV j (some vj)
              have hσ : σ.set j (some vj) = σ := by
                apply List.ext_getElem?
                intro m
                by_cases hm : j = m
                · subst hm
                  rw [List.getElem?_set_self (List.getElem?_eq_some_iff.mp h1).1, h1]
                · rw [List.getElem?_set_ne hm]
              rw [hσ] at r2
              have e2 : (st.set j none)[i]? = some (some (.lst os)) := by rw [List.getElem?_set_ne (Ne.symm c.2)]; exact e0
              obtain ⟨vi, gi, h2, w2, n2, k2, in2, put⟩ := r2.focus e2
              -- y's knots are in no other slot
              have apart : ∀ b ∈ gj, ∀ f', OwSt K S H σ (st.set j none) f' → b ∉ f' := fun b hb f' w' hf' => by
                obtain ⟨v3, f1, g3, f2, a1, a2, a3, a4, a5⟩ := wf.get e1
                rw [h1] at a1
                cases a1
                have := a3.det w1
                subst this
                have w5 := a5 S H (some vj) (.refl _) fun _ _ => rfl
                rw [hσ] at w5
                rw [← w5.det w'] at hf'
                subst a2
                simp only [List.nodup_append, List.mem_append] at nf hf'
                rcases hf' with z | z
                · exact nf.1.2.2 b z b hb rfl
                · exact nf.2.2 b (.inr hb) b z rfl
              cases w2 with
              | @lst p0 vs _ f2 hl2 ow2 =>
                obtain ⟨fB, wB, _, _⟩ := r2.own
                have pg : ∀ b ∈ gj, b ∉ p0 :: f2 := fun b hb hm => apart b hb fB wB (in2 fB wB b hm)
                have pf : p0 ∉ f2 := (List.nodup_cons.mp n2).1
                have pj : p0 ∉ gj := fun z => pg p0 z (by simp)
                refine ⟨.ref p0, h2, .inl ⟨rfl, vs, SqL.of hl2⟩, vj, h1, p0, vs, vj, rfl, rfl, hl2, by rw [ow2.length]; exact c.1, ?_⟩
                refine q S T σ _ .refl (put (upd H p0 (.lst (vs ++ [vj]))) (.lst (os ++ [o])) (p0 :: (f2 ++ gj)) (fun b hb => upd_ne fun e => hb (by rw [e]; simp)) ?_ ?_ fun b hb => ?_)
                · have w3 : OwL K S (upd H p0 (.lst (vs ++ [vj]))) vs os f2 := ow2.mono (.refl _) fun b hb => upd_ne fun e => pf (e ▸ hb)
                  have w4 : Ow K S (upd H p0 (.lst (vs ++ [vj]))) vj o gj := w1.mono (.refl _) fun b hb => upd_ne fun e => pj (e ▸ hb)
                  have := w3.append (.cons w4 .nil)
                  rw [List.append_nil] at this
                  exact .lst upd_same this
                · rw [List.nodup_cons, List.mem_append, List.nodup_append]
                  exact ⟨fun z => z.elim pf pj, (List.nodup_cons.mp n2).2, n1, fun a ha b hb e => pg b hb (by rw [← e]; simp [ha])⟩
                · rcases List.mem_cons.mp hb with rfl | hb
                  · exact .inl (by simp)
                  · rcases List.mem_append.mp hb with hb | hb
                    · exact .inl (by simp [hb])
                    · exact .inr ⟨k1 b hb, apart b hb⟩
            · rw [if_neg c] at q
              exact q.elim
def elemsT (a : Rs D) : Rs (List D) := a.bind fun d => match d with
  | .tup ds => .ok ds
  | _ => .bad
@[simp] theorem elemsT_ok (ds : List D) : elemsT (.ok (.tup ds)) = .ok ds := rfl
/-- a tuple that stays, walked -/
theorem i_tup {tg e : Expr} {f : Sl → Rs D} (h : EP K W cl (PEf X e) f) (hK : ∀ z, (X z).K = K := by intro _; rfl) : EI K W cl (PIf X tg e) fun st => elemsT (f st) := by
  obtain ⟨t, p, a⟩ := h.ex
  refine ⟨iTup K t, fun z => hK z ▸ pi_tup (p z), fun S T st σ H Q r q => a S T st σ H _ r ?_⟩
  revert q
  show (match elemsT (f st) with | .ok ds => _ | .ex c => _ | .bad => _) → _
  cases f st with
  | bad => exact fun q => q
  | ex c => exact fun q => q
  | ok d =>
    intro q v S1 T1 H1 h1 x1 s1 t1 r1
    cases r1 with
    | @tup ad us ds hq rl =>
      have q : ∀ J S' T' H', Same H H' → Ext S T H S' T' → RS K S' T' st σ H' → Yields K J S' ds → Q J H' := q
      refine ⟨ad, rfl, ⟨us, SqT.of ((s1.trans t1) _ _ hq)⟩, q (Itt K ad) S1 T1 H1 h1 x1 (r.ext h1 x1 s1 t1) ⟨fun i H2 k hi => ?_, fun i H2 k hi => ?_, fun i H2 x H3 d k e y => ?_⟩⟩
      · exact ⟨us, SqT.of (k _ _ hq), by rw [rl.length]; exact hi⟩
      · exact ⟨us, us[i]'(by rw [rl.length]; exact hi), SqT.of (k _ _ hq), by simp⟩
      · obtain ⟨y1, y2⟩ := y
        have := y2 us (SqT.of (k _ _ hq))
        obtain ⟨u, e2, r2⟩ := rl.get e
        rw [this] at e2
        cases e2
        exact .inl ⟨y1, r2⟩
    | _ => exact q.elim
end
end M

/-! Euclid's steps with their factors, plain. -/
namespace M
theorem fdm (a b : Int) (hb : b ≠ 0) : ∃ r, a = a.fdiv b * b + r ∧ r.natAbs < b.natAbs ∧ (0 ≤ b → 0 ≤ r) ∧ (b ≤ 0 → r ≤ 0) := by
  rcases Int.lt_or_gt_of_ne hb with h | h
  · refine ⟨-((-a) % (-b)), ?_, ?_, fun z => by omega, fun _ => ?_⟩
    · rw [← Int.neg_fdiv_neg, Int.fdiv_eq_ediv_of_nonneg _ (by omega)]
      have := Int.mul_ediv_add_emod (-a) (-b)
      rw [Int.mul_comm] at this
      rw [Int.mul_neg] at this
      omega
    · have h1 := Int.emod_nonneg (-a) (show -b ≠ 0 by omega)
      have h2 := Int.emod_lt_of_pos (-a) (show 0 < -b by omega)
      omega
    · have h1 := Int.emod_nonneg (-a) (show -b ≠ 0 by omega)
      omega
  · refine ⟨a % b, ?_, ?_, fun _ => ?_, fun z => by omega⟩
    · rw [Int.fdiv_eq_ediv_of_nonneg _ (by omega)]
      have := Int.mul_ediv_add_emod a b
      rw [Int.mul_comm] at this
      omega
    · have h1 := Int.emod_nonneg a hb
      have h2 := Int.emod_lt_of_pos a h
      omega
    · exact Int.emod_nonneg a hb
theorem fdiv_abs_le {a b : Int} (hb : b ≠ 0) : (a.fdiv b).natAbs ≤ a.natAbs + 1 := by
  obtain ⟨r, h1, h2, _⟩ := fdm a b hb
  have e : (a.fdiv b).natAbs * b.natAbs = (a - r).natAbs := by
    rw [← Int.natAbs_mul]
    congr 1
    omega
  rcases Nat.lt_or_ge (a.natAbs + 1) (a.fdiv b).natAbs with c | c
  · exfalso
    have h3 : (a.natAbs + 2) * b.natAbs ≤ (a.fdiv b).natAbs * b.natAbs := Nat.mul_le_mul_right _ c
    have h4 : 1 ≤ b.natAbs := by omega
    have h5 : a.natAbs * 1 ≤ a.natAbs * b.natAbs := Nat.mul_le_mul_left _ h4
    rw [Nat.add_mul] at h3
    omega
  · exact c
theorem opp_mul {a b c d : Int} (h : (0 ≤ a ∧ b ≤ 0) ∨ (a ≤ 0 ∧ 0 ≤ b)) (k : (0 ≤ c ∧ 0 ≤ d) ∨ (c ≤ 0 ∧ d ≤ 0)) : (b * c - a * d).natAbs = b.natAbs * c.natAbs + a.natAbs * d.natAbs := by
  have key : ∀ {p q : Int}, (0 ≤ p ∧ 0 ≤ q) ∨ (p ≤ 0 ∧ q ≤ 0) → (p + q).natAbs = p.natAbs + q.natAbs := fun {p q} h => by omega
  have e : b * c - a * d = b * c + -(a * d) := by omega
  rw [e, key, Int.natAbs_neg, Int.natAbs_mul, Int.natAbs_mul]
  rcases h with ⟨h1, h2⟩ | ⟨h1, h2⟩ <;> rcases k with ⟨k1, k2⟩ | ⟨k1, k2⟩
  · right
    exact ⟨Int.mul_nonpos_of_nonpos_of_nonneg h2 k1, by have := Int.mul_nonneg h1 k2; omega⟩
  · left
    exact ⟨Int.mul_nonneg_of_nonpos_of_nonpos h2 k1, by have := Int.mul_nonpos_of_nonneg_of_nonpos h1 k2; omega⟩
  · left
    exact ⟨Int.mul_nonneg h2 k1, by have := Int.mul_nonpos_of_nonpos_of_nonneg h1 k2; omega⟩
  · right
    exact ⟨Int.mul_nonpos_of_nonneg_of_nonpos h2 k1, by have := Int.mul_nonneg_of_nonpos_of_nonpos h1 k2; omega⟩
structure Eu (x y one other a b c e : Int) : Prop where
  l1 : a * x + b * y = one
  l2 : c * x + e * y = other
  g : Int.gcd one other = Int.gcd x y
  m1 : one.natAbs ≤ x.natAbs + y.natAbs
  m2 : other.natAbs ≤ x.natAbs + y.natAbs
  ba : a.natAbs ≤ y.natAbs + 1
  bc : c.natAbs ≤ y.natAbs + 1
  st : (a = 1 ∧ b = 0 ∧ c = 0 ∧ e = 1 ∧ one = x ∧ other = y) ∨
    (y ≠ 0 ∧ one ≠ 0 ∧ ((0 ≤ one ∧ 0 ≤ other) ∨ (one ≤ 0 ∧ other ≤ 0)) ∧ ((0 ≤ a ∧ c ≤ 0) ∨ (a ≤ 0 ∧ 0 ≤ c)) ∧ (c * one - a * other = y ∨ c * one - a * other = -y))
theorem Eu.first (x y : Int) : Eu x y x y 1 0 0 1 :=
  ⟨by omega, by omega, rfl, by omega, by omega, by omega, by omega, .inl ⟨rfl, rfl, rfl, rfl, rfl, rfl⟩⟩
theorem Eu.step {x y one other a b c e : Int} (h : Eu x y one other a b c e) (ho : other ≠ 0) :
    Eu x y other (one - one.fdiv other * other) c e (a - one.fdiv other * c) (b - one.fdiv other * e) ∧ (one - one.fdiv other * other).natAbs < other.natAbs := by
  obtain ⟨r, r1, r2, r3, r4⟩ := fdm one other ho
  have er : one - one.fdiv other * other = r := by omega
  generalize hq : one.fdiv other = q at *
  have hg : Int.gcd other (one - q * other) = Int.gcd x y := by
    rw [← h.g, Int.gcd_comm other, Int.gcd_sub_mul_right_left]
  have l2' : (a - q * c) * x + (b - q * e) * y = one - q * other := by
    rw [← h.l1, ← h.l2]
    simp only [Int.sub_mul, Int.mul_add, Int.mul_assoc]
    omega
  have st' : y ≠ 0 ∧ other ≠ 0 ∧ ((0 ≤ other ∧ 0 ≤ r) ∨ (other ≤ 0 ∧ r ≤ 0)) ∧ ((0 ≤ c ∧ a - q * c ≤ 0) ∨ (c ≤ 0 ∧ 0 ≤ a - q * c)) ∧ ((a - q * c) * other - c * r = y ∨ (a - q * c) * other - c * r = -y) := by
    have so : (0 ≤ other ∧ 0 ≤ r) ∨ (other ≤ 0 ∧ r ≤ 0) := by
      rcases Int.le_total 0 other with z | z
      · exact .inl ⟨z, r3 z⟩
      · exact .inr ⟨z, r4 z⟩
    have id1 : (a - q * c) * other - c * r = a * other - c * one := by
      rw [← er]
      have e1 : (a - q * c) * other = a * other - q * c * other := Int.sub_mul ..
      have e2 : c * (one - q * other) = c * one - c * (q * other) := Int.mul_sub ..
      have e3 : c * (q * other) = q * c * other := by rw [← Int.mul_assoc, Int.mul_comm c q]
      omega
    rcases h.st with ⟨a1, b1, c1, e1, o1, o2⟩ | ⟨y0, o0, ss, sa, id⟩
    · subst a1 c1 o1 o2
      refine ⟨ho, ho, so, .inr ⟨by omega, by rw [Int.mul_zero]; omega⟩, .inl ?_⟩
      rw [id1]
      omega
    · refine ⟨y0, ho, so, ?_, by rw [id1]; omega⟩
      have qn : 0 ≤ q := by
        rcases Int.lt_or_le q 0 with z | z
        · exfalso
          rcases ss with ⟨p1, p2⟩ | ⟨p1, p2⟩
          · have : q * other ≤ -1 * other := Int.mul_le_mul_of_nonneg_right (by omega) p2
            omega
          · have : -1 * other ≤ q * other := Int.mul_le_mul_of_nonpos_right (by omega) p2
            omega
        · exact z
      rcases sa with ⟨p1, p2⟩ | ⟨p1, p2⟩
      · have := Int.mul_nonpos_of_nonneg_of_nonpos qn p2
        exact .inr ⟨p2, by omega⟩
      · have := Int.mul_nonneg qn p2
        exact .inl ⟨p2, by omega⟩
  refine ⟨⟨h.l2, l2', hg, h.m2, by rw [er]; have := h.m2; omega, h.bc, ?_, .inr (by rw [er]; exact st')⟩, by rw [er]; exact r2⟩
  obtain ⟨y0, o0, so, sc, id⟩ := st'
  have := opp_mul sc so
  have h2 : (a - q * c).natAbs * 1 ≤ (a - q * c).natAbs * other.natAbs := Nat.mul_le_mul_left _ (by omega)
  have h3 : ((a - q * c) * other - c * r).natAbs = y.natAbs := by rcases id with z | z <;> omega
  omega
/-- what shared tells -/
structure ShOk (x y d a b : Int) : Prop where
  dg : d = (Int.gcd x y : Nat)
  l : a * x + b * y = d
  ba : a.natAbs ≤ y.natAbs + 1
  bb : b.natAbs ≤ x.natAbs + y.natAbs + (y.natAbs + 1) * x.natAbs + 1
theorem coef_le {x y one a b : Int} (h : a * x + b * y = one) (ha : a.natAbs ≤ y.natAbs + 1) (hm : one.natAbs ≤ x.natAbs + y.natAbs) (h0 : y = 0 → b.natAbs ≤ 1) : b.natAbs ≤ x.natAbs + y.natAbs + (y.natAbs + 1) * x.natAbs + 1 := by
  by_cases y0 : y = 0
  · have := h0 y0
    omega
  · have e : b * y = one - a * x := by omega
    have e2 : b.natAbs * y.natAbs = (one - a * x).natAbs := by rw [← Int.natAbs_mul, e]
    have e3 : (one - a * x).natAbs ≤ one.natAbs + (a * x).natAbs := by omega
    have e4 : (a * x).natAbs = a.natAbs * x.natAbs := Int.natAbs_mul ..
    have e5 : a.natAbs * x.natAbs ≤ (y.natAbs + 1) * x.natAbs := Nat.mul_le_mul_right _ ha
    have e6 : b.natAbs * 1 ≤ b.natAbs * y.natAbs := Nat.mul_le_mul_left _ (by omega)
    omega
theorem Eu.bb {x y one other a b c e : Int} (h : Eu x y one other a b c e) : b.natAbs ≤ x.natAbs + y.natAbs + (y.natAbs + 1) * x.natAbs + 1 ∧ e.natAbs ≤ x.natAbs + y.natAbs + (y.natAbs + 1) * x.natAbs + 1 := by
  refine ⟨coef_le h.l1 h.ba h.m1 fun z => ?_, coef_le h.l2 h.bc h.m2 fun z => ?_⟩
  · rcases h.st with ⟨_, h2, _⟩ | ⟨h2, _⟩
    · omega
    · exact absurd z h2
  · rcases h.st with ⟨_, _, _, h2, _⟩ | ⟨h2, _⟩
    · omega
    · exact absurd z h2
/-- the sizes of Euclid's numbers -/
theorem Eu.sizes {x y one other a b c e : Int} (h : Eu x y one other a b c e) {n : Nat} (hx : x.natAbs < 2 ^ n) (hy : y.natAbs < 2 ^ n) :
    one.natAbs < 2 ^ (n + 1) ∧ other.natAbs < 2 ^ (n + 1) ∧ a.natAbs < 2 ^ (n + 1) ∧ c.natAbs < 2 ^ (n + 1) ∧ b.natAbs < 2 ^ (2 * n + 3) ∧ e.natAbs < 2 ^ (2 * n + 3) := by
  have p1 : 2 ^ (n + 1) = 2 * 2 ^ n := by rw [Nat.pow_succ, Nat.mul_comm]
  have p0 : 1 ≤ 2 ^ n := Nat.one_le_two_pow
  have m1 := h.m1
  have m2 := h.m2
  have ba := h.ba
  have bc := h.bc
  obtain ⟨bb, be⟩ := h.bb
  have p2 : 2 ^ (2 * n + 3) = 8 * (2 ^ n * 2 ^ n) := by
    rw [Nat.pow_add, Nat.two_mul, Nat.pow_add, Nat.mul_comm]
  have k1 : (y.natAbs + 1) * x.natAbs ≤ 2 ^ n * 2 ^ n := Nat.mul_le_mul hy (Nat.le_of_lt hx)
  have k2 : 1 * 2 ^ n ≤ 2 ^ n * 2 ^ n := Nat.mul_le_mul_right _ p0
  rw [p1, p2]
  refine ⟨by omega, by omega, by omega, by omega, by omega, by omega⟩
end M

namespace M
open PySem L2
def topS (i : Nat) : Stmt := PySem.Challenge.pw_swapmart_k01_shared.main.body.getD i (.Pass ⟨0, 0, 0, 0⟩)
structure Txt (mg : Str → Option Value) : Prop where
  b_abs : mg "abs" = none
  b_bool : mg "bool" = none
  b_int : mg "int" = none
  b_isinstance : mg "isinstance" = none
  b_len : mg "len" = none
  b_tuple : mg "tuple" = none
section
variable {P : Program} {w : World} {K : PySem.W.Frag} {mg : Str → Option Value} {base : Heap} {cl : Cl}
abbrev s_shared : Stmt := topS 1
theorem sc_shared : FnScope ["one", "other", "a", "b", "c", "e", "many"] ["one", "other"] (defScope s_shared) := ⟨rfl, rfl, rfl, by decide +kernel, rfl, by decide +kernel, by decide +kernel⟩
noncomputable def w_shared_1 : Sl → Rs Bool := fun st => asB (bin2 neD (getV 1 st) (.ok (.int 0)))
noncomputable def l_shared_1 : Sl → Fl := fun st => (setO 6 (mapRs O.sh (asPrim (bin2 fdivD (getV 0 st) (getV 1 st)))) st).thn (fun st => (parR 0 1 (consR (getP 1 st) (consR (asPrim (bin2 subD (getV 0 st) (bin2 mulD (getV 6 st) (getV 1 st)))) (.ok []))) st).thn (fun st => (parR 2 4 (consR (getP 4 st) (consR (asPrim (bin2 subD (getV 2 st) (bin2 mulD (getV 6 st) (getV 4 st)))) (.ok []))) st).thn (fun st => parR 3 5 (consR (getP 5 st) (consR (asPrim (bin2 subD (getV 3 st) (bin2 mulD (getV 6 st) (getV 5 st)))) (.ok []))) st)))
noncomputable def b_shared : Sl → Fl := fun st => (asgR (setTup 2 (setCons (setN 2) (setCons (setN 3) (setNil)))) (mapRs O.er (mapRs O.tup (consR (mapRs O.sh (.ok (.int 1))) (consR (mapRs O.sh (.ok (.int 0))) (.ok []))))) st).thn (fun st => (asgR (setTup 2 (setCons (setN 4) (setCons (setN 5) (setNil)))) (mapRs O.er (mapRs O.tup (consR (mapRs O.sh (.ok (.int 0))) (consR (mapRs O.sh (.ok (.int 1))) (.ok []))))) st).thn (fun st => (whileF w_shared_1 l_shared_1 st).thn (fun st => (ifS (asB (bin2 ltD (getV 0 st) (.ok (.int 0)))) (retR (mapRs O.tup (consR (mapRs O.sh (asPrim (un1 negD (getV 0 st)))) (consR (mapRs O.sh (asPrim (un1 negD (getV 2 st)))) (consR (mapRs O.sh (asPrim (un1 negD (getV 3 st)))) (.ok [])))))) (.nx st)).thn (fun st => retR (mapRs O.tup (consR (mapRs O.sh (getP 0 st)) (consR (mapRs O.sh (getP 2 st)) (consR (mapRs O.sh (getP 3 st)) (.ok [])))))))))
noncomputable def m_shared : List D → Rs O := runD 7 2 b_shared
theorem d_shared {f : Addr} {fd : FuncData} (T : Txt mg) (F : Fun K "shared" "shared" s_shared f fd) (g : mg "shared" = some (.ref f)) (b : Binds K fd ["one", "other"] []) : CallOk P w K mg base cl "shared" 1 2 m_shared f fd ["one", "other"] := by
  refine CallOk.mk (def_ok (k := 0) (fb := b_shared) (N := ["one", "other", "a", "b", "c", "e", "many"]) F sc_shared fun cdv A outer s H E hr => ?_) g F.kp b
  have nd := sc_shared.nd
  exact (s_cons (s_asg (R := PEf _ _) (fun t u h k z => ps_asg (h z) (k z)) (g_tup (n := 2) (fun t h z => pg_tup rfl (h z)) (gs_cons (g_nm (fun z => pg_name (i := 2) nd rfl (.inl rfl))) (gs_cons (g_nm (fun z => pg_name (i := 3) nd rfl (.inl rfl))) gs_nil))) (EF.p (f_tup (fs_cons (EP.f p_int) (fs_cons (EP.f p_int) fs_nil))))) (s_cons (s_asg (R := PEf _ _) (fun t u h k z => ps_asg (h z) (k z)) (g_tup (n := 2) (fun t h z => pg_tup rfl (h z)) (gs_cons (g_nm (fun z => pg_name (i := 4) nd rfl (.inl rfl))) (gs_cons (g_nm (fun z => pg_name (i := 5) nd rfl (.inl rfl))) gs_nil))) (EF.p (f_tup (fs_cons (EP.f p_int) (fs_cons (EP.f p_int) fs_nil))))) (s_cons (s_while (fun tc tb a b z => ps_while (passes_of rfl) (a z) (b z)) (t_cmp (fun _ => op_neD hr.units) o_ne (nomark _) (v_nm (fun _ => pv 1)) v_int) (s_cons (s_set (i := 6) (R := PEf _ _) (fun t h z => ps_set nd rfl (.inl rfl) (h z)) (EV.prm (v_op (fun _ => op_fdivX) o_fdiv (v_nm (fun _ => pv 0)) (v_nm (fun _ => pv 1))))) (s_cons (s_par (i := 0) (j := 1) (R := PAf _ _) (fun t h z => ps_par rfl nd rfl rfl (by decide) rfl rfl (h z) rfl) (ps_cons (p_nm (fun _ => pv 1)) (ps_cons (EV.prm (v_op (fun _ => op_sub) o_sub (v_nm (fun _ => pv 0)) (v_op (fun _ => op_mulX) o_mul (v_nm (fun _ => pv 6)) (v_nm (fun _ => pv 1))))) ps_nil))) (s_cons (s_par (i := 2) (j := 4) (R := PAf _ _) (fun t h z => ps_par rfl nd rfl rfl (by decide) rfl rfl (h z) rfl) (ps_cons (p_nm (fun _ => pv 4)) (ps_cons (EV.prm (v_op (fun _ => op_sub) o_sub (v_nm (fun _ => pv 2)) (v_op (fun _ => op_mulX) o_mul (v_nm (fun _ => pv 6)) (v_nm (fun _ => pv 4))))) ps_nil))) (s_one (s_par (i := 3) (j := 5) (R := PAf _ _) (fun t h z => ps_par rfl nd rfl rfl (by decide) rfl rfl (h z) rfl) (ps_cons (p_nm (fun _ => pv 5)) (ps_cons (EV.prm (v_op (fun _ => op_sub) o_sub (v_nm (fun _ => pv 3)) (v_op (fun _ => op_mulX) o_mul (v_nm (fun _ => pv 6)) (v_nm (fun _ => pv 5))))) ps_nil)))))))) (s_cons (s_if (t_cmp (fun _ => op_lt) (g := ltD) o_cmp (nomark _) (v_nm (fun _ => pv 0)) v_int) (s_one (s_ret (R := PEf _ _) (fun t h z => ps_ret (h z)) (f_tup (fs_cons (EP.f (EV.prm (v_un (fun _ => un_neg) o_neg (v_nm (fun _ => pv 0))))) (fs_cons (EP.f (EV.prm (v_un (fun _ => un_neg) o_neg (v_nm (fun _ => pv 2))))) (fs_cons (EP.f (EV.prm (v_un (fun _ => un_neg) o_neg (v_nm (fun _ => pv 3))))) fs_nil)))))) s_nil) (s_one (s_ret (R := PEf _ _) (fun t h z => ps_ret (h z)) (f_tup (fs_cons (EP.f (p_nm (fun _ => pv 0))) (fs_cons (EP.f (p_nm (fun _ => pv 2))) (fs_cons (EP.f (p_nm (fun _ => pv 3))) fs_nil))))))))))
abbrev s__law_cell_at : Stmt := topS 3
theorem sc__law_cell_at : FnScope ["script", "k"] ["script", "k"] (defScope s__law_cell_at) := ⟨rfl, rfl, rfl, by decide +kernel, rfl, by decide +kernel, by decide +kernel⟩
def b__law_cell_at : Sl → Fl := fun st => (ifS (asB (bin2 ltD (getV 1 st) (un1 lenD (getV 0 st)))) (retR (mapRs O.sh (bin2 ixD (getP 0 st) (getV 1 st)))) (.nx st)).thn (fun st => retR (mapRs O.sh (.ok (.int 0))))
def m__law_cell_at : List D → Rs O := runD 2 2 b__law_cell_at
theorem d__law_cell_at {f : Addr} {fd : FuncData} (T : Txt mg) (F : Fun K "_law_cell_at" "_law_cell_at" s__law_cell_at f fd) (g : mg "_law_cell_at" = some (.ref f)) (b : Binds K fd ["script", "k"] []) : CallOk P w K mg base cl "_law_cell_at" 1 2 m__law_cell_at f fd ["script", "k"] := by
  refine CallOk.mk (def_ok (k := 0) (fb := b__law_cell_at) (N := ["script", "k"]) F sc__law_cell_at fun cdv A outer s H E hr => ?_) g F.kp b
  have nd := sc__law_cell_at.nd
  exact (s_cons (s_if (t_cmp (fun _ => op_lt) (g := ltD) o_cmp (nomark _) (v_nm (fun _ => pv 1)) (v_call1 (r := rLen K) (fun t h z => pe_callB call_len (by rfl) T.b_len PySem.boot_len (h z)) o_len (v_nm (fun _ => pv 0)))) (s_one (s_ret (R := PEf _ _) (fun t h z => ps_ret (h z)) (EP.f (p_ix (p_nm (fun _ => pv 0)) (v_nm (fun _ => pv 1)))))) s_nil) (s_one (s_ret (R := PEf _ _) (fun t h z => ps_ret (h z)) (EP.f p_int))))
abbrev s__law_whole : Stmt := topS 4
theorem sc__law_whole : FnScope ["found"] ["found"] (defScope s__law_whole) := ⟨rfl, rfl, rfl, by decide +kernel, rfl, by decide +kernel, by decide +kernel⟩
def b__law_whole : Sl → Fl := fun st => retR (mapRs O.sh (asPrim (andV (un1 (isi "int") (getV 0 st)) (notV (un1 (isi "bool") (getV 0 st))))))
def m__law_whole : List D → Rs O := runD 1 1 b__law_whole
theorem d__law_whole {f : Addr} {fd : FuncData} (T : Txt mg) (F : Fun K "_law_whole" "_law_whole" s__law_whole f fd) (g : mg "_law_whole" = some (.ref f)) (b : Binds K fd ["found"] []) : CallOk P w K mg base cl "_law_whole" 1 1 m__law_whole f fd ["found"] := by
  refine CallOk.mk (def_ok (k := 0) (fb := b__law_whole) (N := ["found"]) F sc__law_whole fun cdv A outer s H E hr => ?_) g F.kp b
  have nd := sc__law_whole.nd
  exact (s_one (s_ret (R := PEf _ _) (fun t h z => ps_ret (h z)) (EP.f (EV.prm (v_and (v_isi (T := "int") (fun t h z => pe_callB call_isi (by rfl) T.b_isinstance (by decide +kernel) (h z)) (fun _ => pe_bltn (by rfl) T.b_int (by decide +kernel) rfl) (v_nm (fun _ => pv 0))) (v_one (v_not (v_isi (T := "bool") (fun t h z => pe_callB call_isi (by rfl) T.b_isinstance (by decide +kernel) (h z)) (fun _ => pe_bltn (by rfl) T.b_bool (by decide +kernel) rfl) (v_nm (fun _ => pv 0))))))))))
abbrev s__law_pair : Stmt := topS 5
theorem sc__law_pair : FnScope ["cells", "one", "other", "cell"] ["cells"] (defScope s__law_pair) := ⟨rfl, rfl, rfl, by decide +kernel, rfl, by decide +kernel, by decide +kernel⟩
def l__law_pair_1 : Sl → Fl := fun st => parR 1 2 (consR (asPrim (bin2 addD (bin2 mulD (getV 1 st) (bin2 subD (bin2 modD (getV 3 st) (.ok (.int 100))) (.ok (.int 50)))) (getV 2 st))) (consR (getP 1 st) (.ok []))) st
def b__law_pair : Sl → Fl := fun st => (setO 1 (mapRs O.sh (.ok (.int 1))) st).thn (fun st => (setO 2 (mapRs O.sh (.ok (.int 0))) st).thn (fun st => (forR (elemsR (getP 0 st)) (setN 3) l__law_pair_1 st).thn (fun st => retR (mapRs O.tup (consR (mapRs O.sh (getP 1 st)) (consR (mapRs O.sh (getP 2 st)) (.ok [])))))))
def m__law_pair : List D → Rs O := runD 4 1 b__law_pair
theorem d__law_pair {f : Addr} {fd : FuncData} (T : Txt mg) (F : Fun K "_law_pair" "_law_pair" s__law_pair f fd) (g : mg "_law_pair" = some (.ref f)) (b : Binds K fd ["cells"] []) : CallOk P w K mg base cl "_law_pair" 1 1 m__law_pair f fd ["cells"] := by
  refine CallOk.mk (def_ok (k := 0) (fb := b__law_pair) (N := ["cells", "one", "other", "cell"]) F sc__law_pair fun cdv A outer s H E hr => ?_) g F.kp b
  have nd := sc__law_pair.nd
  exact (s_cons (s_set (i := 1) (R := PEf _ _) (fun t h z => ps_set nd rfl (.inl rfl) (h z)) p_int) (s_cons (s_set (i := 2) (R := PEf _ _) (fun t h z => ps_set nd rfl (.inl rfl) (h z)) p_int) (s_cons (s_for (fun wi g tb a b c z => ps_for (passes_of rfl) rfl (a z) (b z) (c z)) (i_list (p_nm (fun _ => pv 0))) (g_nm (fun z => pg_name (i := 3) nd rfl (.inl rfl))) (s_one (s_par (i := 1) (j := 2) (R := PAf _ _) (fun t h z => ps_par rfl nd rfl rfl (by decide) rfl rfl (h z) rfl) (ps_cons (EV.prm (v_op (fun _ => op_addX) o_add (v_op (fun _ => op_mulX) o_mul (v_nm (fun _ => pv 1)) (v_op (fun _ => op_sub) o_sub (v_op (fun _ => op_modN) o_mod (v_nm (fun _ => pv 3)) v_int) v_int)) (v_nm (fun _ => pv 2)))) (ps_cons (p_nm (fun _ => pv 1)) ps_nil))))) (s_one (s_ret (R := PEf _ _) (fun t h z => ps_ret (h z)) (f_tup (fs_cons (EP.f (p_nm (fun _ => pv 1))) (fs_cons (EP.f (p_nm (fun _ => pv 2))) fs_nil))))))))
abbrev s__law_good : Stmt := topS 6
theorem sc__law_good : FnScope ["one", "other", "due", "found", "number"] ["one", "other", "due"] (defScope s__law_good) := ⟨rfl, rfl, rfl, by decide +kernel, rfl, by decide +kernel, by decide +kernel⟩
noncomputable def l__law_good_1 : Sl → Fl := fun st => ifS (notT (asB (mapRs O.er (callR 1 m__law_whole (consR (getP 4 st) (.ok [])))))) (retR (mapRs O.sh (.ok (.bl false)))) (.nx st)
noncomputable def b__law_good : Sl → Fl := fun st => (setO 3 (mapRs O.sh (mapRs O.er (callR 2 m_shared (consR (getP 0 st) (consR (getP 1 st) (.ok [])))))) st).thn (fun st => (ifS (orT (notT (asB (un1 (isi "tuple") (getV 3 st)))) (asB (bin2 neD (un1 lenD (getV 3 st)) (.ok (.int 3))))) (retR (mapRs O.sh (.ok (.bl false)))) (.nx st)).thn (fun st => (forR (elemsT (getP 3 st)) (setN 4) l__law_good_1 st).thn (fun st => retR (mapRs O.sh (asPrim (andV (bin2 eqD (bin2 ixD (getV 3 st) (.ok (.int 0))) (getV 2 st)) (bin2 eqD (bin2 addD (bin2 mulD (bin2 ixD (getV 3 st) (.ok (.int 1))) (getV 0 st)) (bin2 mulD (bin2 ixD (getV 3 st) (.ok (.int 2))) (getV 1 st))) (getV 2 st))))))))
noncomputable def m__law_good : List D → Rs O := runD 5 3 b__law_good
theorem d__law_good {f : Addr} {fd : FuncData} (T : Txt mg) (F : Fun K "_law_good" "_law_good" s__law_good f fd) (g : mg "_law_good" = some (.ref f)) (b : Binds K fd ["one", "other", "due"] []) {f_shared : Addr} {fd_shared : FuncData} {ps_shared : List Str} (C_shared : CallOk P w K mg base cl "shared" 1 2 m_shared f_shared fd_shared ps_shared) {f__law_whole : Addr} {fd__law_whole : FuncData} {ps__law_whole : List Str} (C__law_whole : CallOk P w K mg base cl "_law_whole" 1 1 m__law_whole f__law_whole fd__law_whole ps__law_whole) : CallOk P w K mg base cl "_law_good" 2 3 m__law_good f fd ["one", "other", "due"] := by
  refine CallOk.mk (def_ok (k := 1) (fb := b__law_good) (N := ["one", "other", "due", "found", "number"]) F sc__law_good fun cdv A outer s H E hr => ?_) g F.kp b
  have nd := sc__law_good.nd
  exact (s_cons (s_set (i := 3) (R := PEf _ _) (fun t h z => ps_set nd rfl (.inl rfl) (h z)) (EF.p (f_call (fun t h z => pe_callS C_shared.F (hr.mono (by decide)) (by rfl) C_shared.g C_shared.kp C_shared.b (fun σ => passAt (takes_of rfl rfl rfl rfl) σ) (h z)) (ps_cons (p_nm (fun _ => pv 0)) (ps_cons (p_nm (fun _ => pv 1)) ps_nil))))) (s_cons (s_if (t_w (w_or (t_not (t_val (v_isi (T := "tuple") (fun t h z => pe_callB call_isi (by rfl) T.b_isinstance (by decide +kernel) (h z)) (fun _ => pe_bltn (by rfl) T.b_tuple (by decide +kernel) rfl) (v_nm (fun _ => pv 3))))) (w_or1 (t_cmp (fun _ => op_neD hr.units) o_ne (nomark _) (v_call1 (r := rLen K) (fun t h z => pe_callB call_len (by rfl) T.b_len PySem.boot_len (h z)) o_len (v_nm (fun _ => pv 3))) v_int)))) (s_one (s_ret (R := PEf _ _) (fun t h z => ps_ret (h z)) (EP.f p_bl))) s_nil) (s_cons (s_for (fun wi g tb a b c z => ps_for (passes_of rfl) rfl (a z) (b z) (c z)) (i_tup (p_nm (fun _ => pv 3))) (g_nm (fun z => pg_name (i := 4) nd rfl (.inl rfl))) (s_one (s_if (t_not (t_val (EP.v (EF.p (f_call (fun t h z => pe_callS C__law_whole.F (hr.mono (by decide)) (by rfl) C__law_whole.g C__law_whole.kp C__law_whole.b (fun σ => passAt (takes_of rfl rfl rfl rfl) σ) (h z)) (ps_cons (p_nm (fun _ => pv 4)) ps_nil)))))) (s_one (s_ret (R := PEf _ _) (fun t h z => ps_ret (h z)) (EP.f p_bl))) s_nil))) (s_one (s_ret (R := PEf _ _) (fun t h z => ps_ret (h z)) (EP.f (EV.prm (v_and (v_cmp (fun _ => op_eqD hr.units) o_eq (nomark _) (v_ix (v_nm (fun _ => pv 3)) v_int) (v_nm (fun _ => pv 2))) (v_one (v_cmp (fun _ => op_eqD hr.units) o_eq (nomark _) (v_op (fun _ => op_addX) o_add (v_op (fun _ => op_mulX) o_mul (v_ix (v_nm (fun _ => pv 3)) v_int) (v_nm (fun _ => pv 0))) (v_op (fun _ => op_mulX) o_mul (v_ix (v_nm (fun _ => pv 3)) v_int) (v_nm (fun _ => pv 1)))) (v_nm (fun _ => pv 2))))))))))))
abbrev s_law : Stmt := topS 7
theorem sc_law : FnScope ["script", "cell", "common", "one", "other", "due", "number"] ["script"] (defScope s_law) := ⟨rfl, rfl, rfl, by decide +kernel, rfl, by decide +kernel, by decide +kernel⟩
noncomputable def l_law_1 : Sl → Fl := fun st => (ifS (notT (asB (mapRs O.er (callR 3 m__law_good (consR (getP 6 st) (consR (getP 6 st) (consR (asPrim (un1 absD (getV 6 st))) (.ok [])))))))) (retR (mapRs O.sh (.ok (.bl false)))) (.nx st)).thn (fun st => ifS (orT (notT (asB (mapRs O.er (callR 3 m__law_good (consR (getP 6 st) (consR (.ok (.int 0)) (consR (asPrim (un1 absD (getV 6 st))) (.ok [])))))))) (notT (asB (mapRs O.er (callR 3 m__law_good (consR (.ok (.int 0)) (consR (getP 6 st) (consR (asPrim (un1 absD (getV 6 st))) (.ok []))))))))) (retR (mapRs O.sh (.ok (.bl false)))) (.nx st))
noncomputable def b_law : Sl → Fl := fun st => (setO 1 (mapRs O.sh (mapRs O.er (callR 2 m__law_cell_at (consR (getP 0 st) (consR (.ok (.int 0)) (.ok [])))))) st).thn (fun st => (setO 2 (mapRs O.sh (asPrim (bin2 subD (bin2 modD (bin2 fdivD (getV 1 st) (.ok (.int 5))) (bin2 addD (bin2 mulD (.ok (.int 2)) (bin2 powD (.ok (.int 10)) (.ok (.int 60)))) (.ok (.int 1)))) (bin2 powD (.ok (.int 10)) (.ok (.int 60)))))) st).thn (fun st => (ifS (asB (bin2 eqD (bin2 modD (getV 1 st) (.ok (.int 5))) (.ok (.int 0)))) (setO 2 (mapRs O.sh (asPrim (bin2 subD (bin2 modD (bin2 fdivD (getV 1 st) (.ok (.int 5))) (.ok (.int 13))) (.ok (.int 6))))) st) (.nx st)).thn (fun st => (asgR (setTup 2 (setCons (setN 3) (setCons (setN 4) (setNil)))) (mapRs O.er (callR 1 m__law_pair (consR (mapRs O.er (sliceF (getP 0 st) (asI (.ok (.int 1))) (asI (.ok (.int 61))))) (.ok [])))) st).thn (fun st => (setO 3 (mapRs O.sh (asPrim (bin2 mulD (getV 3 st) (getV 2 st)))) st).thn (fun st => (setO 4 (mapRs O.sh (asPrim (bin2 mulD (getV 4 st) (getV 2 st)))) st).thn (fun st => (setO 5 (mapRs O.sh (asPrim (un1 absD (getV 2 st)))) st).thn (fun st => (ifS (orT (notT (asB (mapRs O.er (callR 3 m__law_good (consR (getP 3 st) (consR (getP 4 st) (consR (getP 5 st) (.ok [])))))))) (notT (asB (mapRs O.er (callR 3 m__law_good (consR (getP 4 st) (consR (getP 3 st) (consR (getP 5 st) (.ok []))))))))) (retR (mapRs O.sh (.ok (.bl false)))) (.nx st)).thn (fun st => (ifS (orT (notT (asB (mapRs O.er (callR 3 m__law_good (consR (asPrim (un1 negD (getV 3 st))) (consR (getP 4 st) (consR (getP 5 st) (.ok [])))))))) (notT (asB (mapRs O.er (callR 3 m__law_good (consR (getP 4 st) (consR (asPrim (un1 negD (getV 3 st))) (consR (getP 5 st) (.ok []))))))))) (retR (mapRs O.sh (.ok (.bl false)))) (.nx st)).thn (fun st => (forR (elemsR (mapRs O.er (mapRs O.lst (consR (mapRs O.sh (getP 3 st)) (consR (mapRs O.sh (getP 4 st)) (.ok [])))))) (setN 6) l_law_1 st).thn (fun st => retR (mapRs O.sh (.ok (.bl true)))))))))))))
noncomputable def m_law : List D → Rs O := runD 7 1 b_law
theorem d_law {f : Addr} {fd : FuncData} (T : Txt mg) (F : Fun K "law" "law" s_law f fd) (g : mg "law" = some (.ref f)) (b : Binds K fd ["script"] []) {f__law_cell_at : Addr} {fd__law_cell_at : FuncData} {ps__law_cell_at : List Str} (C__law_cell_at : CallOk P w K mg base cl "_law_cell_at" 1 2 m__law_cell_at f__law_cell_at fd__law_cell_at ps__law_cell_at) {f__law_pair : Addr} {fd__law_pair : FuncData} {ps__law_pair : List Str} (C__law_pair : CallOk P w K mg base cl "_law_pair" 1 1 m__law_pair f__law_pair fd__law_pair ps__law_pair) {f__law_good : Addr} {fd__law_good : FuncData} {ps__law_good : List Str} (C__law_good : CallOk P w K mg base cl "_law_good" 2 3 m__law_good f__law_good fd__law_good ps__law_good) : CallOk P w K mg base cl "law" 3 1 m_law f fd ["script"] := by
  refine CallOk.mk (def_ok (k := 2) (fb := b_law) (N := ["script", "cell", "common", "one", "other", "due", "number"]) F sc_law fun cdv A outer s H E hr => ?_) g F.kp b
  have nd := sc_law.nd
  exact (s_cons (s_set (i := 1) (R := PEf _ _) (fun t h z => ps_set nd rfl (.inl rfl) (h z)) (EF.p (f_call (fun t h z => pe_callS C__law_cell_at.F (hr.mono (by decide)) (by rfl) C__law_cell_at.g C__law_cell_at.kp C__law_cell_at.b (fun σ => passAt (takes_of rfl rfl rfl rfl) σ) (h z)) (ps_cons (p_nm (fun _ => pv 0)) (ps_cons p_int ps_nil))))) (s_cons (s_set (i := 2) (R := PEf _ _) (fun t h z => ps_set nd rfl (.inl rfl) (h z)) (EV.prm (v_op (fun _ => op_sub) o_sub (v_op (fun _ => op_modN) o_mod (v_op (fun _ => op_fdivX) o_fdiv (v_nm (fun _ => pv 1)) v_int) (v_op (fun _ => op_addX) o_add (v_op (fun _ => op_mulX) o_mul v_int (v_op (fun _ => op_pow) o_pow v_int v_int)) v_int)) (v_op (fun _ => op_pow) o_pow v_int v_int)))) (s_cons (s_if (t_cmp (fun _ => op_eqD hr.units) o_eq (nomark _) (v_op (fun _ => op_modN) o_mod (v_nm (fun _ => pv 1)) v_int) v_int) (s_one (s_set (i := 2) (R := PEf _ _) (fun t h z => ps_set nd rfl (.inl rfl) (h z)) (EV.prm (v_op (fun _ => op_sub) o_sub (v_op (fun _ => op_modN) o_mod (v_op (fun _ => op_fdivX) o_fdiv (v_nm (fun _ => pv 1)) v_int) v_int) v_int)))) s_nil) (s_cons (s_asg (R := PEf _ _) (fun t u h k z => ps_asg (h z) (k z)) (g_tup (n := 2) (fun t h z => pg_tup rfl (h z)) (gs_cons (g_nm (fun z => pg_name (i := 3) nd rfl (.inl rfl))) (gs_cons (g_nm (fun z => pg_name (i := 4) nd rfl (.inl rfl))) gs_nil))) (EF.p (f_call (fun t h z => pe_callS C__law_pair.F (hr.mono (by decide)) (by rfl) C__law_pair.g C__law_pair.kp C__law_pair.b (fun σ => passAt (takes_of rfl rfl rfl rfl) σ) (h z)) (ps_cons (EF.p (f_slice (p_nm (fun _ => pv 0)) (o_some v_int) (o_some v_int))) ps_nil)))) (s_cons (s_set (i := 3) (R := PEf _ _) (fun t h z => ps_set nd rfl (.inl rfl) (h z)) (EV.prm (v_op (fun _ => op_mulX) o_mul (v_nm (fun _ => pv 3)) (v_nm (fun _ => pv 2))))) (s_cons (s_set (i := 4) (R := PEf _ _) (fun t h z => ps_set nd rfl (.inl rfl) (h z)) (EV.prm (v_op (fun _ => op_mulX) o_mul (v_nm (fun _ => pv 4)) (v_nm (fun _ => pv 2))))) (s_cons (s_set (i := 5) (R := PEf _ _) (fun t h z => ps_set nd rfl (.inl rfl) (h z)) (EV.prm (v_call1 (r := rAbs) (fun t h z => pe_callB call_abs (by rfl) T.b_abs (by decide +kernel) (h z)) o_abs (v_nm (fun _ => pv 2))))) (s_cons (s_if (t_w (w_or (t_not (t_val (EP.v (EF.p (f_call (fun t h z => pe_callS C__law_good.F (hr.mono (by decide)) (by rfl) C__law_good.g C__law_good.kp C__law_good.b (fun σ => passAt (takes_of rfl rfl rfl rfl) σ) (h z)) (ps_cons (p_nm (fun _ => pv 3)) (ps_cons (p_nm (fun _ => pv 4)) (ps_cons (p_nm (fun _ => pv 5)) ps_nil)))))))) (w_or1 (t_not (t_val (EP.v (EF.p (f_call (fun t h z => pe_callS C__law_good.F (hr.mono (by decide)) (by rfl) C__law_good.g C__law_good.kp C__law_good.b (fun σ => passAt (takes_of rfl rfl rfl rfl) σ) (h z)) (ps_cons (p_nm (fun _ => pv 4)) (ps_cons (p_nm (fun _ => pv 3)) (ps_cons (p_nm (fun _ => pv 5)) ps_nil))))))))))) (s_one (s_ret (R := PEf _ _) (fun t h z => ps_ret (h z)) (EP.f p_bl))) s_nil) (s_cons (s_if (t_w (w_or (t_not (t_val (EP.v (EF.p (f_call (fun t h z => pe_callS C__law_good.F (hr.mono (by decide)) (by rfl) C__law_good.g C__law_good.kp C__law_good.b (fun σ => passAt (takes_of rfl rfl rfl rfl) σ) (h z)) (ps_cons (EV.prm (v_un (fun _ => un_neg) o_neg (v_nm (fun _ => pv 3)))) (ps_cons (p_nm (fun _ => pv 4)) (ps_cons (p_nm (fun _ => pv 5)) ps_nil)))))))) (w_or1 (t_not (t_val (EP.v (EF.p (f_call (fun t h z => pe_callS C__law_good.F (hr.mono (by decide)) (by rfl) C__law_good.g C__law_good.kp C__law_good.b (fun σ => passAt (takes_of rfl rfl rfl rfl) σ) (h z)) (ps_cons (p_nm (fun _ => pv 4)) (ps_cons (EV.prm (v_un (fun _ => un_neg) o_neg (v_nm (fun _ => pv 3)))) (ps_cons (p_nm (fun _ => pv 5)) ps_nil))))))))))) (s_one (s_ret (R := PEf _ _) (fun t h z => ps_ret (h z)) (EP.f p_bl))) s_nil) (s_cons (s_for (fun wi g tb a b c z => ps_for (passes_of rfl) rfl (a z) (b z) (c z)) (i_list (EF.p (f_lst (fs_cons (EP.f (p_nm (fun _ => pv 3))) (fs_cons (EP.f (p_nm (fun _ => pv 4))) fs_nil))))) (g_nm (fun z => pg_name (i := 6) nd rfl (.inl rfl))) (s_cons (s_if (t_not (t_val (EP.v (EF.p (f_call (fun t h z => pe_callS C__law_good.F (hr.mono (by decide)) (by rfl) C__law_good.g C__law_good.kp C__law_good.b (fun σ => passAt (takes_of rfl rfl rfl rfl) σ) (h z)) (ps_cons (p_nm (fun _ => pv 6)) (ps_cons (p_nm (fun _ => pv 6)) (ps_cons (EV.prm (v_call1 (r := rAbs) (fun t h z => pe_callB call_abs (by rfl) T.b_abs (by decide +kernel) (h z)) o_abs (v_nm (fun _ => pv 6)))) ps_nil)))))))) (s_one (s_ret (R := PEf _ _) (fun t h z => ps_ret (h z)) (EP.f p_bl))) s_nil) (s_one (s_if (t_w (w_or (t_not (t_val (EP.v (EF.p (f_call (fun t h z => pe_callS C__law_good.F (hr.mono (by decide)) (by rfl) C__law_good.g C__law_good.kp C__law_good.b (fun σ => passAt (takes_of rfl rfl rfl rfl) σ) (h z)) (ps_cons (p_nm (fun _ => pv 6)) (ps_cons p_int (ps_cons (EV.prm (v_call1 (r := rAbs) (fun t h z => pe_callB call_abs (by rfl) T.b_abs (by decide +kernel) (h z)) o_abs (v_nm (fun _ => pv 6)))) ps_nil)))))))) (w_or1 (t_not (t_val (EP.v (EF.p (f_call (fun t h z => pe_callS C__law_good.F (hr.mono (by decide)) (by rfl) C__law_good.g C__law_good.kp C__law_good.b (fun σ => passAt (takes_of rfl rfl rfl rfl) σ) (h z)) (ps_cons p_int (ps_cons (p_nm (fun _ => pv 6)) (ps_cons (EV.prm (v_call1 (r := rAbs) (fun t h z => pe_callB call_abs (by rfl) T.b_abs (by decide +kernel) (h z)) o_abs (v_nm (fun _ => pv 6)))) ps_nil))))))))))) (s_one (s_ret (R := PEf _ _) (fun t h z => ps_ret (h z)) (EP.f p_bl))) s_nil)))) (s_one (s_ret (R := PEf _ _) (fun t h z => ps_ret (h z)) (EP.f p_bl)))))))))))))
end
end M
/-! shared, as printed -/
namespace M
open PySem L2
def shSt (one other a b c e : Int) (m : Option O) : Sl := [some (.sh (.int one)), some (.sh (.int other)), some (.sh (.int a)), some (.sh (.int b)), some (.sh (.int c)), some (.sh (.int e)), m]
theorem sh_test (one other a b c e : Int) (m : Option O) : w_shared_1 (shSt one other a b c e m) = .ok (!decide (other = 0)) := by
  simp [w_shared_1, shSt]
theorem sh_turn {one other a b c e : Int} (m : Option O) (h1 : divOk one other = true) (h2 : mulOk (one.fdiv other) other = true) (h3 : mulOk (one.fdiv other) c = true) (h4 : mulOk (one.fdiv other) e = true) :
    l_shared_1 (shSt one other a b c e m) = .nx (shSt other (one - one.fdiv other * other) c e (a - one.fdiv other * c) (b - one.fdiv other * e) (some (.sh (.int (one.fdiv other))))) := by
  simp [l_shared_1, shSt, fdiv_int, mul_int, h1, h2, h3, h4]
theorem log_lt {i : Int} {n : Nat} (h : i.natAbs < 2 ^ n) (hn : n ≤ 9000) (h0 : i ≠ 0) : i.natAbs.log2 < 9000 := by
  have : i.natAbs.log2 < n := (Nat.log2_lt (by omega)).mpr h
  omega
theorem pow_mono {a b : Nat} (h : a ≤ b) : 2 ^ a ≤ 2 ^ b := Nat.pow_le_pow_right (by decide) h
theorem sh_loop {n : Nat} (hn : n ≤ 8990) {x y : Int} (hx : x.natAbs < 2 ^ n) (hy : y.natAbs < 2 ^ n) : ∀ (k : Nat) (one other a b c e : Int) (m : Option O), other.natAbs ≤ k → Eu x y one other a b c e →
    ∃ one' a' b' c' e' m', whileF w_shared_1 l_shared_1 (shSt one other a b c e m) = .nx (shSt one' 0 a' b' c' e' m') ∧ Eu x y one' 0 a' b' c' e' := by
  intro k
  induction k with
  | zero =>
    intro one other a b c e m hk h
    have : other = 0 := by omega
    subst this
    refine ⟨one, a, b, c, e, m, ?_, h⟩
    rw [whileF_eq, sh_test]
    rfl
  | succ k ih =>
    intro one other a b c e m hk h
    by_cases h0 : other = 0
    · subst h0
      refine ⟨one, a, b, c, e, m, ?_, h⟩
      rw [whileF_eq, sh_test]
      rfl
    · obtain ⟨s, lt⟩ := h.step h0
      obtain ⟨z1, z2, z3, z4, z5, z6⟩ := h.sizes hx hy
      have hq : (one.fdiv other).natAbs < 2 ^ (n + 2) := by
        have := fdiv_abs_le (a := one) h0
        have p : 2 ^ (n + 2) = 2 * 2 ^ (n + 1) := by rw [Nat.pow_succ, Nat.mul_comm]
        omega
      have q1 : divOk one other = true := divOk_log h0 (log_lt z2 (by omega) h0)
      have q2 : mulOk (one.fdiv other) other = true := mulOk_of hq z2 (by omega)
      have q3 : mulOk (one.fdiv other) c = true := mulOk_of hq z4 (by omega)
      have q4 : mulOk (one.fdiv other) e = true := mulOk_of hq z6 (by omega)
      obtain ⟨o', a', b', c', e', m', w, i⟩ := ih _ _ _ _ _ _ (some (.sh (.int (one.fdiv other)))) (by omega) s
      refine ⟨o', a', b', c', e', m', ?_, i⟩
      rw [whileF_eq, sh_test, sh_turn m q1 q2 q3 q4]
      simp only [h0, decide_false, Bool.not_false]
      exact w
theorem shared_spec {n : Nat} (hn : n ≤ 8990) {x y : Int} (hx : x.natAbs < 2 ^ n) (hy : y.natAbs < 2 ^ n) : ∃ d a b : Int, m_shared [.int x, .int y] = .ok (.tup [.sh (.int d), .sh (.int a), .sh (.int b)]) ∧ ShOk x y d a b := by
  obtain ⟨o', a', b', c', e', m', w, i⟩ := sh_loop hn hx hy y.natAbs x y 1 0 0 1 none (Nat.le_refl _) (.first x y)
  have g := i.g
  rw [Int.gcd_zero_right] at g
  have bb := i.bb.1
  have l := i.l1
  have ba := i.ba
  have st0 : ∀ f : Sl → Fl, (asgR (setTup 2 (setCons (setN 2) (setCons (setN 3) (setNil)))) (mapRs O.er (mapRs O.tup (consR (mapRs O.sh (.ok (.int 1))) (consR (mapRs O.sh (.ok (.int 0))) (.ok []))))) [some (.sh (.int x)), some (.sh (.int y)), none, none, none, none, none]).thn f = f [some (.sh (.int x)), some (.sh (.int y)), some (.sh (.int 1)), some (.sh (.int 0)), none, none, none] := fun f => by simp
  unfold shSt at w
  by_cases h : o' < 0
  · refine ⟨-o', -a', -b', ?_, by omega, ?_, by omega, by omega⟩
    · simp [m_shared, b_shared, w, h]
    · rw [Int.neg_mul, Int.neg_mul]; omega
  · refine ⟨o', a', b', ?_, by omega, l, ba, bb⟩
    simp [m_shared, b_shared, w, h]
end M

namespace M
open PySem L2
theorem cell_at (ns : List Int) {j : Int} (h : 0 ≤ j) : m__law_cell_at [.scr ns, .int j] = .ok (.sh (.int (ns.getD j.toNat 0))) := by
  by_cases c : j < (ns.length : Int)
  · have hj : j.toNat < ns.length := by omega
    have e : atI ns j = some ns[j.toNat] := by
      have := atI_ofNat (xs := ns) hj
      rw [Int.toNat_of_nonneg h] at this
      exact this
    simp [m__law_cell_at, b__law_cell_at, c, e, hj]
  · have hj : ns.length ≤ j.toNat := by omega
    simp [m__law_cell_at, b__law_cell_at, c, hj]
theorem whole_int (i : Int) : m__law_whole [.int i] = .ok (.sh (.bl true)) := by
  simp [m__law_whole, b__law_whole]
end M

-- PRE: math_shared
-- POST: post_shared post_cellat
/-! the law of shared -/
namespace M
open PySem L2
theorem ShOk.sizes {x y d a b : Int} (h : ShOk x y d a b) {n : Nat} (hx : x.natAbs < 2 ^ n) (hy : y.natAbs < 2 ^ n) : a.natAbs < 2 ^ (n + 1) ∧ b.natAbs < 2 ^ (2 * n + 3) := by
  have p1 : 2 ^ (n + 1) = 2 * 2 ^ n := by rw [Nat.pow_succ, Nat.mul_comm]
  have p0 : 1 ≤ 2 ^ n := Nat.one_le_two_pow
  have ba := h.ba
  have bb := h.bb
  have p2 : 2 ^ (2 * n + 3) = 8 * (2 ^ n * 2 ^ n) := by
    rw [Nat.pow_add, Nat.two_mul, Nat.pow_add, Nat.mul_comm]
  have k1 : (y.natAbs + 1) * x.natAbs ≤ 2 ^ n * 2 ^ n := Nat.mul_le_mul hy (Nat.le_of_lt hx)
  have k2 : 1 * 2 ^ n ≤ 2 ^ n * 2 ^ n := Nat.mul_le_mul_right _ p0
  rw [p1, p2]
  exact ⟨by omega, by omega⟩
theorem good_loop (st0 : Sl) (d a b : Int) : ∃ o, forF (setN 4) l__law_good_1 [.int d, .int a, .int b] (some (.sh (.int x)) :: some (.sh (.int y)) :: some (.sh (.int u)) :: some (.sh (.tup [.int d, .int a, .int b])) :: none :: []) =
    .nx (some (.sh (.int x)) :: some (.sh (.int y)) :: some (.sh (.int u)) :: some (.sh (.tup [.int d, .int a, .int b])) :: o :: []) := by
  refine ⟨some (.sh (.int b)), ?_⟩
  simp [forF, l__law_good_1, whole_int]
theorem good_eq {n : Nat} (hn : n ≤ 8990) {x y u : Int} (hx : x.natAbs < 2 ^ n) (hy : y.natAbs < 2 ^ n) (hu : (Int.gcd x y : Int) = u) : m__law_good [.int x, .int y, .int u] = .ok (.sh (.bl true)) := by
  obtain ⟨d, a, b, e, h⟩ := shared_spec hn hx hy
  have hd := h.dg
  have hl := h.l
  obtain ⟨s1, s2⟩ := h.sizes hx hy
  have m1 : mulOk a x = true := mulOk_of s1 hx (by omega)
  have m2 : mulOk b y = true := mulOk_of s2 hy (by omega)
  obtain rfl : d = u := by omega
  obtain ⟨o, ho⟩ := good_loop (x := x) (y := y) (u := d) [] d a b
  have i0 : atI [D.int d, D.int a, D.int b] 0 = some (.int d) := rfl
  have i1 : atI [D.int d, D.int a, D.int b] 1 = some (.int a) := rfl
  have i2 : atI [D.int d, D.int a, D.int b] 2 = some (.int b) := rfl
  simp [m__law_good, b__law_good, e, ho, i0, i1, i2, mul_int, m1, m2, hl]
def pairF : List Int → Int × Int → Int × Int
  | [], p => p
  | c :: cs, (one, other) => pairF cs (one * (c.fmod 100 - 50) + other, one)
theorem pair_loop : ∀ (cs : List Int) (one other : Int) (o : Option O) (v : D), ∃ o', forF (setN 3) l__law_pair_1 (cs.map D.int) [some (.sh v), some (.sh (.int one)), some (.sh (.int other)), o] = .nx [some (.sh v), some (.sh (.int (pairF cs (one, other)).1)), some (.sh (.int (pairF cs (one, other)).2)), o']
  | [], one, other, o, v => ⟨o, rfl⟩
  | c :: cs, one, other, o, v => by
    obtain ⟨o', h⟩ := pair_loop cs (one * (c.fmod 100 - 50) + other) one (some (.sh (.int c))) v
    refine ⟨o', ?_⟩
    have hc : mulOk one (c.fmod 100 - 50) = true := mulOk_right (by
      rw [fmod_pos (by decide)]
      omega)
    simp only [List.map_cons, forF]
    have t : setN 3 (.int c) [some (.sh v), some (.sh (.int one)), some (.sh (.int other)), o] = some [some (.sh v), some (.sh (.int one)), some (.sh (.int other)), some (.sh (.int c))] := rfl
    rw [t]
    have b : l__law_pair_1 [some (.sh v), some (.sh (.int one)), some (.sh (.int other)), some (.sh (.int c))] = .nx [some (.sh v), some (.sh (.int (one * (c.fmod 100 - 50) + other))), some (.sh (.int one)), some (.sh (.int c))] := by
      simp [l__law_pair_1, mul_int, hc]
    simp only [b]
    exact h
theorem pair_ok : ∀ (cs : List Int) (k : Nat) (p : Int × Int), p.1.natAbs < 2 ^ k → p.2.natAbs < 2 ^ k → Int.gcd p.1 p.2 = 1 → (pairF cs p).1.natAbs < 2 ^ (k + 6 * cs.length) ∧ (pairF cs p).2.natAbs < 2 ^ (k + 6 * cs.length) ∧ Int.gcd (pairF cs p).1 (pairF cs p).2 = 1
  | [], k, p, h1, h2, g => ⟨h1, h2, g⟩
  | c :: cs, k, (one, other), h1, h2, g => by
    have e : k + 6 * (c :: cs).length = (k + 6) + 6 * cs.length := by rw [List.length_cons]; omega
    rw [e]
    have p6 : 2 ^ (k + 6) = 64 * 2 ^ k := by rw [Nat.pow_add, Nat.mul_comm]
    have hc : (c.fmod 100 - 50).natAbs ≤ 50 := by
      rw [fmod_pos (by decide)]
      omega
    have hm : (one * (c.fmod 100 - 50)).natAbs ≤ 2 ^ k * 50 := by
      rw [Int.natAbs_mul]
      exact Nat.mul_le_mul (Nat.le_of_lt h1) hc
    refine pair_ok cs (k + 6) (one * (c.fmod 100 - 50) + other, one) ?_ ?_ ?_
    · rw [p6]
      show (one * (c.fmod 100 - 50) + other).natAbs < _
      have h2 : other.natAbs < 2 ^ k := h2
      omega
    · rw [p6]
      show one.natAbs < _
      have h1 : one.natAbs < 2 ^ k := h1
      omega
    · show Int.gcd (one * (c.fmod 100 - 50) + other) one = 1
      have g : Int.gcd one other = 1 := g
      rw [Int.gcd_comm, Int.add_comm, Int.gcd_add_mul_left_right]
      exact g
theorem pair_eq (ns : List Int) : m__law_pair [.lst (ns.map D.int)] = .ok (.tup [.sh (.int (pairF ns (1, 0)).1), .sh (.int (pairF ns (1, 0)).2)]) := by
  obtain ⟨o', h⟩ := pair_loop ns 1 0 none (.lst (ns.map D.int))
  simp [m__law_pair, b__law_pair, h]
def commonL (c : Int) : Int := if c % 5 = 0 then c / 5 % 13 - 6 else c / 5 % (2 * 10 ^ 60 + 1) - 10 ^ 60
theorem common_le (c : Int) : (commonL c).natAbs < 2 ^ 200 := by
  have e : (10 : Int) ^ 60 = 1000000000000000000000000000000000000000000000000000000000000 := by decide
  have e2 : (2 : Nat) ^ 200 = 1606938044258990275541962092341162602522202993782792835301376 := by decide
  unfold commonL
  rw [e, e2]
  split <;> omega
theorem gcd_scaled {p q c : Int} (h : Int.gcd p q = 1) : (Int.gcd (p * c) (q * c) : Int) = (c.natAbs : Int) := by
  rw [Int.gcd_mul_right, h, Nat.one_mul]
theorem abs_ite (c : Int) : (if c < 0 then -c else c) = (c.natAbs : Int) := by
  split <;> omega
theorem cut_1_61 (ns : List Int) : ∃ cs : List Int, cutL (ns.map D.int) (some 1) (some 61) = cs.map D.int ∧ cs.length ≤ 60 := ⟨(ns.drop 1).take 60, by
    rw [cutL_mid _ (by decide) (by decide), List.map_take, List.map_drop]
    rfl, List.length_take_le ..⟩
theorem common_eq (c : Int) (st : Sl → Fl) (ns : List Int) : ((setO 2 (mapRs O.sh (asPrim (bin2 subD (bin2 modD (bin2 fdivD (getV 1 [some (.sh (.scr ns)), some (.sh (.int c)), none, none, none, none, none]) (.ok (.int 5))) (bin2 addD (bin2 mulD (.ok (.int 2)) (bin2 powD (.ok (.int 10)) (.ok (.int 60)))) (.ok (.int 1)))) (bin2 powD (.ok (.int 10)) (.ok (.int 60)))))) [some (.sh (.scr ns)), some (.sh (.int c)), none, none, none, none, none]).thn (fun st1 => (ifS (asB (bin2 eqD (bin2 modD (getV 1 st1) (.ok (.int 5))) (.ok (.int 0)))) (setO 2 (mapRs O.sh (asPrim (bin2 subD (bin2 modD (bin2 fdivD (getV 1 st1) (.ok (.int 5))) (.ok (.int 13))) (.ok (.int 6))))) st1) (.nx st1)).thn st)) = st [some (.sh (.scr ns)), some (.sh (.int c)), some (.sh (.int (commonL c))), none, none, none, none] := by
  unfold commonL
  simp [fdiv_int, mul_int, divOk_small, mulOk_left, powOk, Int.fmod_eq_emod_of_nonneg, Int.fdiv_eq_ediv_of_nonneg, thn_ite]
  split <;> rfl
theorem abs_lt {c : Int} {n : Nat} (h : c.natAbs < 2 ^ n) : (-c).natAbs < 2 ^ n := by omega
theorem law_true (ns : List Int) (h : ns.length ≤ 63) : m_law [.scr ns] = .ok (.sh (.bl true)) := by
  obtain ⟨cs, hc, hl⟩ := cut_1_61 ns
  obtain ⟨p1, p2, p3⟩ := pair_ok cs 1 (1, 0) (by decide) (by decide) (by decide)
  have hk : 2 ^ (1 + 6 * cs.length) ≤ 2 ^ 361 := pow_mono (by omega)
  have ep := pair_eq cs
  generalize (pairF cs (1, 0)).1 = p at *
  generalize (pairF cs (1, 0)).2 = q at *
  have ec := cell_at ns (j := 0) (by decide)
  generalize ns.getD (0 : Int).toNat 0 = c0 at *
  have hco := common_le c0
  have e0 := fun st => common_eq c0 st ns
  generalize commonL c0 = c at *
  have hp : p.natAbs < 2 ^ 361 := Nat.lt_of_lt_of_le p1 hk
  have hq : q.natAbs < 2 ^ 361 := Nat.lt_of_lt_of_le p2 hk
  have m1 : mulOk p c = true := mulOk_of hp hco (by decide)
  have m2 : mulOk q c = true := mulOk_of hq hco (by decide)
  have bp : (p * c).natAbs < 2 ^ 561 := by rw [Int.natAbs_mul, show (561 : Nat) = 361 + 200 from rfl, Nat.pow_add]; exact Nat.mul_lt_mul'' hp hco
  have bq : (q * c).natAbs < 2 ^ 561 := by rw [Int.natAbs_mul, show (561 : Nat) = 361 + 200 from rfl, Nat.pow_add]; exact Nat.mul_lt_mul'' hq hco
  have gx := gcd_scaled (c := c) p3
  have bz : (0 : Int).natAbs < 2 ^ 561 := by decide
  generalize hx : p * c = x at *
  generalize hy : q * c = y at *
  have n561 : 561 ≤ 8990 := by decide
  have g1 := good_eq n561 bp bq gx
  have g2 := good_eq n561 bq bp (by rw [Int.gcd_comm, gx])
  have g3 := good_eq n561 (abs_lt bp) bq (by rw [Int.neg_gcd, gx])
  have g4 := good_eq n561 bq (abs_lt bp) (by rw [Int.gcd_comm, Int.neg_gcd, gx])
  have s1 := good_eq n561 bp bp (u := (x.natAbs : Int)) (by rw [Int.gcd_self])
  have s2 := good_eq n561 bq bq (u := (y.natAbs : Int)) (by rw [Int.gcd_self])
  have z1 := good_eq n561 bp bz (u := (x.natAbs : Int)) (by rw [Int.gcd_zero_right])
  have z2 := good_eq n561 bq bz (u := (y.natAbs : Int)) (by rw [Int.gcd_zero_right])
  have z3 := good_eq n561 bz bp (u := (x.natAbs : Int)) (by rw [Int.gcd_zero_left])
  have z4 := good_eq n561 bz bq (u := (y.natAbs : Int)) (by rw [Int.gcd_zero_left])
  have lp : ∀ a b c1 d o, forF (setN 6) l_law_1 [.int x, .int y] [a, b, c1, d, some (.sh (.int y)), some (.sh (.int (c.natAbs : Int))), o] = .nx [a, b, c1, d, some (.sh (.int y)), some (.sh (.int (c.natAbs : Int))), some (.sh (.int y))] := by
    intro a b c1 d o
    simp [forF, l_law_1, abs_ite, s1, s2, z1, z2, z3, z4]
  simp only [m_law, runD_1]
  unfold b_law
  rw [show (setO 1 (mapRs O.sh (mapRs O.er (callR 2 m__law_cell_at (consR (getP 0 (some (.sh (.scr ns)) :: List.replicate (7 - 1) none)) (consR (.ok (.int 0)) (.ok [])))))) (some (.sh (.scr ns)) :: List.replicate (7 - 1) none)) = .nx [some (.sh (.scr ns)), some (.sh (.int c0)), none, none, none, none, none] from by simp [ec], thn_nx]
  rw [e0]
  simp [hc, ep, m1, m2, mul_int, hx, hy, abs_ite, g1, g2, g3, g4, lp]
end M

namespace M
open PySem L2
section
end
theorem all_mk {P : Program} {w : World} {K : PySem.W.Frag} {h : Heap} {mg : Str → Option Value} {fa : Addr} (X : K.In h) (G : h.Ns mainGlobals mg) (hfa : mg "law" = some (.ref fa))
    {od_shared an_shared : Option Addr} {sl_shared : Array (Option Value)} {oc_shared kV_shared dc_shared pm_shared cd_shared ct_shared : Value} {f_shared : Addr} (a_shared : PySem.W.nsIn K mainGlobals "shared" = some (some (.ref f_shared))) (l_shared : K.lookup f_shared = some ⟨oc_shared, od_shared, .func (PySem.W.fnOf "shared" "shared" (defArgs s_shared) (defBody s_shared) (defScope s_shared) .none kV_shared dc_shared pm_shared an_shared cd_shared ct_shared), sl_shared⟩) (c_shared : PySem.W.codeIn K cd_shared "shared" = true) (k_shared : PySem.W.keepIn K (.ref f_shared) = true)
    {od__law_cell_at an__law_cell_at : Option Addr} {sl__law_cell_at : Array (Option Value)} {oc__law_cell_at kV__law_cell_at dc__law_cell_at pm__law_cell_at cd__law_cell_at ct__law_cell_at : Value} {f__law_cell_at : Addr} (a__law_cell_at : PySem.W.nsIn K mainGlobals "_law_cell_at" = some (some (.ref f__law_cell_at))) (l__law_cell_at : K.lookup f__law_cell_at = some ⟨oc__law_cell_at, od__law_cell_at, .func (PySem.W.fnOf "_law_cell_at" "_law_cell_at" (defArgs s__law_cell_at) (defBody s__law_cell_at) (defScope s__law_cell_at) .none kV__law_cell_at dc__law_cell_at pm__law_cell_at an__law_cell_at cd__law_cell_at ct__law_cell_at), sl__law_cell_at⟩) (c__law_cell_at : PySem.W.codeIn K cd__law_cell_at "_law_cell_at" = true) (k__law_cell_at : PySem.W.keepIn K (.ref f__law_cell_at) = true)
    {od__law_whole an__law_whole : Option Addr} {sl__law_whole : Array (Option Value)} {oc__law_whole kV__law_whole dc__law_whole pm__law_whole cd__law_whole ct__law_whole : Value} {f__law_whole : Addr} (a__law_whole : PySem.W.nsIn K mainGlobals "_law_whole" = some (some (.ref f__law_whole))) (l__law_whole : K.lookup f__law_whole = some ⟨oc__law_whole, od__law_whole, .func (PySem.W.fnOf "_law_whole" "_law_whole" (defArgs s__law_whole) (defBody s__law_whole) (defScope s__law_whole) .none kV__law_whole dc__law_whole pm__law_whole an__law_whole cd__law_whole ct__law_whole), sl__law_whole⟩) (c__law_whole : PySem.W.codeIn K cd__law_whole "_law_whole" = true) (k__law_whole : PySem.W.keepIn K (.ref f__law_whole) = true)
    {od__law_pair an__law_pair : Option Addr} {sl__law_pair : Array (Option Value)} {oc__law_pair kV__law_pair dc__law_pair pm__law_pair cd__law_pair ct__law_pair : Value} {f__law_pair : Addr} (a__law_pair : PySem.W.nsIn K mainGlobals "_law_pair" = some (some (.ref f__law_pair))) (l__law_pair : K.lookup f__law_pair = some ⟨oc__law_pair, od__law_pair, .func (PySem.W.fnOf "_law_pair" "_law_pair" (defArgs s__law_pair) (defBody s__law_pair) (defScope s__law_pair) .none kV__law_pair dc__law_pair pm__law_pair an__law_pair cd__law_pair ct__law_pair), sl__law_pair⟩) (c__law_pair : PySem.W.codeIn K cd__law_pair "_law_pair" = true) (k__law_pair : PySem.W.keepIn K (.ref f__law_pair) = true)
    {od__law_good an__law_good : Option Addr} {sl__law_good : Array (Option Value)} {oc__law_good kV__law_good dc__law_good pm__law_good cd__law_good ct__law_good : Value} {f__law_good : Addr} (a__law_good : PySem.W.nsIn K mainGlobals "_law_good" = some (some (.ref f__law_good))) (l__law_good : K.lookup f__law_good = some ⟨oc__law_good, od__law_good, .func (PySem.W.fnOf "_law_good" "_law_good" (defArgs s__law_good) (defBody s__law_good) (defScope s__law_good) .none kV__law_good dc__law_good pm__law_good an__law_good cd__law_good ct__law_good), sl__law_good⟩) (c__law_good : PySem.W.codeIn K cd__law_good "_law_good" = true) (k__law_good : PySem.W.keepIn K (.ref f__law_good) = true)
    {od_law an_law : Option Addr} {sl_law : Array (Option Value)} {oc_law kV_law dc_law pm_law cd_law ct_law : Value} {f_law : Addr} (a_law : PySem.W.nsIn K mainGlobals "law" = some (some (.ref f_law))) (l_law : K.lookup f_law = some ⟨oc_law, od_law, .func (PySem.W.fnOf "law" "law" (defArgs s_law) (defBody s_law) (defScope s_law) .none kV_law dc_law pm_law an_law cd_law ct_law), sl_law⟩) (c_law : PySem.W.codeIn K cd_law "law" = true) (k_law : PySem.W.keepIn K (.ref f_law) = true)
    (z_abs : PySem.W.nsIn K mainGlobals "abs" = some none)
    (z_bool : PySem.W.nsIn K mainGlobals "bool" = some none)
    (z_int : PySem.W.nsIn K mainGlobals "int" = some none)
    (z_isinstance : PySem.W.nsIn K mainGlobals "isinstance" = some none)
    (z_len : PySem.W.nsIn K mainGlobals "len" = some none)
    (z_tuple : PySem.W.nsIn K mainGlobals "tuple" = some none) :
    ∃ fd : FuncData, (∀ (s : Shared) (v : Value), BindsTo s fd ⟨[v], []⟩ [("script", v)]) ∧ ∀ base : Heap, K.In base → base.Ns mainGlobals mg → FnOk P w K mg base (L2.CX P w) 3 fa fd ["script"] (SpD K (fun _ => 0) 1 m_law) := by
  have e := hfa.symm.trans (PySem.W.mg_of X G a_law)
  cases e
  have T : Txt mg := ⟨PySem.W.mg_none_of X G z_abs, PySem.W.mg_none_of X G z_bool, PySem.W.mg_none_of X G z_int, PySem.W.mg_none_of X G z_isinstance, PySem.W.mg_none_of X G z_len, PySem.W.mg_none_of X G z_tuple⟩
  have F_shared := fun_mk (st := s_shared) l_shared c_shared k_shared
  have B_shared := F_shared.binds (ps := ["one", "other"]) fun _ _ _ _ _ _ us hl => match us, hl with | [_, _], _ => rfl
  have F__law_cell_at := fun_mk (st := s__law_cell_at) l__law_cell_at c__law_cell_at k__law_cell_at
  have B__law_cell_at := F__law_cell_at.binds (ps := ["script", "k"]) fun _ _ _ _ _ _ us hl => match us, hl with | [_, _], _ => rfl
  have F__law_whole := fun_mk (st := s__law_whole) l__law_whole c__law_whole k__law_whole
  have B__law_whole := F__law_whole.binds (ps := ["found"]) fun _ _ _ _ _ _ us hl => match us, hl with | [_], _ => rfl
  have F__law_pair := fun_mk (st := s__law_pair) l__law_pair c__law_pair k__law_pair
  have B__law_pair := F__law_pair.binds (ps := ["cells"]) fun _ _ _ _ _ _ us hl => match us, hl with | [_], _ => rfl
  have F__law_good := fun_mk (st := s__law_good) l__law_good c__law_good k__law_good
  have B__law_good := F__law_good.binds (ps := ["one", "other", "due"]) fun _ _ _ _ _ _ us hl => match us, hl with | [_, _, _], _ => rfl
  have F_law := fun_mk (st := s_law) l_law c_law k_law
  have B_law := F_law.binds (ps := ["script"]) fun _ _ _ _ _ _ us hl => match us, hl with | [_], _ => rfl
  refine ⟨PySem.W.fnOf "law" "law" (defArgs s_law) (defBody s_law) (defScope s_law) .none kV_law dc_law pm_law an_law cd_law ct_law, fun s v => .of_eq rfl, fun base _ _ => ?_⟩
  have C_shared := d_shared (P := P) (w := w) (base := base) (cl := fun _ => 0) T F_shared (PySem.W.mg_of X G a_shared) B_shared 
  have C__law_cell_at := d__law_cell_at (P := P) (w := w) (base := base) (cl := fun _ => 0) T F__law_cell_at (PySem.W.mg_of X G a__law_cell_at) B__law_cell_at 
  have C__law_whole := d__law_whole (P := P) (w := w) (base := base) (cl := fun _ => 0) T F__law_whole (PySem.W.mg_of X G a__law_whole) B__law_whole 
  have C__law_pair := d__law_pair (P := P) (w := w) (base := base) (cl := fun _ => 0) T F__law_pair (PySem.W.mg_of X G a__law_pair) B__law_pair 
  have C__law_good := d__law_good (P := P) (w := w) (base := base) (cl := fun _ => 0) T F__law_good (PySem.W.mg_of X G a__law_good) B__law_good C_shared C__law_whole
  have C_law := d_law (P := P) (w := w) (base := base) (cl := fun _ => 0) T F_law (PySem.W.mg_of X G a_law) B_law C__law_cell_at C__law_pair C__law_good
  exact C_law.F
theorem walk {l : PySem.W.OpenLaw} {q : Program} {loose : List Str} {XP : (Str → Option Value) → Heap → Prop} {YP : World → Heap → Prop} {d : DefRec} {K : Params → PySem.W.Frag} (hn : l.most = some 63) (hdf : d.params.defaults = [])
    (hlaw : ∀ ns : List Int, ns.length ≤ 63 → m_law [.scr ns] = .ok (.sh (.bl true)))
    (hY : ∀ (w : World) (h : Heap), YP w h → (K w.params).In h)
    (F : ∀ (w : World) (mg : Str → Option Value) (fa : Addr) (h : Heap), (K w.params).In h → h.Ns mainGlobals mg → mg d.name = some (.ref fa) →
      ∃ fd : FuncData, (∀ (s : Shared) (u : Value), BindsTo s fd ⟨[u], []⟩ [("script", u)]) ∧ ∀ base : Heap, (K w.params).In base → base.Ns mainGlobals mg → FnOk l.prog w (K w.params) mg base (L2.CX l.prog w) 3 fa fd ["script"] (SpD (K w.params) (fun _ => 0) 1 m_law)) :
    PySem.W.WalkO q loose XP YP l.row.toRowW d [] (fun f vs => PySem.call f vs) :=
  law_end hn (by decide) hdf ⟨rfl, by decide, by decide⟩ hlaw hY F
end M
open PySem PySem.W PyProof.Rows
set_option maxRecDepth 100000 in
set_option maxHeartbeats 0 in
theorem PySem.Challenge.cw_swapmart_k01_shared_holds : PySem.Challenge.rw_swapmart_k01_shared.Holds := by
  w_on; o_law; k_head; (case hw => w_witness2)
  k_fill
  refine M.walk (l := PySem.Challenge.rw_swapmart_k01_shared) rfl rfl M.law_true (fun w h Y => PySem.W.kIn_of Y) ?F
  case F =>
    intro w mg fa h KX G hmg
    refine' M.all_mk KX G hmg ?a_shared ?l_shared ?c_shared ?k_shared ?a__law_cell_at ?l__law_cell_at ?c__law_cell_at ?k__law_cell_at ?a__law_whole ?l__law_whole ?c__law_whole ?k__law_whole ?a__law_pair ?l__law_pair ?c__law_pair ?k__law_pair ?a__law_good ?l__law_good ?c__law_good ?k__law_good ?a_law ?l_law ?c_law ?k_law ?z_abs ?z_bool ?z_int ?z_isinstance ?z_len ?z_tuple
    (case a_shared => k_is); (case l_shared => k_is); (case c_shared => k_is); (case k_shared => k_is)
    (case a__law_cell_at => k_is); (case l__law_cell_at => k_is); (case c__law_cell_at => k_is); (case k__law_cell_at => k_is)
    (case a__law_whole => k_is); (case l__law_whole => k_is); (case c__law_whole => k_is); (case k__law_whole => k_is)
    (case a__law_pair => k_is); (case l__law_pair => k_is); (case c__law_pair => k_is); (case k__law_pair => k_is)
    (case a__law_good => k_is); (case l__law_good => k_is); (case c__law_good => k_is); (case k__law_good => k_is)
    (case a_law => k_is); (case l_law => k_is); (case c_law => k_is); (case k_law => k_is)
    (case z_abs => k_is)
    (case z_bool => k_is)
    (case z_int => k_is)
    (case z_isinstance => k_is)
    (case z_len => k_is)
    (case z_tuple => k_is)
