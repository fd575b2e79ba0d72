import PyProof.Rows.All
import Wide.All
import OpenK.AllK
import Wide.FinOn
import HandS.ForMost
import HandS.ForExc
import HandS.Wide
import HandS.CallSlots
import HandS.HeadHook1
import HandS.SetFor
import HandS.Defaults
import HandS.Head0
import HandS.Head1
import HandS.Head2
import HandS.HeadEnd
import HandS.HeadHook2
import HandS.HeadHook4
import HandS.ExcIs
import HandS.IsInst
import HandS.SortInts
import PySem.Challenge.RW_quits_k66_no_order
set_option Elab.async false
set_option linter.all false
set_option maxRecDepth 100000
/-! A typed layer over the hand layer: a piece of Python as a plain Lean function (or a transformer of plain predicates), with how values lie in the heap said once, by kinds. -/
namespace D
open PySem L2

/-! ### heaps -/
def NT (o : Option HO) : Prop := ∃ u, o = some u ∧ ∀ xs, u ≠ .tup xs
def out (ms : List Addr) (H : Hp) : Hp := fun a => if a ∈ ms then none else H a
def fr (F H : Hp) : Hp := fun a => match F a with
  | none => H a
  | some (.tup _) => H a
  | some _ => none
theorem out_nil (H : Hp) : out [] H = H := by
  funext a
  simp [out]
theorem out_in {ms : List Addr} {H : Hp} {a : Addr} (h : a ∈ ms) : out ms H a = none := if_pos h
theorem out_ni {ms : List Addr} {H : Hp} {a : Addr} (h : a ∉ ms) : out ms H a = H a := if_neg h
theorem out_same {ms : List Addr} {H : Hp} : Same (out ms H) H := fun a o e => by
  by_cases h : a ∈ ms
  · rw [out_in h] at e; cases e
  · rw [out_ni h] at e; exact e
theorem out_mono {ms : List Addr} {H H' : Hp} (s : Same H H') : Same (out ms H) (out ms H') := fun a o e => by
  by_cases h : a ∈ ms
  · rw [out_in h] at e; cases e
  · rw [out_ni h] at e ⊢; exact s a o e
theorem out_sub {ms ms' : List Addr} {H : Hp} (s : ∀ a, a ∈ ms → a ∈ ms') : Same (out ms' H) (out ms H) := fun a o e => by
  by_cases h : a ∈ ms'
  · rw [out_in h] at e; cases e
  · rw [out_ni h] at e
    rw [out_ni fun z => h (s a z)]
    exact e
theorem out_upd {ms : List Addr} {H : Hp} {p : Addr} {o : HO} (h : p ∈ ms) : out ms (upd H p o) = out ms H := by
  funext a
  by_cases ha : a ∈ ms
  · rw [out_in ha, out_in ha]
  · rw [out_ni ha, out_ni ha, upd_ne (fun e => ha (by rw [e]; exact h))]
theorem fr_mono {F H H' : Hp} (s : Same H H') : Same (fr F H) (fr F H') := fun a o e => by
  unfold fr at e ⊢
  cases hf : F a with
  | none => rw [hf] at e; exact s a o e
  | some u =>
    rw [hf] at e
    cases u <;> first | exact s a o e | cases e
theorem fr_same {F H : Hp} : Same (fr F H) H := fun a o e => by
  unfold fr at e
  cases hf : F a with
  | none => rw [hf] at e; exact e
  | some u =>
    rw [hf] at e
    cases u <;> first | exact e | cases e
theorem fr_new {F H : Hp} {a : Addr} (h : F a = none) : fr F H a = H a := by
  unfold fr
  rw [h]
/-- what is fresh since a call is fresh since the entry, and apart from what is owned -/
theorem fr_call {F B H H' : Hp} {ms : List Addr} (fb : Same F B) (sb : Same B H) (nt : ∀ p ∈ ms, NT (H p)) (hs : Same H H') : Same (fr H H') (fr F (out ms H')) := fun a o e => by
  unfold fr at e
  have hm : a ∉ ms := fun z => by
    obtain ⟨u, hu, hn⟩ := nt a z
    rw [hu] at e
    cases u <;> first | cases e | exact hn _ rfl
  cases hh : H a with
  | none =>
    rw [hh] at e
    have hF : F a = none := by
      cases hf : F a with
      | none => rfl
      | some u =>
        have := sb a u (fb a u hf)
        rw [hh] at this
        cases this
    rw [fr_new hF, out_ni hm]
    exact e
  | some u =>
    rw [hh] at e
    cases u with
    | tup xs =>
      unfold fr
      cases hf : F a with
      | none => exact (out_ni hm).trans e
      | some u =>
        have := sb a u (fb a u hf)
        rw [hh] at this
        cases this
        exact (out_ni hm).trans e
    | _ => cases e

/-! ### Paired -/
theorem pr_len {α β : Type} {F : α → β → Prop} : ∀ {xs : List α} {ys : List β}, Paired F xs ys → xs.length = ys.length
  | _, _, .nil => rfl
  | _, _, .cons _ t => by rw [List.length_cons, List.length_cons, pr_len t]
theorem pr_get {α β : Type} {F : α → β → Prop} : ∀ {xs : List α} {ys : List β} {i : Nat} {y : β}, Paired F xs ys → ys[i]? = some y → ∃ x, xs[i]? = some x ∧ F x y
  | _, _, i, y, .nil, h => by simp at h
  | _, _, 0, y, .cons r t, h => by
    simp only [List.getElem?_cons_zero, Option.some.injEq] at h
    subst h
    exact ⟨_, rfl, r⟩
  | _, _, i + 1, y, .cons r t, h => by
    simp only [List.getElem?_cons_succ] at h ⊢
    exact pr_get t h
theorem pr_get' {α β : Type} {F : α → β → Prop} : ∀ {xs : List α} {ys : List β} {i : Nat} {x : α}, Paired F xs ys → xs[i]? = some x → ∃ y, ys[i]? = some y ∧ F x y
  | _, _, i, y, .nil, h => by simp at h
  | _, _, 0, y, .cons r t, h => by
    simp only [List.getElem?_cons_zero, Option.some.injEq] at h
    subst h
    exact ⟨_, rfl, r⟩
  | _, _, i + 1, y, .cons r t, h => by
    simp only [List.getElem?_cons_succ] at h ⊢
    exact pr_get' t h
theorem pr_set {α β : Type} {F : α → β → Prop} {x : α} {y : β} (r : F x y) : ∀ {xs : List α} {ys : List β} (i : Nat), Paired F xs ys → Paired F (xs.set i x) (ys.set i y)
  | _, _, _, .nil => .nil
  | _, _, 0, .cons _ t => .cons r t
  | _, _, i + 1, .cons q t => .cons q (pr_set r i t)
theorem pr_app {α β : Type} {F : α → β → Prop} : ∀ {xs zs : List α} {ys ws : List β}, Paired F xs ys → Paired F zs ws → Paired F (xs ++ zs) (ys ++ ws)
  | _, _, _, _, .nil, h => h
  | _, _, _, _, .cons r t, h => .cons r (pr_app t h)
theorem pr_take {α β : Type} {F : α → β → Prop} : ∀ {xs : List α} {ys : List β} (n : Nat), Paired F xs ys → Paired F (xs.take n) (ys.take n)
  | _, _, 0, _ => by simp only [List.take_zero]; exact .nil
  | _, _, _ + 1, .nil => .nil
  | _, _, n + 1, .cons r t => .cons r (pr_take n t)
theorem pr_drop {α β : Type} {F : α → β → Prop} : ∀ {xs : List α} {ys : List β} (n : Nat), Paired F xs ys → Paired F (xs.drop n) (ys.drop n)
  | _, _, 0, h => h
  | _, _, _ + 1, .nil => .nil
  | _, _, n + 1, .cons _ t => pr_drop n t
theorem pr_rev {α β : Type} {F : α → β → Prop} : ∀ {xs : List α} {ys : List β}, Paired F xs ys → Paired F xs.reverse ys.reverse
  | _, _, .nil => .nil
  | _, _, .cons r t => by
    rw [List.reverse_cons, List.reverse_cons]
    exact pr_app (pr_rev t) (.cons r .nil)
theorem pr_map {α β : Type} {F G : α → β → Prop} {l₁ : List α} {l₂ : List β} (z : Paired F l₁ l₂) (f : ∀ a b, F a b → G a b) : Paired G l₁ l₂ := L2.Paired.mapP z f

/-! ### how a value stands for plain data -/
structure Rp (α : Type) where
  rel : Hp → V → α → Prop
  mono : ∀ {h h' : Hp} {v : V} {x : α}, Same h h' → rel h v x → rel h' v x
/-- it leans on tuples alone -/
def TO {α : Type} (r : Rp α) : Prop := ∀ ⦃h h' : Hp⦄ ⦃v : V⦄ ⦃x : α⦄, (∀ a xs, h a = some (.tup xs) → h' a = some (.tup xs)) → r.rel h v x → r.rel h' v x
def Fl {α : Type} (r : Rp α) : Prop := ∀ ⦃h h' : Hp⦄ ⦃v : V⦄ ⦃x : α⦄, r.rel h v x → r.rel h' v x
theorem Fl.to {α : Type} {r : Rp α} (f : Fl r) : TO r := fun _ _ _ _ _ q => f q
def rInt : Rp Int := ⟨fun _ v x => v = .int x, fun _ h => h⟩
def rBool : Rp Bool := ⟨fun _ v x => v = .bl x, fun _ h => h⟩
def rStr : Rp Str := ⟨fun _ v x => v = .str x, fun _ h => h⟩
def rNon : Rp Unit := ⟨fun _ v _ => v = .non, fun _ h => h⟩
def rOpt {α : Type} (r : Rp α) : Rp (Option α) := ⟨fun h v x => match x with | none => v = .non | some y => v ≠ .non ∧ r.rel h v y, fun {h h' v x} s q => by
  cases x with
  | none => exact q
  | some y => exact ⟨q.1, r.mono s q.2⟩⟩
theorem fl_int : Fl rInt := fun _ _ _ _ h => h
theorem fl_bool : Fl rBool := fun _ _ _ _ h => h
theorem fl_str : Fl rStr := fun _ _ _ _ h => h
theorem fl_non : Fl rNon := fun _ _ _ _ h => h
theorem fl_opt {α : Type} {r : Rp α} (f : Fl r) : Fl (rOpt r) := fun h h' v x q => by
  cases x with
  | none => exact q
  | some y => exact ⟨q.1, f q.2⟩
theorem to_opt {α : Type} {r : Rp α} (f : TO r) : TO (rOpt r) := fun h h' v x s q => by
  cases x with
  | none => exact q
  | some y => exact ⟨q.1, f s q.2⟩
/-- the fields of a tuple -/
structure Fd (α : Type) where
  rel : Hp → List V → α → Prop
  mono : ∀ {h h' : Hp} {v : List V} {x : α}, Same h h' → rel h v x → rel h' v x
def TOf {α : Type} (r : Fd α) : Prop := ∀ ⦃h h' : Hp⦄ ⦃v : List V⦄ ⦃x : α⦄, (∀ a xs, h a = some (.tup xs) → h' a = some (.tup xs)) → r.rel h v x → r.rel h' v x
def f1 {α : Type} (r : Rp α) : Fd α := ⟨fun h vs x => ∃ v, vs = [v] ∧ r.rel h v x, fun s ⟨v, e, q⟩ => ⟨v, e, r.mono s q⟩⟩
def fc {α β : Type} (r : Rp α) (f : Fd β) : Fd (α × β) := ⟨fun h vs x => ∃ v ws, vs = v :: ws ∧ r.rel h v x.1 ∧ f.rel h ws x.2, fun s ⟨v, ws, e, q, z⟩ => ⟨v, ws, e, r.mono s q, f.mono s z⟩⟩
theorem tof_1 {α : Type} {r : Rp α} (t : TO r) : TOf (f1 r) := fun _ _ _ _ s ⟨v, e, q⟩ => ⟨v, e, t s q⟩
theorem tof_c {α β : Type} {r : Rp α} {f : Fd β} (t : TO r) (u : TOf f) : TOf (fc r f) := fun _ _ _ _ s ⟨v, ws, e, q, z⟩ => ⟨v, ws, e, t s q, u s z⟩
def rTup {α : Type} (f : Fd α) : Rp α := ⟨fun h v x => ∃ a vs, v = .ref a ∧ h a = some (.tup vs) ∧ f.rel h vs x, fun s ⟨a, vs, e, q, z⟩ => ⟨a, vs, e, s _ _ q, f.mono s z⟩⟩
theorem to_tup {α : Type} {f : Fd α} (t : TOf f) : TO (rTup f) := fun _ _ _ _ s ⟨a, vs, e, q, z⟩ => ⟨a, vs, e, s _ _ q, t s z⟩
def rList {α : Type} (r : Rp α) : Rp (List α) := ⟨fun h v xs => ∃ a vs, v = .ref a ∧ h a = some (.lst vs) ∧ Paired (r.rel h) vs xs, fun s ⟨a, vs, e, q, z⟩ => ⟨a, vs, e, s _ _ q, pr_map z fun _ _ y => r.mono s y⟩⟩
/-- a tuple of any length, all of one kind -/
def rTups {α : Type} (r : Rp α) : Rp (List α) := ⟨fun h v xs => ∃ a vs, v = .ref a ∧ h a = some (.tup vs) ∧ Paired (r.rel h) vs xs, fun s ⟨a, vs, e, q, z⟩ => ⟨a, vs, e, s _ _ q, pr_map z fun _ _ y => r.mono s y⟩⟩
theorem to_tups {α : Type} {r : Rp α} (t : TO r) : TO (rTups r) := fun _ _ _ _ s ⟨a, vs, e, q, z⟩ => ⟨a, vs, e, s _ _ q, pr_map z fun _ _ y => t s y⟩
theorem rOpt_some {α : Type} {r : Rp α} {h : Hp} {v : V} {y : α} (n : v ≠ .non) (q : r.rel h v y) : (rOpt r).rel h v (some y) := ⟨n, q⟩
theorem rTup_nn {α : Type} {f : Fd α} {h : Hp} {v : V} {x : α} (q : (rTup f).rel h v x) : v ≠ .non := by
  obtain ⟨a, vs, rfl, _⟩ := q
  intro z
  cases z

/-! ### Paired of scalars -/
theorem pr_int {h : Hp} : ∀ {vs : List V} {xs : List Int}, Paired (rInt.rel h) vs xs → vs = xs.map V.int
  | _, _, .nil => rfl
  | _, _, .cons r t => by rw [List.map_cons, ← pr_int t]; rw [show _ = V.int _ from r]
theorem pr_bool {h : Hp} : ∀ {vs : List V} {xs : List Bool}, Paired (rBool.rel h) vs xs → vs = xs.map V.bl
  | _, _, .nil => rfl
  | _, _, .cons r t => by rw [List.map_cons, ← pr_bool t]; rw [show _ = V.bl _ from r]
theorem pr_str {h : Hp} : ∀ {vs : List V} {xs : List Str}, Paired (rStr.rel h) vs xs → vs = xs.map V.str
  | _, _, .nil => rfl
  | _, _, .cons r t => by rw [List.map_cons, ← pr_str t]; rw [show _ = V.str _ from r]
theorem int_pr {h : Hp} : ∀ {xs : List Int}, Paired (rInt.rel h) (xs.map V.int) xs
  | [] => .nil
  | _ :: _ => .cons rfl int_pr
theorem str_pr {h : Hp} : ∀ {xs : List Str}, Paired (rStr.rel h) (xs.map V.str) xs
  | [] => .nil
  | _ :: _ => .cons rfl str_pr

/-! ### regions: everything, or what is fresh since F -/
structure Rg where
  fn : Hp → Hp
  mono : ∀ {h h' : Hp}, Same h h' → Same (fn h) (fn h')
  sub : ∀ {h : Hp}, Same (fn h) h
def gI : Rg := ⟨fun h => h, fun s => s, Same.refl _⟩
def gN (F : Hp) : Rg := ⟨fr F, fr_mono, fr_same⟩
/-- a value that leans on tuples alone lies in any region -/
theorem to_out {α : Type} {r : Rp α} (t : TO r) {ms : List Addr} {H : Hp} {v : V} {x : α} (nt : ∀ p ∈ ms, NT (H p)) (q : r.rel H v x) : r.rel (out ms H) v x := t (fun a xs e => by
  by_cases h : a ∈ ms
  · obtain ⟨u, hu, hn⟩ := nt a h
    rw [e] at hu
    cases hu
    exact absurd rfl (hn xs)
  · exact (out_ni h).trans e) q
theorem to_fr {α : Type} {r : Rp α} (t : TO r) {F H : Hp} {v : V} {x : α} (fs : ∀ a o, F a = some o → ∀ u, H a = some u → u = o) (q : r.rel H v x) : r.rel (fr F H) v x := t (fun a xs e => by
  unfold fr
  cases hf : F a with
  | none => exact e
  | some u =>
    have := fs a u hf _ e
    subst this
    exact e) q

/-! ### kinds of slots, contexts -/
structure Sk (α : Type) where
  rel : List Addr → Hp → Hp → Option V → α → Prop
  stable : ∀ {fp : List Addr} {hS hS' H H' : Hp} {o : Option V} {x : α}, Same hS hS' → (∀ p ∈ fp, H' p = H p) → rel fp hS H o x → rel fp hS' H' o x
  nt : ∀ {fp : List Addr} {hS H : Hp} {o : Option V} {x : α}, rel fp hS H o x → ∀ p ∈ fp, NT (H p)
def kI {α : Type} (g : Rg) (r : Rp α) : Sk α := ⟨fun fp hS _ o x => fp = [] ∧ ∃ v, o = some v ∧ r.rel (g.fn hS) v x, fun s _ ⟨e, v, ev, q⟩ => ⟨e, v, ev, r.mono (g.mono s) q⟩, fun ⟨e, _⟩ p hp => by subst e; cases hp⟩
def kAny : Sk Unit := ⟨fun fp _ _ _ _ => fp = [], fun _ _ e => e, fun e p hp => by subst e; cases hp⟩
/-- a list that is owned: it may change -/
def kL {α : Type} (g : Rg) (r : Rp α) : Sk (List α) := ⟨fun fp hS H o xs => ∃ p vs, fp = [p] ∧ o = some (.ref p) ∧ H p = some (.lst vs) ∧ Paired (r.rel (g.fn hS)) vs xs,
  fun s k ⟨p, vs, e, eo, q, z⟩ => ⟨p, vs, e, eo, (k p (by rw [e]; exact List.mem_singleton.mpr rfl)).trans q, pr_map z fun _ _ y => r.mono (g.mono s) y⟩,
  fun ⟨p, vs, e, eo, q, z⟩ a ha => by
    rw [e] at ha
    rw [List.mem_singleton.mp ha]
    exact ⟨_, q, fun xs z => by cases z⟩⟩
structure Ctx (E : Type) where
  rel : List Addr → Hp → St → Hp → E → Prop
  stable : ∀ {ms : List Addr} {hS hS' : Hp} {σ : St} {H H' : Hp} {e : E}, Same hS hS' → (∀ p ∈ ms, H' p = H p) → rel ms hS σ H e → rel ms hS' σ H' e
def cN : Ctx Unit := ⟨fun ms _ σ _ _ => ms = [] ∧ σ = [], fun _ _ q => q⟩
def cS {α E : Type} (s : Sk α) (Γ : Ctx E) : Ctx (α × E) := ⟨fun ms hS σ H e => ∃ o σ' fp ms', ms = fp ++ ms' ∧ σ = o :: σ' ∧ s.rel fp hS H o e.1 ∧ Γ.rel ms' hS σ' H e.2,
  fun a b ⟨o, σ', fp, ms', em, es, q, z⟩ => ⟨o, σ', fp, ms', em, es, s.stable a (fun p hp => b p (by rw [em]; exact List.mem_append_left _ hp)) q, Γ.stable a (fun p hp => b p (by rw [em]; exact List.mem_append_right _ hp)) z⟩⟩
structure St0 {E : Type} (Γ : Ctx E) (B : Hp) (ms : List Addr) (σ : St) (H : Hp) (e : E) : Prop where
  nd : ms.Nodup
  bn : ∀ p ∈ ms, B p = none
  sb : Same B H
  nt : ∀ p ∈ ms, NT (H p)
  r : ∃ m1, m1.Nodup ∧ (∀ p ∈ m1, p ∈ ms) ∧ Γ.rel m1 (out ms H) σ H e
theorem NT.same {H H' : Hp} {p : Addr} (s : Same H H') (n : NT (H p)) : H' p = H p := by
  obtain ⟨u, hu, _⟩ := n
  rw [hu]
  exact s p u hu
theorem St0.grow {E : Type} {Γ : Ctx E} {B H H' : Hp} {ms : List Addr} {σ : St} {e : E} (x : St0 Γ B ms σ H e) (s : Same H H') : St0 Γ B ms σ H' e := by
  obtain ⟨m1, n1, s1, r⟩ := x.r
  exact ⟨x.nd, x.bn, x.sb.trans s, fun p hp => by rw [(x.nt p hp).same s]; exact x.nt p hp, m1, n1, s1, Γ.stable (out_mono s) (fun p hp => (x.nt p (s1 p hp)).same s) r⟩

/-! ### places -/
def At {α E : Type} (Γ : Ctx E) (i : Nat) (s : Sk α) (get : E → α) : Prop := ∀ ⦃ms : List Addr⦄ ⦃hS : Hp⦄ ⦃σ : St⦄ ⦃H : Hp⦄ ⦃e : E⦄, Γ.rel ms hS σ H e → ∃ o fp, σ[i]? = some o ∧ (∀ p ∈ fp, p ∈ ms) ∧ s.rel fp hS H o (get e)
theorem a0 {α E : Type} {s : Sk α} {Γ : Ctx E} : At (cS s Γ) 0 s (fun e => e.1) := fun _ _ _ _ _ ⟨o, σ', fp, ms', em, es, q, z⟩ => ⟨o, fp, by rw [es]; rfl, fun p hp => by rw [em]; exact List.mem_append_left _ hp, q⟩
theorem aS {α β E : Type} {s : Sk α} {t : Sk β} {Γ : Ctx E} {i : Nat} {get : E → α} (h : At Γ i s get) : At (cS t Γ) (i + 1) s (fun e => get e.2) := fun _ _ _ _ _ ⟨o, σ', fp, ms', em, es, q, z⟩ => by
  obtain ⟨o', fp', e1, e2, e3⟩ := h z
  exact ⟨o', fp', by rw [es]; exact e1, fun p hp => by rw [em]; exact List.mem_append_right _ (e2 p hp), e3⟩
/-- another kind at a place -/
def Put {α E E' : Type} (Γ : Ctx E) (i : Nat) (s : Sk α) (Γ' : Ctx E') (set : E → α → E') : Prop := ∀ ⦃ms : List Addr⦄ ⦃hS : Hp⦄ ⦃σ : St⦄ ⦃H : Hp⦄ ⦃e : E⦄, Γ.rel ms hS σ H e →
  i < σ.length ∧ ∃ m1 m0 m2, ms = m1 ++ (m0 ++ m2) ∧ ∀ (fp : List Addr) (o : Option V) (x : α) (hS' H' : Hp), Same hS hS' → (∀ p, p ∈ m1 ∨ p ∈ m2 → H' p = H p) → s.rel fp hS' H' o x → Γ'.rel (m1 ++ (fp ++ m2)) hS' (σ.set i o) H' (set e x)
theorem p0 {α β E : Type} {s : Sk α} {t : Sk β} {Γ : Ctx E} : Put (cS t Γ) 0 s (cS s Γ) (fun e x => (x, e.2)) := fun _ _ _ _ _ ⟨o, σ', fp, ms', em, es, q, z⟩ => by
  refine ⟨by rw [es]; exact Nat.succ_pos _, [], fp, ms', em, fun fp' o' x hS' H' a b q' => ⟨o', σ', fp', ms', rfl, by rw [es]; rfl, q', Γ.stable a (fun p hp => b p (.inr hp)) z⟩⟩
theorem pS {α β E E' : Type} {s : Sk α} {t : Sk β} {Γ : Ctx E} {Γ' : Ctx E'} {i : Nat} {set : E → α → E'} (h : Put Γ i s Γ' set) : Put (cS t Γ) (i + 1) s (cS t Γ') (fun e x => (e.1, set e.2 x)) := fun _ _ _ _ _ ⟨o, σ', fp, ms', em, es, q, z⟩ => by
  obtain ⟨hi, m1, m0, m2, e1, k⟩ := h z
  refine ⟨by rw [es]; exact Nat.succ_lt_succ hi, fp ++ m1, m0, m2, by rw [em, e1, List.append_assoc], fun fp' o' x hS' H' a b q' => ?_⟩
  refine ⟨o, σ'.set i o', fp, m1 ++ (fp' ++ m2), by rw [List.append_assoc], by rw [es]; rfl, t.stable a (fun p hp => b p (.inl (List.mem_append_left _ hp))) q, k fp' o' x hS' H' a (fun p hp => b p (hp.imp (fun z => List.mem_append_right _ z) id)) q'⟩
/-- a context seen as a weaker one -/
def Sub {E E' : Type} (F : Hp) (Γ : Ctx E) (Γ' : Ctx E') (c : E → E') : Prop := ∀ ⦃ms : List Addr⦄ ⦃hS : Hp⦄ ⦃σ : St⦄ ⦃H : Hp⦄ ⦃e : E⦄, ms.Nodup → (∀ p ∈ ms, F p = none) → Γ.rel ms hS σ H e → ∃ m', m'.Sublist ms ∧ ∀ hS', Same hS hS' → (∀ p, p ∈ ms → p ∉ m' → hS' p = H p) → Γ'.rel m' hS' σ H (c e)
def SubK {α β : Type} (F : Hp) (s : Sk α) (t : Sk β) (c : α → β) : Prop := ∀ ⦃fp : List Addr⦄ ⦃hS H : Hp⦄ ⦃o : Option V⦄ ⦃x : α⦄, (∀ p ∈ fp, F p = none) → s.rel fp hS H o x → ∃ fp', fp'.Sublist fp ∧ ∀ hS', Same hS hS' → (∀ p, p ∈ fp → p ∉ fp' → hS' p = H p) → t.rel fp' hS' H o (c x)
theorem sN {F : Hp} : Sub F cN cN (fun e => e) := fun ms hS σ H e _ _ ⟨a, b⟩ => ⟨[], List.nil_sublist _, fun _ _ _ => ⟨rfl, b⟩⟩
theorem sk_id {α : Type} {F : Hp} {s : Sk α} : SubK F s s (fun x => x) := fun fp hS H o x _ q => ⟨fp, List.Sublist.refl _, fun hS' a _ => s.stable a (fun _ _ => rfl) q⟩
theorem sk_any {α : Type} {F : Hp} {s : Sk α} : SubK F s kAny (fun _ => ()) := fun fp hS H o x _ q => ⟨[], List.nil_sublist _, fun _ _ _ => rfl⟩
theorem sk_sub {α : Type} {F : Hp} {r : Rp α} : SubK F (kI (gN F) r) (kI gI r) (fun x => x) := fun fp hS H o x _ ⟨e, v, ev, q⟩ => ⟨fp, List.Sublist.refl _, fun hS' a _ => ⟨e, v, ev, r.mono (fr_same.trans a) q⟩⟩
theorem sS {α β E E' : Type} {s : Sk α} {t : Sk β} {Γ : Ctx E} {Γ' : Ctx E'} {c : α → β} {d : E → E'} {F : Hp} (h : SubK F s t c) (k : Sub F Γ Γ' d) : Sub F (cS s Γ) (cS t Γ') (fun e => (c e.1, d e.2)) := fun ms hS σ H e nd fr ⟨o, σ', fp, ms', em, es, q, z⟩ => by
  subst em
  obtain ⟨fp', s1, k1⟩ := h (fun p hp => fr p (List.mem_append_left _ hp)) q
  have nd' := List.nodup_append.mp nd
  obtain ⟨m', s2, k2⟩ := k nd'.2.1 (fun p hp => fr p (List.mem_append_right _ hp)) z
  refine ⟨fp' ++ m', s1.append s2, fun hS' a b => ⟨o, σ', fp', m', rfl, es, k1 hS' a fun p hp hn => b p (List.mem_append_left _ hp) ?_, k2 hS' a fun p hp hn => b p (List.mem_append_right _ hp) ?_⟩⟩
  · intro hm
    rcases List.mem_append.mp hm with z' | z'
    · exact hn z'
    · exact nd'.2.2 p hp p (s2.subset z') rfl
  · intro hm
    rcases List.mem_append.mp hm with z' | z'
    · exact nd'.2.2 p (s1.subset z') p hp rfl
    · exact hn z'
/-- an owned list is let go -/
theorem sk_lI {α : Type} {F : Hp} {g : Rg} {r : Rp α} : SubK F (kL g r) (kI gI (rList r)) (fun x => x) := fun fp hS H o x _ ⟨p, vs, e, eo, q, z⟩ => ⟨[], List.nil_sublist _, fun hS' a b => ⟨rfl, _, eo, p, vs, rfl, (b p (by rw [e]; exact List.mem_singleton.mpr rfl) (by simp)).trans q, pr_map z fun _ _ y => r.mono (g.sub.trans a) y⟩⟩
/-- .. as a fresh one -/
theorem sk_lN {α : Type} {F : Hp} {r : Rp α} : SubK F (kL (gN F) r) (kI (gN F) (rList r)) (fun x => x) := fun fp hS H o x hF ⟨p, vs, e, eo, q, z⟩ => ⟨[], List.nil_sublist _, fun hS' a b => ⟨rfl, _, eo, p, vs, rfl, by
  have hp : F p = none := hF p (by rw [e]; exact List.mem_singleton.mpr rfl)
  show fr F hS' p = _
  rw [fr_new hp]
  exact (b p (by rw [e]; exact List.mem_singleton.mpr rfl) (by simp)).trans q, pr_map z fun _ _ y => r.mono (fr_mono a) y⟩⟩
end D

set_option Elab.async false
set_option linter.all false
set_option maxRecDepth 100000
namespace D
open PySem L2

/-! ### what comes of an expression -/
structure Rk (α : Type) where
  rel : List Addr → Hp → Hp → V → α → Prop
  grow : ∀ {ms : List Addr} {H H1 H2 : Hp} {v : V} {x : α}, Same H1 H2 → rel ms H H1 v x → rel ms H H2 v x
  back : ∀ {ms : List Addr} {H H1 H2 : Hp} {v : V} {x : α}, Same H H1 → rel ms H1 H2 v x → rel ms H H2 v x
/-- apart from what is owned -/
def qI {α : Type} (g : Rg) (r : Rp α) : Rk α := ⟨fun ms _ H' v x => r.rel (g.fn (out ms H')) v x, fun s q => r.mono (g.mono (out_mono s)) q, fun _ q => q⟩
/-- anything -/
def qF {α : Type} (g : Rg) (r : Rp α) : Rk α := ⟨fun _ _ H' v x => r.rel (g.fn H') v x, fun s q => r.mono (g.mono s) q, fun _ q => q⟩
/-- a new list -/
def qL {α : Type} (g : Rg) (r : Rp α) : Rk (List α) := ⟨fun ms H H' v xs => ∃ p vs, v = .ref p ∧ H p = none ∧ H' p = some (.lst vs) ∧ Paired (r.rel (g.fn (out (p :: ms) H'))) vs xs,
  fun s ⟨p, vs, e, n, q, z⟩ => ⟨p, vs, e, n, s _ _ q, pr_map z fun _ _ y => r.mono (g.mono (out_mono s)) y⟩, fun s ⟨p, vs, e, n, q, z⟩ => ⟨p, vs, e, s.free n, q, z⟩⟩
abbrev qi : Rk Int := qI gI rInt
abbrev qb : Rk Bool := qI gI rBool
abbrev qs : Rk Str := qI gI rStr
/-- the region knows what is new -/
def GN (F : Hp) (g : Rg) : Prop := ∀ (h : Hp) (p : Addr), F p = none → g.fn h p = h p
theorem gn_I {F : Hp} : GN F gI := fun _ _ _ => rfl
theorem gn_N {F : Hp} : GN F (gN F) := fun _ _ h => fr_new h
/-- tuples are seen in any region -/
def GT (F : Hp) (g : Rg) : Prop := ∀ (h : Hp) (p : Addr) (xs : List V), (∀ o, F p = some o → h p = some o) → h p = some (.tup xs) → g.fn h p = some (.tup xs)
theorem gt_I {F : Hp} : GT F gI := fun _ _ _ _ e => e
theorem gt_N {F : Hp} : GT F (gN F) := fun h p xs k e => by
  show fr F h p = _
  unfold fr
  cases hf : F p with
  | none => exact e
  | some u =>
    have := k u hf
    rw [e] at this
    cases this
    exact e

structure Bs (F B : Hp) (ms : List Addr) (H H' : Hp) : Prop where
  fb : Same F B
  sb : Same B H
  nt : ∀ p ∈ ms, NT (H p)
  bn : ∀ p ∈ ms, B p = none
  up : Same H H'
theorem Bs.nt' {F B H H' : Hp} {ms : List Addr} (b : Bs F B ms H H') : ∀ p ∈ ms, NT (H' p) := fun p hp => by rw [(b.nt p hp).same b.up]; exact b.nt p hp
theorem Bs.fn {F B H H' : Hp} {ms : List Addr} (b : Bs F B ms H H') {p : Addr} (h : H p = none) : F p = none := (b.fb.trans b.sb).free h
theorem Bs.fo {F B H H' : Hp} {ms : List Addr} (b : Bs F B ms H H') : ∀ (p : Addr) (o : HO), F p = some o → out ms H' p = some o := fun p o e => by
  have hb := b.fb p o e
  rw [out_ni (fun z => by rw [b.bn p z] at hb; cases hb)]
  exact b.up p o (b.sb p o hb)
def Cv {α : Type} (F : Hp) (R R' : Rk α) : Prop := ∀ ⦃B : Hp⦄ ⦃ms : List Addr⦄ ⦃H H' : Hp⦄ ⦃v : V⦄ ⦃x : α⦄, Bs F B ms H H' → R.rel ms H H' v x → R'.rel ms H H' v x
section
variable {α : Type} {F : Hp} {g : Rg} {r : Rp α}
theorem cv_id {R : Rk α} : Cv F R R := fun _ _ _ _ _ _ _ q => q
theorem cv_IF : Cv F (qI g r) (qF g r) := fun _ _ _ _ _ _ _ q => r.mono (g.mono out_same) q
theorem cv_II : Cv F (qI g r) (qI gI r) := fun _ _ _ _ _ _ _ q => r.mono g.sub q
theorem cv_FF : Cv F (qF g r) (qF gI r) := fun _ _ _ _ _ _ _ q => r.mono g.sub q
theorem cv_IFI : Cv F (qI g r) (qF gI r) := fun _ _ _ _ _ _ _ q => r.mono (g.sub.trans out_same) q
/-- what leans on tuples alone -/
theorem cv_to {g' : Rg} (t : TO r) (gt : GT F g') : Cv F (qF g r) (qI g' r) := fun B ms H H' v x b q => t (fun a xs e => by
  have e1 : H' a = some (.tup xs) := g.sub a _ e
  refine gt _ a xs (fun o z => b.fo a o z) ?_
  by_cases h : a ∈ ms
  · obtain ⟨u, hu, hn⟩ := b.nt' a h
    rw [e1] at hu
    cases hu
    exact absurd rfl (hn xs)
  · rw [out_ni h]; exact e1) q
theorem cv_toI {g' : Rg} (t : TO r) (gt : GT F g') : Cv F (qI g r) (qI g' r) := fun _ _ _ _ _ _ b q => cv_to t gt b (cv_IF b q)
/-- a new list as a value -/
theorem cv_LI (gn : GN F g) : Cv F (qL g r) (qI g (rList r)) := fun B ms H H' v x b ⟨p, vs, e, n, q, z⟩ => by
  have hp : p ∉ ms := fun h => by
    obtain ⟨u, hu, _⟩ := b.nt p h
    rw [n] at hu; cases hu
  exact ⟨p, vs, e, by rw [gn _ _ (b.fn n), out_ni hp]; exact q, pr_map z fun _ _ y => r.mono (g.mono (out_sub fun a h => List.mem_cons_of_mem _ h)) y⟩
theorem cv_LF (gn : GN F g) : Cv F (qL g r) (qF g (rList r)) := fun _ _ _ _ _ _ b q => cv_IF b (cv_LI gn b q)
theorem cv_LL : Cv F (qL g r) (qL gI r) := fun _ _ _ _ _ _ b ⟨p, vs, e, n, q, z⟩ => ⟨p, vs, e, n, q, pr_map z fun _ _ y => r.mono g.sub y⟩
theorem cv_LG {g' : Rg} (t : TO r) (gt : GT F g') : Cv F (qL g r) (qL g' r) := fun B ms H H' v x b ⟨p, vs, e, n, q, z⟩ => ⟨p, vs, e, n, q, pr_map z fun v x y => t (fun a xs ea => by
  have e1 := g.sub a _ ea
  have hp : p ∉ ms := fun h => by
    obtain ⟨u, hu, _⟩ := b.nt p h
    rw [n] at hu; cases hu
  have hm : a ∉ p :: ms := fun h => by rw [out_in h] at e1; cases e1
  refine gt _ a xs (fun o z => ?_) e1
  rw [out_ni hm]
  rw [out_ni hm] at e1
  exact b.up a o (b.sb a o (b.fb a o z))) y⟩
/-- a fresh list of what leans on tuples alone, as a list of one's own -/
theorem cv_comp {R R' R'' : Rk α} (h : Cv F R R') (k : Cv F R' R'') : Cv F R R'' := fun _ _ _ _ _ _ b q => k b (h b q)
end

/-! ### expressions -/
def DE {α E : Type} (F : Hp) (Γ : Ctx E) (t : TE) (pre : E → Prop) (R : Rk α) (f : E → α) : Prop :=
  ∀ ⦃B : Hp⦄ ⦃ms : List Addr⦄ ⦃σ : L2.St⦄ ⦃H : Hp⦄ ⦃e : E⦄, Same F B → St0 Γ B ms σ H e → pre e → ∀ Q : VK, (∀ v H', Same H H' → R.rel ms H H' v (f e) → Q v H') → t σ H Q
def DT {E : Type} (F : Hp) (Γ : Ctx E) (t : TT) (pre : E → Prop) (f : E → Bool) : Prop :=
  ∀ ⦃B : Hp⦄ ⦃ms : List Addr⦄ ⦃σ : L2.St⦄ ⦃H : Hp⦄ ⦃e : E⦄, Same F B → St0 Γ B ms σ H e → pre e → ∀ Q : Bool → Hp → Prop, (∀ H', Same H H' → Q (f e) H') → t σ H Q
/-- arguments -/
structure Ak (A : Type) where
  rel : List Addr → Hp → Hp → List V → A → Prop
  grow : ∀ {ms : List Addr} {H H1 H2 : Hp} {v : List V} {x : A}, Same H1 H2 → rel ms H H1 v x → rel ms H H2 v x
  back : ∀ {ms : List Addr} {H H1 H2 : Hp} {v : List V} {x : A}, Same H H1 → rel ms H1 H2 v x → rel ms H H2 v x
def k0 : Ak Unit := ⟨fun _ _ _ vs _ => vs = [], fun _ q => q, fun _ q => q⟩
def k1 {α : Type} (R : Rk α) : Ak α := ⟨fun ms H H' vs x => ∃ v, vs = [v] ∧ R.rel ms H H' v x, fun s ⟨v, e, q⟩ => ⟨v, e, R.grow s q⟩, fun s ⟨v, e, q⟩ => ⟨v, e, R.back s q⟩⟩
def kc {α A : Type} (R : Rk α) (K : Ak A) : Ak (α × A) := ⟨fun ms H H' vs x => ∃ v ws, vs = v :: ws ∧ R.rel ms H H' v x.1 ∧ K.rel ms H H' ws x.2, fun s ⟨v, ws, e, q, z⟩ => ⟨v, ws, e, R.grow s q, K.grow s z⟩, fun s ⟨v, ws, e, q, z⟩ => ⟨v, ws, e, R.back s q, K.back s z⟩⟩
def DA {A E : Type} (F : Hp) (Γ : Ctx E) (t : TA) (pre : E → Prop) (K : Ak A) (f : E → A) : Prop :=
  ∀ ⦃B : Hp⦄ ⦃ms : List Addr⦄ ⦃σ : L2.St⦄ ⦃H : Hp⦄ ⦃e : E⦄, Same F B → St0 Γ B ms σ H e → pre e → ∀ Q : List V → Hp → Prop, (∀ vs H', Same H H' → K.rel ms H H' vs (f e) → Q vs H') → t σ H Q
/-- fields of a tuple, n of them -/
def DF {A E : Type} (F : Hp) (Γ : Ctx E) (t : TA) (pre : E → Prop) (g : Rg) (fd : Fd A) (n : Nat) (f : E → A) : Prop :=
  ∀ ⦃B : Hp⦄ ⦃ms : List Addr⦄ ⦃σ : L2.St⦄ ⦃H : Hp⦄ ⦃e : E⦄, Same F B → St0 Γ B ms σ H e → pre e → ∀ Q : List V → Hp → Prop, (∀ vs H', Same H H' → vs.length = n → fd.rel (g.fn (out ms H')) vs (f e) → Q vs H') → t σ H Q
/-- items of a list, n of them -/
def DI {α E : Type} (F : Hp) (Γ : Ctx E) (t : TA) (pre : E → Prop) (g : Rg) (r : Rp α) (n : Nat) (f : E → List α) : Prop :=
  ∀ ⦃B : Hp⦄ ⦃ms : List Addr⦄ ⦃σ : L2.St⦄ ⦃H : Hp⦄ ⦃e : E⦄, Same F B → St0 Γ B ms σ H e → pre e → ∀ Q : List V → Hp → Prop, (∀ vs H', Same H H' → vs.length = n → Paired (r.rel (g.fn (out ms H'))) vs (f e) → Q vs H') → t σ H Q
def DO {E : Type} (F : Hp) (Γ : Ctx E) (t : L2.TO) (pre : E → Prop) (f : E → Option Int) : Prop :=
  ∀ ⦃B : Hp⦄ ⦃ms : List Addr⦄ ⦃σ : L2.St⦄ ⦃H : Hp⦄ ⦃e : E⦄, Same F B → St0 Γ B ms σ H e → pre e → ∀ Q : Option Int → Hp → Prop, (∀ H', Same H H' → Q (f e) H') → t σ H Q
abbrev T0 {E : Type} : E → Prop := fun _ => True

section
variable {E : Type} {F : Hp} {Γ : Ctx E} {K : PySem.W.Frag}
theorem St0.bs {B : Hp} {ms : List Addr} {σ : L2.St} {H H' : Hp} {e : E} (fb : Same F B) (S : St0 Γ B ms σ H e) (s : Same H H') : Bs F B ms H H' := ⟨fb, S.sb, S.nt, S.bn, s⟩
theorem de_cv {α : Type} {t : TE} {pre : E → Prop} {R R' : Rk α} {f : E → α} (h : DE F Γ t pre R f) (c : Cv F R R') : DE F Γ t pre R' f := fun _ _ _ _ _ fb S p Q q => h fb S p Q fun v H' s z => q v H' s (c (S.bs fb s) z)
theorem de_int {i : Int} : DE F Γ (tC (.int i)) T0 qi (fun _ => i) := fun _ _ _ _ _ _ _ _ Q q => q _ _ (Same.refl _) rfl
theorem de_bool {b : Bool} : DE F Γ (tC (.bl b)) T0 qb (fun _ => b) := fun _ _ _ _ _ _ _ _ Q q => q _ _ (Same.refl _) rfl
theorem de_str {b : Str} : DE F Γ (tC (.str b)) T0 qs (fun _ => b) := fun _ _ _ _ _ _ _ _ Q q => q _ _ (Same.refl _) rfl
theorem de_non : DE F Γ (tC .non) T0 (qI gI rNon) (fun _ => ()) := fun _ _ _ _ _ _ _ _ Q q => q _ _ (Same.refl _) rfl
theorem de_nonO {α : Type} {g : Rg} {r : Rp α} : DE F Γ (tC .non) T0 (qI g (rOpt r)) (fun _ => none) := fun _ _ _ _ _ _ _ _ Q q => q _ _ (Same.refl _) rfl
theorem de_var {α : Type} {i : Nat} {g : Rg} {r : Rp α} {get : E → α} (a : At Γ i (kI g r) get) : DE F Γ (tVar i) T0 (qI g r) get := fun _ _ _ _ _ fb S _ Q q => by
  obtain ⟨m1, n1, s1, z⟩ := S.r
  obtain ⟨o, fp, h1, h2, h3, v, h4, h5⟩ := a z
  exact ⟨v, by rw [h1, h4], q _ _ (Same.refl _) h5⟩
theorem de_varL {α : Type} {i : Nat} {g : Rg} {r : Rp α} {get : E → List α} (gn : GN F g) (a : At Γ i (kL g r) get) : DE F Γ (tVar i) T0 (qF g (rList r)) get := fun B ms σ H e fb S _ Q q => by
  obtain ⟨m1, n1, s1, z⟩ := S.r
  obtain ⟨o, fp, h1, h2, p, vs, h3, h4, h5, h6⟩ := a z
  have hp : F p = none := by
    have hb := S.bn p (s1 p (h2 p (by rw [h3]; exact List.mem_singleton.mpr rfl)))
    exact fb.free hb
  exact ⟨_, by rw [h1, h4], q _ _ (Same.refl _) ⟨p, vs, rfl, by rw [gn _ _ hp]; exact h5, pr_map h6 fun _ _ y => r.mono (g.mono out_same) y⟩⟩
theorem de_some {α : Type} {t : TE} {pre : E → Prop} {g : Rg} {r : Rp α} {f : E → α} (h : DE F Γ t pre (qI g r) f) (nn : ∀ {h v x}, r.rel h v x → v ≠ .non) : DE F Γ t pre (qI g (rOpt r)) (fun e => some (f e)) :=
  fun _ _ _ _ _ fb S p Q q => h fb S p Q fun v H' s z => q v H' s ⟨nn z, z⟩
theorem nn_int {h : Hp} {v : V} {x : Int} (q : rInt.rel h v x) : v ≠ .non := by rw [show v = .int x from q]; intro z; cases z
theorem nn_list {α : Type} {r : Rp α} {h : Hp} {v : V} {x : List α} (q : (rList r).rel h v x) : v ≠ .non := by obtain ⟨a, vs, e, _⟩ := q; rw [e]; intro z; cases z
theorem de_opI {ta tb : TE} {pa pb : E → Prop} {fa fb : E → Int} {C : Int → Int → Prop} {g : Int → Int → Int} (ha : DE F Γ ta pa qi fa) (hb : DE F Γ tb pb qi fb) :
    DE F Γ (tOp (rI C fun i j => .int (g i j)) ta tb) (fun e => pa e ∧ pb e ∧ C (fa e) (fb e)) qi (fun e => g (fa e) (fb e)) := fun _ _ _ _ _ b S p Q q => ha b S p.1 _ fun v H1 s1 r1 => hb b (S.grow s1) p.2.1 _ fun u H2 s2 r2 => ⟨_, _, r1, r2, p.2.2, q _ _ (s1.trans s2) rfl⟩
theorem de_op0 {ta tb : TE} {pa pb : E → Prop} {fa fb : E → Int} {g : Int → Int → Int} (ha : DE F Γ ta pa qi fa) (hb : DE F Γ tb pb qi fb) :
    DE F Γ (tOp (rI0 fun i j => .int (g i j)) ta tb) (fun e => pa e ∧ pb e) qi (fun e => g (fa e) (fb e)) := fun _ _ _ _ _ b S p Q q => ha b S p.1 _ fun v H1 s1 r1 => hb b (S.grow s1) p.2 _ fun u H2 s2 r2 => ⟨_, _, r1, r2, q _ _ (s1.trans s2) rfl⟩
theorem de_opB {ta tb : TE} {pa pb : E → Prop} {fa fb : E → Int} {g : Int → Int → Bool} (ha : DE F Γ ta pa qi fa) (hb : DE F Γ tb pb qi fb) :
    DE F Γ (tOp (rI0 fun i j => .bl (g i j)) ta tb) (fun e => pa e ∧ pb e) qb (fun e => g (fa e) (fb e)) := fun _ _ _ _ _ b S p Q q => ha b S p.1 _ fun v H1 s1 r1 => hb b (S.grow s1) p.2 _ fun u H2 s2 r2 => ⟨_, _, r1, r2, q _ _ (s1.trans s2) rfl⟩
theorem de_un {ta : TE} {pa : E → Prop} {fa : E → Int} {g : Int → Int} (ha : DE F Γ ta pa qi fa) : DE F Γ (tUn (rU fun i => .int (g i)) ta) pa qi (fun e => g (fa e)) := fun _ _ _ _ _ b S p Q q => ha b S p _ fun v H1 s1 r1 => ⟨_, r1, q _ _ s1 rfl⟩
theorem de_eqI {ta tb : TE} {pa pb : E → Prop} {fa fb : E → Int} (ha : DE F Γ ta pa qi fa) (hb : DE F Γ tb pb qi fb) : DE F Γ (tOp rEq ta tb) (fun e => pa e ∧ pb e) qb (fun e => decide (fa e = fb e)) := fun _ _ _ _ _ b S p Q q => ha b S p.1 _ fun v H1 s1 r1 => hb b (S.grow s1) p.2 _ fun u H2 s2 r2 => by
  rw [show v = _ from r1, show u = _ from r2]
  exact ⟨rfl, q _ _ (s1.trans s2) (by show V.bl _ = V.bl _; congr 1; simp)⟩
theorem de_neI {ta tb : TE} {pa pb : E → Prop} {fa fb : E → Int} (ha : DE F Γ ta pa qi fa) (hb : DE F Γ tb pb qi fb) : DE F Γ (tOp rNe ta tb) (fun e => pa e ∧ pb e) qb (fun e => !decide (fa e = fb e)) := fun _ _ _ _ _ b S p Q q => ha b S p.1 _ fun v H1 s1 r1 => hb b (S.grow s1) p.2 _ fun u H2 s2 r2 => by
  rw [show v = _ from r1, show u = _ from r2]
  exact ⟨rfl, q _ _ (s1.trans s2) (by show V.bl _ = V.bl _; congr 1; simp)⟩
theorem de_eqS {ta tb : TE} {pa pb : E → Prop} {fa fb : E → Str} (ha : DE F Γ ta pa qs fa) (hb : DE F Γ tb pb qs fb) : DE F Γ (tOp rEq ta tb) (fun e => pa e ∧ pb e) qb (fun e => decide (fa e = fb e)) := fun _ _ _ _ _ b S p Q q => ha b S p.1 _ fun v H1 s1 r1 => hb b (S.grow s1) p.2 _ fun u H2 s2 r2 => by
  rw [show v = _ from r1, show u = _ from r2]
  exact ⟨rfl, q _ _ (s1.trans s2) (by show V.bl _ = V.bl _; congr 1; simp)⟩
theorem de_neS {ta tb : TE} {pa pb : E → Prop} {fa fb : E → Str} (ha : DE F Γ ta pa qs fa) (hb : DE F Γ tb pb qs fb) : DE F Γ (tOp rNe ta tb) (fun e => pa e ∧ pb e) qb (fun e => !decide (fa e = fb e)) := fun _ _ _ _ _ b S p Q q => ha b S p.1 _ fun v H1 s1 r1 => hb b (S.grow s1) p.2 _ fun u H2 s2 r2 => by
  rw [show v = _ from r1, show u = _ from r2]
  exact ⟨rfl, q _ _ (s1.trans s2) (by show V.bl _ = V.bl _; congr 1; simp)⟩
theorem de_eqB {ta tb : TE} {pa pb : E → Prop} {fa fb : E → Bool} (ha : DE F Γ ta pa qb fa) (hb : DE F Γ tb pb qb fb) : DE F Γ (tOp rEq ta tb) (fun e => pa e ∧ pb e) qb (fun e => decide (fa e = fb e)) := fun _ _ _ _ _ b S p Q q => ha b S p.1 _ fun v H1 s1 r1 => hb b (S.grow s1) p.2 _ fun u H2 s2 r2 => by
  rw [show v = _ from r1, show u = _ from r2]
  exact ⟨rfl, q _ _ (s1.trans s2) (by show V.bl _ = V.bl _; congr 1; simp)⟩
theorem de_neB {ta tb : TE} {pa pb : E → Prop} {fa fb : E → Bool} (ha : DE F Γ ta pa qb fa) (hb : DE F Γ tb pb qb fb) : DE F Γ (tOp rNe ta tb) (fun e => pa e ∧ pb e) qb (fun e => !decide (fa e = fb e)) := fun _ _ _ _ _ b S p Q q => ha b S p.1 _ fun v H1 s1 r1 => hb b (S.grow s1) p.2 _ fun u H2 s2 r2 => by
  rw [show v = _ from r1, show u = _ from r2]
  exact ⟨rfl, q _ _ (s1.trans s2) (by show V.bl _ = V.bl _; congr 1; simp)⟩
/-- is None, is not None -/
theorem opt_dec {α : Type} {r : Rp α} {h : Hp} {v : V} {y : Option α} (q : (rOpt r).rel h v y) : decide (v = .non) = y.isNone := by
  cases y with
  | none => rw [show v = .non from q]; rfl
  | some y => rw [decide_eq_false q.1]; rfl
theorem opt_dec' {α : Type} {r : Rp α} {h : Hp} {v : V} {y : Option α} (q : (rOpt r).rel h v y) : (!decide (v = .non)) = y.isSome := by
  rw [opt_dec q]
  cases y <;> rfl
theorem de_isN {α : Type} {ta : TE} {pa : E → Prop} {g : Rg} {r : Rp α} {fa : E → Option α} (ha : DE F Γ ta pa (qI g (rOpt r)) fa) : DE F Γ (tIsN ta) pa qb (fun e => (fa e).isNone) := fun B ms σ H e b S p Q q => ha b S p _ fun v H1 s1 r1 => q _ _ s1 (congrArg V.bl (opt_dec r1))
theorem de_isnotN {α : Type} {ta : TE} {pa : E → Prop} {g : Rg} {r : Rp α} {fa : E → Option α} (ha : DE F Γ ta pa (qI g (rOpt r)) fa) : DE F Γ (tNotN ta) pa qb (fun e => (fa e).isSome) := fun B ms σ H e b S p Q q => ha b S p _ fun v H1 s1 r1 => q _ _ s1 (congrArg V.bl (opt_dec' r1))
/-- an Option known to be there -/
theorem opt_get {α : Type} [Inhabited α] {r : Rp α} {h : Hp} {v : V} {y : Option α} (q : (rOpt r).rel h v y) (p : y.isSome = true) : r.rel h v y.get! := by
  cases y with
  | none => cases p
  | some y => exact q.2
theorem de_get {α : Type} [Inhabited α] {t : TE} {pre : E → Prop} {g : Rg} {r : Rp α} {f : E → Option α} (h : DE F Γ t pre (qI g (rOpt r)) f) : DE F Γ t (fun e => pre e ∧ (f e).isSome = true) (qI g r) (fun e => (f e).get!) := fun B ms σ H e fb S p Q q => h fb S p.1 Q fun v H' s z => q v H' s (opt_get (r := r) z p.2)

/-! tests -/
theorem dt_test {te : TE} {pre : E → Prop} {f : E → Bool} (h : DE F Γ te pre qb f) : DT F Γ (tTest te) pre f := fun _ _ _ _ _ b S p Q q => h b S p _ fun v H1 s1 r1 => ⟨_, r1, q _ s1⟩
theorem dt_B {te : TE} {pre : E → Prop} {f : E → Bool} (h : DE F Γ te pre qb f) : DT F Γ (tB te) pre f := fun _ _ _ _ _ b S p Q q => h b S p _ fun v H1 s1 r1 => ⟨_, r1, q _ s1⟩
theorem dt_and {t u : TT} {p q : E → Prop} {f g : E → Bool} (h : DT F Γ t p f) (k : DT F Γ u q g) : DT F Γ (tAnd t u) (fun e => p e ∧ (f e = true → q e)) (fun e => f e && g e) := fun B ms σ H e b S pp Q qq => h b S pp.1 _ fun H1 s1 => by
  cases hf : f e with
  | true => exact k b (S.grow s1) (pp.2 hf) Q fun H2 s2 => by have this : Q _ H2 := qq H2 (s1.trans s2); simp only [hf, Bool.true_and, Bool.false_or] at this; exact this
  | false => have this : Q _ H1 := qq H1 s1; simp only [hf, Bool.false_and, Bool.true_or] at this; exact this
theorem dt_or {t u : TT} {p q : E → Prop} {f g : E → Bool} (h : DT F Γ t p f) (k : DT F Γ u q g) : DT F Γ (tOr t u) (fun e => p e ∧ (f e = false → q e)) (fun e => f e || g e) := fun B ms σ H e b S pp Q qq => h b S pp.1 _ fun H1 s1 => by
  cases hf : f e with
  | false => exact k b (S.grow s1) (pp.2 hf) Q fun H2 s2 => by have this : Q _ H2 := qq H2 (s1.trans s2); simp only [hf, Bool.true_and, Bool.false_or] at this; exact this
  | true => have this : Q _ H1 := qq H1 s1; simp only [hf, Bool.false_and, Bool.true_or] at this; exact this
theorem dt_not {t : TT} {p : E → Prop} {f : E → Bool} (h : DT F Γ t p f) : DT F Γ (tNot t) p (fun e => !f e) := fun _ _ _ _ _ b S pp Q qq => h b S pp _ fun H1 s1 => qq H1 s1
theorem dt_yes : DT F Γ tYes T0 (fun _ => true) := fun _ _ _ _ _ b S pp Q qq => qq _ (Same.refl _)
theorem de_andV {ta tb : TE} {pa pb : E → Prop} {f g : E → Bool} (h : DE F Γ ta pa qb f) (k : DE F Γ tb pb qb g) : DE F Γ (tAndV ta tb) (fun e => pa e ∧ (f e = true → pb e)) qb (fun e => f e && g e) := fun B ms σ H e b S pp Q qq => h b S pp.1 _ fun v H1 s1 r1 => ⟨_, r1, by
  cases hf : f e with
  | true => exact k b (S.grow s1) (pp.2 hf) Q fun v H2 s2 r2 => by have this := qq v H2 (s1.trans s2); simp only [hf, Bool.true_and, Bool.false_or] at this; exact this r2
  | false => have this := qq (.bl false) H1 s1; simp only [hf, Bool.false_and] at this; exact this rfl⟩
theorem de_orV {ta tb : TE} {pa pb : E → Prop} {f g : E → Bool} (h : DE F Γ ta pa qb f) (k : DE F Γ tb pb qb g) : DE F Γ (tOrV ta tb) (fun e => pa e ∧ (f e = false → pb e)) qb (fun e => f e || g e) := fun B ms σ H e b S pp Q qq => h b S pp.1 _ fun v H1 s1 r1 => ⟨_, r1, by
  cases hf : f e with
  | false => exact k b (S.grow s1) (pp.2 hf) Q fun v H2 s2 r2 => by have this := qq v H2 (s1.trans s2); simp only [hf, Bool.true_and, Bool.false_or] at this; exact this r2
  | true => have this := qq (.bl true) H1 s1; simp only [hf, Bool.true_or] at this; exact this rfl⟩
theorem de_notV {ta : TE} {pa : E → Prop} {f : E → Bool} (h : DE F Γ ta pa qb f) : DE F Γ (tNotV ta) pa qb (fun e => !f e) := fun _ _ _ _ _ b S pp Q qq => h b S pp _ fun v H1 s1 r1 => ⟨_, r1, qq _ H1 s1 rfl⟩
theorem de_if {α : Type} {t : TT} {ta tb : TE} {p pa pb : E → Prop} {c : E → Bool} {R : Rk α} {f g : E → α} (h : DT F Γ t p c) (ha : DE F Γ ta pa R f) (hb : DE F Γ tb pb R g) :
    DE F Γ (tIf t ta tb) (fun e => p e ∧ (c e = true → pa e) ∧ (c e = false → pb e)) R (fun e => if c e = true then f e else g e) := fun B ms σ H e b S pp Q qq => h b S pp.1 _ fun H1 s1 => by
  cases hc : c e with
  | true => exact ha b (S.grow s1) (pp.2.1 hc) Q fun v H2 s2 r2 => by have this := qq v H2 (s1.trans s2); simp only [hc, if_true, Bool.false_eq_true, if_false] at this; exact this (R.back s1 r2)
  | false => exact hb b (S.grow s1) (pp.2.2 hc) Q fun v H2 s2 r2 => by have this := qq v H2 (s1.trans s2); simp only [hc, if_true, Bool.false_eq_true, if_false] at this; exact this (R.back s1 r2)
/-- a op1 b op2 c -/
theorem de_chain {ta tb tc : TE} {pa pb pc : E → Prop} {fa fb fc : E → Int} {g1 g2 : Int → Int → Bool} (ha : DE F Γ ta pa qi fa) (hb : DE F Γ tb pb qi fb) (hc : DE F Γ tc pc qi fc) :
    DE F Γ (tChain (rI0 fun i j => .bl (g1 i j)) (rI0 fun i j => .bl (g2 i j)) ta tb tc) (fun e => pa e ∧ pb e ∧ pc e) qb (fun e => g1 (fa e) (fb e) && g2 (fb e) (fc e)) := fun B ms σ H e b S p Q q => ha b S p.1 _ fun v H1 s1 r1 => hb b (S.grow s1) p.2.1 _ fun u H2 s2 r2 => ⟨_, _, r1, r2, _, rfl, by
  cases h : g1 (fa e) (fb e) with
  | true => exact hc b ((S.grow s1).grow s2) p.2.2 _ fun w H3 s3 r3 => ⟨_, _, r2, r3, by have this := q (.bl (g2 (fb e) (fc e))) H3 ((s1.trans s2).trans s3); simp only [h, Bool.true_and] at this; exact this rfl⟩
  | false => have this := q (.bl false) H2 (s1.trans s2); simp only [h, Bool.false_and] at this; exact this rfl⟩

/-! arguments, tuples, lists -/
theorem da_0 : DA F Γ tNil T0 k0 (fun _ => ()) := fun _ _ _ _ _ _ _ _ Q q => q _ _ (Same.refl _) rfl
theorem da_1 {α : Type} {t : TE} {p : E → Prop} {R : Rk α} {f : E → α} (h : DE F Γ t p R f) : DA F Γ (tCons t tNil) p (k1 R) f := fun _ _ _ _ _ b S pp Q q => h b S pp _ fun v H1 s1 r1 => q _ _ s1 ⟨v, rfl, r1⟩
theorem da_c {α A : Type} {t : TE} {ta : TA} {p pa : E → Prop} {R : Rk α} {Ka : Ak A} {f : E → α} {fa : E → A} (h : DE F Γ t p R f) (k : DA F Γ ta pa Ka fa) : DA F Γ (tCons t ta) (fun e => p e ∧ pa e) (kc R Ka) (fun e => (f e, fa e)) := fun _ _ _ _ _ b S pp Q q => h b S pp.1 _ fun v H1 s1 r1 => k b (S.grow s1) pp.2 _ fun vs H2 s2 r2 => q _ _ (s1.trans s2) ⟨v, vs, rfl, R.grow s2 r1, Ka.back s1 r2⟩
theorem df_1 {α : Type} {t : TE} {p : E → Prop} {g : Rg} {r : Rp α} {f : E → α} (h : DE F Γ t p (qI g r) f) : DF F Γ (tCons t tNil) p g (f1 r) 1 f := fun _ _ _ _ _ b S pp Q q => h b S pp _ fun v H1 s1 r1 => q _ _ s1 rfl ⟨v, rfl, r1⟩
theorem df_c {α A : Type} {t : TE} {ta : TA} {p pa : E → Prop} {g : Rg} {r : Rp α} {fd : Fd A} {n : Nat} {f : E → α} {fa : E → A} (h : DE F Γ t p (qI g r) f) (k : DF F Γ ta pa g fd n fa) : DF F Γ (tCons t ta) (fun e => p e ∧ pa e) g (fc r fd) (n + 1) (fun e => (f e, fa e)) := fun _ _ _ _ _ b S pp Q q => h b S pp.1 _ fun v H1 s1 r1 => k b (S.grow s1) pp.2 _ fun vs H2 s2 l r2 => q _ _ (s1.trans s2) (by rw [List.length_cons, l]) ⟨v, vs, rfl, r.mono (g.mono (out_mono s2)) r1, r2⟩
theorem same_new {H : Hp} {p : Addr} {o : HO} (h : H p = none) : Same H (upd H p o) := fun a u e => by rw [upd_ne (ne_of_none e h)]; exact e
theorem de_tup {A : Type} {ta : TA} {p : E → Prop} {g : Rg} {fd : Fd A} {n : Nat} {f : E → A} (gn : GN F g) (h : DF F Γ ta p g fd n f) (hn : n ≤ sizeLine) : DE F Γ (tTup ta) p (qI g (rTup fd)) f := fun B ms σ H e b S pp Q q => h b S pp _ fun vs H1 s1 l r1 => ⟨by rw [l]; exact hn, fun a ha => q _ _ (s1.trans (same_new ha)) (by
  have hm : a ∉ ms := fun z => by
    obtain ⟨u, hu, _⟩ := S.nt a z
    rw [s1 a u hu] at ha; cases ha
  refine ⟨a, vs, rfl, ?_, fd.mono (g.mono (out_mono (same_new ha))) r1⟩
  rw [gn _ _ ((b.trans S.sb).free (s1.free ha)), out_ni hm]
  exact upd_same)⟩
theorem di_0 {α : Type} {g : Rg} {r : Rp α} : DI F Γ tNil T0 g r 0 (fun _ => []) := fun _ _ _ _ _ _ _ _ Q q => q _ _ (Same.refl _) rfl .nil
theorem di_c {α : Type} {t : TE} {ta : TA} {p pa : E → Prop} {g : Rg} {r : Rp α} {n : Nat} {f : E → α} {fa : E → List α} (h : DE F Γ t p (qI g r) f) (k : DI F Γ ta pa g r n fa) : DI F Γ (tCons t ta) (fun e => p e ∧ pa e) g r (n + 1) (fun e => f e :: fa e) := fun _ _ _ _ _ b S pp Q q => h b S pp.1 _ fun v H1 s1 r1 => k b (S.grow s1) pp.2 _ fun vs H2 s2 l r2 => q _ _ (s1.trans s2) (by rw [List.length_cons, l]) (.cons (r.mono (g.mono (out_mono s2)) r1) r2)
theorem new_cons {ms : List Addr} {H : Hp} {p : Addr} {o : HO} (h : H p = none) : Same (out ms H) (out (p :: ms) (upd H p o)) := fun a u e => by
  have ha : a ≠ p := fun z => by
    by_cases hm : a ∈ ms
    · rw [out_in hm] at e; cases e
    · rw [out_ni hm, z, h] at e; cases e
  by_cases hm : a ∈ ms
  · rw [out_in hm] at e; cases e
  · rw [out_ni hm] at e
    rw [out_ni (by simp [ha, hm]), upd_ne ha]
    exact e
theorem de_lst {α : Type} {ta : TA} {p : E → Prop} {g : Rg} {r : Rp α} {n : Nat} {f : E → List α} (h : DI F Γ ta p g r n f) (hn : n ≤ sizeLine) : DE F Γ (tLst ta) p (qL g r) f := fun B ms σ H e b S pp Q q => h b S pp _ fun vs H1 s1 l r1 => ⟨by rw [l]; exact hn, fun a ha => q _ _ (s1.trans (same_new ha))
  ⟨a, vs, rfl, s1.free ha, upd_same, pr_map r1 fun _ _ y => r.mono (g.mono (new_cons ha)) y⟩⟩
theorem de_tups {α : Type} {ta : TA} {p : E → Prop} {g : Rg} {r : Rp α} {n : Nat} {f : E → List α} (gn : GN F g) (h : DI F Γ ta p g r n f) (hn : n ≤ sizeLine) : DE F Γ (tTup ta) p (qI g (rTups r)) f := fun B ms σ H e b S pp Q q => h b S pp _ fun vs H1 s1 l r1 => ⟨by rw [l]; exact hn, fun a ha => q _ _ (s1.trans (same_new ha)) (by
  have hm : a ∉ ms := fun z => by
    obtain ⟨u, hu, _⟩ := S.nt a z
    rw [s1 a u hu] at ha; cases ha
  refine ⟨a, vs, rfl, ?_, pr_map r1 fun _ _ y => r.mono (g.mono (out_mono (same_new ha))) y⟩
  rw [gn _ _ ((b.trans S.sb).free (s1.free ha)), out_ni hm]
  exact upd_same)⟩

/-! subscripts -/
/-- the place that an index tells -/
def inb {α : Type} (xs : List α) (i : Int) : Prop := 0 ≤ i ∧ i < (xs.length : Int)
def gi {α : Type} [Inhabited α] (xs : List α) (i : Int) : α := xs.getD i.toNat default
theorem gi_some {α : Type} [Inhabited α] {xs : List α} {i : Int} (h : inb xs i) : xs[i.toNat]? = some (gi xs i) := by
  have hl : i.toNat < xs.length := by have := h.1; have := h.2; omega
  unfold gi
  rw [List.getD_eq_getElem?_getD, List.getElem?_eq_getElem hl]
  rfl
theorem at_gi {vs : List V} {i : Int} (h0 : 0 ≤ i) (h1 : i < (vs.length : Int)) : atI vs i = vs[i.toNat]? := by
  unfold atI ixN
  rw [if_pos h0, if_pos h1]
  rfl
theorem de_ixF {α : Type} [Inhabited α] {ta tb : TE} {pa pb : E → Prop} {g : Rg} {r : Rp α} {fa : E → List α} {fb : E → Int} (ha : DE F Γ ta pa (qF g (rList r)) fa) (hb : DE F Γ tb pb qi fb) :
    DE F Γ (tOp (rIxL K) ta tb) (fun e => pa e ∧ pb e ∧ inb (fa e) (fb e)) (qF g r) (fun e => gi (fa e) (fb e)) := fun B ms σ H e b S p Q q => ha b S p.1 _ fun v H1 s1 r1 => hb b (S.grow s1) p.2.1 _ fun u H2 s2 r2 => by
  obtain ⟨a, vs, e1, h1, z⟩ := r1
  have hl := pr_len z
  obtain ⟨x, hx, rx⟩ := pr_get z (gi_some p.2.2)
  exact ⟨a, vs, _, x, e1, r2, SqL.of (s2 _ _ (g.sub _ _ h1)), by rw [at_gi p.2.2.1 (by rw [hl]; exact p.2.2.2)]; exact hx, q _ _ (s1.trans s2) (r.mono (g.mono s2) rx)⟩
theorem de_ixI {α : Type} [Inhabited α] {ta tb : TE} {pa pb : E → Prop} {g : Rg} {r : Rp α} {fa : E → List α} {fb : E → Int} (ha : DE F Γ ta pa (qI g (rList r)) fa) (hb : DE F Γ tb pb qi fb) :
    DE F Γ (tOp (rIxL K) ta tb) (fun e => pa e ∧ pb e ∧ inb (fa e) (fb e)) (qI g r) (fun e => gi (fa e) (fb e)) := fun B ms σ H e b S p Q q => ha b S p.1 _ fun v H1 s1 r1 => hb b (S.grow s1) p.2.1 _ fun u H2 s2 r2 => by
  obtain ⟨a, vs, e1, h1, z⟩ := r1
  have hl := pr_len z
  obtain ⟨x, hx, rx⟩ := pr_get z (gi_some p.2.2)
  exact ⟨a, vs, _, x, e1, r2, SqL.of (s2 _ _ (out_same _ _ (g.sub _ _ h1))), by rw [at_gi p.2.2.1 (by rw [hl]; exact p.2.2.2)]; exact hx, q _ _ (s1.trans s2) (r.mono (g.mono (out_mono s2)) rx)⟩
theorem de_ixT {α : Type} [Inhabited α] {ta tb : TE} {pa pb : E → Prop} {g : Rg} {r : Rp α} {fa : E → List α} {fb : E → Int} (ha : DE F Γ ta pa (qI g (rTups r)) fa) (hb : DE F Γ tb pb qi fb) :
    DE F Γ (tOp (rIxT K) ta tb) (fun e => pa e ∧ pb e ∧ inb (fa e) (fb e)) (qI g r) (fun e => gi (fa e) (fb e)) := fun B ms σ H e b S p Q q => ha b S p.1 _ fun v H1 s1 r1 => hb b (S.grow s1) p.2.1 _ fun u H2 s2 r2 => by
  obtain ⟨a, vs, e1, h1, z⟩ := r1
  have hl := pr_len z
  obtain ⟨x, hx, rx⟩ := pr_get z (gi_some p.2.2)
  exact ⟨a, vs, _, x, e1, r2, SqT.of (s2 _ _ (out_same _ _ (g.sub _ _ h1))), by rw [at_gi p.2.2.1 (by rw [hl]; exact p.2.2.2)]; exact hx, q _ _ (s1.trans s2) (r.mono (g.mono (out_mono s2)) rx)⟩
/-- the k-th field -/
def FA {α A : Type} (fd : Fd A) (k : Int) (r : Rp α) (get : A → α) : Prop := ∀ ⦃h : Hp⦄ ⦃vs : List V⦄ ⦃x : A⦄, fd.rel h vs x → ∃ v, atI vs k = some v ∧ r.rel h v (get x)
theorem fa_nat {α A : Type} {fd : Fd A} {n : Nat} {r : Rp α} {get : A → α} (h : ∀ ⦃h : Hp⦄ ⦃vs : List V⦄ ⦃x : A⦄, fd.rel h vs x → ∃ v, vs[n]? = some v ∧ r.rel h v (get x)) : FA fd (n : Int) r get := fun _ _ _ q => by
  obtain ⟨v, e, z⟩ := h q
  refine ⟨v, ?_, z⟩
  rw [at_gi (by omega) (by have := (List.getElem?_eq_some_iff.mp e).1; omega)]
  exact e
def FN {α A : Type} (fd : Fd A) (n : Nat) (r : Rp α) (get : A → α) : Prop := ∀ ⦃h : Hp⦄ ⦃vs : List V⦄ ⦃x : A⦄, fd.rel h vs x → ∃ v, vs[n]? = some v ∧ r.rel h v (get x)
theorem fn_l {α : Type} {r : Rp α} : FN (f1 r) 0 r (fun x => x) := fun _ _ _ ⟨v, e, q⟩ => ⟨v, by rw [e]; rfl, q⟩
theorem fn_0 {α A : Type} {r : Rp α} {fd : Fd A} : FN (fc r fd) 0 r (fun x => x.1) := fun _ _ _ ⟨v, ws, e, q, _⟩ => ⟨v, by rw [e]; rfl, q⟩
theorem fn_S {α β A : Type} {r : Rp α} {s : Rp β} {fd : Fd A} {n : Nat} {get : A → β} (h : FN fd n s get) : FN (fc r fd) (n + 1) s (fun x => get x.2) := fun _ _ _ ⟨v, ws, e, q, z⟩ => by
  obtain ⟨u, hu, ru⟩ := h z
  exact ⟨u, by rw [e]; exact hu, ru⟩
theorem de_fld {α A : Type} {ta : TE} {pa : E → Prop} {g : Rg} {fd : Fd A} {r : Rp α} {n : Nat} {get : A → α} {fa : E → A} (ha : DE F Γ ta pa (qI g (rTup fd)) fa) (h : FN fd n r get) : DE F Γ (tOp (rIxT K) ta (tC (.int (n : Int)))) pa (qI g r) (fun e => get (fa e)) := fun _ _ _ _ _ b S p Q q => ha b S p _ fun v H1 s1 r1 => by
  obtain ⟨a, vs, e1, h1, z⟩ := r1
  obtain ⟨u, hu, ru⟩ := fa_nat h z
  exact ⟨a, vs, _, u, e1, rfl, SqT.of (out_same _ _ (g.sub _ _ h1)), hu, q _ _ s1 ru⟩
/-- a slice of a list -/
def cuti {α : Type} (xs : List α) (lo hi : Option Int) : List α := (xs.drop (HT.sIx xs.length 0 lo)).take (HT.sIx xs.length xs.length hi - HT.sIx xs.length 0 lo)
theorem do_none : DO F Γ tNoPart T0 (fun _ => none) := fun _ _ _ _ _ _ _ _ Q q => q _ (Same.refl _)
theorem do_some {t : TE} {p : E → Prop} {f : E → Int} (h : DE F Γ t p qi f) : DO F Γ (tPart t) p (fun e => some (f e)) := fun _ _ _ _ _ b S pp Q q => h b S pp _ fun v H1 s1 r1 => ⟨_, r1, q _ s1⟩
theorem de_slice {α : Type} {ta : TE} {tl th : L2.TO} {pa pl ph : E → Prop} {g : Rg} {r : Rp α} {fa : E → List α} {fl fh : E → Option Int} (ha : DE F Γ ta pa (qI g (rList r)) fa) (hl : DO F Γ tl pl fl) (hh : DO F Γ th ph fh) :
    DE F Γ (tSl (rSlL K) ta tl th) (fun e => pa e ∧ pl e ∧ ph e) (qL g r) (fun e => cuti (fa e) (fl e) (fh e)) := fun B ms σ H e b S p Q q => ha b S p.1 _ fun v H1 s1 r1 => hl b (S.grow s1) p.2.1 _ fun H2 s2 => hh b ((S.grow s1).grow s2) p.2.2 _ fun H3 s3 => by
  obtain ⟨a, vs, e1, h1, z⟩ := r1
  have hlen := pr_len z
  refine ⟨a, vs, e1, SqL.of (s3 _ _ (s2 _ _ (out_same _ _ (g.sub _ _ h1)))), fun p hp => q _ _ (((s1.trans s2).trans s3).trans (same_new hp)) ⟨p, _, rfl, ((s1.trans s2).trans s3).free hp, upd_same, ?_⟩⟩
  unfold cutV cuti
  rw [hlen]
  exact pr_take _ (pr_drop _ (pr_map z fun _ _ y => r.mono (g.mono ((out_mono (s2.trans s3)).trans (new_cons hp))) y))

/-! built-ins -/
def rLenX (K : PySem.W.Frag) : List V → Hp → VK → Prop := fun xs H Q => ∃ x n, xs = [x] ∧ LenV K x H n ∧ Q (.int n) H
theorem de_len {α : Type} {ta : TE} {pa : E → Prop} {g : Rg} {r : Rp α} {fa : E → List α} (ha : DE F Γ ta pa (qF g (rList r)) fa) : DE F Γ (tCB (rLenX K) (tCons ta tNil)) pa qi (fun e => ((fa e).length : Int)) := fun _ _ _ _ _ b S p Q q => ha b S p _ fun v H1 s1 r1 => by
  obtain ⟨a, vs, e1, h1, z⟩ := r1
  rw [e1]
  exact ⟨_, vs.length, rfl, .inl ⟨vs, SqL.of (g.sub _ _ h1), rfl⟩, q _ _ s1 (by rw [pr_len z]; rfl)⟩
theorem de_lenT {α : Type} {ta : TE} {pa : E → Prop} {g : Rg} {r : Rp α} {fa : E → List α} (ha : DE F Γ ta pa (qF g (rTups r)) fa) : DE F Γ (tCB (rLenX K) (tCons ta tNil)) pa qi (fun e => ((fa e).length : Int)) := fun _ _ _ _ _ b S p Q q => ha b S p _ fun v H1 s1 r1 => by
  obtain ⟨a, vs, e1, h1, z⟩ := r1
  rw [e1]
  exact ⟨_, vs.length, rfl, .inr ⟨vs, SqT.of (g.sub _ _ h1), rfl⟩, q _ _ s1 (by rw [pr_len z]; rfl)⟩
theorem de_lenS {ta : TE} {pa : E → Prop} {fa : E → Str} (ha : DE F Γ ta pa qs fa) : DE F Γ (tCB (rLenX K) (tCons ta tNil)) (fun e => pa e ∧ (fa e).length ≤ sizeLine) qi (fun e => ((fa e).length : Int)) := fun B ms σ H e b S p Q q => ha b S p.1 _ fun v H1 s1 r1 => by
  rw [show v = _ from r1]
  exact ⟨_, (fa e).length, rfl, ⟨p.2, rfl⟩, q _ _ s1 rfl⟩
theorem de_sum {ta : TE} {pa : E → Prop} {g : Rg} {fa : E → List Int} (ha : DE F Γ ta pa (qF g (rList rInt)) fa) : DE F Γ (tCB (rSum K) (tCons ta tNil)) pa qi (fun e => (fa e).sum) := fun _ _ _ _ _ b S p Q q => ha b S p _ fun v H1 s1 r1 => by
  obtain ⟨a, vs, e1, h1, z⟩ := r1
  exact ⟨a, _, by rw [e1], SqL.of (by rw [← pr_int z]; exact g.sub _ _ h1), q _ _ s1 rfl⟩
theorem de_all {ta : TE} {pa : E → Prop} {g : Rg} {fa : E → List Bool} (ha : DE F Γ ta pa (qF g (rList rBool)) fa) : DE F Γ (tCB (rAll K) (tCons ta tNil)) pa qb (fun e => (fa e).all id) := fun _ _ _ _ _ b S p Q q => ha b S p _ fun v H1 s1 r1 => by
  obtain ⟨a, vs, e1, h1, z⟩ := r1
  exact ⟨a, _, by rw [e1], SqL.of (by rw [← pr_bool z]; exact g.sub _ _ h1), q _ _ s1 rfl⟩
/-- the least, the greatest of a list of ints -/
def mini : List Int → Int
  | [] => 0
  | [x] => x
  | x :: y :: r => if x ≤ mini (y :: r) then x else mini (y :: r)
theorem mini_spec : ∀ {xs : List Int}, xs ≠ [] → mini xs ∈ xs ∧ ∀ y ∈ xs, mini xs ≤ y
  | [], h => absurd rfl h
  | [x], _ => ⟨by simp [mini], fun y hy => by simp at hy; subst hy; simp [mini]⟩
  | x :: y :: r, _ => by
    obtain ⟨h1, h2⟩ := mini_spec (xs := y :: r) (by simp)
    unfold mini
    split
    · rename_i h
      refine ⟨List.mem_cons_self, fun z hz => ?_⟩
      rcases List.mem_cons.mp hz with e | hz
      · omega
      · have := h2 z hz; omega
    · rename_i h
      refine ⟨List.mem_cons_of_mem _ h1, fun z hz => ?_⟩
      rcases List.mem_cons.mp hz with e | hz
      · omega
      · exact h2 z hz
theorem de_min {ta : TE} {pa : E → Prop} {g : Rg} {fa : E → List Int} (ha : DE F Γ ta pa (qF g (rList rInt)) fa) : DE F Γ (tCB (rMin K) (tCons ta tNil)) (fun e => pa e ∧ fa e ≠ []) qi (fun e => mini (fa e)) := fun B ms σ H e b S p Q q => ha b S p.1 _ fun v H1 s1 r1 => by
  obtain ⟨a, vs, e1, h1, z⟩ := r1
  refine ⟨a, _, by rw [e1], SqL.of (by rw [← pr_int z]; exact g.sub _ _ h1), List.length_pos_iff.mpr p.2, fun m hm hle => q _ _ s1 ?_⟩
  obtain ⟨k1, k2⟩ := mini_spec p.2
  have a1 := hle _ k1
  have a2 := k2 _ hm
  show V.int m = V.int (mini (fa e))
  rw [show m = mini (fa e) by omega]
theorem max_ite (a b : Int) : (if b > a then b else a) = max a b := by split <;> omega
theorem min_ite (a b : Int) : (if b < a then b else a) = min a b := by split <;> omega
theorem de_max2 {ta tb : TE} {pa pb : E → Prop} {fa fb : E → Int} (ha : DE F Γ ta pa qi fa) (hb : DE F Γ tb pb qi fb) : DE F Γ (tCB (fun xs H Q => ∃ i j, xs = [.int i, .int j] ∧ Q (.int (if j > i then j else i)) H) (tCons ta (tCons tb tNil))) (fun e => pa e ∧ pb e) qi (fun e => max (fa e) (fb e)) := fun B ms σ H e b S p Q q => ha b S p.1 _ fun v H1 s1 r1 => hb b (S.grow s1) p.2 _ fun u H2 s2 r2 => ⟨fa e, fb e, by rw [show v = V.int (fa e) from r1, show u = V.int (fb e) from r2], q _ _ (s1.trans s2) (congrArg V.int (max_ite _ _))⟩
theorem de_min2 {ta tb : TE} {pa pb : E → Prop} {fa fb : E → Int} (ha : DE F Γ ta pa qi fa) (hb : DE F Γ tb pb qi fb) : DE F Γ (tCB (fun xs H Q => ∃ i j, xs = [.int i, .int j] ∧ Q (.int (if j < i then j else i)) H) (tCons ta (tCons tb tNil))) (fun e => pa e ∧ pb e) qi (fun e => min (fa e) (fb e)) := fun B ms σ H e b S p Q q => ha b S p.1 _ fun v H1 s1 r1 => hb b (S.grow s1) p.2 _ fun u H2 s2 r2 => ⟨fa e, fb e, by rw [show v = V.int (fa e) from r1, show u = V.int (fb e) from r2], q _ _ (s1.trans s2) (congrArg V.int (min_ite _ _))⟩
theorem de_abs {ta : TE} {pa : E → Prop} {fa : E → Int} (ha : DE F Γ ta pa qi fa) : DE F Γ (tCB (fun xs H Q => ∃ i, xs = [.int i] ∧ Q (.int (if i < 0 then -i else i)) H) (tCons ta tNil)) pa qi (fun e => if fa e < 0 then -fa e else fa e) := fun _ _ _ _ _ b S p Q q => ha b S p _ fun v H1 s1 r1 => ⟨_, congrArg (fun z => [z]) r1, q _ _ s1 rfl⟩
/-- list(xs) -/
theorem de_listof {α : Type} {ta : TE} {pa : E → Prop} {g : Rg} {r : Rp α} {fa : E → List α} (ha : DE F Γ ta pa (qI g (rList r)) fa) :
    DE F Γ (tCB (fun xs H Q => ∃ p ys, xs = [.ref p] ∧ (SqL K H p ys ∨ SqT K H p ys) ∧ ∀ l, H l = none → Q (.ref l) (upd H l (.lst ys))) (tCons ta tNil)) pa (qL g r) fa := fun _ _ _ _ _ b S p Q q => ha b S p _ fun v H1 s1 r1 => by
  obtain ⟨a, vs, e1, h1, z⟩ := r1
  exact ⟨a, vs, by rw [e1], .inl (SqL.of (out_same _ _ (g.sub _ _ h1))), fun l hl => q _ _ (s1.trans (same_new hl)) ⟨l, vs, rfl, s1.free hl, upd_same, pr_map z fun _ _ y => r.mono (g.mono (new_cons hl)) y⟩⟩
/-- of an owned list of what leans on tuples alone -/
theorem de_listofF {α : Type} {ta : TE} {pa : E → Prop} {g g' : Rg} {r : Rp α} {fa : E → List α} (t : TO r) (gt : GT F g') (ha : DE F Γ ta pa (qF g (rList r)) fa) :
    DE F Γ (tCB (fun xs H Q => ∃ p ys, xs = [.ref p] ∧ (SqL K H p ys ∨ SqT K H p ys) ∧ ∀ l, H l = none → Q (.ref l) (upd H l (.lst ys))) (tCons ta tNil)) pa (qL g' r) fa := fun B ms σ H e b S p Q q => ha b S p _ fun v H1 s1 r1 => by
  obtain ⟨a, vs, e1, h1, z⟩ := r1
  refine ⟨a, vs, by rw [e1], .inl (SqL.of (g.sub _ _ h1)), fun l hl => q _ _ (s1.trans (same_new hl)) ⟨l, vs, rfl, s1.free hl, upd_same, pr_map z fun v x y => ?_⟩⟩
  have y1 : (qI g' r).rel ms H H1 v x := cv_to (g := g) t gt (S.bs b s1) y
  exact r.mono (g'.mono (new_cons hl)) y1
theorem de_cat {α : Type} {ta tb : TE} {pa pb : E → Prop} {g : Rg} {r : Rp α} {fa fb : E → List α} (ha : DE F Γ ta pa (qI g (rList r)) fa) (hb : DE F Γ tb pb (qI g (rList r)) fb) :
    DE F Γ (tOp rCat ta tb) (fun e => pa e ∧ pb e ∧ (fa e).length + (fb e).length ≤ sizeLine) (qL g r) (fun e => fa e ++ fb e) := fun B ms σ H e b S p Q q => ha b S p.1 _ fun v H1 s1 r1 => hb b (S.grow s1) p.2.1 _ fun u H2 s2 r2 => by
  obtain ⟨a, vs, e1, h1, z⟩ := r1
  obtain ⟨c, ws, e2, h2, y⟩ := r2
  exact ⟨a, c, vs, ws, e1, e2, s2 _ _ (out_same _ _ (g.sub _ _ h1)), out_same _ _ (g.sub _ _ h2), by rw [pr_len z, pr_len y]; exact p.2.2, fun l hl => q _ _ ((s1.trans s2).trans (same_new hl)) ⟨l, _, rfl, (s1.trans s2).free hl, upd_same,
    pr_app (pr_map z fun _ _ x => r.mono (g.mono ((out_mono s2).trans (new_cons hl))) x) (pr_map y fun _ _ x => r.mono (g.mono (new_cons hl)) x)⟩⟩
/-- x in xs, flat ints or texts -/
theorem any_map {α β : Type} (f : α → β) (p : β → Bool) : ∀ xs : List α, (xs.map f).any p = xs.any fun x => p (f x)
  | [] => rfl
  | x :: r => by rw [List.map_cons, List.any_cons, List.any_cons, any_map f p r]
theorem inV_int {x : Int} {xs : List Int} : inV (.int x) (xs.map V.int) = decide (x ∈ xs) := by
  unfold inV
  rw [any_map, Bool.eq_iff_iff, List.any_eq_true, decide_eq_true_eq]
  constructor
  · rintro ⟨z, hz, h⟩
    have : z = x := of_decide_eq_true h
    rw [← this]; exact hz
  · intro h
    exact ⟨x, h, decide_eq_true rfl⟩
theorem inV_str {x : Str} {xs : List Str} : inV (.str x) (xs.map V.str) = decide (x ∈ xs) := by
  unfold inV
  rw [any_map, Bool.eq_iff_iff, List.any_eq_true, decide_eq_true_eq]
  constructor
  · rintro ⟨z, hz, h⟩
    have : z = x := of_decide_eq_true h
    rw [← this]; exact hz
  · intro h
    exact ⟨x, h, decide_eq_true rfl⟩
theorem flat_int : ∀ {xs : List Int}, (xs.map V.int).all flatV = true
  | [] => rfl
  | _ :: r => by rw [List.map_cons, List.all_cons, flat_int]; rfl
theorem flat_str : ∀ {xs : List Str}, (xs.map V.str).all flatV = true
  | [] => rfl
  | _ :: r => by rw [List.map_cons, List.all_cons, flat_str]; rfl
theorem de_inI {neg : Bool} {ta tb : TE} {pa pb : E → Prop} {g : Rg} {fa : E → Int} {fb : E → List Int} (ha : DE F Γ ta pa qi fa) (hb : DE F Γ tb pb (qF g (rList rInt)) fb) :
    DE F Γ (tOp (rIn K neg) ta tb) (fun e => pa e ∧ pb e) qb (fun e => if neg then !decide (fa e ∈ fb e) else decide (fa e ∈ fb e)) := fun B ms σ H e b S p Q q => ha b S p.1 _ fun v H1 s1 r1 => hb b (S.grow s1) p.2 _ fun u H2 s2 r2 => by
  obtain ⟨a, vs, e1, h1, z⟩ := r2
  rw [show v = _ from r1]
  have ev := pr_int z
  subst ev
  exact ⟨a, _, e1, .inl (SqL.of (g.sub _ _ h1)), rfl, flat_int, q _ _ (s1.trans s2) (by rw [inV_int]; rfl)⟩
theorem de_inS {neg : Bool} {ta tb : TE} {pa pb : E → Prop} {g : Rg} {fa : E → Str} {fb : E → List Str} (ha : DE F Γ ta pa qs fa) (hb : DE F Γ tb pb (qF g (rList rStr)) fb) :
    DE F Γ (tOp (rIn K neg) ta tb) (fun e => pa e ∧ pb e) qb (fun e => if neg then !decide (fa e ∈ fb e) else decide (fa e ∈ fb e)) := fun B ms σ H e b S p Q q => ha b S p.1 _ fun v H1 s1 r1 => hb b (S.grow s1) p.2 _ fun u H2 s2 r2 => by
  obtain ⟨a, vs, e1, h1, z⟩ := r2
  rw [show v = _ from r1]
  have ev := pr_str z
  subst ev
  exact ⟨a, _, e1, .inl (SqL.of (g.sub _ _ h1)), rfl, flat_str, q _ _ (s1.trans s2) (by rw [inV_str]; rfl)⟩
end
end D

set_option Elab.async false
set_option linter.all false
set_option maxRecDepth 100000
namespace D
open PySem L2

/-! ### statements -/
/-- what is wanted behind a statement, in plain data -/
structure Ko (E Eb Ec Ex ρ : Type) where
  nx : E → Prop
  bk : Eb → Prop
  ct : Ec → Prop
  ex : Str → Ex → Prop
  rt : ρ → Prop
/-- the contexts at a break, a continue, a raise; how a returned value stands -/
structure Cs (Eb Ec Ex ρ : Type) where
  b : Ctx Eb
  c : Ctx Ec
  x : Ctx Ex
  r : Hp → V → ρ → Prop
  /-- the classes of errors by their names -/
  cl : Str → Value
structure Conn {E Eb Ec Ex ρ : Type} (C : Cs Eb Ec Ex ρ) (Γ' : Ctx E) (W : WX) (B : Hp) (Dn : Ends) (k : Ko E Eb Ec Ex ρ) : Prop where
  nx : ∀ {ms : List Addr} {σ : L2.St} {H : Hp} {e : E}, St0 Γ' B ms σ H e → k.nx e → Dn.nx σ H
  bk : ∀ {ms : List Addr} {σ : L2.St} {H : Hp} {e : Eb}, St0 C.b B ms σ H e → k.bk e → Dn.bk σ H
  ct : ∀ {ms : List Addr} {σ : L2.St} {H : Hp} {e : Ec}, St0 C.c B ms σ H e → k.ct e → Dn.ct σ H
  ex : ∀ {ms : List Addr} {σ : L2.St} {H : Hp} {e : Ex} {cls : Str}, St0 C.x B ms σ H e → k.ex cls e → W (C.cl cls) none σ H
  rt : ∀ {v : V} {H : Hp} {y : ρ}, Same B H → C.r H v y → k.rt y → Dn.rt v H
def DS {E E' Eb Ec Ex ρ : Type} (F : Hp) (W : WX) (C : Cs Eb Ec Ex ρ) (Γ : Ctx E) (t : TS) (Γ' : Ctx E') (w : E → Ko E' Eb Ec Ex ρ → Prop) : Prop :=
  ∀ ⦃B : Hp⦄ ⦃ms : List Addr⦄ ⦃σ : L2.St⦄ ⦃H : Hp⦄ ⦃e : E⦄, Same F B → St0 Γ B ms σ H e → ∀ (Dn : Ends) (k : Ko E' Eb Ec Ex ρ), w e k → Conn C Γ' W B Dn k → t Dn σ H

section
variable {E E1 E' Eb Ec Ex ρ : Type} {F : Hp} {W : WX} {C : Cs Eb Ec Ex ρ} {Γ : Ctx E} {Γ1 : Ctx E1} {Γ' : Ctx E'} {K : PySem.W.Frag}
theorem St0.base {B B' : Hp} {ms : List Addr} {σ : L2.St} {H : Hp} {e : E} (s : Same B' B) (x : St0 Γ B ms σ H e) : St0 Γ B' ms σ H e := ⟨x.nd, fun p hp => s.free (x.bn p hp), s.trans x.sb, x.nt, x.r⟩
theorem ds_seq {t u : TS} {w : E → Ko E1 Eb Ec Ex ρ → Prop} {w' : E1 → Ko E' Eb Ec Ex ρ → Prop} (h : DS F W C Γ t Γ1 w) (h' : DS F W C Γ1 u Γ' w') : DS F W C Γ (tSeq t u) Γ' (fun e k => w e { k with nx := fun e1 => w' e1 k }) :=
  fun _ _ _ _ _ fb S Dn k hw c => h fb S { Dn with nx := u Dn } _ hw ⟨fun S' q => h' fb S' Dn k q c, c.bk, c.ct, c.ex, c.rt⟩
/-- the same, with a word between them -/
theorem ds_cut {t u : TS} {w : E → Ko E1 Eb Ec Ex ρ → Prop} {w' : E1 → Ko E' Eb Ec Ex ρ → Prop} (h : DS F W C Γ t Γ1 w) (h' : DS F W C Γ1 u Γ' w') : DS F W C Γ (tSeq t u) Γ' (fun e k => ∃ M : E1 → Prop, w e { k with nx := M } ∧ ∀ e1, M e1 → w' e1 k) :=
  fun _ _ _ _ _ fb S Dn k ⟨M, hw, hM⟩ c => h fb S { Dn with nx := u Dn } _ hw ⟨fun S' q => h' fb S' Dn k (hM _ q) c, c.bk, c.ct, c.ex, c.rt⟩
theorem ds_next : DS F W C Γ tNext Γ (fun e k => k.nx e) := fun _ _ _ _ _ fb S Dn k hw c => c.nx S hw
/-- ahead of a statement a weaker context -/
theorem st_sub {B : Hp} {ms : List Addr} {σ : L2.St} {H : Hp} {e : E} {cv : E → E1} (fb : Same F B) (s : Sub F Γ Γ1 cv) (S : St0 Γ B ms σ H e) : ∃ m', St0 Γ1 B m' σ H (cv e) := by
  obtain ⟨m1, n1, s1, r⟩ := S.r
  obtain ⟨m', sl, k⟩ := s n1 (fun p hp => fb.free (S.bn p (s1 p hp))) r
  have sub : ∀ p ∈ m', p ∈ ms := fun p hp => s1 p (sl.subset hp)
  refine ⟨m', n1.sublist sl, fun p hp => S.bn p (sub p hp), S.sb, fun p hp => S.nt p (sub p hp), m', n1.sublist sl, fun _ h => h, k _ (out_sub sub) fun p hp hn => out_ni hn⟩
theorem ds_sub {t : TS} {cv : E → E1} {w : E1 → Ko E' Eb Ec Ex ρ → Prop} (s : Sub F Γ Γ1 cv) (h : DS F W C Γ1 t Γ' w) : DS F W C Γ t Γ' (fun e k => w (cv e) k) := fun _ _ _ _ _ fb S Dn k hw c => by
  obtain ⟨m', S'⟩ := st_sub fb s S
  exact h fb S' Dn k hw c
theorem ds_post {t : TS} {cv : E1 → E'} {w : E → Ko E1 Eb Ec Ex ρ → Prop} (h : DS F W C Γ t Γ1 w) (s : Sub F Γ1 Γ' cv) : DS F W C Γ t Γ' (fun e k => w e { k with nx := fun e1 => k.nx (cv e1) }) := fun _ _ _ _ _ fb S Dn k hw c =>
  h fb S Dn _ hw ⟨fun S' q => by obtain ⟨m', S2⟩ := st_sub fb s S'; exact c.nx S2 q, c.bk, c.ct, c.ex, c.rt⟩
/-- a value into a slot -/
theorem st_put {α : Type} {i : Nat} {g : Rg} {r : Rp α} {set : E → α → E'} {B : Hp} {ms : List Addr} {σ : L2.St} {H : Hp} {e : E} (p : Put Γ i (kI g r) Γ' set) (S : St0 Γ B ms σ H e) {v : V} {x : α} (q : r.rel (g.fn (out ms H)) v x) : St0 Γ' B ms (σ.set i (some v)) H (set e x) := by
  obtain ⟨m1, n1, s1, z⟩ := S.r
  obtain ⟨hi, a, b, c, e1, k⟩ := p z
  subst e1
  have nn := List.nodup_append.mp n1
  have nn2 := List.nodup_append.mp nn.2.1
  refine ⟨S.nd, S.bn, S.sb, S.nt, a ++ ([] ++ c), List.nodup_append.mpr ⟨nn.1, by simpa using nn2.2.1, fun x hx y hy => nn.2.2 x hx y (List.mem_append_right _ (by simpa using hy))⟩, fun p hp => s1 p ?_, k [] (some v) x _ H (Same.refl _) (fun _ _ => rfl) ⟨rfl, v, rfl, q⟩⟩
  rcases List.mem_append.mp hp with h | h
  · exact List.mem_append_left _ h
  · exact List.mem_append_right _ (List.mem_append_right _ (by simpa using h))
theorem ds_set {α : Type} {te : TE} {i : Nat} {pre : E → Prop} {g : Rg} {r : Rp α} {f : E → α} {set : E → α → E'} (h : DE F Γ te pre (qI g r) f) (p : Put Γ i (kI g r) Γ' set) :
    DS F W C Γ (tAsg te (gName i)) Γ' (fun e k => pre e ∧ ∀ x, x = f e → k.nx (set e x)) := fun _ _ _ _ _ fb S Dn k hw c => h fb S hw.1 _ fun v H1 s1 r1 => c.nx (st_put p (S.grow s1) r1) (hw.2 _ rfl)
/-- a new list into a slot: owned from then on -/
theorem st_putL {α : Type} {i : Nat} {g : Rg} {r : Rp α} {set : E → List α → E'} {B : Hp} {ms : List Addr} {σ : L2.St} {H H1 : Hp} {e : E} (p : Put Γ i (kL g r) Γ' set) (S : St0 Γ B ms σ H e) (s : Same H H1) {v : V} {x : List α} (q : (qL g r).rel ms H H1 v x) : ∃ ms', St0 Γ' B ms' (σ.set i (some v)) H1 (set e x) := by
  have S1 := S.grow s
  obtain ⟨m1, n1, s1, z⟩ := S1.r
  obtain ⟨a, vs, ev, hn, h1, pr⟩ := q
  have ha : a ∉ ms := fun h => by
    obtain ⟨u, hu, _⟩ := S.nt a h
    rw [hn] at hu; cases hu
  have hold : ∀ x, out (a :: ms) H1 x = none ∨ out (a :: ms) H1 x = out ms H1 x := fun x => by
    by_cases hx : x ∈ a :: ms
    · exact .inl (out_in hx)
    · exact .inr (by rw [out_ni hx, out_ni fun h => hx (List.mem_cons_of_mem _ h)])
  -- what the context needs stands in H, where a is not
  obtain ⟨m0, n0, s0, z0⟩ := S.r
  have z' : Γ.rel m0 (out (a :: ms) H1) σ H1 e := Γ.stable (fun x o ex => by
    have hx : x ∉ a :: ms := fun h => by
      rcases List.mem_cons.mp h with h | h
      · rw [h] at ex
        by_cases hm : a ∈ ms
        · exact ha hm
        · rw [out_ni hm, hn] at ex; cases ex
      · rw [out_in h] at ex; cases ex
    rw [out_ni hx]
    rw [out_ni fun h => hx (List.mem_cons_of_mem _ h)] at ex
    exact s x o ex) (fun p hp => (S.nt p (s0 p hp)).same s) z0
  obtain ⟨hi, b, cc, d, e1, k⟩ := p z'
  subst e1
  have nn := List.nodup_append.mp n0
  have nn2 := List.nodup_append.mp nn.2.1
  have ab : ∀ y, y ∈ b → y ≠ a := fun y hy e => ha (by rw [← e]; exact s0 y (List.mem_append_left _ hy))
  have ad : ∀ y, y ∈ d → y ≠ a := fun y hy e => ha (by rw [← e]; exact s0 y (List.mem_append_right _ (List.mem_append_right _ hy)))
  refine ⟨a :: ms, List.nodup_cons.mpr ⟨ha, S.nd⟩, ?_, S1.sb, ?_, b ++ ([a] ++ d), ?_, ?_, k [a] (some v) x _ H1 (Same.refl _) (fun _ _ => rfl) ⟨a, vs, rfl, by rw [ev], h1, pr⟩⟩
  · intro p hp
    rcases List.mem_cons.mp hp with h | h
    · rw [h]; exact S.sb.free hn
    · exact S.bn p h
  · intro p hp
    rcases List.mem_cons.mp hp with h | h
    · rw [h]; exact ⟨_, h1, fun xs z => by cases z⟩
    · exact S1.nt p h
  · refine List.nodup_append.mpr ⟨nn.1, List.nodup_cons.mpr ⟨fun h => ad a (by simpa using h) rfl, nn2.2.1⟩, fun x hx y hy => ?_⟩
    rcases List.mem_cons.mp (by simpa using hy : y ∈ a :: d) with h | h
    · rw [h]; exact ab x hx
    · exact nn.2.2 x hx y (List.mem_append_right _ h)
  · intro p hp
    rcases List.mem_append.mp hp with h | h
    · exact List.mem_cons_of_mem _ (s0 p (List.mem_append_left _ h))
    · rcases List.mem_cons.mp (by simpa using h : p ∈ a :: d) with h | h
      · rw [h]; exact List.mem_cons_self
      · exact List.mem_cons_of_mem _ (s0 p (List.mem_append_right _ (List.mem_append_right _ h)))
theorem ds_setL {α : Type} {te : TE} {i : Nat} {pre : E → Prop} {g : Rg} {r : Rp α} {f : E → List α} {set : E → List α → E'} (h : DE F Γ te pre (qL g r) f) (p : Put Γ i (kL g r) Γ' set) :
    DS F W C Γ (tAsg te (gName i)) Γ' (fun e k => pre e ∧ ∀ x, x = f e → k.nx (set e x)) := fun _ _ _ _ _ fb S Dn k hw c => h fb S hw.1 _ fun v H1 s1 r1 => by
  obtain ⟨m', S'⟩ := st_putL p S s1 r1
  exact c.nx S' (hw.2 _ rfl)
theorem ds_drop {α : Type} {te : TE} {pre : E → Prop} {R : Rk α} {f : E → α} (h : DE F Γ te pre R f) : DS F W C Γ (tDrop te) Γ (fun e k => pre e ∧ k.nx e) := fun _ _ _ _ _ fb S Dn k hw c => h fb S hw.1 _ fun v H1 s1 r1 => c.nx (S.grow s1) hw.2
theorem ds_if {tc : TT} {t u : TS} {pre : E → Prop} {b : E → Bool} {w w' : E → Ko E' Eb Ec Ex ρ → Prop} (h : DT F Γ tc pre b) (h1 : DS F W C Γ t Γ' w) (h2 : DS F W C Γ u Γ' w') :
    DS F W C Γ (tIfS tc t u) Γ' (fun e k => pre e ∧ (b e = true → w e k) ∧ (b e = false → w' e k)) := fun B ms σ H e fb S Dn k hw c => h fb S hw.1 _ fun H1 s1 => by
  cases hb : b e with
  | true => exact h1 fb (S.grow s1) Dn k (hw.2.1 hb) c
  | false => exact h2 fb (S.grow s1) Dn k (hw.2.2 hb) c
theorem ds_ret {te : TE} {pre : E → Prop} {g : Rg} {r : Rp ρ} {f : E → ρ} (h : DE F Γ te pre (qF g r) f) (hr : ∀ {H v y}, r.rel (g.fn H) v y → C.r H v y) :
    DS F W C Γ (tRet te) Γ' (fun e k => pre e ∧ k.rt (f e)) := fun _ _ _ _ _ fb S Dn k hw c => h fb S hw.1 _ fun v H1 s1 r1 => c.rt (S.sb.trans s1) (hr r1) hw.2
theorem ds_retN {y : ρ} (hr : ∀ {H}, C.r H .non y) : DS F W C Γ tRetN Γ' (fun e k => k.rt y) := fun _ _ _ _ _ fb S Dn k hw c => c.rt S.sb hr hw
theorem ds_never : DS F W C Γ tNever Γ' (fun e k => False) := fun _ _ _ _ _ _ _ _ _ hw _ => hw.elim
theorem ds_brk {Eb' : Type} {C : Cs E Ec Ex ρ} (hb : C.b = Γ) : DS F W C Γ tBreak Γ' (fun e k => k.bk e) := fun _ _ _ _ _ fb S Dn k hw c => c.bk (by rw [hb]; exact S) hw
theorem ds_cnt {C : Cs Eb E Ex ρ} (hb : C.c = Γ) : DS F W C Γ tCont Γ' (fun e k => k.ct e) := fun _ _ _ _ _ fb S Dn k hw c => c.ct (by rw [hb]; exact S) hw
/-- a place, read and written -/
def Ln {α : Type} (Γ : Ctx E) (i : Nat) (s : Sk α) (get : E → α) (set : E → α → E) : Prop := ∀ ⦃ms : List Addr⦄ ⦃hS : Hp⦄ ⦃σ : L2.St⦄ ⦃H : Hp⦄ ⦃e : E⦄, Γ.rel ms hS σ H e →
  ∃ m1 m0 m2 o, ms = m1 ++ (m0 ++ m2) ∧ σ[i]? = some o ∧ s.rel m0 hS H o (get e) ∧ ∀ (fp : List Addr) (x : α) (hS' H' : Hp), Same hS hS' → (∀ p, p ∈ m1 ∨ p ∈ m2 → H' p = H p) → s.rel fp hS' H' o x → Γ.rel (m1 ++ (fp ++ m2)) hS' σ H' (set e x)
theorem l0 {α : Type} {s : Sk α} {Γ : Ctx E} : Ln (cS s Γ) 0 s (fun e => e.1) (fun e x => (x, e.2)) := fun _ _ _ _ _ ⟨o, σ', fp, ms', em, es, q, z⟩ =>
  ⟨[], fp, ms', o, em, by rw [es]; rfl, q, fun fp' x hS' H' a b q' => ⟨o, σ', fp', ms', rfl, es, q', Γ.stable a (fun p hp => b p (.inr hp)) z⟩⟩
theorem lS {α β : Type} {s : Sk α} {t : Sk β} {Γ : Ctx E} {i : Nat} {get : E → α} {set : E → α → E} (h : Ln Γ i s get set) : Ln (cS t Γ) (i + 1) s (fun e => get e.2) (fun e x => (e.1, set e.2 x)) := fun _ _ _ _ _ ⟨o, σ', fp, ms', em, es, q, z⟩ => by
  obtain ⟨m1, m0, m2, o', e1, h1, h2, k⟩ := h z
  refine ⟨fp ++ m1, m0, m2, o', by rw [em, e1, List.append_assoc], by rw [es]; exact h1, h2, fun fp' x hS' H' a b q' => ?_⟩
  exact ⟨o, σ', fp, m1 ++ (fp' ++ m2), by rw [List.append_assoc], es, t.stable a (fun p hp => b p (.inl (List.mem_append_left _ hp))) q, k fp' x hS' H' a (fun p hp => b p (hp.imp (fun z => List.mem_append_right _ z) id)) q'⟩
theorem NT.upd {H : Hp} {q l : Addr} {o : HO} (hn : ∀ xs, o ≠ .tup xs) (hq : NT (H q)) : NT (upd H l o q) := by
  by_cases e : q = l
  · rw [e, upd_same]; exact ⟨_, rfl, hn⟩
  · rw [upd_ne e]; exact hq
/-- an owned list, changed -/
theorem st_mut {α : Type} {i : Nat} {g : Rg} {r : Rp α} {get : E → List α} {set : E → List α → E} (a : Ln Γ i (kL g r) get set) {B : Hp} {ms : List Addr} {σ : L2.St} {H : Hp} {e : E} (S : St0 Γ B ms σ H e) :
    ∃ l vs, σ[i]? = some (some (.ref l)) ∧ H l = some (.lst vs) ∧ Paired (r.rel (g.fn (out ms H))) vs (get e) ∧ ∀ H1 ws ys, Same H H1 → Paired (r.rel (g.fn (out ms H1))) ws ys → St0 Γ B ms σ (upd H1 l (.lst ws)) (set e ys) := by
  obtain ⟨k1, n1, s1, z⟩ := S.r
  obtain ⟨m1, m0, m2, o, e1, h1, ⟨l, vs, h3, h4, h5, h6⟩, k⟩ := a z
  subst e1 h3 h4
  have hl : l ∈ ms := s1 l (List.mem_append_right _ (List.mem_cons_self))
  have nn := List.nodup_append.mp n1
  have nn2 := List.nodup_cons.mp (show (l :: m2).Nodup from nn.2.1)
  refine ⟨l, vs, h1, h5, h6, fun H1 ws ys s hp => ?_⟩
  have S1 := S.grow s
  refine ⟨S.nd, S.bn, ?_, fun p hp => NT.upd (fun xs z => by cases z) (S1.nt p hp), m1 ++ ([l] ++ m2), n1, s1, k [l] ys _ _ ?_ ?_ ⟨l, ws, rfl, rfl, upd_same, ?_⟩⟩
  · intro p o ep
    have : p ≠ l := fun z => by rw [z, S.bn l hl] at ep; cases ep
    rw [upd_ne this]
    exact S1.sb p o ep
  · rw [out_upd hl]
    exact out_mono s
  · intro p hp
    have hne : p ≠ l := by
      rcases hp with h | h
      · exact fun z => nn.2.2 p h l List.mem_cons_self z
      · exact fun z => nn2.1 (by rw [← z]; exact h)
    rw [upd_ne hne]
    refine (S.nt p (s1 p ?_)).same s
    rcases hp with h | h
    · exact List.mem_append_left _ h
    · exact List.mem_append_right _ (List.mem_cons_of_mem _ h)
  · rw [out_upd hl]
    exact hp
/-- xs.append(e) -/
theorem ds_app {α : Type} {i : Nat} {g : Rg} {r : Rp α} {get : E → List α} {set : E → List α → E} {te : TE} {pre : E → Prop} {f : E → α} (a : Ln Γ i (kL g r) get set) (h : DE F Γ te pre (qI g r) f) :
    DS F W C Γ (tDrop (tBM K "list" rAppend (tVar i) (tCons te tNil))) Γ (fun e k => pre e ∧ (get e).length < sizeLine ∧ k.nx (set e (get e ++ [f e]))) := fun B ms σ H e fb S Dn k hw c => by
  obtain ⟨l, vs, h1, h2, h3, kk⟩ := st_mut a S
  refine ⟨_, h1, .inl ⟨rfl, vs, SqL.of h2⟩, h fb S hw.1 _ fun v H1 s1 r1 => ⟨l, vs, v, rfl, rfl, s1 _ _ h2, by rw [pr_len h3]; exact hw.2.1, c.nx (kk H1 _ _ s1 (pr_app (pr_map h3 fun _ _ y => r.mono (g.mono (out_mono s1)) y) (.cons r1 .nil))) hw.2.2⟩⟩
/-- xs[j] = e -/
theorem ds_setIx {α : Type} {i : Nat} {g : Rg} {r : Rp α} {get : E → List α} {set : E → List α → E} {te tj : TE} {pre pj : E → Prop} {f : E → α} {j : E → Int} (a : Ln Γ i (kL g r) get set) (h : DE F Γ te pre (qI g r) f) (hj : DE F Γ tj pj qi j) :
    DS F W C Γ (tAsg te (gSub (tVar i) tj rSetL)) Γ (fun e k => pre e ∧ pj e ∧ inb (get e) (j e) ∧ k.nx (set e ((get e).set (j e).toNat (f e)))) := fun B ms σ H e fb S Dn k hw c => h fb S hw.1 _ fun v H1 s1 r1 => by
  obtain ⟨l, vs, h1, h2, h3, kk⟩ := st_mut a S
  refine ⟨_, h1, hj fb (S.grow s1) hw.2.1 _ fun u H2 s2 r2 => ⟨l, vs, j e, (j e).toNat, rfl, r2, s2 _ _ (s1 _ _ h2), ?_, c.nx (kk H2 _ _ (s1.trans s2) (pr_set (r.mono (g.mono (out_mono s2)) r1) _ (pr_map h3 fun _ _ y => r.mono (g.mono (out_mono (s1.trans s2))) y))) hw.2.2.2⟩⟩
  unfold ixN
  rw [if_pos hw.2.2.1.1, if_pos (by rw [pr_len h3]; exact hw.2.2.1.2)]

/-! ### loops -/
/-- a loop over a list, in plain data: what the turns do, one after another -/
def loopW {α Eh Eb Ec Ex ρ : Type} (body : Eh → α → Ko Eh Eh Eh Ex ρ → Prop) : List α → Eh → Ko Eh Eb Ec Ex ρ → Prop
  | [], e, k => k.nx e
  | x :: xs, e, k => body e x { nx := fun e' => loopW body xs e' k, bk := k.nx, ct := fun e' => loopW body xs e' k, ex := k.ex, rt := k.rt }
/-- the same contexts but those of the loop's own breaks and continues -/
abbrev Cs.loop (C : Cs Eb Ec Ex ρ) (Γh : Ctx E) : Cs E E Ex ρ := { b := Γh, c := Γh, x := C.x, r := C.r, cl := C.cl }
def irange (lo hi : Int) : List Int := (List.range (hi - lo).toNat).map fun (i : Nat) => lo + (i : Int)
theorem irange_get {lo hi : Int} {i : Nat} (h : i < (hi - lo).toNat) : (irange lo hi)[i]? = some (lo + (i : Int)) := by
  unfold irange
  rw [List.getElem?_map, List.getElem?_range h]
  rfl
theorem irange_len {lo hi : Int} : (irange lo hi).length = (hi - lo).toNat := by
  unfold irange
  rw [List.length_map, List.length_range]
theorem drop_cons {α : Type} {xs : List α} {i : Nat} {x : α} (h : xs[i]? = some x) : xs.drop i = x :: xs.drop (i + 1) := by
  obtain ⟨hl, e⟩ := List.getElem?_eq_some_iff.mp h
  rw [List.drop_eq_getElem_cons hl, e]
/-- the turns -/
theorem loop_turn {α Eh : Type} {Γh : Ctx Eh} {Γi : Ctx E1} {tb : TS} {wb : E1 → Ko Eh Eh Eh Ex ρ → Prop} {set : Eh → α → E1} (hb : DS F W (C.loop Γh) Γi tb Γh wb) {B B' : Hp} {Dn : Ends} {k : Ko Eh Eb Ec Ex ρ} (fb : Same F B) (bb : Same B B') (c : Conn C Γh W B Dn k) {x : α} {xs : List α}
    {ms : List Addr} {σ : L2.St} {H : Hp} {e : Eh} {N : L2.St → Hp → Prop} (S : St0 Γi B' ms σ H (set e x)) (hw : loopW (fun e x k => wb (set e x) k) (x :: xs) e k)
    (hN : ∀ {ms σ H e}, St0 Γh B' ms σ H e → loopW (fun e x k => wb (set e x) k) xs e k → N σ H) : tb { Dn with nx := N, ct := N, bk := Dn.nx } σ H :=
  hb (fb.trans bb) S _ _ hw ⟨fun S' q => hN S' q, fun S' q => c.nx (S'.base bb) q, fun S' q => hN S' q, fun S' q => c.ex (S'.base bb) q, fun s q r => c.rt (bb.trans s) q r⟩
theorem out_base {B H : Hp} {ms : List Addr} (bn : ∀ p ∈ ms, B p = none) (sb : Same B H) : Same B (out ms H) := fun p o e => by
  rw [out_ni fun h => by rw [bn p h] at e; cases e]
  exact sb p o e
theorem St0.rebase {Eh : Type} {Γh : Ctx Eh} {B : Hp} {ms : List Addr} {σ : L2.St} {H : Hp} {e : Eh} (S : St0 Γh B ms σ H e) : St0 Γh (out ms H) ms σ H e := ⟨S.nd, fun p hp => out_in hp, out_same, S.nt, S.r⟩
/-- for x in range(..) -/
theorem ds_forR1 {Eh : Type} {Γh : Ctx Eh} {Γi : Ctx E1} {ta : TA} {i : Nat} {tb : TS} {pre : Eh → Prop} {n : Eh → Int} {set : Eh → Int → E1} {wb : E1 → Ko Eh Eh Eh Ex ρ → Prop} (h : DA F Γh ta pre (D.k1 qi) n) (p : Put Γh i (kI gI rInt) Γi set) (hb : DS F W (C.loop Γh) Γi tb Γh wb) :
    DS F W C Γh (tFor (iRng1 ta) (gName i) tb) Γh (fun e k => pre e ∧ n e < 2 ^ 62 ∧ -(2 ^ 62) ≤ n e ∧ loopW (fun e x k => wb (set e x) k) (irange 0 (n e)) e k) := fun B ms σ H e fb S Dn k hw c => h fb S hw.1 _ fun vs H1 s1 ⟨v, ev, r1⟩ => by
  refine ⟨n e, by rw [ev, show v = _ from r1], hw.2.2.1, hw.2.1, ?_⟩
  refine for_range (lo := 0) (n := (n e).toNat) (fun j σ' H' => ∃ ms' e', St0 Γh B ms' σ' H' e' ∧ loopW (fun e x k => wb (set e x) k) ((irange 0 (n e)).drop j) e' k) ⟨ms, e, S.grow s1, hw.2.2.2⟩ ?_ ?_
  · rintro j σ' H' hj ⟨ms', e', S', q⟩
    have hx : (irange 0 (n e))[j]? = some ((0 : Int) + (j : Int)) := irange_get (by simpa using hj)
    rw [drop_cons hx] at q
    exact loop_turn (C := C) hb fb (Same.refl B) c (st_put p S' (v := .int _) (x := (0 : Int) + (j : Int)) rfl) q fun S2 q2 => ⟨_, _, S2, q2⟩
  · rintro σ' H' ⟨ms', e', S', q⟩
    rw [List.drop_eq_nil_of_le (by rw [irange_len]; simp)] at q
    exact c.nx S' q
theorem ds_forR2 {Eh : Type} {Γh : Ctx Eh} {Γi : Ctx E1} {ta : TA} {i : Nat} {tb : TS} {pre : Eh → Prop} {n : Eh → Int × Int} {set : Eh → Int → E1} {wb : E1 → Ko Eh Eh Eh Ex ρ → Prop} (h : DA F Γh ta pre (D.kc qi (D.k1 qi)) n) (p : Put Γh i (kI gI rInt) Γi set) (hb : DS F W (C.loop Γh) Γi tb Γh wb) :
    DS F W C Γh (tFor (iRng2 ta) (gName i) tb) Γh (fun e k => pre e ∧ ((n e).1 < 2 ^ 62 ∧ -(2 ^ 62) ≤ (n e).1 ∧ (n e).2 < 2 ^ 62 ∧ -(2 ^ 62) ≤ (n e).2) ∧ loopW (fun e x k => wb (set e x) k) (irange (n e).1 (n e).2) e k) := fun B ms σ H e fb S Dn k hw c => h fb S hw.1 _ fun vs H1 s1 ⟨v, ws, ev, r1, u, eu, r2⟩ => by
  refine ⟨(n e).1, (n e).2, by rw [ev, eu, show v = _ from r1, show u = _ from r2], ⟨hw.2.1.2.1, hw.2.1.1, hw.2.1.2.2.2, hw.2.1.2.2.1⟩, ?_⟩
  refine for_range (lo := (n e).1) (n := ((n e).2 - (n e).1).toNat) (fun j σ' H' => ∃ ms' e', St0 Γh B ms' σ' H' e' ∧ loopW (fun e x k => wb (set e x) k) ((irange (n e).1 (n e).2).drop j) e' k) ⟨ms, e, S.grow s1, hw.2.2⟩ ?_ ?_
  · rintro j σ' H' hj ⟨ms', e', S', q⟩
    have hx : (irange (n e).1 (n e).2)[j]? = some ((n e).1 + (j : Int)) := irange_get hj
    rw [drop_cons hx] at q
    exact loop_turn (C := C) hb fb (Same.refl B) c (st_put p S' (v := .int _) (x := (n e).1 + (j : Int)) rfl) q fun S2 q2 => ⟨_, _, S2, q2⟩
  · rintro σ' H' ⟨ms', e', S', q⟩
    rw [List.drop_eq_nil_of_le (by rw [irange_len]; exact Nat.le_refl _)] at q
    exact c.nx S' q
/-- for x in a list -/
theorem ds_forL {α Eh : Type} {Γh : Ctx Eh} {Γi : Ctx E1} {tl : TE} {i : Nat} {tb : TS} {pre : Eh → Prop} {g : Rg} {r : Rp α} {f : Eh → List α} {set : Eh → α → E1} {wb : E1 → Ko Eh Eh Eh Ex ρ → Prop} (h : DE F Γh tl pre (qI g (rList r)) f) (p : Put Γh i (kI g r) Γi set) (hb : DS F W (C.loop Γh) Γi tb Γh wb) :
    DS F W C Γh (tFor (iList K tl) (gName i) tb) Γh (fun e k => pre e ∧ loopW (fun e x k => wb (set e x) k) (f e) e k) := fun B ms σ H e fb S Dn k hw c => h fb S hw.1 _ fun v H1 s1 ⟨a, vs, ev, h1, pr⟩ => by
  have S1 := S.grow s1
  have bb : Same B (out ms H1) := out_base S.bn S1.sb
  have hl : ∀ {ms' σ' H' e'}, St0 Γh (out ms H1) ms' σ' H' e' → SqL K H' a vs := fun S' => SqL.of (S'.sb _ _ (g.sub _ _ h1))
  refine ⟨a, ev, ⟨vs, hl S1.rebase⟩, ?_⟩
  refine for_list (xs := vs) (fun j σ' H' => ∃ ms' e', St0 Γh (out ms H1) ms' σ' H' e' ∧ loopW (fun e x k => wb (set e x) k) ((f e).drop j) e' k) ⟨ms, e, S1.rebase, hw.2⟩ ?_ ?_ ?_
  · rintro j σ' H' _ ⟨ms', e', S', q⟩
    exact hl S'
  · rintro j x σ' H' hx ⟨ms', e', S', q⟩
    obtain ⟨y, hy, ry⟩ := pr_get' pr hx
    rw [drop_cons hy] at q
    have ry' : r.rel (g.fn (out ms' H')) x y := r.mono (g.mono (out_base S'.bn S'.sb)) ry
    exact loop_turn (C := C) hb fb bb c (st_put p S' ry') q fun S2 q2 => ⟨_, _, S2, q2⟩
  · rintro σ' H' ⟨ms', e', S', q⟩
    rw [pr_len pr, List.drop_length] at q
    exact c.nx (S'.base bb) q
/-- for x in a tuple -/
theorem ds_forT {α Eh : Type} {Γh : Ctx Eh} {Γi : Ctx E1} {tl : TE} {i : Nat} {tb : TS} {pre : Eh → Prop} {g : Rg} {r : Rp α} {f : Eh → List α} {set : Eh → α → E1} {wb : E1 → Ko Eh Eh Eh Ex ρ → Prop} (h : DE F Γh tl pre (qI g (rTups r)) f) (p : Put Γh i (kI g r) Γi set) (hb : DS F W (C.loop Γh) Γi tb Γh wb) :
    DS F W C Γh (tFor (iTup K tl) (gName i) tb) Γh (fun e k => pre e ∧ loopW (fun e x k => wb (set e x) k) (f e) e k) := fun B ms σ H e fb S Dn k hw c => h fb S hw.1 _ fun v H1 s1 ⟨a, vs, ev, h1, pr⟩ => by
  have S1 := S.grow s1
  have bb : Same B (out ms H1) := out_base S.bn S1.sb
  have hl : ∀ {ms' σ' H' e'}, St0 Γh (out ms H1) ms' σ' H' e' → SqT K H' a vs := fun S' => SqT.of (S'.sb _ _ (g.sub _ _ h1))
  refine ⟨a, ev, ⟨vs, hl S1.rebase⟩, ?_⟩
  refine for_tup (xs := vs) (fun j σ' H' => ∃ ms' e', St0 Γh (out ms H1) ms' σ' H' e' ∧ loopW (fun e x k => wb (set e x) k) ((f e).drop j) e' k) ⟨ms, e, S1.rebase, hw.2⟩ ?_ ?_ ?_
  · rintro j σ' H' _ ⟨ms', e', S', q⟩
    exact hl S'
  · rintro j x σ' H' hx ⟨ms', e', S', q⟩
    obtain ⟨y, hy, ry⟩ := pr_get' pr hx
    rw [drop_cons hy] at q
    have ry' : r.rel (g.fn (out ms' H')) x y := r.mono (g.mono (out_base S'.bn S'.sb)) ry
    exact loop_turn (C := C) hb fb bb c (st_put p S' ry') q fun S2 q2 => ⟨_, _, S2, q2⟩
  · rintro σ' H' ⟨ms', e', S', q⟩
    rw [pr_len pr, List.drop_length] at q
    exact c.nx (S'.base bb) q
/-- a while, in plain data, at most n turns -/
def whileW {Eh Eb Ec Ex ρ : Type} (pre : Eh → Prop) (b : Eh → Bool) (body : Eh → Ko Eh Eh Eh Ex ρ → Prop) : Nat → Eh → Ko Eh Eb Ec Ex ρ → Prop
  | 0, e, k => False
  | n + 1, e, k => pre e ∧ (b e = true → body e { nx := fun e' => whileW pre b body n e' k, bk := k.nx, ct := fun e' => whileW pre b body n e' k, ex := k.ex, rt := k.rt }) ∧ (b e = false → k.nx e)
theorem ds_while {Eh : Type} {Γh : Ctx Eh} {tc : TT} {tb : TS} {pre : Eh → Prop} {b : Eh → Bool} {wb : Eh → Ko Eh Eh Eh Ex ρ → Prop} (h : DT F Γh tc pre b) (hb : DS F W (C.loop Γh) Γh tb Γh wb) :
    DS F W C Γh (tWhile tc tb) Γh (fun e k => ∃ n, whileW pre b wb n e k) := fun B ms σ H e fb S Dn k ⟨n0, hw⟩ c => by
  refine ⟨fun m σ' H' => ∃ ms' e', St0 Γh B ms' σ' H' e' ∧ whileW pre b wb m e' k, ⟨n0, ms, e, S, hw⟩, ?_⟩
  rintro m σ' H' ⟨ms', e', S', q⟩
  cases m with
  | zero => exact q.elim
  | succ m =>
    refine h fb S' q.1 _ fun H1 s1 => ?_
    cases hbe : b e' with
    | true =>
      refine ⟨fun σ2 H2 => ∃ ms2 e2, St0 Γh B ms2 σ2 H2 e2 ∧ whileW pre b wb m e2 k, fun σ2 H2 z => ⟨m, Nat.lt_succ_self m, z⟩, ?_⟩
      exact hb fb (S'.grow s1) _ _ (q.2.1 hbe) ⟨fun S2 q2 => ⟨_, _, S2, q2⟩, fun S2 q2 => c.nx S2 q2, fun S2 q2 => ⟨_, _, S2, q2⟩, fun S2 q2 => c.ex S2 q2, fun s q r => c.rt s q r⟩
    | false => exact c.nx (S'.grow s1) (q.2.2 hbe)
end

/-- a loop without a break, as a fold over what it changes -/
theorem loopW_to {α S Eh Eb Ec Ex ρ : Type} {body : Eh → α → Ko Eh Eh Eh Ex ρ → Prop} (abs : S → Eh) (step : S → α → S) (I : S → Prop) : ∀ {xs : List α} {s : S} {k : Ko Eh Eb Ec Ex ρ}, I s →
    (∀ s x (k' : Ko Eh Eh Eh Ex ρ), x ∈ xs → I s → (I (step s x) → k'.nx (abs (step s x))) → body (abs s) x k') → (I (xs.foldl step s) → k.nx (abs (xs.foldl step s))) → loopW body xs (abs s) k
  | [], s, k, h0, _, hk => hk h0
  | x :: xs, s, k, h0, hs, hk => by
    unfold loopW
    refine hs s x _ List.mem_cons_self h0 fun h1 => ?_
    exact loopW_to abs step I h1 (fun s y k' hy => hs s y k' (List.mem_cons_of_mem _ hy)) hk
/-- the same, with the place -/
theorem loopW_at {α S Eh Eb Ec Ex ρ : Type} {body : Eh → α → Ko Eh Eh Eh Ex ρ → Prop} (abs : S → Eh) (step : S → α → S) (I : List α → S → Prop) : ∀ {xs pre : List α} {s : S} {k : Ko Eh Eb Ec Ex ρ}, I pre s →
    (∀ pre' x post s (k' : Ko Eh Eh Eh Ex ρ), pre ++ xs = pre' ++ x :: post → I pre' s → (I (pre' ++ [x]) (step s x) → k'.nx (abs (step s x))) → body (abs s) x k') → (I (pre ++ xs) (xs.foldl step s) → k.nx (abs (xs.foldl step s))) → loopW body xs (abs s) k
  | [], pre, s, k, h0, _, hk => hk (by rw [List.append_nil]; exact h0)
  | x :: xs, pre, s, k, h0, hs, hk => by
    unfold loopW
    refine hs pre x xs s _ rfl h0 fun h1 => ?_
    exact loopW_at abs step I (pre := pre ++ [x]) h1 (fun p y q s k' e => hs p y q s k' (by rw [← e, List.append_assoc]; rfl)) (by rw [List.append_assoc]; exact hk)
/-- a loop that may end by a return: as a search -/
theorem irange_mem {lo hi x : Int} (h : x ∈ irange lo hi) : lo ≤ x ∧ x < hi := by
  unfold irange at h
  obtain ⟨i, hi, e⟩ := List.mem_map.mp h
  have := List.mem_range.mp hi
  omega

/-- any loop, by what holds between two turns -/
theorem loopW_ind0 {α S Eh Eb Ec Ex ρ : Type} {body : Eh → α → Ko Eh Eh Eh Ex ρ → Prop} (abs : S → Eh) (I : List α → List α → S → Prop) {k : Ko Eh Eb Ec Ex ρ} {all : List α}
    (hs : ∀ pre x post s (k' : Ko Eh Eh Eh Ex ρ), all = pre ++ x :: post → I pre (x :: post) s → k'.rt = k.rt → k'.ex = k.ex → k'.bk = k.nx → k'.ct = k'.nx → (∀ s', I (pre ++ [x]) post s' → k'.nx (abs s')) → body (abs s) x k')
    (he : ∀ s, I all [] s → k.nx (abs s)) : ∀ {xs pre : List α} {s : S}, all = pre ++ xs → I pre xs s → loopW body xs (abs s) k
  | [], pre, s, ea, h0 => he s (by rw [ea, List.append_nil]; exact h0)
  | x :: xs, pre, s, ea, h0 => by
    unfold loopW
    exact hs pre x xs s _ ea h0 rfl rfl rfl rfl fun s' h1 => loopW_ind0 abs I hs he (pre := pre ++ [x]) (by rw [ea, List.append_assoc]; rfl) h1
theorem loopW_ind {α S Eh Eb Ec Ex ρ : Type} {body : Eh → α → Ko Eh Eh Eh Ex ρ → Prop} (abs : S → Eh) (I : List α → List α → S → Prop) {k : Ko Eh Eb Ec Ex ρ} {xs : List α} (s : S) (h0 : I [] xs s)
    (hs : ∀ pre x post s (k' : Ko Eh Eh Eh Ex ρ), xs = pre ++ x :: post → I pre (x :: post) s → k'.rt = k.rt → k'.ex = k.ex → k'.bk = k.nx → k'.ct = k'.nx → (∀ s', I (pre ++ [x]) post s' → k'.nx (abs s')) → body (abs s) x k')
    (he : ∀ s, I xs [] s → k.nx (abs s)) : loopW body xs (abs s) k := loopW_ind0 abs I hs he (pre := []) rfl h0
theorem irange_split {n : Int} {pre post : List Int} {x : Int} (h : irange 0 n = pre ++ x :: post) : x = (pre.length : Int) ∧ (pre.length : Int) < n := by
  have hx : (irange 0 n)[pre.length]? = some x := by rw [h]; simp
  have hl : pre.length < (irange 0 n).length := (List.getElem?_eq_some_iff.mp hx).1
  rw [irange_len] at hl
  have := irange_get (lo := 0) (hi := n) hl
  rw [hx] at this
  have e := Option.some.inj this
  omega
/-- over the places of a list -/
theorem loopW_ix {β S Eh Eb Ec Ex ρ : Type} {body : Eh → Int → Ko Eh Eh Eh Ex ρ → Prop} (ys : List β) (abs : S → Eh) (I : List β → List β → S → Prop) {k : Ko Eh Eb Ec Ex ρ} {n : Int} (hn : n = (ys.length : Int)) (s : S) (h0 : I [] ys s)
    (hs : ∀ pre y post s (k' : Ko Eh Eh Eh Ex ρ), ys = pre ++ y :: post → I pre (y :: post) s → k'.rt = k.rt → k'.ex = k.ex → k'.bk = k.nx → k'.ct = k'.nx → (∀ s', I (pre ++ [y]) post s' → k'.nx (abs s')) → body (abs s) (pre.length : Int) k')
    (he : ∀ s, I ys [] s → k.nx (abs s)) : loopW body (irange 0 n) (abs s) k := by
  refine loopW_ind abs (fun p q s => I (ys.take p.length) (ys.drop p.length) s) s (by simpa using h0) (fun p x q s k' e hI h1 h2 h3 h4 h5 => ?_) (fun s hI => he s ?_)
  · obtain ⟨ex, hlt⟩ := irange_split e
    subst ex
    have hp : p.length < ys.length := by omega
    have e2 : ys.drop p.length = ys[p.length] :: ys.drop (p.length + 1) := List.drop_eq_getElem_cons hp
    have et : (ys.take p.length).length = p.length := by rw [List.length_take]; omega
    have := hs (ys.take p.length) (ys[p.length]) (ys.drop (p.length + 1)) s k' (by rw [← e2, List.take_append_drop]) (by rw [← e2]; exact hI) h1 h2 h3 h4 (fun s' hI' => h5 s' (by
      rw [List.length_append, List.length_singleton]
      rw [List.take_append_getElem] at hI'
      exact hI'))
    rw [et] at this
    exact this
  · rw [irange_len, show (n - 0).toNat = ys.length by omega, List.take_length, List.drop_length] at hI
    exact hI
end D

set_option Elab.async false
set_option linter.all false
set_option maxRecDepth 100000
namespace D
open PySem PySem.Spec PyProof.Rows L2

/-! ### list comprehensions -/
section
variable {E Ei : Type} {F : Hp} {Γ : Ctx E} {Γi : Ctx Ei} {K : PySem.W.Frag}
theorem wipe1 {σ : L2.St} {i : Nat} {o : Option V} : (wipe σ [i]).set i o = σ.set i o := by
  show (σ.set i none).set i o = _
  rw [List.set_set]
theorem wipe2 {σ : L2.St} {i : Nat} {o : Option V} : wipe (σ.set i o) [i] = wipe σ [i] := by
  show (σ.set i o).set i none = σ.set i none
  rw [List.set_set]
/-- what stands while a comprehension fills its list at D -/
structure Lcs {α' : Type} (Γ : Ctx E) (B : Hp) (ms : List Addr) (σ : L2.St) (e : E) (g' : Rg) (r' : Rp α') (H1 : Hp) (Dl : Addr) (ys : List α') (H : Hp) : Prop where
  st : St0 Γ B (Dl :: ms) σ H e
  up : Same H1 H
  ac : ∃ acc, H Dl = some (.lst acc) ∧ Paired (r'.rel (g'.fn (out (Dl :: ms) H))) acc ys
theorem same_upd {H1 H : Hp} {p : Addr} {o : HO} (n : H1 p = none) (s : Same H1 H) : Same H1 (upd H p o) := fun a u ea => by
  rw [upd_ne (ne_of_none ea n)]
  exact s a u ea
theorem st_own {B : Hp} {ms : List Addr} {σ : L2.St} {H : Hp} {e : E} {p : Addr} {xs : List V} (S : St0 Γ B ms σ H e) (hp : H p = none) : St0 Γ B (p :: ms) σ (upd H p (.lst xs)) e := by
  obtain ⟨m1, n1, s1, z⟩ := S.r
  have hn : p ∉ ms := fun h => by
    obtain ⟨u, hu, _⟩ := S.nt p h
    rw [hp] at hu; cases hu
  refine ⟨List.nodup_cons.mpr ⟨hn, S.nd⟩, ?_, S.sb.trans (same_new hp), ?_, m1, n1, fun q hq => List.mem_cons_of_mem _ (s1 q hq), Γ.stable (new_cons hp) (fun q hq => upd_ne fun z => hn (by rw [← z]; exact s1 q hq)) z⟩
  · intro q hq
    rcases List.mem_cons.mp hq with h | h
    · rw [h]; exact S.sb.free hp
    · exact S.bn q h
  · intro q hq
    rcases List.mem_cons.mp hq with h | h
    · rw [h, upd_same]; exact ⟨_, rfl, fun xs z => by cases z⟩
    · rw [upd_ne fun z => hn (by rw [← z]; exact h)]; exact S.nt q h
theorem st_ownUp {B : Hp} {ms : List Addr} {σ : L2.St} {H : Hp} {e : E} {p : Addr} {xs : List V} (S : St0 Γ B ms σ H e) (hp : p ∈ ms) (hm : ∃ m1, m1.Nodup ∧ (∀ q ∈ m1, q ∈ ms ∧ q ≠ p) ∧ Γ.rel m1 (out ms H) σ H e) : St0 Γ B ms σ (upd H p (.lst xs)) e := by
  obtain ⟨m1, n1, s1, z⟩ := hm
  refine ⟨S.nd, S.bn, fun q o eq => ?_, fun q hq => NT.upd (fun xs z => by cases z) (S.nt q hq), m1, n1, fun q hq => (s1 q hq).1, ?_⟩
  · rw [upd_ne fun z => by rw [z, S.bn p hp] at eq; cases eq]
    exact S.sb q o eq
  · rw [out_upd hp]
    exact Γ.stable (Same.refl _) (fun q hq => upd_ne (s1 q hq).2) z
/-- one turn -/
theorem lc_turn {α α' : Type} {i : Nat} {g g' : Rg} {r : Rp α} {r' : Rp α'} {set : E → α → Ei} {tt : TT} {te : TE} {pt pe : Ei → Prop} {bt : Ei → Bool} {fe : Ei → α'} (p : Put Γ i (kI g r) Γi set) (ht : DT F Γi tt pt bt) (he : DE F Γi te pe (qI g' r') fe)
    {B : Hp} {ms : List Addr} {σ : L2.St} {e : E} {H1 H : Hp} {Dl : Addr} {ys : List α'} (fb : Same F B) (hm : ∀ {H : Hp}, Same H1 H → ∃ m1, m1.Nodup ∧ (∀ q ∈ m1, q ∈ Dl :: ms ∧ q ≠ Dl) ∧ Γ.rel m1 (out (Dl :: ms) H) σ H e) (n1 : H1 Dl = none) (x : Lcs Γ B ms σ e g' r' H1 Dl ys H) (hy : ys.length < sizeLine) {v : V} {y : α} (ry : r.rel (g.fn (out (Dl :: ms) H)) v y)
    (h1 : pt (set e y)) (h2 : bt (set e y) = true → pe (set e y)) {Pv : Hp → Prop} (k1 : bt (set e y) = true → ∀ H', Lcs Γ B ms σ e g' r' H1 Dl (ys ++ [fe (set e y)]) H' → Pv H') (k2 : bt (set e y) = false → ∀ H', Lcs Γ B ms σ e g' r' H1 Dl ys H' → Pv H') :
    gName i v (wipe σ [i]) H fun σ2 H2 => wipe σ2 [i] = wipe σ [i] ∧ tt σ2 H2 fun b H3 => if b = true then te σ2 H3 fun z H4 => ∃ acc, H4 Dl = some (.lst acc) ∧ acc.length < sizeLine ∧ Pv (upd H4 Dl (.lst (acc ++ [z]))) else Pv H3 := by
  show wipe ((wipe σ [i]).set i (some v)) [i] = wipe σ [i] ∧ tt ((wipe σ [i]).set i (some v)) H _
  rw [wipe1, wipe2]
  have S := st_put p x.st ry
  refine ⟨rfl, ht fb S h1 _ fun H3 s3 => ?_⟩
  obtain ⟨acc, ha, pa⟩ := x.ac
  cases hb : bt (set e y) with
  | true =>
    rw [if_pos rfl]
    refine he fb (S.grow s3) (h2 hb) _ fun z H4 s4 rz => ⟨acc, s4 _ _ (s3 _ _ ha), by rw [pr_len pa]; exact hy, k1 hb _ ⟨st_ownUp ((x.st.grow s3).grow s4) List.mem_cons_self (hm ((x.up.trans s3).trans s4)), same_upd n1 ((x.up.trans s3).trans s4), acc ++ [z], upd_same, ?_⟩⟩
    rw [out_upd List.mem_cons_self]
    exact pr_app (pr_map pa fun _ _ q => r'.mono (g'.mono (out_mono (s3.trans s4))) q) (.cons rz .nil)
  | false =>
    rw [if_neg Bool.false_ne_true]
    exact k2 hb _ ⟨x.st.grow s3, x.up.trans s3, acc, s3 _ _ ha, pr_map pa fun _ _ q => r'.mono (g'.mono (out_mono s3)) q⟩
/-- the list made, in plain data -/
def lcf {α β : Type} (b : α → Bool) (f : α → β) (xs : List α) : List β := (xs.filter b).map f
theorem lcf_snoc_t {α β : Type} {b : α → Bool} {f : α → β} {xs : List α} {x : α} (h : b x = true) : lcf b f (xs ++ [x]) = lcf b f xs ++ [f x] := by
  unfold lcf
  rw [List.filter_append, List.map_append, List.filter_cons, if_pos h]
  rfl
theorem lcf_snoc_f {α β : Type} {b : α → Bool} {f : α → β} {xs : List α} {x : α} (h : b x = false) : lcf b f (xs ++ [x]) = lcf b f xs := by
  unfold lcf
  rw [List.filter_append, List.map_append, List.filter_cons, if_neg (by rw [h]; decide)]
  exact List.append_nil _
theorem lcf_len {α β : Type} {b : α → Bool} {f : α → β} {xs : List α} : (lcf b f xs).length ≤ xs.length := by
  unfold lcf
  rw [List.length_map]
  exact List.length_filter_le _ _
theorem lcf_yes {α β : Type} {f : α → β} {xs : List α} : lcf (fun _ => true) f xs = xs.map f := by
  unfold lcf
  rw [List.filter_eq_self.mpr fun _ _ => rfl]
theorem take_succ' {α : Type} {xs : List α} {i : Nat} {x : α} (h : xs[i]? = some x) : xs.take (i + 1) = xs.take i ++ [x] := by
  rw [List.take_add_one, h]
  rfl
/-- the context stands on what it owned ahead of the new list -/
theorem lc_hm {B : Hp} {ms : List Addr} {σ : L2.St} {e : E} {H1 : Hp} {Dl : Addr} (S1 : St0 Γ B ms σ H1 e) (hD : H1 Dl = none) {H : Hp} (up : Same H1 H) : ∃ m1, m1.Nodup ∧ (∀ q ∈ m1, q ∈ Dl :: ms ∧ q ≠ Dl) ∧ Γ.rel m1 (out (Dl :: ms) H) σ H e := by
  obtain ⟨m1, n1, s1, z⟩ := S1.r
  have hn : Dl ∉ ms := fun h => by
    obtain ⟨u, hu, _⟩ := S1.nt Dl h
    rw [hD] at hu; cases hu
  refine ⟨m1, n1, fun q hq => ⟨List.mem_cons_of_mem _ (s1 q hq), fun z => hn (by rw [← z]; exact s1 q hq)⟩, Γ.stable (fun a o ea => ?_) (fun q hq => (S1.nt q (s1 q hq)).same up) z⟩
  have ha : a ∉ ms := fun h => by rw [out_in h] at ea; cases ea
  rw [out_ni ha] at ea
  rw [out_ni fun h => (List.mem_cons.mp h).elim (fun z => by rw [z, hD] at ea; cases ea) ha]
  exact up _ _ ea
theorem de_lcF {α α' : Type} {i : Nat} {g g' : Rg} {r : Rp α} {r' : Rp α'} {set : E → α → Ei} {tl : TE} {tt : TT} {te : TE} {pl : E → Prop} {pt pe : Ei → Prop} {fl : E → List α} {bt : Ei → Bool} {fe : Ei → α'} {R : Rk (List α)}
    (hR : ∀ {B ms σ H H1 e v xs}, Same F B → St0 Γ B ms σ H1 e → Same H H1 → R.rel ms H H1 v xs → ∃ a vs, v = .ref a ∧ H1 a = some (.lst vs) ∧ ∀ Dl H', H1 Dl = none → Same H1 H' → Paired (r.rel (g.fn (out (Dl :: ms) H'))) vs xs)
    (hl : DE F Γ tl pl R fl) (p : Put Γ i (kI g r) Γi set) (ht : DT F Γi tt pt bt) (he : DE F Γi te pe (qI g' r') fe) :
    DE F Γ (tLc (iList K tl) (gName i) tt te [i]) (fun e => pl e ∧ (fl e).length ≤ sizeLine ∧ ∀ x ∈ fl e, pt (set e x) ∧ (bt (set e x) = true → pe (set e x))) (qL g' r') (fun e => lcf (fun x => bt (set e x)) (fun x => fe (set e x)) (fl e)) := fun B ms σ H e fb S pp Q q => hl fb S pp.1 _ fun v H1 s1 r1 => by
  have S1 := S.grow s1
  obtain ⟨a, vs, ev, h1, pr⟩ := hR fb S1 s1 r1
  refine ⟨a, ev, ⟨vs, SqL.of h1⟩, fun Dl hD => ?_⟩
  have lenv : vs.length = (fl e).length := pr_len (pr Dl H1 hD (Same.refl _))
  refine lc_list (xs := vs) (fun j H' => Lcs Γ B ms σ e g' r' H1 Dl (lcf (fun x => bt (set e x)) (fun x => fe (set e x)) ((fl e).take j)) H') ⟨st_own S1 hD, same_new hD, [], upd_same, .nil⟩ (fun j H' _ x => SqL.of (x.up _ _ h1)) ?_ ?_
  · intro j x H' hx z
    obtain ⟨y, hy, ry⟩ := pr_get' (pr Dl H' hD z.up) hx
    obtain ⟨q1, q2⟩ := pp.2.2 y (List.mem_of_getElem? hy)
    refine lc_turn p ht he fb (lc_hm S1 hD) hD z ?_ ry q1 q2 (fun hb H2 z2 => ?_) (fun hb H2 z2 => ?_)
    · refine Nat.lt_of_le_of_lt lcf_len (Nat.lt_of_lt_of_le ?_ pp.2.1)
      rw [List.length_take]
      have := (List.getElem?_eq_some_iff.mp hy).1
      omega
    · rw [take_succ' hy, lcf_snoc_t (b := fun x => bt (set e x)) hb]; exact z2
    · rw [take_succ' hy, lcf_snoc_f (b := fun x => bt (set e x)) hb]; exact z2
  · intro H' z
    obtain ⟨acc, ha, pa⟩ := z.ac
    rw [lenv, List.take_length] at pa
    exact q _ _ (s1.trans z.up) ⟨Dl, acc, rfl, s1.free hD, ha, pa⟩
theorem de_lcI {α α' : Type} {i : Nat} {g g' : Rg} {r : Rp α} {r' : Rp α'} {set : E → α → Ei} {tl : TE} {tt : TT} {te : TE} {pl : E → Prop} {pt pe : Ei → Prop} {fl : E → List α} {bt : Ei → Bool} {fe : Ei → α'}
    (hl : DE F Γ tl pl (qI g (rList r)) fl) (p : Put Γ i (kI g r) Γi set) (ht : DT F Γi tt pt bt) (he : DE F Γi te pe (qI g' r') fe) :
    DE F Γ (tLc (iList K tl) (gName i) tt te [i]) (fun e => pl e ∧ (fl e).length ≤ sizeLine ∧ ∀ x ∈ fl e, pt (set e x) ∧ (bt (set e x) = true → pe (set e x))) (qL g' r') (fun e => lcf (fun x => bt (set e x)) (fun x => fe (set e x)) (fl e)) :=
  de_lcF (R := qI g (rList r)) (fun {B ms σ H H1 e v xs} fb S1 s r1 => by
    obtain ⟨a, vs, ev, h1, pr⟩ := r1
    refine ⟨a, vs, ev, out_same _ _ (g.sub _ _ h1), fun Dl H' hD up => pr_map pr fun _ _ q => r.mono (g.mono fun b o eb => ?_) q⟩
    have hb : b ∉ ms := fun h => by rw [out_in h] at eb; cases eb
    rw [out_ni hb] at eb
    rw [out_ni fun h => (List.mem_cons.mp h).elim (fun z => by rw [z, hD] at eb; cases eb) hb]
    exact up _ _ eb) hl p ht he
/-- over a list that is owned, of what leans on tuples alone -/
theorem de_lcO {α α' : Type} {i : Nat} {g g' : Rg} {r : Rp α} {r' : Rp α'} {set : E → α → Ei} {tl : TE} {tt : TT} {te : TE} {pl : E → Prop} {pt pe : Ei → Prop} {fl : E → List α} {bt : Ei → Bool} {fe : Ei → α'} (to : D.TO r)
    (hl : DE F Γ tl pl (qF g (rList r)) fl) (p : Put Γ i (kI gI r) Γi set) (ht : DT F Γi tt pt bt) (he : DE F Γi te pe (qI g' r') fe) :
    DE F Γ (tLc (iList K tl) (gName i) tt te [i]) (fun e => pl e ∧ (fl e).length ≤ sizeLine ∧ ∀ x ∈ fl e, pt (set e x) ∧ (bt (set e x) = true → pe (set e x))) (qL g' r') (fun e => lcf (fun x => bt (set e x)) (fun x => fe (set e x)) (fl e)) :=
  de_lcF (R := qF g (rList r)) (fun {B ms σ H H1 e v xs} fb S1 s r1 => by
    obtain ⟨a, vs, ev, h1, pr⟩ := r1
    refine ⟨a, vs, ev, g.sub _ _ h1, fun Dl H' hD up => pr_map pr fun _ _ q => to (fun b xs eb => ?_) q⟩
    have eb := g.sub _ _ eb
    have hb : b ∉ ms := fun h => by
      obtain ⟨u, hu, hn⟩ := S1.nt b h
      rw [eb] at hu; cases hu; exact hn _ rfl
    show out (Dl :: ms) H' b = _
    rw [out_ni fun h => (List.mem_cons.mp h).elim (fun z => by rw [z, hD] at eb; cases eb) hb]
    exact up _ _ eb) hl p ht he
theorem de_lcR1 {α' : Type} {i : Nat} {g' : Rg} {r' : Rp α'} {set : E → Int → Ei} {ta : TA} {tt : TT} {te : TE} {pl : E → Prop} {pt pe : Ei → Prop} {n : E → Int} {bt : Ei → Bool} {fe : Ei → α'}
    (hl : DA F Γ ta pl (D.k1 qi) n) (p : Put Γ i (kI gI rInt) Γi set) (ht : DT F Γi tt pt bt) (he : DE F Γi te pe (qI g' r') fe) :
    DE F Γ (tLc (iRng1 ta) (gName i) tt te [i]) (fun e => pl e ∧ (n e < 2 ^ 62 ∧ -(2 ^ 62) ≤ n e ∧ (n e).toNat ≤ sizeLine) ∧ ∀ x ∈ irange 0 (n e), pt (set e x) ∧ (bt (set e x) = true → pe (set e x))) (qL g' r') (fun e => lcf (fun x => bt (set e x)) (fun x => fe (set e x)) (irange 0 (n e))) := fun B ms σ H e fb S pp Q q => hl fb S pp.1 _ fun vs H1 s1 ⟨v, ev, r1⟩ => by
  have S1 := S.grow s1
  refine ⟨n e, by rw [ev, show v = _ from r1], pp.2.1.2.1, pp.2.1.1, fun Dl hD => ?_⟩
  refine lc_range (lo := 0) (n := (n e).toNat) (fun j H' => Lcs Γ B ms σ e g' r' H1 Dl (lcf (fun x => bt (set e x)) (fun x => fe (set e x)) ((irange 0 (n e)).take j)) H') ⟨st_own S1 hD, same_new hD, [], upd_same, .nil⟩ ?_ ?_
  · intro j H' hj z
    have hy : (irange 0 (n e))[j]? = some ((0 : Int) + (j : Int)) := irange_get (by simpa using hj)
    obtain ⟨q1, q2⟩ := pp.2.2 _ (List.mem_of_getElem? hy)
    refine lc_turn p ht he fb (lc_hm S1 hD) hD z ?_ (y := (0 : Int) + (j : Int)) rfl q1 q2 (fun hb H2 z2 => ?_) (fun hb H2 z2 => ?_)
    · refine Nat.lt_of_le_of_lt lcf_len (Nat.lt_of_lt_of_le ?_ pp.2.1.2.2)
      rw [List.length_take]
      omega
    · rw [take_succ' hy, lcf_snoc_t (b := fun x => bt (set e x)) hb]; exact z2
    · rw [take_succ' hy, lcf_snoc_f (b := fun x => bt (set e x)) hb]; exact z2
  · intro H' z
    obtain ⟨acc, ha, pa⟩ := z.ac
    rw [List.take_of_length_le (by rw [irange_len]; simp)] at pa
    exact q _ _ (s1.trans z.up) ⟨Dl, acc, rfl, s1.free hD, ha, pa⟩
end

/-! ### defs -/
/-- parameters -/
structure Ar (A : Type) where
  rel : Hp → List V → A → Prop
  n : Nat
  len : ∀ {H : Hp} {vs : List V} {x : A}, rel H vs x → vs.length = n
  mono : ∀ {H H' : Hp} {vs : List V} {x : A}, Same H H' → rel H vs x → rel H' vs x
def ar0 : Ar Unit := ⟨fun _ vs _ => vs = [], 0, fun h => by rw [h]; rfl, fun _ q => q⟩
def ar1 {α : Type} (r : Rp α) : Ar α := ⟨fun H vs x => ∃ v, vs = [v] ∧ r.rel H v x, 1, fun ⟨v, e, _⟩ => by rw [e]; rfl, fun s ⟨v, e, q⟩ => ⟨v, e, r.mono s q⟩⟩
def arc {α A : Type} (r : Rp α) (a : Ar A) : Ar (α × A) := ⟨fun H vs x => ∃ v ws, vs = v :: ws ∧ r.rel H v x.1 ∧ a.rel H ws x.2, a.n + 1, fun ⟨v, ws, e, _, q⟩ => by rw [e, List.length_cons, a.len q], fun s ⟨v, ws, e, q, z⟩ => ⟨v, ws, e, r.mono s q, a.mono s z⟩⟩
def ka {A : Type} (a : Ar A) : Ak A := ⟨fun _ _ H' vs x => a.rel H' vs x, fun s q => a.mono s q, fun _ q => q⟩
/-- the promises: what comes is fresh; any -/
def spF {A ρ : Type} (a : Ar A) (pre : A → Prop) (r : Rp ρ) (f : A → ρ) : Sp := fun vs H Q _ => ∃ x, a.rel H vs x ∧ pre x ∧ ∀ v H', Same H H' → r.rel (fr H H') v (f x) → Q v H'
def spA {A ρ : Type} (a : Ar A) (pre : A → Prop) (r : Rp ρ) (f : A → ρ) : Sp := fun vs H Q _ => ∃ x, a.rel H vs x ∧ pre x ∧ ∀ v H', Same H H' → r.rel H' v (f x) → Q v H'
section
variable {E : Type} {F : Hp} {Γ : Ctx E}
theorem dp_0 : DA F Γ tNil T0 (ka ar0) (fun _ => ()) := fun _ _ _ _ _ _ _ _ Q q => q _ _ (Same.refl _) rfl
theorem dp_1 {α : Type} {t : TE} {p : E → Prop} {r : Rp α} {f : E → α} (h : DE F Γ t p (qF gI r) f) : DA F Γ (tCons t tNil) p (ka (ar1 r)) f := fun _ _ _ _ _ b S pp Q q => h b S pp _ fun v H1 s1 r1 => q _ _ s1 ⟨v, rfl, r1⟩
theorem dp_c {α A : Type} {t : TE} {ta : TA} {p pa : E → Prop} {r : Rp α} {a : Ar A} {f : E → α} {fa : E → A} (h : DE F Γ t p (qF gI r) f) (k : DA F Γ ta pa (ka a) fa) : DA F Γ (tCons t ta) (fun e => p e ∧ pa e) (ka (arc r a)) (fun e => (f e, fa e)) := fun _ _ _ _ _ b S pp Q q => h b S pp.1 _ fun v H1 s1 r1 => k b (S.grow s1) pp.2 _ fun vs H2 s2 r2 => q _ _ (s1.trans s2) ⟨v, vs, rfl, r.mono s2 r1, r2⟩
theorem de_callF {A ρ : Type} {ta : TA} {p : E → Prop} {a : Ar A} {fa : E → A} {pre : A → Prop} {r : Rp ρ} {f : A → ρ} {EX : XK} (h : DA F Γ ta p (ka a) fa) : DE F Γ (tCall (spF a pre r f) [] EX ta) (fun e => p e ∧ pre (fa e)) (qI (gN F) r) (fun e => f (fa e)) := fun B ms σ H e b S pp Q q => h b S pp.1 _ fun vs H1 s1 r1 =>
  ⟨fa e, by rw [List.append_nil]; exact r1, pp.2, fun v H' s2 rv => q v H' (s1.trans s2) (r.mono (fr_call b (S.grow s1).sb (S.grow s1).nt s2) rv)⟩
/-- a fresh list of what leans on tuples alone: one's own -/
theorem de_callL {A α : Type} {ta : TA} {p : E → Prop} {a : Ar A} {fa : E → A} {pre : A → Prop} {r : Rp α} {f : A → List α} {EX : XK} {g : Rg} (to : D.TO r) (gt : GT F g) (h : DA F Γ ta p (ka a) fa) : DE F Γ (tCall (spF a pre (rList r) f) [] EX ta) (fun e => p e ∧ pre (fa e)) (qL g r) (fun e => f (fa e)) := fun B ms σ H e b S pp Q q => h b S pp.1 _ fun vs H1 s1 r1 =>
  ⟨fa e, by rw [List.append_nil]; exact r1, pp.2, fun v H' s2 rv => q v H' (s1.trans s2) (by
    obtain ⟨l, ws, ev, hl, pr⟩ := rv
    have hn : H1 l = none := by
      cases hq : H1 l with
      | none => rfl
      | some u =>
        have e2 := fr_same _ _ hl
        rw [s2 l u hq] at e2
        cases e2
        unfold fr at hl
        rw [hq] at hl
        cases hl
    have hlm : l ∉ ms := fun z => by
      obtain ⟨u, hu, _⟩ := (S.grow s1).nt l z
      rw [hn] at hu; cases hu
    refine ⟨l, ws, ev, s1.free hn, fr_same _ _ hl, pr_map pr fun v x z => to (fun c xs ec => ?_) z⟩
    have ec' := fr_same _ _ ec
    have hc : c ≠ l := fun z => by rw [z, fr_same _ _ hl] at ec'; cases ec'
    have hcm : c ∉ ms := fun z => by
      obtain ⟨u, hu, hn⟩ := (S.grow s1).nt c z
      rw [s2 c u hu] at ec'; cases ec'; exact hn _ rfl
    refine gt _ c xs (fun o hf => ?_) ?_
    · rw [out_ni (by simp [hc, hcm])]
      exact s2 _ _ ((S.grow s1).sb _ _ (b _ _ hf))
    · rw [out_ni (by simp [hc, hcm])]; exact ec')⟩
theorem de_callA {A ρ : Type} {ta : TA} {p : E → Prop} {a : Ar A} {fa : E → A} {pre : A → Prop} {r : Rp ρ} {f : A → ρ} {EX : XK} (h : DA F Γ ta p (ka a) fa) : DE F Γ (tCall (spA a pre r f) [] EX ta) (fun e => p e ∧ pre (fa e)) (qF gI r) (fun e => f (fa e)) := fun B ms σ H e b S pp Q q => h b S pp.1 _ fun vs H1 s1 r1 =>
  ⟨fa e, by rw [List.append_nil]; exact r1, pp.2, fun v H' s2 rv => q v H' (s1.trans s2) rv⟩
end
/-- the first context of a body -/
def Start {A E : Type} (a : Ar A) (m : Nat) (Γ : Ctx E) (init : A → E) : Prop := ∀ ⦃H : Hp⦄ ⦃vs : List V⦄ ⦃x : A⦄, a.rel H vs x → Γ.rel [] H (vs.map some ++ List.replicate m none) H (init x)
theorem s_n : Start ar0 0 cN (fun _ => ()) := fun H vs x h => by rw [show vs = [] from h]; exact ⟨rfl, rfl⟩
theorem s_a {E : Type} {m : Nat} {Γ : Ctx E} {init : Unit → E} (h : Start ar0 m Γ init) : Start ar0 (m + 1) (cS kAny Γ) (fun x => ((), init x)) := fun H vs x q => by
  have z := h q
  rw [show vs = [] from q] at z ⊢
  exact ⟨none, _, [], [], rfl, rfl, rfl, z⟩
theorem s_1 {α E : Type} {r : Rp α} {m : Nat} {Γ : Ctx E} {init : Unit → E} (h : Start ar0 m Γ init) : Start (ar1 r) m (cS (kI gI r) Γ) (fun x => (x, init ())) := fun H vs x ⟨v, e, q⟩ => by
  rw [e]
  exact ⟨some v, _, [], [], rfl, rfl, ⟨rfl, v, rfl, q⟩, h (x := ()) (vs := []) rfl⟩
theorem s_c {α A E : Type} {r : Rp α} {a : Ar A} {m : Nat} {Γ : Ctx E} {init : A → E} (h : Start a m Γ init) : Start (arc r a) m (cS (kI gI r) Γ) (fun x => (x.1, init x.2)) := fun H vs x ⟨v, ws, e, q, z⟩ => by
  rw [e]
  exact ⟨some v, _, [], [], rfl, rfl, ⟨rfl, v, rfl, q⟩, h z⟩
theorem st_start {A E : Type} {a : Ar A} {m : Nat} {Γ : Ctx E} {init : A → E} (h : Start a m Γ init) {H : Hp} {vs : List V} {x : A} (q : a.rel H vs x) {N : List Str} (hN : N.length = a.n + m) : St0 Γ H [] (L2.start N vs) H (init x) := by
  have hl := a.len q
  refine ⟨List.nodup_nil, fun p hp => (by cases hp), Same.refl _, fun p hp => (by cases hp), [], List.nodup_nil, fun p hp => hp, ?_⟩
  unfold L2.start
  rw [out_nil, hN, hl, Nat.add_sub_cancel_left]
  exact h q
/-- the class of a name -/
def clK (K : PySem.W.Frag) (x : Str) : Value := .ref (He.ga K x)
abbrev W0 : WX := fun _ _ _ _ => False
/-- how a value is returned: fresh; any -/
abbrev rF {ρ : Type} (H : Hp) (r : Rp ρ) : Hp → V → ρ → Prop := fun H' v y => r.rel (fr H H') v y
abbrev rA {ρ : Type} (r : Rp ρ) : Hp → V → ρ → Prop := fun H' v y => r.rel H' v y
abbrev csN {ρ : Type} (K : PySem.W.Frag) (rr : Hp → V → ρ → Prop) : Cs Unit Unit Unit ρ := { b := cN, c := cN, x := cN, r := rr, cl := clK K }
abbrev koN {E ρ : Type} (nx : E → Prop) (rt : ρ → Prop) : Ko E Unit Unit Unit ρ := { nx := nx, bk := fun _ => False, ct := fun _ => False, ex := fun _ _ => False, rt := rt }
section
variable {P : Program} {w : World} {K : PySem.W.Frag} {mg : Str → Option Value} {base : Heap}
/-- a def that raises nothing, what comes is fresh -/
theorem fn_F {x qual : Str} {st : Stmt} {f : Addr} {fd : FuncData} {N ps : List Str} {k : Nat} {A E ρ : Type} {a : Ar A} {m : Nat} {Γ : Ctx E} {init : A → E} {pre : A → Prop} {r : Rp ρ} {fn : A → ρ} (Fn : Fun K x qual st f fd) (S : FnScope N ps (defScope st)) (hs : Start a m Γ init) (hps : ps.length = a.n) (hN : N.length = a.n + m)
    (body : ∀ (cdv : Value) (Ar : Around) (outer : List Env) (s : Shared) (H : Hp) (EX : XK), Room k (Ar.deeper (envOfC qual (defScope st) s.heap.objs.size f cdv)) →
      ∃ t, PSs (cxOf CX0 P w K mg base N qual (defScope st) f cdv Ar outer s H EX).nox (defBody st) t ∧ ∃ (E' : Type) (Γ' : Ctx E') (wp : E → Ko E' Unit Unit Unit ρ → Prop), DS H W0 (csN K (rF H r)) Γ t Γ' wp ∧ ∀ x, pre x → wp (init x) (koN (fun _ => ∀ h, r.rel h .non (fn x)) (fun y => y = fn x))) :
    FnOk P w K mg base CX0 (k + 1) f fd ps (spF a pre r fn) := by
  refine Fn.ok S (fun vs H Q _ ⟨x, hx, _⟩ => by rw [a.len hx, hps]) fun cdv Ar outer s H vs Q EX hr ⟨x, hx, px, q⟩ => ?_
  obtain ⟨t, ht, E', Γ', wp, hd, hw⟩ := body cdv Ar outer s H EX hr
  refine ⟨t, ht, hd (Same.refl H) (st_start hs hx hN) _ _ (hw x px) ⟨fun S' q' => q _ _ S'.sb (q' _), fun _ z => z.elim, fun _ z => z.elim, fun _ z => z.elim, fun s rv e => ?_⟩⟩
  subst e
  exact q _ _ s rv
theorem fn_A {x qual : Str} {st : Stmt} {f : Addr} {fd : FuncData} {N ps : List Str} {k : Nat} {A E ρ : Type} {a : Ar A} {m : Nat} {Γ : Ctx E} {init : A → E} {pre : A → Prop} {r : Rp ρ} {fn : A → ρ} (Fn : Fun K x qual st f fd) (S : FnScope N ps (defScope st)) (hs : Start a m Γ init) (hps : ps.length = a.n) (hN : N.length = a.n + m)
    (body : ∀ (cdv : Value) (Ar : Around) (outer : List Env) (s : Shared) (H : Hp) (EX : XK), Room k (Ar.deeper (envOfC qual (defScope st) s.heap.objs.size f cdv)) →
      ∃ t, PSs (cxOf CX0 P w K mg base N qual (defScope st) f cdv Ar outer s H EX).nox (defBody st) t ∧ ∃ (E' : Type) (Γ' : Ctx E') (wp : E → Ko E' Unit Unit Unit ρ → Prop), DS H W0 (csN K (rA r)) Γ t Γ' wp ∧ ∀ x, pre x → wp (init x) (koN (fun _ => ∀ h, r.rel h .non (fn x)) (fun y => y = fn x))) :
    FnOk P w K mg base CX0 (k + 1) f fd ps (spA a pre r fn) := by
  refine Fn.ok S (fun vs H Q _ ⟨x, hx, _⟩ => by rw [a.len hx, hps]) fun cdv Ar outer s H vs Q EX hr ⟨x, hx, px, q⟩ => ?_
  obtain ⟨t, ht, E', Γ', wp, hd, hw⟩ := body cdv Ar outer s H EX hr
  refine ⟨t, ht, hd (Same.refl H) (st_start hs hx hN) _ _ (hw x px) ⟨fun S' q' => q _ _ S'.sb (q' _), fun _ z => z.elim, fun _ z => z.elim, fun _ z => z.elim, fun s rv e => ?_⟩⟩
  subst e
  exact q _ _ s rv
end

/-! ### a def as its callers see it -/
structure Cal (P : Program) (w : World) (K : PySem.W.Frag) (mg : Str → Option Value) (base : Heap) (CXx : CXT) (k : Nat) (x : Str) (ps : List Str) (sp : Sp) : Prop where
  ex : ∃ f fd, FnOk P w K mg base CXx k f fd ps sp ∧ mg x = some (.ref f) ∧ PySem.W.keepIn K (.ref f) = true ∧ Binds K fd ps []
section
variable {X : Cx} {k : Nat} {x : Str} {ps : List Str} {sp : Sp} {p pos : Pos} {e : Expr} {es : List Expr} {t : TA}
theorem pe_cal (c : Cal X.prog X.w X.K X.mg X.base CX0 k x ps sp) (hr : Room k X.A) (ha : PA X (e :: es) t) (hg : Gl X x := by rfl) (hdb : (x == ("__debug__" : Str)) = false := by decide)
    (he : starEach (e :: es) X.env = (false, eval e X.env) :: starEach es X.env := by rfl) (hpl : (backTo pos (starEach es X.env)).any (·.1) = false := by rfl) : PE X (.Call (.Name x p) (e :: es) [] pos) (tCall sp [] E0 t) := by
  obtain ⟨f, fd, F, hm, hk, hb⟩ := c.ex
  exact pe_call F hr hg hm hk hb .nil pass0 ha hdb he hpl
theorem pe_cal0 (c : Cal X.prog X.w X.K X.mg X.base CX0 k x ps sp) (hr : Room k X.A) (hg : Gl X x := by rfl) (hdb : (x == ("__debug__" : Str)) = false := by decide) : PE X (.Call (.Name x p) [] [] pos) (tCall sp [] E0 tNil) := by
  obtain ⟨f, fd, F, hm, hk, hb⟩ := c.ex
  exact pe_call0 F hr hg hm hk hb .nil pass0 hdb
end
theorem Cal.imp {P : Program} {w : World} {K : PySem.W.Frag} {mg : Str → Option Value} {base : Heap} {CXx : CXT} {k : Nat} {x : Str} {ps : List Str} {sp sp' : Sp} (c : Cal P w K mg base CXx k x ps sp) (h : ∀ vs H Q E, sp' vs H Q E → sp vs H Q E) : Cal P w K mg base CXx k x ps sp' := by
  obtain ⟨f, fd, F, hm, hk, hb⟩ := c.ex
  exact ⟨f, fd, F.imp h, hm, hk, hb⟩
/-! ### the script -/
def rScr (K : PySem.W.Frag) : Rp (List Int) := ⟨fun h v xs => ∃ a, v = .ref a ∧ SqL K h a (xs.map V.int), fun s ⟨a, e, q⟩ => ⟨a, e, s.seq q⟩⟩
section
variable {E : Type} {F : Hp} {Γ : Ctx E} {K : PySem.W.Frag}
theorem de_ixS {ta tb : TE} {pa pb : E → Prop} {fa : E → List Int} {fb : E → Int} (ha : DE F Γ ta pa (qI gI (rScr K)) fa) (hb : DE F Γ tb pb qi fb) :
    DE F Γ (tOp (rIxL K) ta tb) (fun e => pa e ∧ pb e ∧ inb (fa e) (fb e)) qi (fun e => gi (fa e) (fb e)) := fun B ms σ H e b S p Q q => ha b S p.1 _ fun v H1 s1 r1 => hb b (S.grow s1) p.2.1 _ fun u H2 s2 r2 => by
  obtain ⟨a, e1, h1⟩ := r1
  exact ⟨a, _, _, .int (gi (fa e) (fb e)), e1, r2, s2.seq ((out_same (ms := ms)).seq h1), by rw [at_gi p.2.2.1 (by rw [List.length_map]; exact p.2.2.2), List.getElem?_map, gi_some p.2.2]; rfl, q _ _ (s1.trans s2) rfl⟩
theorem de_lenScr {ta : TE} {pa : E → Prop} {fa : E → List Int} (ha : DE F Γ ta pa (qI gI (rScr K)) fa) : DE F Γ (tCB (rLenX K) (tCons ta tNil)) pa qi (fun e => ((fa e).length : Int)) := fun B ms σ H e b S p Q q => ha b S p _ fun v H1 s1 r1 => by
  obtain ⟨a, e1, h1⟩ := r1
  rw [e1]
  exact ⟨_, ((fa e).map V.int).length, rfl, .inl ⟨_, (out_same (ms := ms)).seq h1, rfl⟩, q _ _ s1 (by rw [List.length_map]; rfl)⟩
end
end D

set_option Elab.async false
set_option linter.all false
set_option maxRecDepth 100000
namespace D
open PySem PySem.Spec PyProof.Rows L2

/-! ### the built-ins that stand behind names -/
theorem bt_len : bootBuiltins "len" = some (.builtin "len") := by decide +kernel
theorem bt_sum : bootBuiltins "sum" = some (.builtin "sum") := by decide +kernel
theorem bt_abs : bootBuiltins "abs" = some (.builtin "abs") := by decide +kernel
theorem bt_min : bootBuiltins "min" = some (.builtin "min") := by decide +kernel
theorem bt_max : bootBuiltins "max" = some (.builtin "max") := by decide +kernel
theorem bt_all : bootBuiltins "all" = some (.builtin "all") := by decide +kernel
theorem bt_sorted : bootBuiltins "sorted" = some (.builtin "sorted") := by decide +kernel
theorem bt_isinstance : bootBuiltins "isinstance" = some (.builtin "isinstance") := by decide +kernel
theorem bt_list : bootBuiltins "list" = some (.type "list") := by decide +kernel
theorem bt_tuple : bootBuiltins "tuple" = some (.type "tuple") := by decide +kernel
theorem bt_range : bootBuiltins "range" = some (.type "range") := by decide +kernel
theorem bt_reversed : bootBuiltins "reversed" = some (.type "reversed") := by decide +kernel
theorem bt_int : bootBuiltins "int" = some (.type "int") := by decide +kernel
theorem bt_bool : bootBuiltins "bool" = some (.type "bool") := by decide +kernel
theorem bt_str : bootBuiltins "str" = some (.type "str") := by decide +kernel
theorem bt_ValueError : bootBuiltins "ValueError" = some (.type "ValueError") := by decide +kernel
/-- the text gives none of these names anew -/
structure Names0 (mg : Str → Option Value) : Prop where
  n_len : mg "len" = none
  n_sum : mg "sum" = none
  n_abs : mg "abs" = none
  n_min : mg "min" = none
  n_max : mg "max" = none
  n_all : mg "all" = none
  n_sorted : mg "sorted" = none
  n_isinstance : mg "isinstance" = none
  n_list : mg "list" = none
  n_tuple : mg "tuple" = none
  n_range : mg "range" = none
  n_reversed : mg "reversed" = none
  n_int : mg "int" = none
  n_bool : mg "bool" = none
  n_str : mg "str" = none
  n_ValueError : mg "ValueError" = none

theorem rr {a : Addr} : RelV (.ref a) (.ref a) := rfl
theorem rty {n : String} : RelV (.ty n) (.type n) := rfl
/-! ### great ints -/
section
variable {X : Cx}
theorem op_mulX : OpR X (binaryOp .Mult) (rI IntMulOk fun i j => .int (i * j)) := opI fun _ _ _ _ _ _ _ hc q => mul_int q hc
end
theorem mulOk {i j : Int} {a b : Nat} (ha : i.natAbs < 2 ^ a) (hb : j.natAbs < 2 ^ b) (h0 : 0 < a) (h1 : 0 < b) (h : a + b ≤ 1000000) : IntMulOk i j := (wide_mul ha hb h0 h1 h).ok
theorem mulOkL {i j : Int} (h1 : -(2 ^ 64) < i) (h2 : i < 2 ^ 64) : IntMulOk i j := .of_left (intBits_le_64 h1 h2)
theorem mulOkR {i j : Int} (h1 : -(2 ^ 64) < j) (h2 : j < 2 ^ 64) : IntMulOk i j := .of_right (intBits_le_64 h1 h2)
theorem divOk {i j : Int} {b : Nat} (h : 0 < j) (hb : j.natAbs < 2 ^ b) (h0 : 0 < b) (h9 : b ≤ 9000) : CDivW i j := wide_div h hb h0 h9
theorem divOk64 {i j : Int} (h : 0 < j) (hb : j < 2 ^ 64) : CDivW i j := wide_div (b := 64) h (by omega) (by decide) (by decide)

/-! ### equality of data -/
structure En {α : Type} (r : Rp α) (d : Nat) where
  enc : α → PyData
  ok : α → Prop
  dp : ∀ {K : PySem.W.Frag} {h : Hp} {v : V} {x : α}, r.rel h v x → Dp K h v (enc x)
  can : ∀ {x : α}, ok x → (enc x).canLay0 = true
  dep : ∀ (x : α), (enc x).depth ≤ d
  eq : ∀ (x y : α), PyData.eqv (enc x) (enc y) = true ↔ x = y
def en_int : En rInt 0 := ⟨.int, fun _ => True, fun {K h v x} q => by rw [show v = _ from q]; exact .int x, fun _ => by simp [PyData.canLay0], fun _ => by simp [PyData.depth], fun x y => by simp [PyData.eqv]⟩
def en_bool : En rBool 0 := ⟨.bool, fun _ => True, fun {K h v x} q => by rw [show v = _ from q]; exact .bl x, fun _ => by simp [PyData.canLay0], fun _ => by simp [PyData.depth], fun x y => by simp [PyData.eqv]⟩
def en_str : En rStr 0 := ⟨.str, fun x => PySem.PyData.strOk x = true, fun {K h v x} q => by rw [show v = _ from q]; exact .str x, fun h => by simp [PyData.canLay0]; exact h, fun _ => by simp [PyData.depth], fun x y => by simp [PyData.eqv]⟩
theorem all_dp {K : PySem.W.Frag} {h : Hp} {α : Type} {r : Rp α} {enc : α → PyData} (f : ∀ {v x}, r.rel h v x → Dp K h v (enc x)) : ∀ {vs : List V} {xs : List α}, Paired (r.rel h) vs xs → DpAll K h vs (xs.map enc)
  | _, _, .nil => .nil
  | _, _, .cons q t => .cons (f q) (all_dp f t)
theorem all_can {α : Type} {enc : α → PyData} : ∀ {xs : List α}, (∀ x ∈ xs, (enc x).canLay0 = true) → PyData.canLayAll0 (xs.map enc) = true
  | [], _ => by simp [PyData.canLayAll0]
  | x :: xs, h => by
    rw [List.map_cons]
    simp only [PyData.canLayAll0, Bool.and_eq_true]
    exact ⟨h x List.mem_cons_self, all_can fun y hy => h y (List.mem_cons_of_mem _ hy)⟩
theorem all_dep {α : Type} {enc : α → PyData} {d : Nat} (f : ∀ x, (enc x).depth ≤ d) : ∀ (xs : List α), PyData.depthAll (xs.map enc) ≤ d
  | [] => by simp [PyData.depthAll]
  | x :: xs => by
    rw [List.map_cons]
    simp only [PyData.depthAll]
    have := f x
    have := all_dep f xs
    omega
theorem all_eq {α : Type} {enc : α → PyData} (f : ∀ x y, PyData.eqv (enc x) (enc y) = true ↔ x = y) : ∀ (xs ys : List α), PyData.eqvAll (xs.map enc) (ys.map enc) = true ↔ xs = ys
  | [], [] => by simp [PyData.eqvAll]
  | [], _ :: _ => by simp [PyData.eqvAll]
  | _ :: _, [] => by simp [PyData.eqvAll]
  | x :: xs, y :: ys => by
    rw [List.map_cons, List.map_cons]
    simp only [PyData.eqvAll, Bool.and_eq_true, List.cons.injEq]
    rw [f x y, all_eq f xs ys]
def en_list {α : Type} {r : Rp α} {d : Nat} (n : En r d) : En (rList r) (d + 1) := ⟨fun xs => .list (xs.map n.enc), fun xs => ∀ x ∈ xs, n.ok x, fun {K h v x} ⟨a, vs, e, q, z⟩ => by
    rw [e]
    exact .lst (SqL.of q) (all_dp n.dp z), fun h => by simp only [PyData.canLay0]; exact all_can fun x hx => n.can (h x hx), fun xs => by simp only [PyData.depth]; have := all_dep n.dep xs; omega, fun x y => by simp only [PyData.eqv]; exact all_eq n.eq x y⟩
def en_tups {α : Type} {r : Rp α} {d : Nat} (n : En r d) : En (rTups r) (d + 1) := ⟨fun xs => .tuple (xs.map n.enc), fun xs => ∀ x ∈ xs, n.ok x, fun {K h v x} ⟨a, vs, e, q, z⟩ => by
    rw [e]
    exact .tup (SqT.of q) (all_dp n.dp z), fun h => by simp only [PyData.canLay0]; exact all_can fun x hx => n.can (h x hx), fun xs => by simp only [PyData.depth]; have := all_dep n.dep xs; omega, fun x y => by simp only [PyData.eqv]; exact all_eq n.eq x y⟩
structure EnF {α : Type} (r : Fd α) (d : Nat) where
  enc : α → List PyData
  ok : α → Prop
  dp : ∀ {K : PySem.W.Frag} {h : Hp} {v : List V} {x : α}, r.rel h v x → DpAll K h v (enc x)
  can : ∀ {x : α}, ok x → PyData.canLayAll0 (enc x) = true
  dep : ∀ (x : α), PyData.depthAll (enc x) ≤ d
  eq : ∀ (x y : α), PyData.eqvAll (enc x) (enc y) = true ↔ x = y
def enf_1 {α : Type} {r : Rp α} {d : Nat} (n : En r d) : EnF (f1 r) d := ⟨fun x => [n.enc x], n.ok, fun {K h v x} ⟨u, e, q⟩ => by rw [e]; exact .cons (n.dp q) .nil, fun h => by simp only [PyData.canLayAll0, n.can h, Bool.and_self], fun x => by simp only [PyData.depthAll]; have := n.dep x; omega, fun x y => by simp only [PyData.eqvAll, Bool.and_true]; exact n.eq x y⟩
def enf_c {α β : Type} {r : Rp α} {s : Fd β} {d e : Nat} (n : En r d) (m : EnF s e) : EnF (fc r s) (max d e) := ⟨fun x => n.enc x.1 :: m.enc x.2, fun x => n.ok x.1 ∧ m.ok x.2, fun {K h v x} ⟨u, ws, e, q, z⟩ => by rw [e]; exact .cons (n.dp q) (m.dp z), fun h => by simp only [PyData.canLayAll0, n.can h.1, m.can h.2, Bool.and_self], fun x => by simp only [PyData.depthAll]; have := n.dep x.1; have := m.dep x.2; omega, fun x y => by
    simp only [PyData.eqvAll, Bool.and_eq_true]
    rw [n.eq, m.eq]
    exact ⟨fun h => Prod.ext h.1 h.2, fun h => by rw [h]; exact ⟨rfl, rfl⟩⟩⟩
def en_tup {α : Type} {r : Fd α} {d : Nat} (n : EnF r d) : En (rTup r) (d + 1) := ⟨fun x => .tuple (n.enc x), n.ok, fun {K h v x} ⟨a, vs, e, q, z⟩ => by
    rw [e]
    exact .tup (SqT.of q) (n.dp z), fun h => by simp only [PyData.canLay0]; exact n.can h, fun xs => by simp only [PyData.depth]; have := n.dep xs; omega, fun x y => by simp only [PyData.eqv]; exact n.eq x y⟩
def en_opt {α : Type} {r : Rp α} {d : Nat} (n : En r d) (nn : ∀ x, n.enc x ≠ .none := by intro x z; cases z) : En (rOpt r) d := ⟨fun x => match x with | none => .none | some y => n.enc y, fun x => match x with | none => True | some y => n.ok y,
  fun {K h v x} q => by
    cases x with
    | none => rw [show v = _ from q]; exact .non
    | some y => exact n.dp q.2,
  fun {x} h => by
    cases x with
    | none => simp [PyData.canLay0]
    | some y => exact n.can h,
  fun x => by
    cases x with
    | none => simp [PyData.depth]
    | some y => exact n.dep y,
  fun x y => by
    cases x with
    | none =>
      cases y with
      | none => simp [PyData.eqv]
      | some y =>
        simp only [reduceCtorEq, iff_false]
        have := nn y
        generalize n.enc y = z at this ⊢
        cases z <;> first | exact absurd rfl this | simp [PyData.eqv]
    | some x =>
      cases y with
      | none =>
        simp only [reduceCtorEq, iff_false]
        have := nn x
        generalize n.enc x = z at this ⊢
        cases z <;> first | exact absurd rfl this | simp [PyData.eqv]
      | some y => rw [n.eq]; simp⟩
section
variable {E : Type} {F : Hp} {Γ : Ctx E} {K : PySem.W.Frag}
theorem en_shaped {α : Type} {r : Rp α} {d : Nat} (n : En r d) (hd : d ≤ 64) {x : α} (h : n.ok x) : SeqAt.shaped (n.enc x) = true := by
  unfold SeqAt.shaped
  rw [n.can h, Bool.true_and, decide_eq_true]
  exact Nat.le_trans (n.dep x) hd
theorem en_dec {α : Type} [DecidableEq α] {r : Rp α} {d : Nat} (n : En r d) (x y : α) : PyData.eqv (n.enc x) (n.enc y) = decide (x = y) := by
  rw [Bool.eq_iff_iff, n.eq, decide_eq_true_eq]
theorem de_eqD {α : Type} [DecidableEq α] {r : Rp α} {d : Nat} {ta tb : TE} {pa pb : E → Prop} {fa fb : E → α} (n : En r d) (ha : DE F Γ ta pa (qF gI r) fa) (hb : DE F Γ tb pb (qF gI r) fb) (hd : d ≤ 64 := by decide) :
    DE F Γ (tOp (rEqD K) ta tb) (fun e => pa e ∧ pb e ∧ n.ok (fa e) ∧ n.ok (fb e)) qb (fun e => decide (fa e = fb e)) := fun B ms σ H e b S p Q q => ha b S p.1 _ fun v H1 s1 r1 => hb b (S.grow s1) p.2.1 _ fun u H2 s2 r2 =>
  ⟨_, _, n.dp (r.mono s2 r1), n.dp r2, en_shaped n hd p.2.2.1, en_shaped n hd p.2.2.2, q _ _ (s1.trans s2) (by rw [en_dec]; rfl)⟩
theorem de_neD {α : Type} [DecidableEq α] {r : Rp α} {d : Nat} {ta tb : TE} {pa pb : E → Prop} {fa fb : E → α} (n : En r d) (ha : DE F Γ ta pa (qF gI r) fa) (hb : DE F Γ tb pb (qF gI r) fb) (hd : d ≤ 64 := by decide) :
    DE F Γ (tOp (rNeD K) ta tb) (fun e => pa e ∧ pb e ∧ n.ok (fa e) ∧ n.ok (fb e)) qb (fun e => !decide (fa e = fb e)) := fun B ms σ H e b S p Q q => ha b S p.1 _ fun v H1 s1 r1 => hb b (S.grow s1) p.2.1 _ fun u H2 s2 r2 =>
  ⟨_, _, n.dp (r.mono s2 r1), n.dp r2, en_shaped n hd p.2.2.1, en_shaped n hd p.2.2.2, q _ _ (s1.trans s2) (by rw [en_dec]; rfl)⟩

/-! ### more expressions -/
theorem de_pow {ta tb : TE} {pa pb : E → Prop} {a b c : Int} (ha : DE F Γ ta pa qi (fun _ => a)) (hb : DE F Γ tb pb qi (fun _ => b)) (hc : CPow a b) (he : a ^ b.toNat = c) :
    DE F Γ (tOp (rI CPow fun i j => .int (i ^ j.toNat)) ta tb) (fun e => pa e ∧ pb e) qi (fun _ => c) := fun _ _ _ _ _ bb S p Q q => ha bb S p.1 _ fun v H1 s1 r1 => hb bb (S.grow s1) p.2 _ fun u H2 s2 r2 => ⟨_, _, r1, r2, hc, q _ _ (s1.trans s2) (congrArg V.int he)⟩
/-- x in a tuple of texts that the text has written -/
theorem de_inC {neg : Bool} {ta : TE} {pa : E → Prop} {fa : E → Str} {p : Addr} {ws : List Str} (hs : ∀ H, SqT K H p (ws.map V.str)) (ha : DE F Γ ta pa qs fa) :
    DE F Γ (tOp (rIn K neg) ta (tC (.ref p))) pa qb (fun e => if neg then !decide (fa e ∈ ws) else decide (fa e ∈ ws)) := fun B ms σ H e b S pp Q q => ha b S pp _ fun v H1 s1 r1 => by
  rw [show v = _ from r1]
  exact ⟨p, _, rfl, .inr (hs H1), rfl, flat_str, q _ _ s1 (by rw [inV_str]; rfl)⟩
theorem de_sliceF {α : Type} {ta : TE} {tl th : L2.TO} {pa pl ph : E → Prop} {g g' : Rg} {r : Rp α} {fa : E → List α} {fl fh : E → Option Int} (to : D.TO r) (gt : GT F g') (ha : DE F Γ ta pa (qF g (rList r)) fa) (hl : DO F Γ tl pl fl) (hh : DO F Γ th ph fh) :
    DE F Γ (tSl (rSlL K) ta tl th) (fun e => pa e ∧ pl e ∧ ph e) (qL g' r) (fun e => cuti (fa e) (fl e) (fh e)) := fun B ms σ H e b S p Q q => ha b S p.1 _ fun v H1 s1 r1 => hl b (S.grow s1) p.2.1 _ fun H2 s2 => hh b ((S.grow s1).grow s2) p.2.2 _ fun H3 s3 => by
  obtain ⟨a, vs, e1, h1, z⟩ := r1
  have hlen := pr_len z
  refine ⟨a, vs, e1, SqL.of (s3 _ _ (s2 _ _ (g.sub _ _ h1))), fun p hp => q _ _ (((s1.trans s2).trans s3).trans (same_new hp)) ⟨p, _, rfl, ((s1.trans s2).trans s3).free hp, upd_same, ?_⟩⟩
  unfold cutV cuti
  rw [hlen]
  refine pr_take _ (pr_drop _ (pr_map z fun v x y => ?_))
  have y1 : (qI g' r).rel ms H H1 v x := cv_to (g := g) to gt (S.bs b s1) y
  exact r.mono (g'.mono ((out_mono (s2.trans s3)).trans (new_cons hp))) y1
theorem de_sliceS {ta : TE} {tl th : L2.TO} {pa pl ph : E → Prop} {fa : E → Str} {fl fh : E → Option Int} (ha : DE F Γ ta pa qs fa) (hl : DO F Γ tl pl fl) (hh : DO F Γ th ph fh) :
    DE F Γ (tSl rSlS ta tl th) (fun e => pa e ∧ pl e ∧ ph e ∧ (fa e).length ≤ sizeLine) qs (fun e => cutS (fa e) (fl e) (fh e)) := fun B ms σ H e b S p Q q => ha b S p.1 _ fun v H1 s1 r1 => hl b (S.grow s1) p.2.1 _ fun H2 s2 => hh b ((S.grow s1).grow s2) p.2.2.1 _ fun H3 s3 =>
  ⟨_, r1, p.2.2.2, q _ _ ((s1.trans s2).trans s3) rfl⟩
def strAt (z : Str) (i : Int) : Str := ⟨#[z.cps.toList.getD i.toNat 0]⟩
theorem de_ixStr {ta tb : TE} {pa pb : E → Prop} {fa : E → Str} {fb : E → Int} (ha : DE F Γ ta pa qs fa) (hb : DE F Γ tb pb qi fb) :
    DE F Γ (tOp rIxS ta tb) (fun e => pa e ∧ pb e ∧ (fa e).length ≤ sizeLine ∧ inb (fa e).cps.toList (fb e)) qs (fun e => strAt (fa e) (fb e)) := fun B ms σ H e b S p Q q => ha b S p.1 _ fun v H1 s1 r1 => hb b (S.grow s1) p.2.1 _ fun u H2 s2 r2 => by
  obtain ⟨h0, h1⟩ := p.2.2.2
  have hl : (fb e).toNat < (fa e).cps.toList.length := by omega
  refine ⟨_, _, (fa e).cps.toList.getD (fb e).toNat 0, r1, r2, p.2.2.1, ?_, q _ _ (s1.trans s2) rfl⟩
  unfold atI ixN
  rw [if_pos h0, if_pos h1]
  show (fa e).cps.toList[(fb e).toNat]? = _
  rw [List.getD_eq_getElem?_getD, List.getElem?_eq_getElem hl]
  rfl
theorem de_catS {ta tb : TE} {pa pb : E → Prop} {fa fb : E → Str} (ha : DE F Γ ta pa qs fa) (hb : DE F Γ tb pb qs fb) :
    DE F Γ (tOp (fun x y H Q => ∃ i j, x = .str i ∧ y = .str j ∧ i.length + j.length ≤ sizeLine ∧ Q (.str (i ++ j)) H) ta tb) (fun e => pa e ∧ pb e ∧ (fa e).length + (fb e).length ≤ sizeLine) qs (fun e => fa e ++ fb e) := fun B ms σ H e b S p Q q => ha b S p.1 _ fun v H1 s1 r1 => hb b (S.grow s1) p.2.1 _ fun u H2 s2 r2 =>
  ⟨_, _, r1, r2, p.2.2, q _ _ (s1.trans s2) rfl⟩
/-! comprehensions without a test -/
theorem de_pre {α : Type} {t : TE} {pre pre' : E → Prop} {R : Rk α} {f f' : E → α} (h : DE F Γ t pre R f) (hp : ∀ e, pre' e → pre e) (hf : ∀ e, pre' e → f e = f' e) : DE F Γ t pre' R f' := fun B ms σ H e b S p Q q => h b S (hp e p) Q fun v H' s r => q v H' s (by rw [← hf e p]; exact r)
variable {Ei : Type} {Γi : Ctx Ei}
theorem de_lcIy {α α' : Type} {i : Nat} {g g' : Rg} {r : Rp α} {r' : Rp α'} {set : E → α → Ei} {tl : TE} {te : TE} {pl : E → Prop} {pe : Ei → Prop} {fl : E → List α} {fe : Ei → α'}
    (hl : DE F Γ tl pl (qI g (rList r)) fl) (p : Put Γ i (kI g r) Γi set) (he : DE F Γi te pe (qI g' r') fe) :
    DE F Γ (tLc (iList K tl) (gName i) tYes te [i]) (fun e => pl e ∧ (fl e).length ≤ sizeLine ∧ ∀ x ∈ fl e, pe (set e x)) (qL g' r') (fun e => (fl e).map (fun x => fe (set e x))) :=
by
  refine de_pre (de_lcI hl p dt_yes he) ?_ ?_
  · intro e h
    exact ⟨h.1, h.2.1, fun x hx => ⟨trivial, fun _ => h.2.2 x hx⟩⟩
  · intro e _
    exact lcf_yes
theorem de_lcOy {α α' : Type} {i : Nat} {g g' : Rg} {r : Rp α} {r' : Rp α'} {set : E → α → Ei} {tl : TE} {te : TE} {pl : E → Prop} {pe : Ei → Prop} {fl : E → List α} {fe : Ei → α'} (to : D.TO r)
    (hl : DE F Γ tl pl (qF g (rList r)) fl) (p : Put Γ i (kI gI r) Γi set) (he : DE F Γi te pe (qI g' r') fe) :
    DE F Γ (tLc (iList K tl) (gName i) tYes te [i]) (fun e => pl e ∧ (fl e).length ≤ sizeLine ∧ ∀ x ∈ fl e, pe (set e x)) (qL g' r') (fun e => (fl e).map (fun x => fe (set e x))) :=
by
  refine de_pre (de_lcO to hl p dt_yes he) ?_ ?_
  · intro e h
    exact ⟨h.1, h.2.1, fun x hx => ⟨trivial, fun _ => h.2.2 x hx⟩⟩
  · intro e _
    exact lcf_yes
theorem de_lcR1y {α' : Type} {i : Nat} {g' : Rg} {r' : Rp α'} {set : E → Int → Ei} {ta : TA} {te : TE} {pl : E → Prop} {pe : Ei → Prop} {n : E → Int} {fe : Ei → α'}
    (hl : DA F Γ ta pl (D.k1 qi) n) (p : Put Γ i (kI gI rInt) Γi set) (he : DE F Γi te pe (qI g' r') fe) :
    DE F Γ (tLc (iRng1 ta) (gName i) tYes te [i]) (fun e => pl e ∧ (n e < 2 ^ 62 ∧ -(2 ^ 62) ≤ n e ∧ (n e).toNat ≤ sizeLine) ∧ ∀ x ∈ irange 0 (n e), pe (set e x)) (qL g' r') (fun e => (irange 0 (n e)).map (fun x => fe (set e x))) :=
by
  refine de_pre (de_lcR1 hl p dt_yes he) ?_ ?_
  · intro e h
    exact ⟨h.1, h.2.1, fun x hx => ⟨trivial, fun _ => h.2.2 x hx⟩⟩
  · intro e _
    exact lcf_yes
end
section
variable {E E1 E' Eb Ec Ex ρ : Type} {F : Hp} {W : WX} {C : Cs Eb Ec Ex ρ} {Γ : Ctx E} {Γ1 : Ctx E1} {Γ' : Ctx E'} {K : PySem.W.Frag}
theorem pr_erase {α β : Type} {R : α → β → Prop} : ∀ {xs : List α} {ys : List β} (i : Nat), Paired R xs ys → Paired R (xs.eraseIdx i) (ys.eraseIdx i)
  | _, _, _, .nil => .nil
  | _, _, 0, .cons _ t => t
  | _, _, i + 1, .cons r t => .cons r (pr_erase i t)
/-- xs.append(ys.pop(j)), two lists of one's own, of what leans on tuples alone -/
theorem ds_appPop {α : Type} [Inhabited α] {i i' : Nat} {g g' : Rg} {r : Rp α} {get get' : E → List α} {set set' : E → List α → E} {tj : TE} {pj : E → Prop} {j : E → Int} (hne : i ≠ i') (to : D.TO r) (gt : GT F g) (a : Ln Γ i (kL g r) get set) (a' : Ln Γ i' (kL g' r) get' set') (hj : DE F Γ tj pj qi j) :
    DS F W C Γ (tDrop (tBM K "list" rAppend (tVar i) (tCons (tBM K "list" rPopAt (tVar i') (tCons tj tNil)) tNil))) Γ (fun e k => pj e ∧ inb (get' e) (j e) ∧ j e < 2 ^ 62 ∧ (get e).length < sizeLine ∧ get (set' e ((get' e).eraseIdx (j e).toNat)) = get e ∧ k.nx (set (set' e ((get' e).eraseIdx (j e).toNat)) (get e ++ [gi (get' e) (j e)]))) := fun B ms σ H e fb S Dn k hw c => by
  obtain ⟨h1, h2, h3, h4, h5, h6⟩ := hw
  obtain ⟨l, vs, e1, e2, e3, kk⟩ := st_mut a S
  obtain ⟨l', vs', f1, f2, f3, kk'⟩ := st_mut a' S
  have hl' := pr_len f3
  refine ⟨_, e1, .inl ⟨rfl, vs, SqL.of e2⟩, _, f1, .inl ⟨rfl, vs', SqL.of f2⟩, hj fb S h1 _ fun v H1 s1 r1 => ?_⟩
  obtain ⟨x, hx, rx⟩ := pr_get f3 (gi_some h2)
  have hjn : (j e).toNat < (get' e).length := by have := h2.1; have := h2.2; omega
  refine ⟨l', vs', j e, (j e).toNat, x, rfl, congrArg (fun z => [z]) r1, s1 _ _ f2, ?_, ?_, ?_, hx, ?_⟩
  · have := h2.1; omega
  · omega
  · unfold seqIndex?
    have := h2.1; have := h2.2
    rw [hl']
    simp only []
    first | (rw [if_neg (by omega)]; rw [if_neg (by omega)]) | (split <;> first | rfl | omega) | simp; omega
  -- the second list has changed
  have S2 := kk' H1 (vs'.eraseIdx (j e).toNat) ((get' e).eraseIdx (j e).toNat) s1 ?_
  · obtain ⟨l2, vs2, g1, g2, g3, kk2⟩ := st_mut a S2
    have el : l2 = l := by rw [g1] at e1; cases e1; rfl
    subst el
    refine ⟨l2, vs2, x, rfl, rfl, g2, by rw [pr_len g3, h5]; exact h4, c.nx (kk2 _ _ _ (Same.refl _) ?_) h6⟩
    rw [h5] at g3
    refine pr_app g3 (.cons ?_ .nil)
    have hb := S2.bs fb (Same.refl _)
    refine cv_to (g := gI) (g' := g) to gt hb (to (fun b xs eb => ?_) rx)
    have e1 : H1 b = some (.tup xs) := s1 _ _ (out_same _ _ (g'.sub _ _ eb))
    show upd H1 l' _ b = _
    rw [upd_ne fun z => by rw [z, s1 _ _ f2] at e1; cases e1]
    exact e1
  · have z1 : Paired (r.rel (g'.fn (out ms H1))) vs' (get' e) := pr_map f3 fun _ _ y => r.mono (g'.mono (out_mono s1)) y
    exact pr_erase _ z1
/-- xs.remove(e), a list of ints that holds e -/
theorem ds_remove {i : Nat} {g : Rg} {get : E → List Int} {set : E → List Int → E} {te : TE} {pre : E → Prop} {f : E → Int} (a : Ln Γ i (kL g rInt) get set) (h : DE F Γ te pre qi f) :
    DS F W C Γ (tDrop (tBM K "list" rRemI (tVar i) (tCons te tNil))) Γ (fun e k => pre e ∧ f e ∈ get e ∧ k.nx (set e ((get e).erase (f e)))) := fun B ms σ H e fb S Dn k hw c => by
  obtain ⟨l, vs, h1, h2, h3, kk⟩ := st_mut a S
  have ev := pr_int h3
  subst ev
  obtain ⟨jj, hj, hlt⟩ : ∃ jj, (get e)[jj]? = some (f e) ∧ (∀ m : Nat, m < jj → (get e)[m]? ≠ some (f e)) ∧ (get e).erase (f e) = (get e).eraseIdx jj := by
    have hm := hw.2.1
    generalize get e = xs at hm
    generalize f e = x at hm
    induction xs with
    | nil => cases hm
    | cons y ys ih =>
      by_cases hy : y = x
      · subst hy
        exact ⟨0, rfl, fun m hm => absurd hm (Nat.not_lt_zero m), by simp⟩
      · have hm' : x ∈ ys := by
          rcases List.mem_cons.mp hm with h | h
          · exact absurd h.symm hy
          · exact h
        obtain ⟨jj, a1, a2, a3⟩ := ih hm'
        refine ⟨jj + 1, by simpa using a1, fun m hm => ?_, ?_⟩
        · cases m with
          | zero => simp [hy]
          | succ m => simpa using a2 m (by omega)
        · rw [List.erase_cons_tail (by simpa using hy), List.eraseIdx_cons_succ, a3]
  refine ⟨_, h1, .inl ⟨rfl, _, SqL.of h2⟩, h fb S hw.1 _ fun v H1 s1 r1 => ⟨l, get e, f e, jj, rfl, congrArg (fun z => [z]) r1, s1 _ _ h2, hj, hlt.1, c.nx (kk H1 _ _ s1 ?_) hw.2.2⟩⟩
  rw [hlt.2]
  exact int_pr
end
end D

set_option Elab.async false
set_option linter.all false
set_option maxRecDepth 100000
namespace D
open PySem PySem.Spec PyProof.Rows L2 He
/-! ### the head's facts: those of the layer's second hook, and one Bool more -/
def obsQ (n : Nat) (fa : List Fa) (fn : List DefD) (ex : PySem.W.Frag → Bool) (g : Addr → Option Obj) : AlD × Bool := (obsD fa fn (frG g (asD g n)), ex (frG g (asD g n)))
def valQ (fn : List DefD) : AlD × Bool := (valD fn, true)
def SaysQ (fa : List Fa) (fn : List DefD) (ex : PySem.W.Frag → Bool) (K : PySem.W.Frag) : Prop := SaysD fa fn K ∧ ex K = true
def hookQ (n : Nat) (fa : List Fa) (fn : List DefD) (ex : PySem.W.Frag → Bool) : PySem.W.Hook where
  α := AlD × Bool
  obs := fun s => obsQ n fa fn ex s.heap.get?
  val := fun _ => valQ fn
  says := fun _ h => ∃ K : PySem.W.Frag, K.In h ∧ SaysQ fa fn ex K
  of := fun _ _ e => ⟨_, frG_in, congrArg (fun z : AlD × Bool => z.1) e, congrArg (fun z : AlD × Bool => z.2) e⟩
  keeps := fun _ _ _ ⟨K, hK, c⟩ k => ⟨K, PySem.W.Frag.In.keeps hK k, c⟩
theorem obsQ_eq {n : Nat} {fa : List Fa} {fn : List DefD} {ex : PySem.W.Frag → Bool} {g : Addr → Option Obj} {s : Shared} (h : ∀ a, g a = s.heap.get? a) : obsQ n fa fn ex g = (hookQ n fa fn ex).obs s := by
  have e : g = s.heap.get? := funext h
  rw [e] <;> rfl
/-- a def of the top, no defaults -/
def dd (x : Str) (st : Stmt) : DefD := ⟨(x, none), x, x, defArgs st, defBody st, defScope st, [], []⟩
/-- a method -/
def dm (C x qual : Str) (st : Stmt) : DefD := ⟨(C, some x), x, qual, defArgs st, defBody st, defScope st, [], []⟩
theorem fun_of {K : PySem.W.Frag} {x qual : Str} {st : Stmt} {f : Addr} {fd : FuncData} (c : FunD K x qual (defArgs st) (defBody st) (defScope st) [] [] f fd) : Fun K x qual st f fd := by
  obtain ⟨⟨oc, od, dV, kV, doc, pm, an, cdv, ct, osl, e, lk, hcd, hd, hk⟩, kp⟩ := c
  have e0 : dV = .none := by
    rcases hd with ⟨_, h⟩ | ⟨h, _⟩
    · exact h
    · exact absurd rfl h
  subst e0
  exact ⟨⟨oc, od, kV, doc, pm, an, cdv, ct, osl, e, lk, hcd⟩, kp⟩
theorem fun_dd {fa : List Fa} {fn : List DefD} {K : PySem.W.Frag} (c : SaysD fa fn K) {x : Str} {st : Stmt} (h : dd x st ∈ fn) : ∃ fd, Fun K x x st (ga K x) fd := by
  obtain ⟨fd, q⟩ := c.defs h
  exact ⟨fd, fun_of q⟩
theorem fun_dm {fa : List Fa} {fn : List DefD} {K : PySem.W.Frag} (c : SaysD fa fn K) {C x qual : Str} {st : Stmt} (h : dm C x qual st ∈ fn) : ∃ fd, Fun K x qual st (ma K (ga K C) x) fd := by
  obtain ⟨fd, q⟩ := c.defs h
  exact ⟨fd, fun_of q⟩
/-- what a law promises -/
def spTrue (K : PySem.W.Frag) : Sp := fun vs H Q _ => ∃ (a : Addr) (ns : List Int), vs = [.ref a] ∧ SqL K H a (ns.map V.int) ∧ ns.length ≤ 63 ∧ ∀ H', Q (.bl true) H'
end D

set_option Elab.async false
set_option linter.all false
set_option maxRecDepth 100000
namespace D
open PySem PySem.Spec PyProof.Rows L2

/-! ### errors -/
/-- the context of which nothing is known -/
def cTop : Ctx Unit := ⟨fun ms _ _ _ _ => ms = [], fun _ _ h => h⟩
theorem sub_top {E : Type} {F : Hp} {Γ : Ctx E} : Sub F Γ cTop (fun _ => ()) := fun _ _ _ _ _ _ _ _ => ⟨[], List.nil_sublist _, fun _ _ _ => rfl⟩
/-- a promise that may raise: an own error without arguments, by its class's name -/
def spX {A ρ : Type} (K : PySem.W.Frag) (a : Ar A) (pre : A → Prop) (r : Rp ρ) (f : A → Except Str ρ) : Sp := fun vs H Q EX => ∃ x, a.rel H vs x ∧ pre x ∧ (∀ y, f x = .ok y → ∀ v H', Same H H' → r.rel (fr H H') v y → Q v H') ∧ (∀ c, f x = .error c → ∀ H', Same H H' → EX (clK K c) none H')
section
variable {E E1 E' Eb Ec Ex ρ : Type} {F : Hp} {W : WX} {C : Cs Eb Ec Ex ρ} {Γ : Ctx E} {Γ1 : Ctx E1} {Γ' : Ctx E'} {K : PySem.W.Frag}
theorem ds_raise {c : Str} {cv : E → Ex} (s : Sub F Γ C.x cv) (hc : C.cl c = clK K c) : DS F W C Γ (fun _ σ H => W (clK K c) none σ H) Γ' (fun e k => k.ex c (cv e)) := fun B ms σ H e fb S Dn k hw c' => by
  obtain ⟨m', S'⟩ := st_sub fb s S
  have := c'.ex S' hw
  rw [hc] at this
  exact this
/-- a call that may raise: what is wanted of the value -/
theorem call_X {A α : Type} {ta : TA} {p : E → Prop} {a : Ar A} {fa : E → A} {pre : A → Prop} {r : Rp α} {f : A → Except Str α} {cv : E → Ex} (h : DA F Γ ta p (ka a) fa) (s : Sub F Γ C.x cv) (hc : C.cl = clK K)
    {B : Hp} {ms : List Addr} {σ : L2.St} {H : Hp} {e : E} (fb : Same F B) (S : St0 Γ B ms σ H e) {Dn : Ends} {k : Ko E' Eb Ec Ex ρ} (c : Conn C Γ' W B Dn k) {Q : VK} (hp : p e) (hp2 : pre (fa e))
    (hx : ∀ n, f (fa e) = .error n → k.ex n (cv e)) (hq : ∀ y, f (fa e) = .ok y → ∀ v H1 H', Same H H1 → Same H1 H' → r.rel (fr H1 H') v y → Q v H') : tCallS (spX K a pre r f) (WE W) ta σ H Q :=
  h fb S hp _ fun vs H1 s1 r1 => ⟨fa e, r1, hp2, fun y hy v H' s2 rv => hq y hy v H1 H' s1 s2 rv, fun n hn H' s2 => by
    obtain ⟨m', S'⟩ := st_sub fb s ((S.grow s1).grow s2)
    have := c.ex S' (hx n hn)
    rw [hc] at this
    exact this⟩
theorem dsx_drop {A α : Type} {ta : TA} {p : E → Prop} {a : Ar A} {fa : E → A} {pre : A → Prop} {r : Rp α} {f : A → Except Str α} {cv : E → Ex} (h : DA F Γ ta p (ka a) fa) (s : Sub F Γ C.x cv) (hc : C.cl = clK K) :
    DS F W C Γ (tDrop (tCallS (spX K a pre r f) (WE W) ta)) Γ (fun e k => p e ∧ pre (fa e) ∧ (∀ n, f (fa e) = .error n → k.ex n (cv e)) ∧ ∀ y, f (fa e) = .ok y → k.nx e) := fun B ms σ H e fb S Dn k hw c =>
  call_X h s hc fb S c hw.1 hw.2.1 hw.2.2.1 fun y hy v H1 H' s1 s2 rv => c.nx ((S.grow s1).grow s2) (hw.2.2.2 y hy)
theorem dsx_set {A α : Type} {i : Nat} {ta : TA} {p : E → Prop} {a : Ar A} {fa : E → A} {pre : A → Prop} {r : Rp α} {f : A → Except Str α} {cv : E → Ex} {set : E → α → E'} (h : DA F Γ ta p (ka a) fa) (s : Sub F Γ C.x cv) (hc : C.cl = clK K) (pu : Put Γ i (kI (gN F) r) Γ' set) :
    DS F W C Γ (tAsg (tCallS (spX K a pre r f) (WE W) ta) (gName i)) Γ' (fun e k => p e ∧ pre (fa e) ∧ (∀ n, f (fa e) = .error n → k.ex n (cv e)) ∧ ∀ y, f (fa e) = .ok y → k.nx (set e y)) := fun B ms σ H e fb S Dn k hw c =>
  call_X h s hc fb S c hw.1 hw.2.1 hw.2.2.1 fun y hy v H1 H' s1 s2 rv => c.nx (st_put pu ((S.grow s1).grow s2) (r.mono (fr_call fb (S.grow s1).sb (S.grow s1).nt s2) rv)) (hw.2.2.2 y hy)
theorem dsx_ret {A : Type} {ta : TA} {p : E → Prop} {a : Ar A} {fa : E → A} {pre : A → Prop} {r : Rp ρ} {f : A → Except Str ρ} {cv : E → Ex} (h : DA F Γ ta p (ka a) fa) (s : Sub F Γ C.x cv) (hc : C.cl = clK K) (hr : ∀ {H v y}, r.rel (fr F H) v y → C.r H v y) :
    DS F W C Γ (tRet (tCallS (spX K a pre r f) (WE W) ta)) Γ' (fun e k => p e ∧ pre (fa e) ∧ (∀ n, f (fa e) = .error n → k.ex n (cv e)) ∧ ∀ y, f (fa e) = .ok y → k.rt y) := fun B ms σ H e fb S Dn k hw c =>
  call_X h s hc fb S c hw.1 hw.2.1 hw.2.2.1 fun y hy v H1 H' s1 s2 rv => c.rt ((S.sb.trans s1).trans s2) (hr (r.mono ((fr_call fb (S.grow s1).sb (S.grow s1).nt s2).trans (fr_mono out_same)) rv)) (hw.2.2.2 y hy)
/-- x = ("..", f(..)): a pair of a text and what a call that may raise gives -/
theorem dsx_pair {A α : Type} {i : Nat} {ta : TA} {p : E → Prop} {a : Ar A} {fa : E → A} {pre : A → Prop} {r : Rp α} {f : A → Except Str α} {cv : E → Ex} {z : Str} {set : E → Str × α → E'} (h : DA F Γ ta p (ka a) fa) (s : Sub F Γ C.x cv) (hc : C.cl = clK K) (pu : Put Γ i (kI (gN F) (rTup (fc rStr (f1 r)))) Γ' set) :
    DS F W C Γ (tAsg (tTup (tCons (tC (.str z)) (tCons (tCallS (spX K a pre r f) (WE W) ta) tNil))) (gName i)) Γ' (fun e k => p e ∧ pre (fa e) ∧ (∀ n, f (fa e) = .error n → k.ex n (cv e)) ∧ ∀ y, f (fa e) = .ok y → k.nx (set e (z, y))) := fun B ms σ H e fb S Dn k hw c =>
  call_X h s hc fb S c hw.1 hw.2.1 hw.2.2.1 fun y hy v H1 H' s1 s2 rv => ⟨by show 2 ≤ sizeLine; decide, fun q hq => by
    have S2 := (S.grow s1).grow s2
    have hm : q ∉ ms := fun z => by
      obtain ⟨u, hu, _⟩ := S2.nt q z
      rw [hu] at hq; cases hq
    refine c.nx (st_put pu (x := (z, y)) (S2.grow (same_new hq)) ⟨q, _, rfl, ?_, .str z, [v], rfl, rfl, v, rfl, ?_⟩) (hw.2.2.2 y hy)
    · show fr F (out ms _) q = _
      rw [fr_new ((fb.trans S2.sb).free hq), out_ni hm]
      exact upd_same
    · refine r.mono ?_ rv
      exact (fr_call fb (S.grow s1).sb (S.grow s1).nt s2).trans (fr_mono (out_mono (same_new hq)))⟩
end

/-! ### a def that may raise -/
section
variable {P : Program} {w : World} {K : PySem.W.Frag} {mg : Str → Option Value} {base : Heap}
abbrev csX {ρ : Type} (K : PySem.W.Frag) (rr : Hp → V → ρ → Prop) : Cs Unit Unit Unit ρ := { b := cN, c := cN, x := cTop, r := rr, cl := clK K }
abbrev koX {E ρ : Type} (nx : E → Prop) (ex : Str → Prop) (rt : ρ → Prop) : Ko E Unit Unit Unit ρ := { nx := nx, bk := fun _ => False, ct := fun _ => False, ex := fun c _ => ex c, rt := rt }
abbrev WD (EX : XK) : WX := fun cls d _ H => EX cls d H
theorem fn_X {x qual : Str} {st : Stmt} {f : Addr} {fd : FuncData} {N ps : List Str} {k : Nat} {A E ρ : Type} {a : Ar A} {m : Nat} {Γ : Ctx E} {init : A → E} {pre : A → Prop} {r : Rp ρ} {fn : A → Except Str ρ} (Fn : Fun K x qual st f fd) (S : FnScope N ps (defScope st)) (hs : Start a m Γ init) (hps : ps.length = a.n) (hN : N.length = a.n + m)
    (body : ∀ (cdv : Value) (Ar : Around) (outer : List Env) (s : Shared) (H : Hp) (EX : XK), Room k (Ar.deeper (envOfC qual (defScope st) s.heap.objs.size f cdv)) →
      ∃ t, PSs (cxOf (L2.CX P w) P w K mg base N qual (defScope st) f cdv Ar outer s H EX) (defBody st) t ∧ ∃ (E' : Type) (Γ' : Ctx E') (wp : E → Ko E' Unit Unit Unit ρ → Prop), DS H (WD EX) (csX K (rF H r)) Γ t Γ' wp ∧
        ∀ x, pre x → wp (init x) (koX (fun _ => ∃ y, fn x = .ok y ∧ ∀ h, r.rel h .non y) (fun c => fn x = .error c) (fun y => fn x = .ok y))) :
    FnOk P w K mg base (L2.CX P w) (k + 1) f fd ps (spX K a pre r fn) := by
  refine Fn.okX S (fun vs H Q _ ⟨x, hx, _⟩ => by rw [a.len hx, hps]) fun cdv Ar outer s H vs Q EX hr ⟨x, hx, px, q, qx⟩ => ?_
  obtain ⟨t, ht, E', Γ', wp, hd, hw⟩ := body cdv Ar outer s H EX hr
  refine ⟨t, ht, hd (Same.refl H) (st_start hs hx hN) _ _ (hw x px) ⟨fun S' ⟨y, hy, q'⟩ => q y hy _ _ S'.sb (q' _), fun _ z => z.elim, fun _ z => z.elim, fun S' hc => qx _ hc _ S'.sb, fun s rv e => q _ e _ _ s rv⟩⟩
theorem pe_calS {X : Cx} {W : WX} {k : Nat} {x : Str} {ps : List Str} {sp : Sp} {p pos : Pos} {e : Expr} {es : List Expr} {t : TA} (c : Cal X.prog X.w X.K X.mg X.base (L2.CX X.prog X.w) k x ps sp) (hr : Room k X.A) (tk : Takes X W) (ha : PA X (e :: es) t) (hg : Gl X x := by rfl) (hdb : (x == ("__debug__" : Str)) = false := by decide)
    (he : starEach (e :: es) X.env = (false, eval e X.env) :: starEach es X.env := by rfl) (hpl : (backTo pos (starEach es X.env)).any (·.1) = false := by rfl) : PE X (.Call (.Name x p) (e :: es) [] pos) (tCallS sp (WE W) t) := by
  obtain ⟨f, fd, F, hm, hk, hb⟩ := c.ex
  exact pe_callS F hr hg hm hk hb (fun σ => passAt tk σ) ha hdb he hpl
/-- raise X("..") -/
theorem ps_raiseQ {X : Cx} {W : WX} {x m : Str} {j : Nat} {p p2 pos pos2 : Pos} (hc : X.calm = true) (tk : Takes X W) (gC : X.mg x = some (.ref (He.ga X.K x))) (c : (He.Fa.exc x).ok X.K = true) (hg : Gl X x := by rfl) (hdb : (x == ("__debug__" : Str)) = false := by decide) :
    PS X (.Raise (some (.Call (.Name x p) [.Constant (.str m) j p2] [] pos)) none pos2) (fun _ σ H => W (clK X.K x) none σ H) := by
  obtain ⟨h1, h2, h3, h4⟩ := He.exc_ok c
  exact ps_raise hc tk (pmk_own PySem.F.excBase_ValueError h1 gC h2 (raises_own h3 h4) hg hdb)
end

/-! ### try: .. except X as e: .. -/
section
variable {E E1 E' Ei Eb Ec Ex Ey ρ : Type} {F : Hp} {W : WX} {C : Cs Eb Ec Ex ρ} {Γ : Ctx E} {Γ1 : Ctx E1} {Γ' : Ctx E'} {K : PySem.W.Frag}
/-- the slot that holds an error -/
def kE (a : Addr) : Sk Unit := ⟨fun fp _ _ o _ => fp = [] ∧ o = some (.ref a), fun _ _ h => h, fun h p hp => by rw [h.1] at hp; cases hp⟩
theorem st_putE {i : Nat} {a : Addr} {set : E → Unit → E'} {B : Hp} {ms : List Addr} {σ : L2.St} {H : Hp} {e : E} (p : Put Γ i (kE a) Γ' set) (S : St0 Γ B ms σ H e) : St0 Γ' B ms (σ.set i (some (.ref a))) H (set e ()) := by
  obtain ⟨m1, n1, s1, z⟩ := S.r
  obtain ⟨hi, a', b, c, e1, k⟩ := p z
  subst e1
  have nn := List.nodup_append.mp n1
  have nn2 := List.nodup_append.mp nn.2.1
  refine ⟨S.nd, S.bn, S.sb, S.nt, a' ++ ([] ++ c), List.nodup_append.mpr ⟨nn.1, by simpa using nn2.2.1, fun x hx y hy => nn.2.2 x hx y (List.mem_append_right _ (by simpa using hy))⟩, fun p hp => s1 p ?_, k [] _ () _ H (Same.refl _) (fun _ _ => rfl) ⟨rfl, rfl⟩⟩
  rcases List.mem_append.mp hp with h | h
  · exact List.mem_append_left _ h
  · exact List.mem_append_right _ (List.mem_append_right _ (by simpa using h))
theorem st_putA {i : Nat} {set : E → Unit → E'} {B : Hp} {ms : List Addr} {σ : L2.St} {H : Hp} {e : E} (p : Put Γ i kAny Γ' set) (S : St0 Γ B ms σ H e) {o : Option V} : St0 Γ' B ms (σ.set i o) H (set e ()) := by
  obtain ⟨m1, n1, s1, z⟩ := S.r
  obtain ⟨hi, a', b, c, e1, k⟩ := p z
  subst e1
  have nn := List.nodup_append.mp n1
  have nn2 := List.nodup_append.mp nn.2.1
  refine ⟨S.nd, S.bn, S.sb, S.nt, a' ++ ([] ++ c), List.nodup_append.mpr ⟨nn.1, by simpa using nn2.2.1, fun x hx y hy => nn.2.2 x hx y (List.mem_append_right _ (by simpa using hy))⟩, fun p hp => s1 p ?_, k [] o () _ H (Same.refl _) (fun _ _ => rfl) rfl⟩
  rcases List.mem_append.mp hp with h | h
  · exact List.mem_append_left _ h
  · exact List.mem_append_right _ (List.mem_append_right _ (by simpa using h))
/-- try: the body's term, the catch -/
def tTry (tb : WX → TS) (K : PySem.W.Frag) (cx : Value) (i : Nat) (ts : Addr → Value → Option Addr → TS) (W : WX) : TS := fun Dn σ H => tb (wAs K cx i ts W Dn) Dn σ H
theorem ps_tryQ {X : Cx} {x n : Str} {c : Value} {i : Nat} {body suite : List Stmt} {b₀ : Stmt} {np pos pos' : Pos} {tb : WX → TS} {ts : Addr → Value → Option Addr → TS} {Wout : WX}
    (hs : X.stack = X.env :: X.outer) (hf : X.env.frame = some X.env.locals) (hN : X.N.Nodup) (hi : X.N[i]? = some n) (hln : X.env.kindOf n = some .local) (hc : Names X x c) (tk : Takes X Wout)
    (hb : ∀ (W : WX) (pn : List (Addr × Obj)) (xe : Value → Shared → Prop), Takes (X.tr pn xe) W → PassesOwn (model X.prog X.w) X.A X.env xe → PSs (X.tr pn xe) body (tb W))
    (hsu : ∀ (a : Addr) (oe : Obj) (cls : Value) (d : Option Addr) (pn : List (Addr × Obj)), Zc cls d oe → (∃ vs, oe.data = .fields vs) → PSs (X.suite a ((a, oe) :: pn)) (b₀ :: suite) (ts a cls d)) :
    PS X (.Try body [.ExceptHandler (some (.Name x np)) (some n) (b₀ :: suite) pos'] [] [] pos) (tTry tb X.K c i ts Wout) := ps_try_as hs hf hN hi hln hc tk hb hsu
/-- the body tb, its errors at Γy; the suite from Γs (Γy with the error's slot), which ends at Γs too; behind both the context Γ' -/
theorem ds_try {Es Eo : Type} {Γy : Ctx Ey} {Γs : Addr → Ctx Es} {Γo : Addr → Ctx Eo} {i : Nat} {cx : Value} {tb : WX → TS} {ts : Addr → Value → Option Addr → TS} {L : List Str} {set : Ey → Unit → Es} {un : Eo → Unit → E'}
    {wb : E → Ko E' Eb Ec Ey ρ → Prop} {ws : Str → Es → Ko Eo Unit Unit Unit ρ → Prop} (hL : ∀ n, n ∈ L → PySem.W.exmOne K (C.cl n) cx = some true)
    (hb : ∀ W', DS F W' { C with x := Γy } Γ (tb W') Γ' wb) (hp : ∀ a, Put Γy i (kE a) (Γs a) set)
    (hs : ∀ a n, n ∈ L → DS F (fun _ _ _ _ => False) { b := cN, c := cN, x := cN, r := C.r, cl := C.cl } (Γs a) (ts a (C.cl n) none) (Γo a) (ws n)) (hu : ∀ a, Put (Γo a) i kAny Γ' un) :
    DS F W C Γ (tTry tb K cx i ts W) Γ' (fun e k => wb e { nx := k.nx, bk := k.bk, ct := k.ct, rt := k.rt, ex := fun n ey => n ∈ L ∧ ws n (set ey ()) { nx := fun e' => k.nx (un e' ()), bk := fun _ => False, ct := fun _ => False, ex := fun _ _ => False, rt := k.rt } }) := fun B ms σ H e fb S Dn k hw c =>
  hb _ fb S Dn _ hw ⟨c.nx, c.bk, c.ct, fun {ms σ H e cls} S' ⟨hn, q⟩ => ⟨true, hL cls hn, fun _ a ha => hs a cls hn fb (st_putE (hp a) S') _ _ q ⟨fun S2 q2 => c.nx (st_putA (hu a) S2) q2, fun _ z => z.elim, fun _ z => z.elim, fun _ z => z.elim, fun s rv q2 => c.rt s rv q2⟩, fun z => by cases z⟩, c.rt⟩
/-- isinstance(e, X) in the suite -/
def rIsG (K : PySem.W.Frag) (cls : Value) (d : Option Addr) (a : Addr) : List V → Hp → VK → Prop := fun xs H Q => ∃ Dc, cls = .ref Dc ∧ d = none ∧ ExcC K Dc ∧ rIsE K Dc a xs H Q
theorem call_isG {X : Cx} {a : Addr} {cls : Value} {d : Option Addr} {oe : Obj} {pn : List (Addr × Obj)} (hz : Zc cls d oe) (hf : ∃ vs, oe.data = .fields vs) : CallR (X.suite a ((a, oe) :: pn)) (.builtin "isinstance") (rIsG X.K cls d a) := by
  intro pins s σ H xs us Q I r h
  obtain ⟨Dc, rfl, rfl, hC, h⟩ := h
  exact call_isE hC hz hf pins s σ H xs us Q I r h
end
end D

set_option Elab.async false
set_option linter.all false
set_option maxRecDepth 100000
namespace D
open PySem PySem.Spec PyProof.Rows L2

/-! ### sorted ints -/
def insI (x : Int) : List Int → List Int
  | [] => [x]
  | y :: ys => if x ≤ y then x :: y :: ys else y :: insI x ys
def isort : List Int → List Int
  | [] => []
  | x :: xs => insI x (isort xs)
theorem insI_perm (x : Int) : ∀ ys, (insI x ys).Perm (x :: ys)
  | [] => List.Perm.refl _
  | y :: ys => by
    unfold insI
    split
    · exact List.Perm.refl _
    · exact ((insI_perm x ys).cons y).trans (List.Perm.swap x y ys)
theorem isort_perm : ∀ xs, (isort xs).Perm xs
  | [] => List.Perm.refl _
  | x :: xs => (insI_perm x _).trans ((isort_perm xs).cons x)
theorem insI_up {x : Int} : ∀ {ys : List Int}, ys.Pairwise (· ≤ ·) → (insI x ys).Pairwise (· ≤ ·)
  | [], _ => by simp [insI]
  | y :: ys, h => by
    have hh := List.pairwise_cons.mp h
    unfold insI
    split
    · rename_i hxy
      refine List.pairwise_cons.mpr ⟨fun z hz => ?_, h⟩
      rcases List.mem_cons.mp hz with e | hz
      · omega
      · have := hh.1 z hz; omega
    · rename_i hxy
      refine List.pairwise_cons.mpr ⟨fun z hz => ?_, insI_up hh.2⟩
      rcases List.mem_cons.mp ((insI_perm x ys).mem_iff.mp hz) with e | hz
      · omega
      · exact hh.1 z hz
theorem isort_up : ∀ xs, (isort xs).Pairwise (· ≤ ·)
  | [] => List.Pairwise.nil
  | x :: xs => insI_up (isort_up xs)
theorem sorted_one : ∀ {xs ys : List Int}, xs.Perm ys → xs.Pairwise (· ≤ ·) → ys.Pairwise (· ≤ ·) → xs = ys
  | [], ys, p, _, _ => (List.Perm.nil_eq p)
  | x :: xs, [], p, _, _ => absurd p.length_eq (by simp)
  | x :: xs, y :: ys, p, hx, hy => by
    have hx' := List.pairwise_cons.mp hx
    have hy' := List.pairwise_cons.mp hy
    have e : x = y := by
      have m1 : x ∈ y :: ys := p.mem_iff.mp List.mem_cons_self
      have m2 : y ∈ x :: xs := p.mem_iff.mpr List.mem_cons_self
      have a1 : y ≤ x := by
        rcases List.mem_cons.mp m1 with h | h
        · omega
        · exact hy'.1 x h
      have a2 : x ≤ y := by
        rcases List.mem_cons.mp m2 with h | h
        · omega
        · exact hx'.1 y h
      omega
    subst e
    rw [sorted_one (List.perm_cons _ |>.mp p) hx'.2 hy'.2]
section
variable {E : Type} {F : Hp} {Γ : Ctx E} {K : PySem.W.Frag}
theorem de_sortI {ta : TE} {pa : E → Prop} {g : Rg} {fa : E → List Int} (ha : DE F Γ ta pa (qF g (rList rInt)) fa) : DE F Γ (tCB (rSortedI K) (tCons ta tNil)) pa (qL gI rInt) (fun e => isort (fa e)) := fun _ _ _ _ e b S p Q q => ha b S p _ fun v H1 s1 r1 => by
  obtain ⟨a, vs, e1, h1, z⟩ := r1
  refine ⟨a, _, by rw [e1], SqL.of (by rw [← pr_int z]; exact g.sub _ _ h1), fun ns' l hp hs hl => q _ _ (s1.trans (same_new hl)) ⟨l, _, rfl, s1.free hl, upd_same, ?_⟩⟩
  have : ns' = isort (fa e) := sorted_one (hp.trans (isort_perm _).symm) hs (isort_up _)
  rw [this]
  exact int_pr

/-! ### isinstance of what is known -/
def Ty {α : Type} (K : PySem.W.Frag) (r : Rp α) (t : String) : Prop := ∀ ⦃h : Hp⦄ ⦃v : V⦄ ⦃x : α⦄, r.rel h v x → TyX K h v (.type t)
theorem ty_int : Ty K rInt "int" := fun h v x q => by rw [show v = _ from q]; exact .base (.int x)
theorem ty_bool : Ty K rBool "bool" := fun h v x q => by rw [show v = _ from q]; exact .base (.bl x)
theorem ty_str : Ty K rStr "str" := fun h v x q => by rw [show v = _ from q]; exact .base (.str x)
theorem ty_list {α : Type} {r : Rp α} : Ty K (rList r) "list" := fun h v x ⟨a, vs, e, q, _⟩ => by rw [e]; exact .base (.lst q)
theorem ty_tup {α : Type} {r : Fd α} : Ty K (rTup r) "tuple" := fun h v x ⟨a, vs, e, q, _⟩ => by rw [e]; exact .base (.tup q)
theorem ty_tups {α : Type} {r : Rp α} : Ty K (rTups r) "tuple" := fun h v x ⟨a, vs, e, q, _⟩ => by rw [e]; exact .base (.tup q)
theorem de_isi {α : Type} {r : Rp α} {g : Rg} {tn cn : String} {c : Bool} {ta : TE} {pa : E → Prop} {fa : E → α} (ty : Ty K r tn) (hk : kitB tn cn = some c) (ha : DE F Γ ta pa (qF g r) fa) : DE F Γ (tCB (rIsi K) (tCons ta (tCons (tC (.ty cn)) tNil))) pa qb (fun _ => c) := fun _ _ _ _ e b S p Q q => ha b S p _ fun v H1 s1 r1 =>
  ⟨v, .ty cn, .type tn, .type cn, c, rfl, .ty cn, ty (r.mono g.sub r1), kit_ty hk, q _ _ s1 rfl⟩
/-! ### one of two kinds -/
instance decSum {α β : Type} [DecidableEq α] [DecidableEq β] : DecidableEq (α ⊕ β)
  | .inl a, .inl b => if h : a = b then .isTrue (by rw [h]) else .isFalse fun e => h (Sum.inl.inj e)
  | .inr a, .inr b => if h : a = b then .isTrue (by rw [h]) else .isFalse fun e => h (Sum.inr.inj e)
  | .inl _, .inr _ => .isFalse fun e => by cases e
  | .inr _, .inl _ => .isFalse fun e => by cases e
def rAlt {α β : Type} (r : Rp α) (s : Rp β) : Rp (α ⊕ β) := ⟨fun h v x => match x with | .inl y => r.rel h v y | .inr y => s.rel h v y, fun {h h' v x} m q => by
  cases x with
  | inl y => exact r.mono m q
  | inr y => exact s.mono m q⟩
theorem to_alt {α β : Type} {r : Rp α} {s : Rp β} (a : D.TO r) (b : D.TO s) : D.TO (rAlt r s) := fun h h' v x m q => by
  cases x with
  | inl y => exact a m q
  | inr y => exact b m q
theorem de_inl {α β : Type} {r : Rp α} {s : Rp β} {g : Rg} {t : TE} {p : E → Prop} {f : E → α} (h : DE F Γ t p (qI g r) f) : DE F Γ t p (qI g (rAlt r s)) (fun e => .inl (f e)) := fun _ _ _ _ _ b S pp Q q => h b S pp Q fun v H' s1 z => q v H' s1 z
theorem de_inr {α β : Type} {r : Rp α} {s : Rp β} {g : Rg} {t : TE} {p : E → Prop} {f : E → β} (h : DE F Γ t p (qI g s) f) : DE F Γ t p (qI g (rAlt r s)) (fun e => .inr (f e)) := fun _ _ _ _ _ b S pp Q q => h b S pp Q fun v H' s1 z => q v H' s1 z
def getR {α β : Type} [Inhabited β] : α ⊕ β → β
  | .inl _ => default
  | .inr y => y
def getL {α β : Type} [Inhabited α] : α ⊕ β → α
  | .inl x => x
  | .inr _ => default
theorem alt_r {α β : Type} [Inhabited β] {r : Rp α} {s : Rp β} {h : Hp} {v : V} {x : α ⊕ β} (q : (rAlt r s).rel h v x) (p : x.isRight = true) : s.rel h v (getR x) := by
  cases x with
  | inl y => cases p
  | inr y => exact q
theorem alt_l {α β : Type} [Inhabited α] {r : Rp α} {s : Rp β} {h : Hp} {v : V} {x : α ⊕ β} (q : (rAlt r s).rel h v x) (p : x.isLeft = true) : r.rel h v (getL x) := by
  cases x with
  | inl y => exact q
  | inr y => cases p
theorem de_getR {α β : Type} [Inhabited β] {r : Rp α} {s : Rp β} {g : Rg} {t : TE} {p : E → Prop} {f : E → α ⊕ β} (h : DE F Γ t p (qI g (rAlt r s)) f) : DE F Γ t (fun e => p e ∧ (f e).isRight = true) (qI g s) (fun e => getR (f e)) := fun _ _ _ _ _ b S pp Q q => h b S pp.1 Q fun v H' s1 z => q v H' s1 (alt_r (r := r) (s := s) z pp.2)
theorem de_getL {α β : Type} [Inhabited α] {r : Rp α} {s : Rp β} {g : Rg} {t : TE} {p : E → Prop} {f : E → α ⊕ β} (h : DE F Γ t p (qI g (rAlt r s)) f) : DE F Γ t (fun e => p e ∧ (f e).isLeft = true) (qI g r) (fun e => getL (f e)) := fun _ _ _ _ _ b S pp Q q => h b S pp.1 Q fun v H' s1 z => q v H' s1 (alt_l (r := r) (s := s) z pp.2)
def altB {α β : Type} (c d : Bool) : α ⊕ β → Bool
  | .inl _ => c
  | .inr _ => d
theorem de_isiA {α β : Type} {r : Rp α} {s : Rp β} {g : Rg} {tn un cn : String} {c d : Bool} {ta : TE} {pa : E → Prop} {fa : E → α ⊕ β} (ty : Ty K r tn) (ty' : Ty K s un) (hk : kitB tn cn = some c) (hk' : kitB un cn = some d) (ha : DE F Γ ta pa (qF g (rAlt r s)) fa) : DE F Γ (tCB (rIsi K) (tCons ta (tCons (tC (.ty cn)) tNil))) pa qb (fun e => altB c d (fa e)) := fun _ _ _ _ e b S p Q q => ha b S p _ fun v H1 s1 r1 => by
  have r1 : (rAlt r s).rel (g.fn H1) v (fa e) := r1
  have q : ∀ v H', Same _ H' → qb.rel _ _ H' v (altB c d (fa e)) → Q v H' := q
  generalize fa e = x at r1 q
  cases x with
  | inl y => exact ⟨v, .ty cn, .type tn, .type cn, c, rfl, .ty cn, ty (r.mono g.sub r1), kit_ty hk, q _ _ s1 rfl⟩
  | inr y => exact ⟨v, .ty cn, .type un, .type cn, d, rfl, .ty cn, ty' (s.mono g.sub r1), kit_ty hk', q _ _ s1 rfl⟩
def en_alt {α β : Type} {r : Rp α} {s : Rp β} {d e : Nat} (n : En r d) (m : En s e) (apart : ∀ x y, PyData.eqv (n.enc x) (m.enc y) = false ∧ PyData.eqv (m.enc y) (n.enc x) = false) : En (rAlt r s) (max d e) :=
  ⟨fun x => match x with | .inl y => n.enc y | .inr y => m.enc y, fun x => match x with | .inl y => n.ok y | .inr y => m.ok y,
  fun {K h v x} q => by
    cases x with
    | inl y => exact n.dp q
    | inr y => exact m.dp q,
  fun {x} h => by
    cases x with
    | inl y => exact n.can h
    | inr y => exact m.can h,
  fun x => by
    cases x with
    | inl y => have := n.dep y; dsimp only; omega
    | inr y => have := m.dep y; dsimp only; omega,
  fun x y => by
    cases x with
    | inl x =>
      cases y with
      | inl y => rw [n.eq]; simp
      | inr y => simp [(apart x y).1]
    | inr x =>
      cases y with
      | inl y => simp [(apart y x).2]
      | inr y => rw [m.eq]; simp⟩
theorem apart_bt {α : Type} {r : Fd α} {d : Nat} (n : EnF r d) : ∀ x y, PyData.eqv (en_bool.enc x) ((en_tup n).enc y) = false ∧ PyData.eqv ((en_tup n).enc y) (en_bool.enc x) = false := fun x y => by
  constructor <;> simp [en_bool, en_tup, PyData.eqv]

/-! ### texts -/
theorem de_upper {ta : TE} {pa : E → Prop} {fa : E → Str} (ha : DE F Γ ta pa qs fa) : DE F Γ (tM0 (fun x xs H Q => ∃ a, x = .str a ∧ xs = [] ∧ a.length ≤ 5592405 ∧ Q (.str (Txt.upper a)) H) ta) (fun e => pa e ∧ (fa e).length ≤ 5592405) qs (fun e => Txt.upper (fa e)) := fun _ _ _ _ e b S p Q q => ha b S p.1 _ fun v H1 s1 r1 =>
  ⟨⟨_, r1⟩, _, r1, rfl, p.2, q _ _ s1 rfl⟩
theorem de_join {ta tb : TE} {pa pb : E → Prop} {g : Rg} {fa : E → Str} {fb : E → List Str} (ha : DE F Γ ta pa qs fa) (hb : DE F Γ tb pb (qF g (rList rStr)) fb) :
    DE F Γ (tM1 (fun x xs H Q => ∃ a p, ∃ ys : List Str, x = .str a ∧ xs = [.ref p] ∧ (SqL K H p (ys.map V.str) ∨ SqT K H p (ys.map V.str)) ∧ (ys.map (·.length)).sum + ys.length * a.length ≤ 16777216 ∧ Q (.str (Txt.join a ys)) H) ta tb)
      (fun e => pa e ∧ pb e ∧ ((fb e).map (·.length)).sum + (fb e).length * (fa e).length ≤ 16777216) qs (fun e => Txt.join (fa e) (fb e)) := fun _ _ _ _ e b S p Q q => ha b S p.1 _ fun v H1 s1 r1 => ⟨⟨_, r1⟩, hb b (S.grow s1) p.2.1 _ fun u H2 s2 r2 => by
  obtain ⟨a, vs, e1, h1, z⟩ := r2
  have ev := pr_str z
  subst ev
  exact ⟨_, a, _, r1, by rw [e1], .inl (SqL.of (g.sub _ _ h1)), p.2.2, q _ _ (s1.trans s2) rfl⟩⟩

/-! ### the own errors -/
/-- under: a class's name stands under another one's -/
def isa (n c : Str) : Bool := decide (n = c) || (decide (c = "QuitsError") || decide (c = "ValueError"))
def errs : List Str := ["NoPart", "Ringed", "NoAnswer", "NoRule", "TooMuch", "NoLayer", "NoMember", "NoTerms", "NoDeal", "Closed", "Gone", "Settled", "Standing", "Out", "Bare", "Poor", "Unclosed"]
def cvOf (K : PySem.W.Frag) (c : Str) : Value := if c = "ValueError" then .type "ValueError" else .ref (He.ga K c)
def vOf (K : PySem.W.Frag) (c : Str) : V := if c = "ValueError" then .ty "ValueError" else .ref (He.ga K c)
def excCB (K : PySem.W.Frag) (D : Addr) : Bool := decide (PySem.W.findIn K (.ref D) "__getattribute__" = some (some (.builtin "BaseException.__getattribute__"))) && (decide (PySem.W.findIn K (.ref D) "__getattr__" = some none) &&
  (decide (PySem.W.subIn K (.ref D) (.type "BaseException") = some true) && (PySem.W.hasDictIn K D && (decide (PySem.W.findIn K (.ref D) "__class__" = some (some (.builtin "object.__class__"))) &&
  (decide (PySem.W.specialIn K (.builtin "object.__class__") "__get__" = some (some (.builtin "getset_descriptor.__get__"))) && (decide (PySem.W.takesIn K (.builtin "object.__class__") = some true) && decide (PySem.W.mroIn K D (.type "object") = some true)))))))
theorem excCB_ok {K : PySem.W.Frag} {Dc : Addr} (h : excCB K Dc = true) : ExcC K Dc := by
  unfold excCB at h
  simp only [Bool.and_eq_true, decide_eq_true_eq] at h
  exact ⟨h.1, h.2.1, h.2.2.1, h.2.2.2.1, h.2.2.2.2.1, h.2.2.2.2.2.1, h.2.2.2.2.2.2.1, h.2.2.2.2.2.2.2⟩
/-- of these errors ns: all is as it should be, asked by the classes cs -/
def errB (K : PySem.W.Frag) (ns cs : List Str) : Bool := ns.all fun n => (He.Fa.exc n).ok K && (excCB K (He.ga K n) && (decide (PySem.W.exmOne K (.ref (He.ga K n)) (.ref (He.ga K "QuitsError")) = some true) && cs.all fun c => decide (PySem.W.kitOne K (.ref (He.ga K n)) (cvOf K c) = some (isa n c))))
structure Errs (K : PySem.W.Frag) (mg : Str → Option Value) (ns cs : List Str) : Prop where
  b : errB K ns cs = true
  g : ∀ n, n ∈ ("QuitsError" : Str) :: ns → mg n = some (.ref (He.ga K n))
theorem Errs.all {mg : Str → Option Value} {ns cs : List Str} (x : Errs K mg ns cs) {n : Str} (h : n ∈ ns) : (He.Fa.exc n).ok K = true ∧ ExcC K (He.ga K n) ∧ PySem.W.exmOne K (.ref (He.ga K n)) (.ref (He.ga K "QuitsError")) = some true ∧ ∀ c ∈ cs, PySem.W.kitOne K (.ref (He.ga K n)) (cvOf K c) = some (isa n c) := by
  have := List.all_eq_true.mp x.b n h
  simp only [Bool.and_eq_true, decide_eq_true_eq, List.all_eq_true] at this
  exact ⟨this.1, excCB_ok this.2.1, this.2.2.1, this.2.2.2⟩
theorem Errs.exc {mg : Str → Option Value} {ns cs : List Str} (x : Errs K mg ns cs) (n : Str) (h : n ∈ ns := by decide) : (He.Fa.exc n).ok K = true := (x.all h).1
theorem Errs.gl {mg : Str → Option Value} {ns cs : List Str} (x : Errs K mg ns cs) (n : Str) (h : n ∈ ("QuitsError" : Str) :: ns := by decide) : mg n = some (.ref (He.ga K n)) := x.g n h
theorem de_isE {mg : Str → Option Value} {ns cs : List Str} (x : Errs K mg ns cs) {n c : Str} {a : Addr} {i : Nat} {v : V} {get : E → Unit} (hn : n ∈ ns) (hc : c ∈ cs) (hv : vOf K c = v) (at_ : At Γ i (kE a) get) :
    DE F Γ (tCB (rIsG K (clK K n) none a) (tCons (tVar i) (tCons (tC v) tNil))) T0 qb (fun _ => isa n c) := fun _ _ _ _ e b S p Q q => by
  subst hv
  obtain ⟨m1, n1, s1, z⟩ := S.r
  obtain ⟨o, fp, h1, h2, h3, h4⟩ := at_ z
  obtain ⟨_, e2, _, e4⟩ := x.all hn
  refine ⟨_, by rw [h1, h4], _, rfl, rfl, e2, _, cvOf K c, _, rfl, fun u hu => ?_, e4 c hc, q _ _ (Same.refl _) rfl⟩
  unfold vOf at hu
  unfold cvOf
  split at hu
  · rename_i h; rw [if_pos h]; exact hu
  · rename_i h; rw [if_neg h]; exact hu
end

theorem spTrue_imp {K : PySem.W.Frag} {vs : List V} {H : Hp} {Q : VK} {EX : XK} (h : spTrue K vs H Q EX) : spF (ar1 (rScr K)) (fun x => x.length ≤ 63) rBool (fun _ => true) vs H Q EX := by
  obtain ⟨a, ns, rfl, hs, hl, hq⟩ := h
  exact ⟨ns, ⟨_, rfl, a, rfl, hs⟩, hl, fun v H' _ rv => by rw [show v = .bl true from rv]; exact hq H'⟩
end D

set_option Elab.async false
set_option linter.all false
set_option maxRecDepth 100000
namespace D
open PySem PySem.Spec PyProof.Rows L2
section
variable {E E1 E' Eb Ec Ex ρ : Type} {F : Hp} {W : WX} {C : Cs Eb Ec Ex ρ} {Γ : Ctx E} {Γ1 : Ctx E1} {Γ' : Ctx E'} {K : PySem.W.Frag}
/-- dsx_pair, the value one of two kinds, the right one -/
theorem dsx_pairA {A α β : Type} {i : Nat} {ta : TA} {p : E → Prop} {a : Ar A} {fa : E → A} {pre : A → Prop} {r : Rp α} {s' : Rp β} {f : A → Except Str α} {cv : E → Ex} {z : Str} {set : E → Str × (β ⊕ α) → E'} (h : DA F Γ ta p (ka a) fa) (s : Sub F Γ C.x cv) (hc : C.cl = clK K) (pu : Put Γ i (kI (gN F) (rTup (fc rStr (f1 (rAlt s' r))))) Γ' set) :
    DS F W C Γ (tAsg (tTup (tCons (tC (.str z)) (tCons (tCallS (spX K a pre r f) (WE W) ta) tNil))) (gName i)) Γ' (fun e k => p e ∧ pre (fa e) ∧ (∀ n, f (fa e) = .error n → k.ex n (cv e)) ∧ ∀ y, f (fa e) = .ok y → k.nx (set e (z, .inr y))) := fun B ms σ H e fb S Dn k hw c =>
  call_X h s hc fb S c hw.1 hw.2.1 hw.2.2.1 fun y hy v H1 H' s1 s2 rv => ⟨by show 2 ≤ sizeLine; decide, fun q hq => by
    have S2 := (S.grow s1).grow s2
    have hm : q ∉ ms := fun z => by
      obtain ⟨u, hu, _⟩ := S2.nt q z
      rw [hu] at hq; cases hq
    refine c.nx (st_put pu (x := (z, .inr y)) (S2.grow (same_new hq)) ⟨q, _, rfl, ?_, .str z, [v], rfl, rfl, v, rfl, ?_⟩) (hw.2.2.2 y hy)
    · show fr F (out ms _) q = _
      rw [fr_new ((fb.trans S2.sb).free hq), out_ni hm]
      exact upd_same
    · show r.rel _ v y
      refine r.mono ?_ rv
      exact (fr_call fb (S.grow s1).sb (S.grow s1).nt s2).trans (fr_mono (out_mono (same_new hq)))⟩
def FLen {A : Type} (f : Fd A) (n : Nat) : Prop := ∀ ⦃h : Hp⦄ ⦃vs : List V⦄ ⦃x : A⦄, f.rel h vs x → vs.length = n
theorem fl_1 {α : Type} {r : Rp α} : FLen (f1 r) 1 := fun _ _ _ ⟨v, e, _⟩ => by rw [e]; rfl
theorem fl_c {α A : Type} {r : Rp α} {f : Fd A} {n : Nat} (h : FLen f n) : FLen (fc r f) (n + 1) := fun _ _ _ ⟨v, ws, e, _, q⟩ => by rw [e, List.length_cons, h q]
theorem de_lenTup {A : Type} {ta : TE} {pa : E → Prop} {g : Rg} {f : Fd A} {n : Nat} {fa : E → A} (hn : FLen f n) (ha : DE F Γ ta pa (qF g (rTup f)) fa) : DE F Γ (tCB (rLenX K) (tCons ta tNil)) pa qi (fun _ => (n : Int)) := fun _ _ _ _ e b S p Q q => ha b S p _ fun v H1 s1 r1 => by
  obtain ⟨a, vs, e1, h1, z⟩ := r1
  rw [e1]
  exact ⟨_, vs.length, rfl, .inr ⟨vs, SqT.of (g.sub _ _ h1), rfl⟩, q _ _ s1 (by rw [hn z]; rfl)⟩
/-- t[:1] of a tuple of more -/
theorem de_head1 {α A : Type} {ta : TE} {pa : E → Prop} {g : Rg} {r : Rp α} {f : Fd A} {n : Nat} {fa : E → α × A} (gn : GN F g) (hn : FLen f n) (h0 : 0 < n) (ha : DE F Γ ta pa (qI g (rTup (fc r f))) fa) :
    DE F Γ (tSl (rSlT K) ta tNoPart (tPart (tC (.int 1)))) pa (qI g (rTup (f1 r))) (fun e => (fa e).1) := fun B ms σ H e b S p Q q => ha b S p _ fun v H1 s1 r1 => ⟨1, rfl, by
  obtain ⟨a, vs, e1, h1, v0, ws, ev, z1, z2⟩ := r1
  have hl := hn z2
  subst ev
  refine ⟨a, _, e1, SqT.of (out_same _ _ (g.sub _ _ h1)), fun z => ?_, fun l hl' => q _ _ (s1.trans (same_new hl')) ?_⟩
  · have := z.2
    have e2 : HT.sIx (v0 :: ws).length (v0 :: ws).length (some 1) = min 1 (v0 :: ws).length := HT.sIx_nat _ _ 1
    rw [e2, List.length_cons] at this
    omega
  · have hm : l ∉ ms := fun z => by
      obtain ⟨u, hu, _⟩ := S.nt l z
      rw [s1 l u hu] at hl'; cases hl'
    refine ⟨l, cutV (v0 :: ws) none (some 1), rfl, ?_, v0, ?_, r.mono (g.mono (out_mono (same_new hl'))) z1⟩
    · rw [gn _ _ ((b.trans S.sb).free (s1.free hl')), out_ni hm]
      exact upd_same
    · unfold cutV
      have e2 : HT.sIx (v0 :: ws).length (v0 :: ws).length (some 1) = min 1 (v0 :: ws).length := HT.sIx_nat _ _ 1
      have e3 : HT.sIx (v0 :: ws).length 0 none = 0 := rfl
      rw [e2, e3, List.length_cons, List.drop_zero, show min 1 (ws.length + 1) - 0 = 1 by omega]
      rfl⟩
end
end D

set_option Elab.async false
set_option linter.all false
set_option maxRecDepth 100000
/-! plain functions: coins borne, layers -/
namespace Q
open PySem PySem.Spec PyProof.Rows L2 D
theorem irange_nil {lo hi : Int} (h : hi ≤ lo) : irange lo hi = [] := by
  unfold irange
  rw [show (hi - lo).toNat = 0 by omega]
  rfl
theorem irange_cons {lo hi : Int} (h : lo < hi) : irange lo hi = lo :: irange (lo + 1) hi := by
  unfold irange
  rw [show (hi - lo).toNat = (hi - (lo + 1)).toNat + 1 by omega, List.range_succ_eq_map, List.map_cons, List.map_map]
  congr 1
  · simp
  · apply List.map_congr_left
    intro i _
    show lo + ((i + 1 : Nat) : Int) = lo + 1 + (i : Int)
    omega
theorem sl100 {n : Nat} (h : n ≤ 90) : n ≤ sizeLine := Nat.le_trans h (by decide)
theorem sum_nn : ∀ {xs : List Int}, (∀ b ∈ xs, 0 ≤ b) → 0 ≤ xs.sum
  | [], _ => by simp
  | y :: ys, h => by rw [List.sum_cons]; have := h y List.mem_cons_self; have := sum_nn (xs := ys) fun b hb => h b (List.mem_cons_of_mem _ hb); omega
theorem le_sum : ∀ {xs : List Int}, (∀ b ∈ xs, 0 ≤ b) → ∀ {b : Int}, b ∈ xs → b ≤ xs.sum
  | [], _, _, hb => by cases hb
  | x :: xs, h, b, hb => by
    rw [List.sum_cons]
    have h0 := h x List.mem_cons_self
    have h1 := sum_nn (xs := xs) fun b hb => h b (List.mem_cons_of_mem _ hb)
    rcases List.mem_cons.mp hb with e | hb
    · omega
    · have := le_sum (fun b hb => h b (List.mem_cons_of_mem _ hb)) hb
      omega
theorem gi_mem {α : Type} [Inhabited α] {xs : List α} {k : Int} (h : inb xs k) : gi xs k ∈ xs := List.mem_of_getElem? (gi_some h)
theorem gi_app {α : Type} [Inhabited α] {pre post : List α} {x : α} : gi (pre ++ x :: post) (pre.length : Int) = x := by
  unfold gi
  simp
theorem cuti_take {α : Type} {xs : List α} {k : Int} (h : 0 ≤ k) : cuti xs none (some k) = xs.take k.toNat := by
  unfold cuti HT.sIx
  simp only [List.drop_zero, Nat.sub_zero]
  rw [if_neg (by omega), List.take_eq_take_iff]
  omega
theorem cuti_drop {α : Type} {xs : List α} {k : Int} (h : 0 ≤ k) : cuti xs (some k) none = xs.drop k.toNat := by
  unfold cuti HT.sIx
  simp only []
  rw [if_neg (by omega)]
  by_cases hk : k.toNat ≤ xs.length
  · rw [show min k.toNat xs.length = k.toNat by omega, List.take_of_length_le (by rw [List.length_drop]; exact Nat.le_refl _)]
  · rw [show min k.toNat xs.length = xs.length by omega, Nat.sub_self, List.take_zero, List.drop_eq_nil_of_le (by omega)]
/-! ### one coin more for the first ones -/
def incStep (cond : Int → Bool) (s : List Int × Int) (k : Int) : List Int × Int := if 0 < s.2 ∧ cond k = true then (s.1.set k.toNat (gi s.1 k + 1), s.2 - 1) else s
def inc (cond : Int → Bool) (b : List Int) (over : Int) : List Int × Int := (irange 0 b.length).foldl (incStep cond) (b, over)
theorem foldl_ind {α S : Type} {step : S → α → S} (I : List α → S → Prop) {s : S} (h0 : I [] s) : ∀ (xs : List α), (∀ pre x s, (∃ post, xs = pre ++ x :: post) → I pre s → I (pre ++ [x]) (step s x)) → I xs (xs.foldl step s) := by
  have key : ∀ (xs pre : List α) (s : S), I pre s → (∀ p x s, (∃ q, pre ++ xs = p ++ x :: q) → I p s → I (p ++ [x]) (step s x)) → I (pre ++ xs) (xs.foldl step s) := by
    intro xs
    induction xs with
    | nil => intro pre s h _; rw [List.append_nil]; exact h
    | cons x xs ih =>
      intro pre s h hs
      have := ih (pre ++ [x]) (step s x) (hs pre x s ⟨xs, rfl⟩ h) (fun p y s ⟨q, e⟩ => hs p y s ⟨q, by rw [← e, List.append_assoc]; rfl⟩)
      rw [List.append_assoc] at this
      exact this
  intro xs hs
  exact key xs [] s h0 hs
theorem gi_set_same {xs : List Int} {k x : Int} (h : inb xs k) : gi (xs.set k.toNat x) k = x := by
  unfold gi
  have := h.1; have := h.2
  rw [List.getD_eq_getElem?_getD, List.getElem?_set_self (by omega)]
  rfl
theorem gi_set_ne {xs : List Int} {k j x : Int} (h0 : 0 ≤ j) (h1 : 0 ≤ k) (h : j ≠ k) : gi (xs.set k.toNat x) j = gi xs j := by
  unfold gi
  rw [List.getD_eq_getElem?_getD, List.getD_eq_getElem?_getD, List.getElem?_set_ne (by omega)]
theorem inc_len {cond : Int → Bool} {b : List Int} {over : Int} : (inc cond b over).1.length = b.length := by
  unfold inc
  refine foldl_ind (fun _ (s : List Int × Int) => s.1.length = b.length) rfl _ fun pre x s _ h => ?_
  unfold incStep
  split
  · rw [List.length_set]; exact h
  · exact h
theorem sum_set : ∀ {xs : List Int} {k : Nat} {x : Int}, k < xs.length → (xs.set k x).sum = xs.sum - xs.getD k 0 + x
  | [], k, x, h => by simp at h
  | y :: ys, 0, x, _ => by simp; omega
  | y :: ys, k + 1, x, h => by
    rw [List.set_cons_succ, List.sum_cons, List.sum_cons, sum_set (by simpa using h)]
    simp
    omega
theorem inc_sum {cond : Int → Bool} {b : List Int} {over : Int} : (inc cond b over).1.sum + (inc cond b over).2 = b.sum + over := by
  unfold inc
  refine (foldl_ind (fun _ (s : List Int × Int) => s.1.length = b.length ∧ s.1.sum + s.2 = b.sum + over) ⟨rfl, rfl⟩ _ fun pre x s ⟨post, e⟩ h => ?_).2
  obtain ⟨ex, hlt⟩ := irange_split e
  unfold incStep
  split
  · refine ⟨by rw [List.length_set]; exact h.1, ?_⟩
    dsimp only
    rw [sum_set (by omega)]
    have : gi s.1 x = s.1.getD x.toNat 0 := rfl
    omega
  · exact h
/-- each is as it was, or one more where the condition holds -/
theorem inc_at {cond : Int → Bool} {b : List Int} {over : Int} {j : Int} (h0 : 0 ≤ j) : gi (inc cond b over).1 j = gi b j ∨ (gi (inc cond b over).1 j = gi b j + 1 ∧ cond j = true) := by
  unfold inc
  have key := foldl_ind (step := incStep cond) (fun pre (s : List Int × Int) => s.1.length = b.length ∧ (j < pre.length → gi s.1 j = gi b j ∨ (gi s.1 j = gi b j + 1 ∧ cond j = true)) ∧ ((pre.length : Int) ≤ j → gi s.1 j = gi b j)) (s := (b, over)) ⟨rfl, fun h => by simp at h; omega, fun _ => rfl⟩ (irange 0 b.length) fun pre x s ⟨post, e⟩ h => ?_
  · by_cases hj : j < (irange 0 b.length).length
    · exact key.2.1 hj
    · exact .inl (key.2.2 (by omega))
  · obtain ⟨ex, hlt⟩ := irange_split e
    obtain ⟨h1, h2, h3⟩ := h
    have hx : inb s.1 x := ⟨by omega, by omega⟩
    rw [List.length_append, List.length_singleton]
    unfold incStep
    split
    · rename_i hc
      refine ⟨by rw [List.length_set]; exact h1, fun hj => ?_, fun hj => ?_⟩
      · by_cases hjx : j = x
        · subst hjx
          dsimp only
          rw [gi_set_same hx, h3 (by omega)]
          exact .inr ⟨rfl, hc.2⟩
        · dsimp only
          rw [gi_set_ne h0 hx.1 hjx]
          exact h2 (by omega)
      · dsimp only
        rw [gi_set_ne h0 hx.1 (by omega)]
        exact h3 (by omega)
    · refine ⟨h1, fun hj => ?_, fun hj => h3 (by omega)⟩
      by_cases hjx : j = x
      · exact .inl (h3 (by omega))
      · exact h2 (by omega)
theorem gi_map {xs : List Int} {f : Int → Int} {k : Int} (h : inb xs k) : gi (xs.map f) k = f (gi xs k) := by
  have := gi_some (xs := xs.map f) (i := k) ⟨h.1, by rw [List.length_map]; exact h.2⟩
  rw [List.getElem?_map, gi_some h] at this
  exact (Option.some.inj this).symm
theorem gi_imap {n : Int} {f : Int → Int} {k : Int} (h0 : 0 ≤ k) (h1 : k < n) : gi ((irange 0 n).map f) k = f k := by
  have e : (irange 0 n)[k.toNat]? = some k := by rw [irange_get (by omega)]; congr 1; omega
  have hl : inb ((irange 0 n).map f) k := ⟨h0, by rw [List.length_map, irange_len]; omega⟩
  have := gi_some hl
  rw [List.getElem?_map, e] at this
  exact (Option.some.inj this).symm
theorem gi_out {xs : List Int} {k : Int} (h0 : 0 ≤ k) (h : (xs.length : Int) ≤ k) : gi xs k = 0 := by
  unfold gi
  rw [List.getD_eq_getElem?_getD, List.getElem?_eq_none (by omega)]
  rfl
theorem gi_of_mem {xs : List Int} {x : Int} (h : x ∈ xs) : ∃ k, inb xs k ∧ gi xs k = x := by
  obtain ⟨i, hi, e⟩ := List.mem_iff_getElem.mp h
  refine ⟨i, ⟨by omega, by omega⟩, ?_⟩
  unfold gi
  rw [List.getD_eq_getElem?_getD]
  simp [hi, e]
/-! ### by shares -/
def p_ask_enough (x : Int × List Int) : Prop := x.1 ≤ x.2.sum
def p_shares (x : Int × List Int) : Prop := 0 ≤ x.1 ∧ x.1 ≤ x.2.sum ∧ x.2.sum < 2 ^ 62 ∧ (∀ b ∈ x.2, 0 ≤ b) ∧ x.2.length ≤ 90
def shCond (c : Int) (bs : List Int) (k : Int) : Bool := !decide (c * gi bs k % bs.sum = 0)
def shBase (c : Int) (bs : List Int) : List Int := bs.map fun b => c * b / bs.sum
def m_shares (x : Int × List Int) : List Int := if x.2.sum = 0 then x.2.map fun _ => 0 else (inc (shCond x.1 x.2) (shBase x.1 x.2) (x.1 - (shBase x.1 x.2).sum)).1
theorem m_shares_len (x : Int × List Int) : (m_shares x).length = x.2.length := by
  unfold m_shares
  split
  · rw [List.length_map]
  · rw [inc_len]
    unfold shBase
    rw [List.length_map]
theorem div_le_self' {c b w : Int} (hc : c ≤ w) (hb : 0 ≤ b) (hw : 0 < w) : c * b / w ≤ b ∧ (c * b % w ≠ 0 → c * b / w + 1 ≤ b) := by
  have h1 : c * b ≤ w * b := Int.mul_le_mul_of_nonneg_right hc hb
  have h2 : c * b / w ≤ b := by
    have := Int.ediv_le_ediv hw h1
    rw [Int.mul_ediv_cancel_left _ (by omega)] at this
    exact this
  refine ⟨h2, fun h => ?_⟩
  by_cases e : c * b / w = b
  · exfalso
    apply h
    have := Int.emod_add_mul_ediv (c * b) w
    rw [e] at this
    have h3 := Int.emod_nonneg (c * b) (show w ≠ 0 by omega)
    omega
  · omega
theorem m_shares_at {c : Int} {bs : List Int} (p : p_shares (c, bs)) {k : Int} (hk : inb bs k) : 0 ≤ gi (m_shares (c, bs)) k ∧ gi (m_shares (c, bs)) k ≤ gi bs k := by
  obtain ⟨h0, h1, h2, h3, h4⟩ := p
  dsimp only at h0 h1 h2 h3 h4
  have hb := h3 _ (gi_mem hk)
  unfold m_shares
  split
  · rw [gi_map hk]
    exact ⟨Int.le_refl _, hb⟩
  · rename_i hz
    dsimp only at hz ⊢
    have hw : 0 < bs.sum := by have := sum_nn h3; omega
    have hd := div_le_self' h1 hb hw
    have hn : 0 ≤ c * gi bs k / bs.sum := Int.ediv_nonneg (Int.mul_nonneg h0 hb) (by omega)
    have eb : gi (shBase c bs) k = c * gi bs k / bs.sum := gi_map hk
    rcases inc_at (cond := shCond c bs) (b := shBase c bs) (over := c - (shBase c bs).sum) hk.1 with e | ⟨e, hc⟩
    · rw [e, eb]
      exact ⟨hn, hd.1⟩
    · rw [e, eb]
      unfold shCond at hc
      have := hd.2 (by simpa using hc)
      omega
/-! ### by level -/
def lv (level rest : Int) : List Int → Int
  | [] => level
  | x :: xs => if rest < (x - level) * ((xs.length : Int) + 1) then level + rest / ((xs.length : Int) + 1) else lv x (rest - (x - level) * ((xs.length : Int) + 1)) xs
def m_level (x : Int × List Int) : Int := lv 0 x.1 (isort x.2)
def p_level (x : Int × List Int) : Prop := x.2.length ≤ 90
theorem lv_nn : ∀ {xs : List Int} {level rest : Int}, 0 ≤ level → 0 ≤ rest → (∀ x ∈ xs, 0 ≤ x) → 0 ≤ lv level rest xs
  | [], level, rest, h, _, _ => h
  | x :: xs, level, rest, h, hr, hx => by
    unfold lv
    split
    · have : 0 ≤ rest / ((xs.length : Int) + 1) := Int.ediv_nonneg hr (by omega)
      omega
    · exact lv_nn (hx x List.mem_cons_self) (by omega) fun y hy => hx y (List.mem_cons_of_mem _ hy)
def lvCond (bs : List Int) (level : Int) (k : Int) : Bool := decide (level < gi bs k)
def lvBase (bs : List Int) (level : Int) : List Int := bs.map fun b => min b level
def m_bylevel (x : Int × List Int) : List Int := (inc (lvCond x.2 (m_level x)) (lvBase x.2 (m_level x)) (x.1 - (lvBase x.2 (m_level x)).sum)).1
theorem m_bylevel_len (x : Int × List Int) : (m_bylevel x).length = x.2.length := by
  unfold m_bylevel
  rw [inc_len]
  unfold lvBase
  rw [List.length_map]
theorem m_bylevel_at {c : Int} {bs : List Int} (p : p_shares (c, bs)) {k : Int} (hk : inb bs k) : 0 ≤ gi (m_bylevel (c, bs)) k ∧ gi (m_bylevel (c, bs)) k ≤ gi bs k := by
  obtain ⟨h0, h1, h2, h3, h4⟩ := p
  dsimp only at h0 h1 h2 h3 h4
  have hb := h3 _ (gi_mem hk)
  have hl : 0 ≤ m_level (c, bs) := lv_nn (by omega) h0 fun x hx => h3 x ((isort_perm bs).mem_iff.mp hx)
  unfold m_bylevel
  have eb : gi (lvBase bs (m_level (c, bs))) k = min (gi bs k) (m_level (c, bs)) := gi_map hk
  rcases inc_at (cond := lvCond bs (m_level (c, bs))) (b := lvBase bs (m_level (c, bs))) (over := c - (lvBase bs (m_level (c, bs))).sum) hk.1 with e | ⟨e, hc⟩
  · dsimp only
    rw [e, eb]
    omega
  · dsimp only
    rw [e, eb]
    have := of_decide_eq_true hc
    omega
/-! ### layers -/
def layersL : List Str := ["pledge", "share", "own", "others", "level"]
def badAt (o : List Str) (k : Int) : Prop := gi o k ∉ layersL ∨ gi o k ∈ o.take k.toNat
instance (o : List Str) (k : Int) : Decidable (badAt o k) := by unfold badAt; infer_instance
def m_order (o : List Str) : Except Str Unit := if ∃ k ∈ irange 0 o.length, badAt o k then .error "NoLayer" else .ok ()
def p_order (o : List Str) : Prop := o.length ≤ 90
def p_own_row (x : List Int × List Int) : Prop := x.1.length ≤ 90 ∧ x.2.length = x.1.length
def minL (a b : List Int) : List Int := (irange 0 a.length).map fun k => min (gi a k) (gi b k)
def subL (a b : List Int) : List Int := (irange 0 a.length).map fun k => gi a k - gi b k
def m_own_row (x : List Int × List Int) : List Int × List Int := (minL x.1 x.2, minL x.1 x.2 ++ [0])
theorem minL_len (a b : List Int) : (minL a b).length = a.length := by unfold minL; rw [List.length_map, irange_len]; simp
theorem subL_len (a b : List Int) : (subL a b).length = a.length := by unfold subL; rw [List.length_map, irange_len]; simp
theorem minL_at {a b : List Int} {k : Int} (h : inb a k) : gi (minL a b) k = min (gi a k) (gi b k) := gi_imap h.1 h.2
theorem subL_at {a b : List Int} {k : Int} (h : inb a k) : gi (subL a b) k = gi a k - gi b k := gi_imap h.1 h.2
theorem gi_snoc {a : List Int} {x k : Int} (h : inb a k) : gi (a ++ [x]) k = gi a k := by
  unfold gi
  have := h.1; have := h.2
  rw [List.getD_eq_getElem?_getD, List.getD_eq_getElem?_getD, List.getElem?_append_left (by omega)]
theorem sum_le_at : ∀ {a b : List Int}, a.length = b.length → (∀ k, inb a k → gi a k ≤ gi b k) → a.sum ≤ b.sum
  | [], [], _, _ => Int.le_refl _
  | [], _ :: _, h, _ => by simp at h
  | _ :: _, [], h, _ => by simp at h
  | x :: a, y :: b, h, hk => by
    rw [List.sum_cons, List.sum_cons]
    have h0 := hk 0 ⟨by omega, by simp⟩
    have h1 := sum_le_at (a := a) (b := b) (by simpa using h) fun k hk' => by
      have := hk (k + 1) ⟨by have := hk'.1; omega, by have := hk'.2; simp; omega⟩
      unfold gi at this ⊢
      have e : (k + 1).toNat = k.toNat + 1 := by have := hk'.1; omega
      rw [e] at this
      simpa using this
    have e0 : gi (x :: a) 0 = x := rfl
    have e1 : gi (y :: b) 0 = y := rfl
    omega
def p_common (x : Str × List Int × List Int × Int) : Prop := x.2.1.length ≤ 80 ∧ x.2.2.1.length ≤ 80 ∧ (∀ b ∈ x.2.1, 0 ≤ b) ∧ (∀ b ∈ x.2.2.1, 0 ≤ b) ∧ x.2.1.sum < 2 ^ 62 ∧ x.2.2.1.sum < 2 ^ 62 ∧ 0 ≤ x.2.2.2
def commonCoins (w : Str) (rests bounds : List Int) (own : Int) : Int := if w = "own" then min own rests.sum else min bounds.sum rests.sum
def commonBorne (w : Str) (rests bounds : List Int) (own : Int) : List Int := if w = "own" then rests.map (fun _ => 0) ++ [commonCoins w rests bounds own]
  else if w = "others" then m_shares (commonCoins w rests bounds own, bounds) ++ [0] else m_bylevel (commonCoins w rests bounds own, bounds) ++ [0]
def m_common (x : Str × List Int × List Int × Int) : List Int × List Int := (m_shares (commonCoins x.1 x.2.1 x.2.2.1 x.2.2.2, x.2.1), commonBorne x.1 x.2.1 x.2.2.1 x.2.2.2)
theorem p_common_coins {w : Str} {rs bs : List Int} {own : Int} (p : p_common (w, rs, bs, own)) : p_shares (commonCoins w rs bs own, rs) ∧ (w ≠ "own" → p_shares (commonCoins w rs bs own, bs)) := by
  obtain ⟨h1, h2, h3, h4, h5, h6, h7⟩ := p
  dsimp only at h1 h2 h3 h4 h5 h6 h7
  have hr := sum_nn h3
  have hb := sum_nn h4
  unfold commonCoins
  constructor
  · split
    · exact ⟨by dsimp only; omega, by dsimp only; omega, h5, h3, by dsimp only; omega⟩
    · exact ⟨by dsimp only; omega, by dsimp only; omega, h5, h3, by dsimp only; omega⟩
  · intro hw
    rw [if_neg hw]
    exact ⟨by dsimp only; omega, by dsimp only; omega, h6, h4, by dsimp only; omega⟩
def lyBounds (gaps stock : List Int) : List Int := (irange 0 gaps.length).map fun k => if gi gaps k = 0 then gi stock k else 0
def lyFound (gaps pledges : List Int) (own : Int) (rests stock : List Int) (w : Str) : List Int × List Int :=
  if w = "pledge" then m_own_row (rests, pledges) else if w = "share" then m_own_row (rests, stock) else m_common (w, rests, lyBounds gaps stock, own)
abbrev LySt := List Int × List Int × List (Str × List Int × List Int)
def lyStep (gaps pledges : List Int) (own : Int) (s : LySt) (w : Str) : LySt :=
  (subL s.1 (lyFound gaps pledges own s.1 s.2.1 w).1, (if w = "pledge" then s.2.1 else subL s.2.1 (lyFound gaps pledges own s.1 s.2.1 w).2), s.2.2 ++ [(w, lyFound gaps pledges own s.1 s.2.1 w)])
def lyRun (o : List Str) (gaps pledges shares : List Int) (own : Int) : LySt := o.foldl (lyStep gaps pledges own) (gaps, shares, [])
def m_layered (x : List Str × List Int × List Int × List Int × Int) : Except Str (List (Str × List Int × List Int) × List Int) :=
  match m_order x.1 with
  | .error c => .error c
  | .ok _ => .ok ((lyRun x.1 x.2.1 x.2.2.1 x.2.2.2.1 x.2.2.2.2).2.2, (lyRun x.1 x.2.1 x.2.2.1 x.2.2.2.1 x.2.2.2.2).1)
def p_layered (x : List Str × List Int × List Int × List Int × Int) : Prop := x.1.length ≤ 90 ∧ x.2.1.length ≤ 40 ∧ x.2.2.1.length = x.2.1.length ∧ x.2.2.2.1.length = x.2.1.length ∧ (∀ b ∈ x.2.1, 0 ≤ b) ∧ (∀ b ∈ x.2.2.1, 0 ≤ b) ∧ (∀ b ∈ x.2.2.2.1, 0 ≤ b) ∧ x.2.1.sum < 2 ^ 62 ∧ x.2.2.2.1.sum < 2 ^ 62 ∧ 0 ≤ x.2.2.2.2
/-- what stands between two layers -/
structure LyInv (gaps : List Int) (s : LySt) (n : Nat) : Prop where
  l1 : s.1.length = gaps.length
  l2 : s.2.1.length = gaps.length
  n1 : ∀ b ∈ s.1, 0 ≤ b
  n2 : ∀ b ∈ s.2.1, 0 ≤ b
  s1 : s.1.sum < 2 ^ 62
  s2 : s.2.1.sum < 2 ^ 62
  len : s.2.2.length = n
theorem lyBounds_len (gaps stock : List Int) : (lyBounds gaps stock).length = gaps.length := by unfold lyBounds; rw [List.length_map, irange_len]; simp
theorem lyBounds_at {gaps stock : List Int} {k : Int} (h : inb gaps k) : gi (lyBounds gaps stock) k = if gi gaps k = 0 then gi stock k else 0 := by
  unfold lyBounds
  rw [gi_imap h.1 h.2]
theorem ly_common {gaps : List Int} {s : LySt} {n : Nat} (I : LyInv gaps s n) (hg : gaps.length ≤ 40) {own : Int} (ho : 0 ≤ own) (w : Str) : p_common (w, s.1, lyBounds gaps s.2.1, own) := by
  have hb : ∀ b ∈ lyBounds gaps s.2.1, 0 ≤ b := fun b hb => by
    obtain ⟨k, hk, e⟩ := gi_of_mem hb
    have hk' : inb gaps k := ⟨hk.1, by have := hk.2; rw [lyBounds_len] at this; exact this⟩
    rw [← e, lyBounds_at hk']
    split
    · exact I.n2 _ (gi_mem ⟨hk'.1, by rw [I.l2]; exact hk'.2⟩)
    · exact Int.le_refl _
  refine ⟨by dsimp only; rw [I.l1]; omega, by dsimp only; rw [lyBounds_len]; omega, I.n1, hb, I.s1, ?_, ho⟩
  refine Int.lt_of_le_of_lt (sum_le_at (b := s.2.1) (by rw [lyBounds_len, I.l2]) fun k hk => ?_) I.s2
  have hk' : inb gaps k := ⟨hk.1, by have := hk.2; rw [lyBounds_len] at this; exact this⟩
  rw [lyBounds_at hk']
  split
  · exact Int.le_refl _
  · exact I.n2 _ (gi_mem ⟨hk'.1, by rw [I.l2]; exact hk'.2⟩)
/-- what a layer gives and lets bear -/
theorem ly_found {gaps pledges : List Int} {s : LySt} {n : Nat} (I : LyInv gaps s n) (hg : gaps.length ≤ 40) (hp : pledges.length = gaps.length) (hpn : ∀ b ∈ pledges, 0 ≤ b) {own : Int} (ho : 0 ≤ own) (w : Str) :
    (lyFound gaps pledges own s.1 s.2.1 w).1.length = gaps.length ∧ (lyFound gaps pledges own s.1 s.2.1 w).2.length = gaps.length + 1 ∧ (∀ k, inb gaps k → 0 ≤ gi (lyFound gaps pledges own s.1 s.2.1 w).1 k ∧ gi (lyFound gaps pledges own s.1 s.2.1 w).1 k ≤ gi s.1 k) ∧
      (w ≠ "pledge" → ∀ k, inb gaps k → 0 ≤ gi (lyFound gaps pledges own s.1 s.2.1 w).2 k ∧ gi (lyFound gaps pledges own s.1 s.2.1 w).2 k ≤ gi s.2.1 k) := by
  have i1 : ∀ {k}, inb gaps k → inb s.1 k := fun h => ⟨h.1, by rw [I.l1]; exact h.2⟩
  have i2 : ∀ {k}, inb gaps k → inb s.2.1 k := fun h => ⟨h.1, by rw [I.l2]; exact h.2⟩
  have i3 : ∀ {k}, inb gaps k → inb pledges k := fun h => ⟨h.1, by rw [hp]; exact h.2⟩
  unfold lyFound
  split
  · refine ⟨by show (minL _ _).length = _; rw [minL_len, I.l1], by show (minL _ _ ++ [0]).length = _; rw [List.length_append, minL_len, I.l1]; rfl, fun k hk => ?_, fun h => absurd (by assumption) h⟩
    show 0 ≤ gi (minL s.1 pledges) k ∧ gi (minL s.1 pledges) k ≤ _
    rw [minL_at (i1 hk)]
    have := I.n1 _ (gi_mem (i1 hk))
    have := hpn _ (gi_mem (i3 hk))
    omega
  · split
    · have hm : ∀ k, inb gaps k → gi (minL s.1 s.2.1) k = min (gi s.1 k) (gi s.2.1 k) := fun k hk => minL_at (i1 hk)
      refine ⟨by show (minL _ _).length = _; rw [minL_len, I.l1], by show (minL _ _ ++ [0]).length = _; rw [List.length_append, minL_len, I.l1]; rfl, fun k hk => ?_, fun _ k hk => ?_⟩
      · show 0 ≤ gi (minL s.1 s.2.1) k ∧ gi (minL s.1 s.2.1) k ≤ _
        rw [hm k hk]
        have := I.n1 _ (gi_mem (i1 hk))
        have := I.n2 _ (gi_mem (i2 hk))
        omega
      · show 0 ≤ gi (minL s.1 s.2.1 ++ [0]) k ∧ gi (minL s.1 s.2.1 ++ [0]) k ≤ _
        rw [gi_snoc ⟨hk.1, by rw [minL_len, I.l1]; exact hk.2⟩, hm k hk]
        have := I.n1 _ (gi_mem (i1 hk))
        have := I.n2 _ (gi_mem (i2 hk))
        omega
    · have pc := ly_common I hg ho w
      obtain ⟨c1, c2⟩ := p_common_coins pc
      have hb : ∀ k, inb gaps k → gi (lyBounds gaps s.2.1) k ≤ gi s.2.1 k := fun k hk => by
        rw [lyBounds_at hk]
        split
        · exact Int.le_refl _
        · exact I.n2 _ (gi_mem (i2 hk))
      have ib : ∀ {k}, inb gaps k → inb (lyBounds gaps s.2.1) k := fun h => ⟨h.1, by rw [lyBounds_len]; exact h.2⟩
      refine ⟨by show (m_shares _).length = _; rw [m_shares_len]; exact I.l1, ?_, fun k hk => m_shares_at c1 (i1 hk), fun _ k hk => ?_⟩
      · show (commonBorne _ _ _ _).length = _
        unfold commonBorne
        split
        · rw [List.length_append, List.length_map]; exact congrArg (· + 1) I.l1
        · split
          · rw [List.length_append, m_shares_len]; exact congrArg (· + 1) (lyBounds_len _ _)
          · rw [List.length_append, m_bylevel_len]; exact congrArg (· + 1) (lyBounds_len _ _)
      · show 0 ≤ gi (commonBorne _ _ _ _) k ∧ gi (commonBorne _ _ _ _) k ≤ _
        unfold commonBorne
        dsimp only
        split
        · rw [gi_snoc ⟨hk.1, by rw [List.length_map, I.l1]; exact hk.2⟩, gi_map (i1 hk)]
          exact ⟨Int.le_refl _, I.n2 _ (gi_mem (i2 hk))⟩
        · rename_i hw
          split
          · rw [gi_snoc ⟨hk.1, by rw [m_shares_len]; exact (ib hk).2⟩]
            have := m_shares_at (c2 hw) (ib hk)
            have := hb k hk
            omega
          · rw [gi_snoc ⟨hk.1, by rw [m_bylevel_len]; exact (ib hk).2⟩]
            have := m_bylevel_at (c2 hw) (ib hk)
            have := hb k hk
            omega
theorem ly_step {gaps pledges : List Int} {s : LySt} {n : Nat} (I : LyInv gaps s n) (hg : gaps.length ≤ 40) (hp : pledges.length = gaps.length) (hpn : ∀ b ∈ pledges, 0 ≤ b) {own : Int} (ho : 0 ≤ own) (w : Str) : LyInv gaps (lyStep gaps pledges own s w) (n + 1) := by
  obtain ⟨f1, f2, f3, f4⟩ := ly_found I hg hp hpn ho w
  have i1 : ∀ {k}, inb gaps k → inb s.1 k := fun h => ⟨h.1, by rw [I.l1]; exact h.2⟩
  have i2 : ∀ {k}, inb gaps k → inb s.2.1 k := fun h => ⟨h.1, by rw [I.l2]; exact h.2⟩
  have a1 : ∀ k, inb gaps k → 0 ≤ gi (lyStep gaps pledges own s w).1 k ∧ gi (lyStep gaps pledges own s w).1 k ≤ gi s.1 k := fun k hk => by
    show 0 ≤ gi (subL _ _) k ∧ gi (subL _ _) k ≤ _
    rw [subL_at (i1 hk)]
    have := f3 k hk
    omega
  have l1 : (lyStep gaps pledges own s w).1.length = gaps.length := by show (subL _ _).length = _; rw [subL_len, I.l1]
  have l2 : (lyStep gaps pledges own s w).2.1.length = gaps.length := by
    show (if w = "pledge" then s.2.1 else subL s.2.1 _).length = _
    split
    · exact I.l2
    · rw [subL_len, I.l2]
  have a2 : ∀ k, inb gaps k → 0 ≤ gi (lyStep gaps pledges own s w).2.1 k ∧ gi (lyStep gaps pledges own s w).2.1 k ≤ gi s.2.1 k := fun k hk => by
    show 0 ≤ gi (if w = "pledge" then s.2.1 else subL s.2.1 _) k ∧ gi (if w = "pledge" then s.2.1 else subL s.2.1 _) k ≤ _
    split
    · exact ⟨I.n2 _ (gi_mem (i2 hk)), Int.le_refl _⟩
    · rename_i hw
      rw [subL_at (i2 hk)]
      have := f4 hw k hk
      omega
  refine ⟨l1, l2, fun b hb => ?_, fun b hb => ?_, ?_, ?_, by show (s.2.2 ++ [_]).length = _; rw [List.length_append, I.len]; rfl⟩
  · obtain ⟨k, hk, e⟩ := gi_of_mem hb
    rw [← e]
    exact (a1 k ⟨hk.1, by rw [← l1]; exact hk.2⟩).1
  · obtain ⟨k, hk, e⟩ := gi_of_mem hb
    rw [← e]
    exact (a2 k ⟨hk.1, by rw [← l2]; exact hk.2⟩).1
  · exact Int.lt_of_le_of_lt (sum_le_at (by rw [l1, I.l1]) fun k hk => (a1 k ⟨hk.1, by rw [← l1]; exact hk.2⟩).2) I.s1
  · exact Int.lt_of_le_of_lt (sum_le_at (by rw [l2, I.l2]) fun k hk => (a2 k ⟨hk.1, by rw [← l2]; exact hk.2⟩).2) I.s2
end Q

set_option Elab.async false
set_option linter.all false
set_option maxRecDepth 100000
/-! plain functions of the laws: cells, draws, orders -/
namespace Q
open PySem PySem.Spec PyProof.Rows L2 D
def m_cell (x : List Int × Int) : Int := if (x.1.length : Int) = 0 then 0 else gi x.1 (x.2 % (x.1.length : Int))
def m_draw (x : List Int × Int × Int) : Int := (m_cell (x.1, x.2.1) % 1000003 + x.2.1 * x.2.1 + 1) * 48271 % 999983 % x.2.2
def p_draw (x : List Int × Int × Int) : Prop := -1000000 < x.2.1 ∧ x.2.1 < 1000000 ∧ 0 < x.2.2
theorem m_draw_at {s : List Int} {k n : Int} (h : 0 < n) : 0 ≤ m_draw (s, k, n) ∧ m_draw (s, k, n) < n := ⟨Int.emod_nonneg _ (by dsimp only; omega), Int.emod_lt_of_pos _ h⟩
def p_lorder (x : List Int × Int) : Prop := -1000 < x.2 ∧ x.2 < 1000
def loStep (s : List Int) (start : Int) (st : List Str × List Str) (k : Int) : List Str × List Str :=
  (st.1.eraseIdx (m_draw (s, start + 1 + k, st.1.length)).toNat, st.2 ++ [gi st.1 (m_draw (s, start + 1 + k, st.1.length))])
def m_lorder (x : List Int × Int) : List Str := ((irange 0 (m_draw (x.1, x.2, 6))).foldl (loStep x.1 x.2) (layersL, [])).2
theorem erase_permN {α : Type} : ∀ {xs : List α} {k : Nat} {x : α}, xs[k]? = some x → xs.Perm (x :: xs.eraseIdx k)
  | [], k, x, h => by simp at h
  | y :: ys, 0, x, h => by
    simp at h
    rw [h]
    exact List.Perm.refl _
  | y :: ys, k + 1, x, h => by
    simp at h
    rw [List.eraseIdx_cons_succ]
    exact ((erase_permN h).cons y).trans (List.Perm.swap x y _)
theorem erase_perm {α : Type} [Inhabited α] {xs : List α} {k : Int} (h : inb xs k) : xs.Perm (gi xs k :: xs.eraseIdx k.toNat) := erase_permN (gi_some h)
/-- the words that are left and the order make up all words -/
theorem lo_perm (s : List Int) (start : Int) : ∀ (n : Int), n ≤ 5 → 0 ≤ n → ((((irange 0 n).foldl (loStep s start) (layersL, [])).1 ++ ((irange 0 n).foldl (loStep s start) (layersL, [])).2).Perm layersL ∧ (((irange 0 n).foldl (loStep s start) (layersL, [])).2.length : Int) = n) := by
  intro n h5 h0
  have key := foldl_ind (step := loStep s start) (fun pre (st : List Str × List Str) => (st.1 ++ st.2).Perm layersL ∧ st.2.length = pre.length) (s := (layersL, [])) ⟨by simp, rfl⟩ (irange 0 n) fun pre x st ⟨post, e⟩ h => ?_
  · exact ⟨key.1, by rw [key.2, irange_len]; omega⟩
  · obtain ⟨ex, hlt⟩ := irange_split e
    obtain ⟨h1, h2⟩ := h
    have hl : st.1.length + st.2.length = 5 := by rw [← List.length_append]; exact h1.length_eq
    have hi : inb st.1 (m_draw (s, start + 1 + x, st.1.length)) := m_draw_at (by omega)
    refine ⟨?_, by show (st.2 ++ [_]).length = _; rw [List.length_append, List.length_append, h2]; rfl⟩
    refine List.Perm.trans ?_ h1
    show (st.1.eraseIdx _ ++ (st.2 ++ [_])).Perm _
    have p := erase_perm hi
    refine List.Perm.symm ((List.Perm.append_right st.2 p).trans ?_)
    rw [← List.append_assoc]
    exact (List.perm_append_singleton _ _).symm
theorem layers_nodup : layersL.Nodup := by decide +kernel
theorem m_lorder_ok (x : List Int × Int) : (m_lorder x).Nodup ∧ (∀ w ∈ m_lorder x, w ∈ layersL) ∧ (m_lorder x).length ≤ 5 := by
  have hd : 0 ≤ m_draw (x.1, x.2, 6) ∧ m_draw (x.1, x.2, 6) < 6 := m_draw_at (by omega)
  obtain ⟨p, hl⟩ := lo_perm x.1 x.2 (m_draw (x.1, x.2, 6)) (by omega) (by omega)
  have nd := (List.Perm.nodup_iff p).mpr layers_nodup
  refine ⟨(List.nodup_append.mp nd).2.1, fun w hw => p.mem_iff.mp (List.mem_append_right _ hw), ?_⟩
  have : ((m_lorder x).length : Int) ≤ 5 := by
    show (((irange 0 (m_draw (x.1, x.2, 6))).foldl (loStep x.1 x.2) (layersL, [])).2.length : Int) ≤ 5
    omega
  omega
/-- a good order -/
theorem good_iff (o : List Str) : (∃ k ∈ irange 0 o.length, badAt o k) ↔ ¬ (o.Nodup ∧ ∀ w ∈ o, w ∈ layersL) := by
  constructor
  · rintro ⟨k, hk, hb⟩ ⟨nd, al⟩
    have hk := irange_mem hk
    have hi : inb o k := hk
    rcases hb with hb | hb
    · exact hb (al _ (gi_mem hi))
    · obtain ⟨j, hj, ej⟩ := List.mem_iff_getElem.mp hb
      have hkl : k.toNat < o.length := by omega
      rw [List.getElem_take] at ej
      have hj' : j < k.toNat := by rw [List.length_take] at hj; omega
      have eg : gi o k = o[k.toNat] := by unfold gi; rw [List.getD_eq_getElem?_getD]; simp [hkl]
      rw [eg] at ej
      have := (List.getElem_inj nd).mp ej
      omega
  · intro h
    by_cases al : ∀ w ∈ o, w ∈ layersL
    · have nd : ¬ o.Nodup := fun nd => h ⟨nd, al⟩
      rw [List.nodup_iff_pairwise_ne, List.pairwise_iff_getElem] at nd
      simp only [Classical.not_forall] at nd
      obtain ⟨i, j, hi, hj, hij, e⟩ := nd
      have e := Classical.not_not.mp e
      refine ⟨(j : Int), ?_, .inr ?_⟩
      · have : (irange 0 o.length)[j]? = some ((0 : Int) + (j : Int)) := irange_get (by omega)
        have := List.mem_of_getElem? this
        rwa [Int.zero_add] at this
      · have eg : gi o (j : Int) = o[j] := by unfold gi; rw [List.getD_eq_getElem?_getD]; simp [hj]
        rw [eg, ← e, Int.toNat_natCast]
        exact List.mem_iff_getElem.mpr ⟨i, by rw [List.length_take]; omega, by rw [List.getElem_take]⟩
    · simp only [Classical.not_forall] at al
      obtain ⟨w, hw, hn⟩ := al
      obtain ⟨j, hj, e⟩ := List.mem_iff_getElem.mp hw
      refine ⟨(j : Int), ?_, .inl ?_⟩
      · have : (irange 0 o.length)[j]? = some ((0 : Int) + (j : Int)) := irange_get (by omega)
        have := List.mem_of_getElem? this
        rwa [Int.zero_add] at this
      · have eg : gi o (j : Int) = o[j] := by unfold gi; rw [List.getD_eq_getElem?_getD]; simp [hj]
        rw [eg, e]
        exact hn
theorem m_order_ok {o : List Str} (nd : o.Nodup) (al : ∀ w ∈ o, w ∈ layersL) : m_order o = .ok () := by
  unfold m_order
  rw [if_neg fun h => (good_iff o).mp h ⟨nd, al⟩]
theorem m_order_bad {o : List Str} (h : ¬ (o.Nodup ∧ ∀ w ∈ o, w ∈ layersL)) : m_order o = .error "NoLayer" := by
  unfold m_order
  rw [if_pos ((good_iff o).mpr h)]
/-- the bad words left out -/
def m_mended (o : List Str) : List Str := o.foldl (fun m w => if w ∈ layersL ∧ w ∉ m then m ++ [w] else m) []
theorem mended_ok (o : List Str) : (m_mended o).Nodup ∧ (∀ w ∈ m_mended o, w ∈ layersL) ∧ (m_mended o).length ≤ o.length := by
  refine (fun h => h) (foldl_ind (step := fun (m : List Str) w => if w ∈ layersL ∧ w ∉ m then m ++ [w] else m) (fun pre (m : List Str) => m.Nodup ∧ (∀ w ∈ m, w ∈ layersL) ∧ m.length ≤ pre.length) (s := []) ⟨List.nodup_nil, by simp, Nat.le_refl _⟩ o fun pre x m _ h => ?_)
  obtain ⟨h1, h2, h3⟩ := h
  split
  · rename_i hc
    refine ⟨List.nodup_append.mpr ⟨h1, by simp, fun a ha b hb => ?_⟩, fun w hw => ?_, by simp; omega⟩
    · rw [List.mem_singleton.mp hb]; intro e; rw [e] at ha; exact hc.2 ha
    · rcases List.mem_append.mp hw with h | h
      · exact h2 w h
      · rw [List.mem_singleton.mp h]; exact hc.1
  · exact ⟨h1, h2, by simp; omega⟩
theorem mended_self {o : List Str} (nd : o.Nodup) (al : ∀ w ∈ o, w ∈ layersL) : m_mended o = o := by
  unfold m_mended
  refine foldl_ind (fun pre (m : List Str) => m = pre) rfl o fun pre x m ⟨post, e⟩ h => ?_
  subst h
  have hx : x ∉ m := fun hx => by
    rw [e] at nd
    exact (List.nodup_append.mp nd).2.2 x hx x List.mem_cons_self rfl
  rw [if_pos ⟨al x (by rw [e]; simp), hx⟩]
theorem mended_iff (o : List Str) : m_mended o = o ↔ (o.Nodup ∧ ∀ w ∈ o, w ∈ layersL) := ⟨fun h => by have := mended_ok o; rw [h] at this; exact ⟨this.1, this.2.1⟩, fun h => mended_self h.1 h.2⟩
end Q

set_option Elab.async false
set_option linter.all false
set_option maxRecDepth 100000
/-! texts of the laws -/
namespace Q
open PySem PySem.Spec PyProof.Rows L2 D
def okT (z : Str) : Prop := ∀ c ∈ z.cps.toList, c < 1114112
theorem okT_ok {z : Str} (h : okT z) : PySem.PyData.strOk z = true := by
  unfold PySem.PyData.strOk
  rw [Array.all_eq_true_iff_forall_mem]
  intro c hc
  exact decide_eq_true (h c (by simpa using hc))
theorem okT_app {a b : Str} (ha : okT a) (hb : okT b) : okT (a ++ b) := fun c hc => by
  rw [show (a ++ b).cps = a.cps ++ b.cps from rfl, Array.toList_append] at hc
  exact (List.mem_append.mp hc).elim (ha c) (hb c)
theorem okT_cut {z : Str} (h : okT z) (a b : Option Int) : okT (cutS z a b) := fun c hc => h c (List.mem_of_mem_drop (List.mem_of_mem_take hc))
theorem okT_at {z : Str} (h : okT z) (i : Int) : okT (D.strAt z i) := fun c hc => by
  have hc : c ∈ [z.cps.toList.getD i.toNat 0] := hc
  rw [List.mem_singleton] at hc
  rw [hc, List.getD_eq_getElem?_getD]
  rcases Nat.lt_or_ge i.toNat z.cps.toList.length with hl | hl
  · rw [List.getElem?_eq_getElem hl]; exact h _ (List.getElem_mem hl)
  · rw [List.getElem?_eq_none hl]; decide
theorem okT_join0 : ∀ {xs : List Str}, (∀ x ∈ xs, okT x) → okT (Str.join "" xs)
  | [], _ => fun c hc => by cases hc
  | [x], h => h x (by simp)
  | x :: y :: rest, h => okT_app (okT_app (h x (by simp)) (fun c hc => by cases hc)) (okT_join0 fun z hz => h z (by simp at hz ⊢; exact .inr hz))
theorem okT_join {xs : List Str} (h : ∀ x ∈ xs, okT x) : okT (Txt.join "" xs) := by rw [TL.join_eq]; exact okT_join0 h
theorem app_len (a b : Str) : (a ++ b).length = a.length + b.length := Array.size_append
theorem at_len (z : Str) (i : Int) : (D.strAt z i).length = 1 := rfl
theorem sumlen1 : ∀ {xs : List Str}, (∀ x ∈ xs, x.length = 1) → (xs.map (·.length)).sum = xs.length
  | [], _ => rfl
  | x :: xs, h => by rw [List.map_cons, List.sum_cons, sumlen1 fun y hy => h y (List.mem_cons_of_mem _ hy), h x List.mem_cons_self, List.length_cons]; omega
def abc : Str := "abcdefghijklmnopqrstuvwxyz"
def abc_ : Str := "abcdefghijklmnopqrstuvwxyz "
def w_word (s : List Int) (a : Int) : Str := gi layersL (m_draw (s, a, 5))
def w_at (s : List Int) (a : Int) : Int := m_draw (s, a + 1, (w_word s a).length)
def m_word (x : List Int × Int) : Str :=
  if m_draw (x.1, x.2 + 2, 5) = 0 then w_word x.1 x.2
  else if m_draw (x.1, x.2 + 2, 5) = 1 then cutS (w_word x.1 x.2) none (some (w_at x.1 x.2)) ++ D.strAt abc_ (m_draw (x.1, x.2 + 3, 27)) ++ cutS (w_word x.1 x.2) (some (w_at x.1 x.2)) none
  else if m_draw (x.1, x.2 + 2, 5) = 2 then cutS (w_word x.1 x.2) none (some (w_at x.1 x.2)) ++ cutS (w_word x.1 x.2) (some (w_at x.1 x.2 + 1)) none
  else if m_draw (x.1, x.2 + 2, 5) = 3 then cutS (w_word x.1 x.2) none (some (w_at x.1 x.2)) ++ Txt.upper (D.strAt (w_word x.1 x.2) (w_at x.1 x.2)) ++ cutS (w_word x.1 x.2) (some (w_at x.1 x.2 + 1)) none
  else Txt.join "" ((irange 0 (m_draw (x.1, x.2 + 3, 8))).map fun k => D.strAt abc (m_draw (x.1, x.2 + 4 + k, 26)))
theorem layers_b : ∀ w ∈ layersL, 1 ≤ w.length ∧ w.length ≤ 6 ∧ w.cps.toList.all (fun c => decide (c < 1114112)) = true ∧ (List.range 6).all (fun i => decide ((Txt.upper (D.strAt w (i : Int))).length ≤ 3) && (Txt.upper (D.strAt w (i : Int))).cps.toList.all (fun c => decide (c < 1114112))) = true := by decide +kernel
theorem layers_ok {w : Str} (h : w ∈ layersL) : okT w := fun c hc => by have := (layers_b w h).2.2.1; rw [List.all_eq_true] at this; exact of_decide_eq_true (this c hc)
theorem layers_up {w : Str} (h : w ∈ layersL) {i : Int} (h0 : 0 ≤ i) (h1 : i < 6) : (Txt.upper (D.strAt w i)).length ≤ 3 ∧ okT (Txt.upper (D.strAt w i)) := by
  have := (layers_b w h).2.2.2
  rw [List.all_eq_true] at this
  have := this i.toNat (List.mem_range.mpr (by omega))
  rw [show ((i.toNat : Nat) : Int) = i by omega] at this
  simp only [Bool.and_eq_true, decide_eq_true_eq, List.all_eq_true] at this
  exact ⟨this.1, this.2⟩
theorem abc_b : abc.cps.toList.all (fun c => decide (c < 1114112)) = true ∧ abc_.cps.toList.all (fun c => decide (c < 1114112)) = true ∧ abc.cps.toList.length = 26 ∧ abc_.cps.toList.length = 27 ∧ abc.length = 26 ∧ abc_.length = 27 := by decide +kernel
theorem w_word_in (s : List Int) (a : Int) : w_word s a ∈ layersL := gi_mem (m_draw_at (n := 5) (by decide))
theorem w_at_in (s : List Int) (a : Int) : 0 ≤ w_at s a ∧ w_at s a < (w_word s a).length := m_draw_at (by have := (layers_b _ (w_word_in s a)).1; omega)
theorem m_word_ok (x : List Int × Int) : okT (m_word x) := by
  have hw := w_word_in x.1 x.2
  have hk := layers_ok hw
  have hi := w_at_in x.1 x.2
  have h6 := (layers_b _ hw).2.1
  unfold m_word
  split
  · exact hk
  · split
    · exact okT_app (okT_app (okT_cut hk _ _) (okT_at (fun c hc => of_decide_eq_true (List.all_eq_true.mp abc_b.2.1 c hc)) _)) (okT_cut hk _ _)
    · split
      · exact okT_app (okT_cut hk _ _) (okT_cut hk _ _)
      · split
        · exact okT_app (okT_app (okT_cut hk _ _) (layers_up hw hi.1 (by omega)).2) (okT_cut hk _ _)
        · refine okT_join fun z hz => ?_
          obtain ⟨k, _, e⟩ := List.mem_map.mp hz
          rw [← e]
          exact okT_at (fun c hc => of_decide_eq_true (List.all_eq_true.mp abc_b.1 c hc)) _
/-- what the law asks of a call -/
theorem m_layered_err {x : List Str × List Int × List Int × List Int × Int} {n : Str} (h : m_layered x = .error n) : n = "NoLayer" := by
  unfold m_layered m_order at h
  split at h
  · rename_i c hc
    split at hc
    · cases hc; cases h; rfl
    · cases hc
  · cases h
abbrev Told := List (Str × List Int × List Int) × List Int
def p_asked (x : List Str × List Int × List Int × List Int) : Prop := p_layered (x.1, x.2.1, x.2.2.1, x.2.2.2, 2)
def m_asked (x : List Str × List Int × List Int × List Int) : Str × (Bool ⊕ Told) := match m_layered (x.1, x.2.1, x.2.2.1, x.2.2.2, 2) with
  | .ok y => ("told", .inr y)
  | .error _ => ("refused", .inl true)
def rowsOk (y : Str × (Bool ⊕ Told)) (o : List Str) : Prop := y.1 = "told" ∧ ∃ z, y.2 = .inr z ∧ z.1.map (·.1) = o
instance (y : Str × (Bool ⊕ Told)) (o : List Str) : Decidable (rowsOk y o) := by
  unfold rowsOk
  rcases y with ⟨a, b | z⟩
  · exact .isFalse fun h => by obtain ⟨_, z, h, _⟩ := h; cases h
  · exact decidable_of_iff (a = "told" ∧ z.1.map (·.1) = o) ⟨fun h => ⟨h.1, z, rfl, h.2⟩, fun h => by obtain ⟨h1, z', h2, h3⟩ := h; cases h2; exact ⟨h1, h3⟩⟩
def p_rows (x : (Str × (Bool ⊕ Told)) × List Str) : Prop := x.2.length ≤ 90 ∧ (∀ w ∈ x.2, okT w) ∧ (x.1.1 = "told" → ∃ z, x.1.2 = .inr z ∧ ∀ r ∈ z.1, okT r.1)
def m_rows (x : (Str × (Bool ⊕ Told)) × List Str) : Bool := decide (rowsOk x.1 x.2)
theorem ly_words (gaps pledges : List Int) (own : Int) : ∀ (o : List Str) (s : LySt), (o.foldl (lyStep gaps pledges own) s).2.2.map (fun r => r.1) = s.2.2.map (fun r => r.1) ++ o
  | [], s => by simp
  | w :: o, s => by
    rw [List.foldl_cons, ly_words gaps pledges own o]
    show ((s.2.2 ++ [(w, lyFound gaps pledges own s.1 s.2.1 w)]).map (fun r => r.1)) ++ o = _
    simp
theorem m_asked_good {o : List Str} {g p s : List Int} (h : o.Nodup ∧ ∀ w ∈ o, w ∈ layersL) : rowsOk (m_asked (o, g, p, s)) o := by
  unfold m_asked m_layered
  rw [m_order_ok h.1 h.2]
  exact ⟨rfl, _, rfl, by show (List.map _ (lyRun o g p s 2).2.2) = o; unfold lyRun; rw [ly_words]; rfl⟩
theorem m_asked_bad {o : List Str} {g p s : List Int} (h : ¬ (o.Nodup ∧ ∀ w ∈ o, w ∈ layersL)) : m_asked (o, g, p, s) = (("refused" : Str), (Sum.inl true : Bool ⊕ Told)) := by
  unfold m_asked m_layered
  rw [m_order_bad h]
theorem m_asked_rows {o : List Str} {g p s : List Int} (hl : o.length ≤ 90) (hk : ∀ w ∈ o, okT w) {o' : List Str} (hl' : o'.length ≤ 90) (hk' : ∀ w ∈ o', okT w) : p_rows (m_asked (o, g, p, s), o') := by
  refine ⟨hl', hk', fun ht => ?_⟩
  by_cases h : o.Nodup ∧ ∀ w ∈ o, w ∈ layersL
  · obtain ⟨_, z, e, ez⟩ := m_asked_good (g := g) (p := p) (s := s) h
    refine ⟨z, e, fun r hr => hk _ ?_⟩
    rw [← ez]
    exact List.mem_map.mpr ⟨r, hr, rfl⟩
  · dsimp only at ht
    rw [m_asked_bad h] at ht
    exact absurd ht (by decide)
/-- the pure run of the law up to the order -/
def insW (s : List Int) (o : List Str) (k : Int) : List Str := cuti o none (some (m_draw (s, 1 + k, (o.length : Int) + 1))) ++ [m_word (s, 30 + 12 * k)] ++ cuti o (some (m_draw (s, 1 + k, (o.length : Int) + 1))) none
theorem cuti_mem {α : Type} {xs : List α} {a b : Option Int} {x : α} (h : x ∈ cuti xs a b) : x ∈ xs := List.mem_of_mem_drop (List.mem_of_mem_take h)
theorem cuti_len {α : Type} {xs : List α} {a b : Option Int} : (cuti xs a b).length ≤ xs.length := by unfold cuti; rw [List.length_take, List.length_drop]; omega
theorem insW_ok {s : List Int} {o : List Str} {k : Int} (h : ∀ w ∈ o, okT w) : ∀ w ∈ insW s o k, okT w := fun w hw => by
  unfold insW at hw
  rw [List.mem_append, List.mem_append] at hw
  rcases hw with (hw | hw) | hw
  · exact h w (cuti_mem hw)
  · rw [List.mem_singleton.mp hw]; exact m_word_ok _
  · exact h w (cuti_mem hw)
theorem insW_len (s : List Int) (o : List Str) (k : Int) : (insW s o k).length ≤ 2 * o.length + 1 := by
  unfold insW
  rw [List.length_append, List.length_append, List.length_singleton]
  have := @cuti_len _ o none (some (m_draw (s, 1 + k, (o.length : Int) + 1)))
  have := @cuti_len _ o (some (m_draw (s, 1 + k, (o.length : Int) + 1))) none
  omega
theorem p_asked_law {o : List Str} {s : List Int} {a b c n : Int} (ho : o.length ≤ 90) (hn : 0 ≤ n ∧ n ≤ 4) : p_asked (o, (irange 0 n).map fun k => m_draw (s, a + k, 9), (irange 0 n).map fun k => m_draw (s, b + k, 9), (irange 0 n).map fun k => m_draw (s, c + k, 9)) := by
  have hl : ∀ d : Int, ((irange 0 n).map fun k => m_draw (s, d + k, 9)).length ≤ 4 := fun d => by rw [List.length_map, irange_len]; omega
  have h0 : ∀ d : Int, ∀ b ∈ (irange 0 n).map fun k => m_draw (s, d + k, 9), 0 ≤ b ∧ b ≤ 8 := fun d b hb => by
    obtain ⟨k, _, e⟩ := List.mem_map.mp hb
    have := m_draw_at (s := s) (k := d + k) (n := 9) (by decide)
    omega
  have hs : ∀ (xs : List Int), (∀ b ∈ xs, 0 ≤ b ∧ b ≤ 8) → xs.sum ≤ 8 * (xs.length : Int) := fun xs => by
    induction xs with
    | nil => intro _; exact Int.le_refl _
    | cons x xs ih =>
      intro h
      rw [List.sum_cons, List.length_cons]
      have := ih fun b hb => h b (List.mem_cons_of_mem _ hb)
      have := h x List.mem_cons_self
      omega
  refine ⟨ho, by have := hl a; dsimp only; omega, by simp, by simp, fun b hb => (h0 a b hb).1, fun b hb => (h0 _ b hb).1, fun b hb => (h0 _ b hb).1, ?_, ?_, (show (0 : Int) ≤ 2 by decide)⟩
  · have := hs _ (h0 a); have := hl a; dsimp only; omega
  · have := hs _ (h0 c); have := hl c; dsimp only; omega
end Q

set_option Elab.async false
set_option linter.all false
set_option maxRecDepth 100000
set_option maxHeartbeats 2000000
set_option synthInstance.maxSize 4000
namespace Q
open PySem PySem.Spec PyProof.Rows L2 D
def top (i : Nat) : Stmt := PySem.Challenge.pw_quits_k66_no_order.main.body.getD i (.Pass ⟨0, 0, 0, 0⟩)
abbrev nsL : List Str := ["NoPart", "NoRule", "TooMuch", "NoLayer"]
abbrev csL : List Str := ["NoPart", "NoRule", "TooMuch", "NoLayer", "ValueError"]
structure Consts (K : PySem.W.Frag) (mg : Str → Option Value) : Prop where
  LAYERS : mg "LAYERS" = some (.ref (He.ga K "LAYERS"))
  LAYERS_is : ∀ H, SqT K H (He.ga K "LAYERS") (layersL.map V.str)
theorem le_line {n : Nat} (h : n ≤ 1000) : n ≤ sizeLine := Nat.le_trans h (by decide)
theorem abc_len_ : ("abcdefghijklmnopqrstuvwxyz " : Str).length = 27 := abc_b.2.2.2.2.2
section
variable {P : Program} {w : World} {K : PySem.W.Frag} {mg : Str → Option Value} {base : Heap}
abbrev s_ask_enough : Stmt := top 7
abbrev ns_ask_enough : List Str := ["coins", "bounds"]
theorem sc_ask_enough : FnScope ns_ask_enough ["coins", "bounds"] (defScope s_ask_enough) := ⟨rfl, rfl, rfl, by decide +kernel, rfl, by decide +kernel, by decide +kernel⟩
abbrev sp_ask_enough : Sp := (spF (arc rInt (ar1 (rList rInt))) p_ask_enough rNon (fun _ => ()))
theorem ok_ask_enough {f : Addr} {fd : FuncData} (Fn : Fun K "ask_enough" "ask_enough" s_ask_enough f fd) (Nm : Names0 mg)  :
    FnOk P w K mg base CX0 1 f fd ["coins", "bounds"] sp_ask_enough := by
  refine fn_F Fn sc_ask_enough (s_c (s_1 s_n)) rfl rfl (fun cdv Ar outer s H EX hr => ?_)
  refine ⟨_, (pss_one (ps_if (pt_cmpR op_gt (pv 0) (pe_callB (cr_sum rfl) (by rfl) Nm.n_sum bt_sum (pa_cons (pv 1) pa_nil)) (nomark _)) pss_never pss_nil)), _, _, _,
  (ds_if (dt_test (de_opB (de_var a0) (de_sum (de_cv (de_var (aS a0)) cv_IF)))) ds_never ds_next), ?_⟩
  intro x hx
  refine ⟨⟨trivial, trivial⟩, fun h => ?_, fun _ => fun _ => rfl⟩
  have h1 := of_decide_eq_true h
  have h2 : x.1 ≤ x.2.sum := hx
  exact absurd h1 (Int.not_lt.mpr h2)
abbrev s_level_of : Stmt := top 9
abbrev ns_level_of : List Str := ["coins", "bounds", "level", "rest", "ranked", "k", "many", "step"]
theorem sc_level_of : FnScope ns_level_of ["coins", "bounds"] (defScope s_level_of) := ⟨rfl, rfl, rfl, by decide +kernel, rfl, by decide +kernel, by decide +kernel⟩
abbrev sp_level_of : Sp := (spF (arc rInt (ar1 (rList rInt))) p_level rInt m_level)
theorem ok_level_of {f : Addr} {fd : FuncData} (Fn : Fun K "level_of" "level_of" s_level_of f fd) (Nm : Names0 mg)  :
    FnOk P w K mg base CX0 1 f fd ["coins", "bounds"] sp_level_of := by
  refine fn_F Fn sc_level_of (s_c (s_1 (s_a (s_a (s_a (s_a (s_a (s_a s_n)))))))) rfl rfl (fun cdv Ar outer s H EX hr => ?_)
  refine ⟨_, (pss_cons (ps_set (i := 2) sc_level_of.nd rfl (Or.inl rfl) pe_int)
    (pss_cons (ps_set (i := 3) sc_level_of.nd rfl (Or.inl rfl) (pv 0))
    (pss_cons (ps_set (i := 4) sc_level_of.nd rfl (Or.inl rfl) (pe_callB cr_sortedI (by rfl) Nm.n_sorted bt_sorted (pa_cons (pv 1) pa_nil)))
    (pss_cons (ps_for PassesOwn.never rfl (pi_range1 (by rfl) Nm.n_range (pa_cons (pe_callB call_len (by rfl) Nm.n_len bt_len (pa_cons (pv 4) pa_nil)) pa_nil)) (pg_name (i := 5) sc_level_of.nd rfl (Or.inl rfl))
    (pss_cons (ps_set (i := 6) sc_level_of.nd rfl (Or.inl rfl) (pe_op op_sub (pe_callB call_len (by rfl) Nm.n_len bt_len (pa_cons (pv 4) pa_nil)) (pv 5)))
    (pss_cons (ps_set (i := 7) sc_level_of.nd rfl (Or.inl rfl) (pe_op op_mulX (pe_op op_sub (pe_ix ix_list (pv 4) (pv 5) (fun _ _ => rfl)) (pv 2)) (pv 6)))
    (pss_cons (ps_if (pt_cmpR op_gt (pv 7) (pv 3) (nomark _)) (pss_one (ps_ret (pe_op op_add (pv 2) (pe_op op_fdivW (pv 3) (pv 6))))) pss_nil)
    (pss_cons (ps_set (i := 3) sc_level_of.nd rfl (Or.inl rfl) (pe_op op_sub (pv 3) (pv 7)))
    (pss_one (ps_set (i := 2) sc_level_of.nd rfl (Or.inl rfl) (pe_ix ix_list (pv 4) (pv 5) (fun _ _ => rfl)))))))))
    (pss_one (ps_ret (pv 2))))))), Unit, cN, _,
  (ds_seq (ds_set de_int (pS (pS p0)))
    (ds_seq (ds_set (de_var a0) (pS (pS (pS p0))))
    (ds_seq (ds_set (de_cv (de_cv (de_sortI (de_cv (de_var (aS a0)) cv_IF)) (cv_LG fl_int.to gt_N)) (cv_LI gn_N)) (pS (pS (pS (pS p0)))))
    (ds_seq (ds_forR1 (da_1 (de_len (de_cv (de_var (aS (aS (aS (aS a0))))) cv_IFI))) (pS (pS (pS (pS (pS p0)))))
    (ds_post (ds_seq (ds_set (de_op0 (de_len (de_cv (de_var (aS (aS (aS (aS a0))))) cv_IFI)) (de_var (aS (aS (aS (aS (aS a0))))))) (pS (pS (pS (pS (pS (pS p0)))))))
    (ds_seq (ds_set (de_opI (de_op0 (de_cv (de_ixI (de_var (aS (aS (aS (aS a0))))) (de_var (aS (aS (aS (aS (aS a0))))))) cv_II) (de_var (aS (aS a0)))) (de_var (aS (aS (aS (aS (aS (aS a0)))))))) (pS (pS (pS (pS (pS (pS (pS p0))))))))
    (ds_seq (ds_if (dt_test (de_opB (de_var (aS (aS (aS (aS (aS (aS (aS a0)))))))) (de_var (aS (aS (aS a0)))))) (ds_ret (de_cv (de_cv (de_op0 (de_var (aS (aS a0))) (de_opI (de_var (aS (aS (aS a0)))) (de_var (aS (aS (aS (aS (aS (aS a0))))))))) (cv_toI fl_int.to gt_N)) cv_IF) (fun q => q)) ds_next)
    (ds_seq (ds_set (de_op0 (de_var (aS (aS (aS a0)))) (de_var (aS (aS (aS (aS (aS (aS (aS a0))))))))) (pS (pS (pS p0))))
    (ds_set (de_cv (de_ixI (de_var (aS (aS (aS (aS a0))))) (de_var (aS (aS (aS (aS (aS a0))))))) cv_II) (pS (pS p0))))))) (sS sk_id (sS sk_id (sS sk_id (sS sk_id (sS sk_id (sS sk_any (sS sk_any (sS sk_any sN))))))))))
    (ds_ret (de_cv (de_cv (de_var (aS (aS a0))) (cv_toI fl_int.to gt_N)) cv_IF) (fun q => q)))))), ?_⟩
  rintro ⟨c, bs⟩ h4
  have h4 : bs.length ≤ 90 := h4
  simp only [T0, koN, koX, true_and, and_true, implies_true, and_self, decide_eq_true_eq, decide_eq_false_iff_not, Bool.and_eq_true, Bool.or_eq_true, Bool.and_eq_false_iff, Bool.or_eq_false_iff, Bool.not_eq_true', Bool.not_eq_false', if_true, Bool.false_eq_true, if_false]
  intro level hl rest hr ranked hk
  have hn : ranked.length = bs.length := by rw [hk]; exact (isort_perm bs).length_eq
  refine ⟨by omega, by omega, ?_⟩
  refine loopW_ix ranked (fun s : Int × Int × Unit => (c, bs, s.1, s.2.1, ranked, (), (), (), ())) (fun pre post s => m_level (c, bs) = lv s.1 s.2.1 post) rfl (level, rest, ()) (by rw [hl, hr, hk]; rfl) ?_ ?_
  · rintro pre x post ⟨level, rest, _⟩ k' e h h1 h2 h3 h4 h5
    dsimp only at h ⊢
    have hlen : ranked.length = pre.length + (post.length + 1) := by rw [e]; simp
    have gx : gi ranked (pre.length : Int) = x := by rw [e]; exact gi_app
    have hi : inb ranked (pre.length : Int) := ⟨by omega, by omega⟩
    refine fun many hm => ⟨⟨hi, mulOkR (by omega) (by omega)⟩, fun step hs => ⟨fun hlt => ⟨divOk64 (by omega) (by omega), ?_⟩, fun hge => fun r2 hr2 => ⟨hi, fun l2 hl2 => ?_⟩⟩⟩
    · have em : many = (post.length : Int) + 1 := by omega
      rw [gx] at hs
      rw [h1]
      show _ = m_level (c, bs)
      rw [h, lv, if_pos (by rw [← em, ← hs]; exact hlt), em]
    · have em : many = (post.length : Int) + 1 := by omega
      rw [gx] at hs hl2
      exact h5 (l2, r2, ()) (by rw [h, lv, if_neg (by rw [← em, ← hs]; omega), hl2, hr2, hs, em])
  · rintro ⟨level, rest, _⟩ h
    exact h.symm
abbrev s_ask_order : Stmt := top 13
abbrev ns_ask_order : List Str := ["order", "k"]
theorem sc_ask_order : FnScope ns_ask_order ["order"] (defScope s_ask_order) := ⟨rfl, rfl, rfl, by decide +kernel, rfl, by decide +kernel, by decide +kernel⟩
abbrev sp_ask_order (K : PySem.W.Frag) : Sp := (spX K (ar1 (rList rStr)) p_order rNon m_order)
theorem ok_ask_order {f : Addr} {fd : FuncData} (Fn : Fun K "ask_order" "ask_order" s_ask_order f fd) (Nm : Names0 mg) (Z : Consts K mg) (Er : Errs K mg nsL csL)  :
    FnOk P w K mg base (L2.CX P w) 1 f fd ["order"] (sp_ask_order K) := by
  refine fn_X Fn sc_ask_order (s_1 (s_a s_n)) rfl rfl (fun cdv Ar outer s H EX hr => ?_)
  refine ⟨_, (pss_one (ps_for (passes_of rfl) rfl (pi_range1 (by rfl) Nm.n_range (pa_cons (pe_callB call_len (by rfl) Nm.n_len bt_len (pa_cons (pv 0) pa_nil)) pa_nil)) (pg_name (i := 1) sc_ask_order.nd rfl (Or.inl rfl))
    (pss_one (ps_if (pw_or (pt_cmpR op_notIn_seq (pe_ix ix_list (pv 0) (pv 1) (fun _ _ => rfl)) (pe_glob (by rfl) Z.LAYERS rr) (by with_unfolding_all rfl)) (pw_or1 (pt_cmpR op_in_seq (pe_ix ix_list (pv 0) (pv 1) (fun _ _ => rfl)) (pe_slice sl_list (pv 0) po_none (po_some (pv 1))) (by with_unfolding_all rfl)))).pt (pss_one (ps_raiseQ rfl (takes_of rfl rfl rfl rfl) (Er.gl "NoLayer") (Er.exc "NoLayer"))) pss_nil)))), _, _, _,
  (ds_forR1 (da_1 (de_len (de_cv (de_var a0) cv_IF))) (pS p0)
    (ds_post (ds_if (dt_or (dt_test (de_inC (neg := true) Z.LAYERS_is (de_ixI (de_var a0) (de_var (aS a0))))) (dt_test (de_inS (neg := false) (de_ixI (de_var a0) (de_var (aS a0))) (de_cv (de_cv (de_slice (de_var a0) do_none (do_some (de_var (aS a0)))) (cv_LI gn_I)) cv_IF)))) (ds_raise sub_top rfl) ds_next) (sS sk_id (sS sk_any sN)))), ?_⟩
  rintro o h4
  have h4 : o.length ≤ 90 := h4
  simp only [T0, koN, koX, true_and, and_true, implies_true, and_self, decide_eq_true_eq, decide_eq_false_iff_not, Bool.and_eq_true, Bool.or_eq_true, Bool.and_eq_false_iff, Bool.or_eq_false_iff, Bool.not_eq_true', Bool.not_eq_false', if_true, Bool.false_eq_true, if_false]
  refine ⟨by omega, by omega, ?_⟩
  refine loopW_ind (fun s : Unit => (o, (), ())) (fun pre post s => ∀ k ∈ pre, ¬ badAt o k) () (by intro k hk; cases hk) ?_ ?_
  · rintro pre k post ⟨⟩ k' e h h1 h2 h3 h4 h5
    obtain ⟨ek, hlt⟩ := irange_split e
    have hk : inb o k := ⟨by omega, by omega⟩
    have hc : cuti o none (some k) = o.take k.toNat := cuti_take hk.1
    dsimp only
    rw [hc]
    have hj : ∀ j ∈ pre ++ [k], ¬ badAt o j → True := fun _ _ _ => trivial
    refine ⟨⟨hk, fun _ => hk⟩, fun hb => ?_, fun hb => h5 () fun j hj => ?_⟩
    · rw [h2]
      show m_order o = _
      unfold m_order
      rw [if_pos ⟨k, by rw [e]; simp, hb⟩]
    · rcases List.mem_append.mp hj with hj | hj
      · exact h j hj
      · rw [List.mem_singleton.mp hj]
        exact fun z => z.elim (fun z => z hb.1) (fun z => hb.2 z)
  · intro _ h
    refine ⟨(), ?_, fun _ => rfl⟩
    unfold m_order
    rw [if_neg fun ⟨k, hk, hb⟩ => h k hk hb]
abbrev s_own_row : Stmt := top 14
abbrev ns_own_row : List Str := ["rests", "stock", "given", "k"]
theorem sc_own_row : FnScope ns_own_row ["rests", "stock"] (defScope s_own_row) := ⟨rfl, rfl, rfl, by decide +kernel, rfl, by decide +kernel, by decide +kernel⟩
abbrev sp_own_row : Sp := (spF (arc (rList rInt) (ar1 (rList rInt))) p_own_row (rTup (fc (rList rInt) (f1 (rList rInt)))) m_own_row)
theorem ok_own_row {f : Addr} {fd : FuncData} (Fn : Fun K "own_row" "own_row" s_own_row f fd) (Nm : Names0 mg)  :
    FnOk P w K mg base CX0 1 f fd ["rests", "stock"] sp_own_row := by
  refine fn_F Fn sc_own_row (s_c (s_1 (s_a (s_a s_n)))) rfl rfl (fun cdv Ar outer s H EX hr => ?_)
  refine ⟨_, (pss_cons (ps_setLc (i := 2) (own := [("k", 3)]) (g := gName 3) (tt := tYes) rfl sc_own_row.nd rfl rfl (sw_true rfl rfl rfl (by decide +kernel)) (pi_range1 (by rfl) Nm.n_range (pa_cons (pe_callB call_len (by rfl) Nm.n_len bt_len (pa_cons (pv 0) pa_nil)) pa_nil)) (blkOk_by (N := ns_own_row) (sc := defScope s_own_row) (by decide +kernel)) (fun _ _ _ _ _ => pg_name (i := 3) sc_own_row.nd rfl (by first | exact Or.inl rfl | exact Or.inr rfl)) (fun _ _ _ _ _ => pts_nil) (fun _ _ _ _ _ => (pe_callB (call_min2 rfl) (by rfl) Nm.n_min bt_min (pa_cons (pe_ix ix_list (pv 0) (pv 3) (fun _ _ => rfl)) (pa_cons (pe_ix ix_list (pv 1) (pv 3) (fun _ _ => rfl)) pa_nil)))))
    (pss_one (ps_ret (pe_tup (pa_cons (pv 2) (pa_cons (pe_op op_cat (pv 2) (pe_lst (pa_cons pe_int pa_nil))) pa_nil)))))), Unit, cN, _,
  (ds_seq (ds_set (de_cv (de_cv (de_lcR1y (da_1 (de_len (de_cv (de_var a0) cv_IF))) (pS (pS (pS p0))) (de_min2 (de_ixI (de_var a0) (de_var (aS (aS (aS a0))))) (de_ixI (de_var (aS a0)) (de_var (aS (aS (aS a0))))))) (cv_LG fl_int.to gt_N)) (cv_LI gn_N)) (pS (pS p0)))
    (ds_ret (de_cv (de_tup gn_N (df_c (de_var (aS (aS a0))) (df_1 (de_cv (de_cat (de_var (aS (aS a0))) (de_cv (de_lst (di_c (de_cv de_int (cv_toI fl_int.to gt_N)) (di_0 (r := rInt))) (by decide +kernel)) (cv_LI gn_N))) (cv_LI gn_N)))) (by decide +kernel)) cv_IF) (fun q => q))), ?_⟩
  rintro ⟨rs, st⟩ ⟨h1, h2⟩
  dsimp only at h1 h2
  simp only [T0, koN, koX, true_and, and_true, implies_true, and_self, decide_eq_true_eq, decide_eq_false_iff_not, Bool.and_eq_true, Bool.or_eq_true, Bool.and_eq_false_iff, Bool.or_eq_false_iff, Bool.not_eq_true', Bool.not_eq_false', if_true, Bool.false_eq_true, if_false]
  refine ⟨⟨⟨by omega, by omega, sl100 (by omega)⟩, fun k hk => ?_⟩, fun x hx => ⟨?_, ?_⟩⟩
  · have := irange_mem hk
    exact ⟨this, this.1, by omega⟩
  · rw [hx, List.length_map, irange_len]
    exact Nat.le_trans (m := 100) (by simp; omega) (by decide)
  · rw [hx]; rfl
abbrev s__law_cell : Stmt := top 18
abbrev ns__law_cell : List Str := ["script", "k"]
theorem sc__law_cell : FnScope ns__law_cell ["script", "k"] (defScope s__law_cell) := ⟨rfl, rfl, rfl, by decide +kernel, rfl, by decide +kernel, by decide +kernel⟩
abbrev sp__law_cell (K : PySem.W.Frag) : Sp := (spF (arc (rScr K) (ar1 rInt)) T0 rInt m_cell)
theorem ok__law_cell {f : Addr} {fd : FuncData} (Fn : Fun K "_law_cell" "_law_cell" s__law_cell f fd) (Nm : Names0 mg)  :
    FnOk P w K mg base CX0 1 f fd ["script", "k"] (sp__law_cell K) := by
  refine fn_F Fn sc__law_cell (s_c (s_1 s_n)) rfl rfl (fun cdv Ar outer s H EX hr => ?_)
  refine ⟨_, (pss_cons (ps_if (pt_cmpR op_eq (pe_callB call_len (by rfl) Nm.n_len bt_len (pa_cons (pv 0) pa_nil)) pe_int (nomark _)) (pss_one (ps_ret pe_int)) pss_nil)
    (pss_one (ps_ret (pe_ix ix_list (pv 0) (pe_op op_mod (pv 1) (pe_callB call_len (by rfl) Nm.n_len bt_len (pa_cons (pv 0) pa_nil))) (fun _ _ => rfl))))), Unit, cN, _,
  (ds_seq (ds_if (dt_test (de_eqI (de_lenScr (de_var a0)) de_int)) (ds_ret (de_cv (de_cv de_int (cv_toI fl_int.to gt_N)) cv_IF) (fun q => q)) ds_next)
    (ds_ret (de_cv (de_cv (de_ixS (de_var a0) (de_opI (de_var (aS a0)) (de_lenScr (de_var a0)))) (cv_toI fl_int.to gt_N)) cv_IF) (fun q => q))), ?_⟩
  rintro ⟨s, k⟩ _
  simp only [T0, koN, koX, true_and, and_true, implies_true, and_self, decide_eq_true_eq, decide_eq_false_iff_not, Bool.and_eq_true, Bool.or_eq_true, Bool.and_eq_false_iff, Bool.or_eq_false_iff, Bool.not_eq_true', Bool.not_eq_false', if_true, Bool.false_eq_true, if_false]
  refine ⟨fun h => ?_, fun h => ⟨⟨by omega, ?_⟩, ?_⟩⟩
  · unfold m_cell; rw [if_pos h]
  · exact ⟨Int.emod_nonneg _ h, Int.emod_lt_of_pos _ (by omega)⟩
  · unfold m_cell; rw [if_neg h]
abbrev s__law_mended : Stmt := top 22
abbrev ns__law_mended : List Str := ["order", "mended", "word"]
theorem sc__law_mended : FnScope ns__law_mended ["order"] (defScope s__law_mended) := ⟨rfl, rfl, rfl, by decide +kernel, rfl, by decide +kernel, by decide +kernel⟩
abbrev sp__law_mended : Sp := (spF (ar1 (rList rStr)) p_order (rList rStr) m_mended)
theorem ok__law_mended {f : Addr} {fd : FuncData} (Fn : Fun K "_law_mended" "_law_mended" s__law_mended f fd) (Nm : Names0 mg)  :
    FnOk P w K mg base CX0 1 f fd ["order"] sp__law_mended := by
  refine fn_F Fn sc__law_mended (s_1 (s_a (s_a s_n))) rfl rfl (fun cdv Ar outer s H EX hr => ?_)
  refine ⟨_, (pss_cons (ps_set (i := 1) sc__law_mended.nd rfl (Or.inl rfl) (pe_lst pa_nil))
    (pss_cons (ps_for PassesOwn.never rfl (pi_list (pv 0)) (pg_name (i := 2) sc__law_mended.nd rfl (Or.inl rfl))
    (pss_one (ps_if (pw_and (pt_cmpR op_in_seq (pv 2) (pe_lst (pa_cons pe_str (pa_cons pe_str (pa_cons pe_str (pa_cons pe_str (pa_cons pe_str pa_nil)))))) (by with_unfolding_all rfl)) (pw_and1 (pt_cmpR op_notIn_seq (pv 2) (pv 1) (by with_unfolding_all rfl)))).pt (pss_one (ps_expr (pe_bm PySem.F.plainAttrs_list PySem.F.slot_list_append PySem.F.type_list_append mt_append (pv 1) (pa_cons (pv 2) pa_nil)))) pss_nil)))
    (pss_one (ps_ret (pv 1))))), Unit, cN, _,
  (ds_seq (ds_setL (de_lst (di_0 (r := rStr)) (by decide +kernel)) (pS p0))
    (ds_seq (ds_forL (de_var a0) (pS (pS p0))
    (ds_post (ds_if (dt_and (dt_test (de_inS (neg := false) (de_var (aS (aS a0))) (de_cv (de_cv (de_cv (de_lst (di_c (de_cv de_str (cv_toI fl_str.to gt_N)) (di_c (de_cv de_str (cv_toI fl_str.to gt_N)) (di_c (de_cv de_str (cv_toI fl_str.to gt_N)) (di_c (de_cv de_str (cv_toI fl_str.to gt_N)) (di_c (de_cv de_str (cv_toI fl_str.to gt_N)) (di_0 (r := rStr))))))) (by decide +kernel)) (cv_LI gn_N)) cv_II) cv_IF))) (dt_test (de_inS (neg := true) (de_var (aS (aS a0))) (de_cv (de_varL gn_N (aS a0)) cv_FF)))) (ds_app (lS l0) (de_cv (de_var (aS (aS a0))) (cv_toI fl_str.to gt_N))) ds_next) (sS sk_id (sS sk_id (sS sk_any sN)))))
    (ds_ret (de_varL gn_N (aS a0)) (fun q => q)))), ?_⟩
  rintro o h4
  have h4 : o.length ≤ 90 := h4
  simp only [T0, koN, koX, true_and, and_true, implies_true, and_self, decide_eq_true_eq, decide_eq_false_iff_not, Bool.and_eq_true, Bool.or_eq_true, Bool.and_eq_false_iff, Bool.or_eq_false_iff, Bool.not_eq_true', Bool.not_eq_false', if_true, Bool.false_eq_true, if_false]
  intro m hm
  refine loopW_at (fun m : List Str => (o, m, (), ())) (fun m w => if w ∈ layersL ∧ w ∉ m then m ++ [w] else m) (fun pre m => m.length ≤ pre.length) (pre := []) (s := m) (by rw [hm]; exact Nat.le_refl _) ?_ ?_
  · rintro pre w post m k' e hI hnx
    have hl := congrArg List.length e
    simp at hl
    dsimp only
    refine ⟨fun (ht : w ∈ layersL ∧ w ∉ m) => ⟨Nat.lt_of_le_of_lt (m := 90) (by omega) (by decide), ?_⟩, fun hf => ?_⟩
    · rw [if_pos ht] at hnx
      exact hnx (by simp; omega)
    · rw [if_neg fun (z : w ∈ layersL ∧ w ∉ m) => hf.elim (fun h => h z.1) (fun h => by first | exact z.2 h | exact h z.2)] at hnx
      exact hnx (by simp; omega)
  · intro _
    unfold m_mended
    rw [hm]
abbrev s__law_rows : Stmt := top 24
abbrev ns__law_rows : List Str := ["found", "order", "k"]
theorem sc__law_rows : FnScope ns__law_rows ["found", "order"] (defScope s__law_rows) := ⟨rfl, rfl, rfl, by decide +kernel, rfl, by decide +kernel, by decide +kernel⟩
abbrev sp__law_rows : Sp := (spF (arc (rTup (fc rStr (f1 (rAlt rBool (rTup (fc (rList (rTup (fc rStr (fc (rList rInt) (f1 (rList rInt)))))) (f1 (rList rInt)))))))) (ar1 (rList rStr))) p_rows rBool m_rows)
theorem ok__law_rows {f : Addr} {fd : FuncData} (Fn : Fun K "_law_rows" "_law_rows" s__law_rows f fd) (Nm : Names0 mg)  :
    FnOk P w K mg base CX0 1 f fd ["found", "order"] sp__law_rows := by
  refine fn_F Fn sc__law_rows (s_c (s_1 (s_a s_n))) rfl rfl (fun cdv Ar outer s H EX hr => ?_)
  refine ⟨_, (pss_cons (ps_if (pw_or (pt_cmpR op_ne (pe_ix ix_tup (pv 0) pe_int (fun _ _ => rfl)) pe_str (nomark _)) (pw_or (pt_not (pt_val (pe_callB call_isi (by rfl) Nm.n_isinstance bt_isinstance (pa_cons (pe_ix ix_tup (pv 0) pe_int (fun _ _ => rfl)) (pa_cons (pe_bltn (by rfl) Nm.n_tuple bt_tuple rty) pa_nil))))) (pw_or1 (pt_cmpR op_ne (pe_callB call_len (by rfl) Nm.n_len bt_len (pa_cons (pe_ix ix_tup (pv 0) pe_int (fun _ _ => rfl)) pa_nil)) pe_int (nomark _))))).pt (pss_one (ps_ret pe_bl)) pss_nil)
    (pss_cons (ps_if (pw_or (pt_not (pt_val (pe_callB call_isi (by rfl) Nm.n_isinstance bt_isinstance (pa_cons (pe_ix ix_tup (pe_ix ix_tup (pv 0) pe_int (fun _ _ => rfl)) pe_int (fun _ _ => rfl)) (pa_cons (pe_bltn (by rfl) Nm.n_list bt_list rty) pa_nil))))) (pw_or1 (pt_cmpR op_ne (pe_callB call_len (by rfl) Nm.n_len bt_len (pa_cons (pe_ix ix_tup (pe_ix ix_tup (pv 0) pe_int (fun _ _ => rfl)) pe_int (fun _ _ => rfl)) pa_nil)) (pe_callB call_len (by rfl) Nm.n_len bt_len (pa_cons (pv 1) pa_nil)) (nomark _)))).pt (pss_one (ps_ret pe_bl)) pss_nil)
    (pss_cons (ps_for PassesOwn.never rfl (pi_range1 (by rfl) Nm.n_range (pa_cons (pe_callB call_len (by rfl) Nm.n_len bt_len (pa_cons (pv 1) pa_nil)) pa_nil)) (pg_name (i := 2) sc__law_rows.nd rfl (Or.inl rfl))
    (pss_one (ps_if (pw_or (pt_not (pt_val (pe_callB call_isi (by rfl) Nm.n_isinstance bt_isinstance (pa_cons (pe_ix ix_list (pe_ix ix_tup (pe_ix ix_tup (pv 0) pe_int (fun _ _ => rfl)) pe_int (fun _ _ => rfl)) (pv 2) (fun _ _ => rfl)) (pa_cons (pe_bltn (by rfl) Nm.n_tuple bt_tuple rty) pa_nil))))) (pw_or1 (pt_cmpR (op_neD hr.units) (pe_slice sl_tup (pe_ix ix_list (pe_ix ix_tup (pe_ix ix_tup (pv 0) pe_int (fun _ _ => rfl)) pe_int (fun _ _ => rfl)) (pv 2) (fun _ _ => rfl)) po_none (po_some pe_int)) (pe_tup (pa_cons (pe_ix ix_list (pv 1) (pv 2) (fun _ _ => rfl)) pa_nil)) (nomark _)))).pt (pss_one (ps_ret pe_bl)) pss_nil)))
    (pss_one (ps_ret pe_bl))))), Unit, cN, _,
  (ds_seq (ds_if (dt_or (dt_test (de_neS (de_fld (n := 0) (de_var a0) fn_0) de_str)) (dt_or (dt_not (dt_B (de_isiA (c := false) (d := true) ty_bool ty_tup (by decide +kernel) (by decide +kernel) (de_cv (de_fld (n := 1) (de_var a0) (fn_S fn_l)) cv_IF)))) (dt_test (de_neI (de_lenTup (fl_c fl_1) (de_cv (de_getR (de_fld (n := 1) (de_var a0) (fn_S fn_l))) cv_IF)) de_int)))) (ds_ret (de_cv (de_cv de_bool (cv_toI fl_bool.to gt_N)) cv_IF) (fun q => q)) ds_next)
    (ds_seq (ds_if (dt_or (dt_not (dt_B (de_isi (c := true) ty_list (by decide +kernel) (de_cv (de_fld (n := 0) (de_getR (de_fld (n := 1) (de_var a0) (fn_S fn_l))) fn_0) cv_IF)))) (dt_test (de_neI (de_len (de_cv (de_fld (n := 0) (de_getR (de_fld (n := 1) (de_var a0) (fn_S fn_l))) fn_0) cv_IF)) (de_len (de_cv (de_var (aS a0)) cv_IF))))) (ds_ret (de_cv (de_cv de_bool (cv_toI fl_bool.to gt_N)) cv_IF) (fun q => q)) ds_next)
    (ds_seq (ds_forR1 (da_1 (de_len (de_cv (de_var (aS a0)) cv_IF))) (pS (pS p0))
    (ds_post (ds_if (dt_or (dt_not (dt_B (de_isi (c := true) ty_tup (by decide +kernel) (de_cv (de_ixI (de_fld (n := 0) (de_getR (de_fld (n := 1) (de_var a0) (fn_S fn_l))) fn_0) (de_var (aS (aS a0)))) cv_IF)))) (dt_test (de_neD (en_tup (enf_1 en_str)) (de_cv (de_head1 gn_I (fl_c fl_1) (by decide) (de_ixI (de_fld (n := 0) (de_getR (de_fld (n := 1) (de_var a0) (fn_S fn_l))) fn_0) (de_var (aS (aS a0))))) cv_IF) (de_cv (de_tup gn_N (df_1 (de_cv (de_ixI (de_var (aS a0)) (de_var (aS (aS a0)))) (cv_toI fl_str.to gt_N))) (by decide +kernel)) cv_IFI)))) (ds_ret (de_cv (de_cv de_bool (cv_toI fl_bool.to gt_N)) cv_IF) (fun q => q)) ds_next) (sS sk_id (sS sk_id (sS sk_any sN)))))
    (ds_ret (de_cv (de_cv de_bool (cv_toI fl_bool.to gt_N)) cv_IF) (fun q => q))))), ?_⟩
  rintro ⟨⟨t, y⟩, o⟩ ⟨h1, h2, h3⟩
  dsimp only at h1 h2 h3
  simp only [T0, koN, koX, true_and, and_true, implies_true, and_self, decide_eq_true_eq, decide_eq_false_iff_not, Bool.and_eq_true, Bool.or_eq_true, Bool.and_eq_false_iff, Bool.or_eq_false_iff, Bool.not_eq_true', Bool.not_eq_false', if_true, Bool.false_eq_true, if_false]
  have hm : ∀ b : Bool, (b = true ↔ rowsOk (t, y) o) → b = m_rows ((t, y), o) := fun b h => by
    unfold m_rows
    cases b with
    | true => exact (decide_eq_true (h.mp rfl)).symm
    | false => exact (decide_eq_false fun z => by have := h.mpr z; cases this).symm
  refine ⟨fun ht _ => ?_, fun hf => hm _ ⟨fun h => (by cases h), fun z => ?_⟩, fun ⟨ht, _, _⟩ => ?_⟩
  · obtain ⟨z, e, _⟩ := h3 ht
    rw [e]; rfl
  · obtain ⟨z1, z, e, _⟩ := z
    dsimp only at z1 e
    rw [e] at hf
    rcases hf with hf | hf | hf
    · exact absurd z1 hf
    · cases hf
    · exact absurd rfl hf
  · obtain ⟨z, e, hz⟩ := h3 ht
    subst e
    refine ⟨⟨rfl, fun _ => rfl⟩, fun hf => hm _ ⟨fun h => (by cases h), fun q => ?_⟩, fun hl => ?_⟩
    · obtain ⟨_, z', e, ez⟩ := q
      cases e
      rcases hf with hf | hf
      · cases hf
      · have ez : z.1.map (fun r => r.1) = o := ez
        have ez2 : (z.1.length : Int) = (o.length : Int) := by rw [← ez, List.length_map]
        exact absurd ez2 hf
    · have hl : z.1.length = o.length := by
        have hl : (z.1.length : Int) = (o.length : Int) := hl
        omega
      refine ⟨by omega, by omega, ?_⟩
      refine loopW_ix o (fun s : Unit => ((t, (Sum.inr z : Bool ⊕ Told)), o, (), ())) (fun pre post s => z.1.map (fun r => r.1) = pre ++ (z.1.drop pre.length).map (fun r => r.1)) rfl () rfl ?_ ?_
      · rintro pre w post ⟨⟩ k' e hI e1 e2 e3 e4 nx
        have hol := congrArg List.length e
        simp at hol
        have ho : inb o (pre.length : Int) := ⟨by omega, by omega⟩
        have hz' : inb z.1 (pre.length : Int) := ⟨by omega, by omega⟩
        have ew : gi o (pre.length : Int) = w := by rw [e]; exact gi_app
        have hlt : pre.length < z.1.length := by omega
        have ez : gi z.1 (pre.length : Int) = z.1[pre.length] := by unfold gi; rw [List.getD_eq_getElem?_getD]; simp [hlt]
        have ed : z.1.drop pre.length = z.1[pre.length] :: z.1.drop (pre.length + 1) := List.drop_eq_getElem_cons hlt
        rw [ed, List.map_cons] at hI
        refine ⟨⟨⟨rfl, hz'⟩, fun _ => ⟨⟨rfl, hz'⟩, ho, okT_ok (hz _ (gi_mem hz')), okT_ok (h2 _ (gi_mem ho))⟩⟩, fun hf => ?_, fun hq => nx () ?_⟩
        · rw [e1]
          refine hm _ ⟨fun h => (by cases h), fun q => ?_⟩
          obtain ⟨_, z', e', ez'⟩ := q
          cases e'
          rcases hf with hf | hf
          · cases hf
          · refine absurd ?_ hf
            have ez' : z.1.map (fun r => r.1) = o := ez'
            show (gi z.1 (pre.length : Int)).1 = gi o (pre.length : Int)
            rw [ew, ez]
            rw [hI, e] at ez'
            exact (List.cons.inj (List.append_cancel_left ez')).1
        · have hq : (gi z.1 (pre.length : Int)).1 = gi o (pre.length : Int) := hq
          rw [ew, ez] at hq
          rw [hI, hq]
          simp
      · rintro ⟨⟩ hI
        refine hm _ ⟨fun _ => ⟨‹_›, z, rfl, ?_⟩, fun _ => rfl⟩
        show z.1.map (fun r => r.1) = o
        rw [hI, List.drop_of_length_le (by omega)]
        simp
abbrev s_by_shares : Stmt := top 8
abbrev ns_by_shares : List Str := ["coins", "bounds", "whole", "bound", "borne", "over", "k"]
theorem sc_by_shares : FnScope ns_by_shares ["coins", "bounds"] (defScope s_by_shares) := ⟨rfl, rfl, rfl, by decide +kernel, rfl, by decide +kernel, by decide +kernel⟩
abbrev sp_by_shares : Sp := (spF (arc rInt (ar1 (rList rInt))) p_shares (rList rInt) m_shares)
theorem ok_by_shares {f : Addr} {fd : FuncData} (Fn : Fun K "by_shares" "by_shares" s_by_shares f fd) (Nm : Names0 mg) (cask_enough : Cal P w K mg base CX0 1 "ask_enough" ["coins", "bounds"] sp_ask_enough) :
    FnOk P w K mg base CX0 2 f fd ["coins", "bounds"] sp_by_shares := by
  refine fn_F Fn sc_by_shares (s_c (s_1 (s_a (s_a (s_a (s_a (s_a s_n))))))) rfl rfl (fun cdv Ar outer s H EX hr => ?_)
  refine ⟨_, (pss_cons (ps_expr (pe_cal cask_enough (hr.mono (by decide)) (pa_cons (pv 0) (pa_cons (pv 1) pa_nil))))
    (pss_cons (ps_set (i := 2) sc_by_shares.nd rfl (Or.inr rfl) (pe_callB (cr_sum rfl) (by rfl) Nm.n_sum bt_sum (pa_cons (pv 1) pa_nil)))
    (pss_cons (ps_if (pt_cmpR op_eq (pv 2) pe_int (nomark _)) (pss_one (ps_ret (pe_lc (own := [("bound", 3)]) (g := gName 3) (tt := tYes) rfl sc_by_shares.nd (pi_list (pv 1)) (blkOk_by (N := ns_by_shares) (sc := defScope s_by_shares) (by decide +kernel)) (fun _ _ _ _ _ => pg_name (i := 3) sc_by_shares.nd rfl (by first | exact Or.inl rfl | exact Or.inr rfl)) (fun _ _ _ _ _ => pts_nil) (fun _ _ _ _ _ => pe_int)))) pss_nil)
    (pss_cons (ps_setLc (i := 4) (own := [("bound", 3)]) (g := gName 3) (tt := tYes) rfl sc_by_shares.nd rfl rfl (sw_true rfl rfl rfl (by decide +kernel)) (pi_list (pv 1)) (blkOk_by (N := ns_by_shares) (sc := defScope s_by_shares) (by decide +kernel)) (fun _ _ _ _ _ => pg_name (i := 3) sc_by_shares.nd rfl (by first | exact Or.inl rfl | exact Or.inr rfl)) (fun _ _ _ _ _ => pts_nil) (fun _ _ _ _ _ => (pe_op op_fdivW (pe_op op_mulX (pv 0) (pv 3)) (pv 2))))
    (pss_cons (ps_set (i := 5) sc_by_shares.nd rfl (Or.inl rfl) (pe_op op_sub (pv 0) (pe_callB (cr_sum rfl) (by rfl) Nm.n_sum bt_sum (pa_cons (pv 4) pa_nil))))
    (pss_cons (ps_for PassesOwn.never rfl (pi_range1 (by rfl) Nm.n_range (pa_cons (pe_callB call_len (by rfl) Nm.n_len bt_len (pa_cons (pv 1) pa_nil)) pa_nil)) (pg_name (i := 6) sc_by_shares.nd rfl (Or.inl rfl))
    (pss_one (ps_if (pw_and (pt_cmpR op_gt (pv 5) pe_int (nomark _)) (pw_and1 (pt_cmpR op_ne (pe_op op_mod (pe_op op_mulX (pv 0) (pe_ix ix_list (pv 1) (pv 6) (fun _ _ => rfl))) (pv 2)) pe_int (nomark _)))).pt (pss_cons (ps_asg (pe_op op_add (pe_ix ix_list (pv 4) (pv 6) (fun _ _ => rfl)) pe_int) (pg_sub (pv 4) (pv 6) set_list))
    (pss_one (ps_set (i := 5) sc_by_shares.nd rfl (Or.inl rfl) (pe_op op_sub (pv 5) pe_int)))) pss_nil)))
    (pss_one (ps_ret (pv 4))))))))), Unit, cN, _,
  (ds_seq (ds_drop (de_callF (dp_c (de_cv (de_var a0) cv_IF) (dp_1 (de_cv (de_var (aS a0)) cv_IF)))))
    (ds_seq (ds_set (de_sum (de_cv (de_var (aS a0)) cv_IF)) (pS (pS p0)))
    (ds_seq (ds_if (dt_test (de_eqI (de_var (aS (aS a0))) de_int)) (ds_ret (de_cv (de_cv (de_cv (de_lcIy (de_var (aS a0)) (pS (pS (pS p0))) de_int) (cv_LG fl_int.to gt_N)) (cv_LI gn_N)) cv_IF) (fun q => q)) ds_next)
    (ds_seq (ds_setL (de_cv (de_lcIy (de_var (aS a0)) (pS (pS (pS p0))) (de_opI (de_opI (de_var a0) (de_var (aS (aS (aS a0))))) (de_var (aS (aS a0))))) (cv_LG fl_int.to gt_N)) (pS (pS (pS (pS p0)))))
    (ds_seq (ds_set (de_op0 (de_var a0) (de_sum (de_cv (de_varL gn_N (aS (aS (aS (aS a0))))) cv_FF))) (pS (pS (pS (pS (pS p0))))))
    (ds_seq (ds_forR1 (da_1 (de_len (de_cv (de_var (aS a0)) cv_IF))) (pS (pS (pS (pS (pS (pS p0))))))
    (ds_post (ds_if (dt_and (dt_test (de_opB (de_var (aS (aS (aS (aS (aS a0)))))) de_int)) (dt_test (de_neI (de_opI (de_opI (de_var a0) (de_ixI (de_var (aS a0)) (de_var (aS (aS (aS (aS (aS (aS a0))))))))) (de_var (aS (aS a0)))) de_int))) (ds_seq (ds_setIx (lS (lS (lS (lS l0)))) (de_cv (de_op0 (de_cv (de_ixF (de_varL gn_N (aS (aS (aS (aS a0))))) (de_var (aS (aS (aS (aS (aS (aS a0)))))))) (cv_to fl_int.to gt_I)) de_int) (cv_toI fl_int.to gt_N)) (de_var (aS (aS (aS (aS (aS (aS a0))))))))
    (ds_set (de_op0 (de_var (aS (aS (aS (aS (aS a0)))))) de_int) (pS (pS (pS (pS (pS p0))))))) ds_next) (sS sk_id (sS sk_id (sS sk_id (sS sk_id (sS sk_id (sS sk_id (sS sk_any sN)))))))))
    (ds_ret (de_varL gn_N (aS (aS (aS (aS a0))))) (fun q => q)))))))), ?_⟩
  rintro ⟨c, bs⟩ ⟨h0, h1, h2, h3, h4⟩
  dsimp only at h0 h1 h2 h3 h4
  simp only [T0, koN, koX, true_and, and_true, implies_true, and_self, decide_eq_true_eq, decide_eq_false_iff_not, Bool.and_eq_true, Bool.or_eq_true, Bool.and_eq_false_iff, Bool.or_eq_false_iff, Bool.not_eq_true', Bool.not_eq_false', if_true, Bool.false_eq_true, if_false]
  refine ⟨h1, fun whole hw => ⟨fun hz => ?_, fun hz => ?_⟩⟩
  · refine ⟨sl100 h4, ?_⟩
    unfold m_shares
    rw [if_pos (show bs.sum = 0 by rw [← hz, hw])]
  · subst hw
    have hpos : 0 < bs.sum := by omega
    have hd : ∀ i, CDivW i bs.sum := fun i => divOk64 hpos (by omega)
    have hm : ∀ i, IntMulOk c i := fun i => mulOkL (by omega) (by omega)
    refine ⟨⟨sl100 h4, fun b hb => ⟨hm _, hd _⟩⟩, fun borne hb over ho => ⟨by omega, by omega, ?_⟩⟩
    refine loopW_to (fun s : List Int × Int => (c, bs, bs.sum, (), s.1, s.2, (), ())) (incStep (shCond c bs)) (fun s => s.1.length = bs.length) (s := (borne, over)) (by rw [hb, List.length_map]) ?_ ?_
    · rintro ⟨s1, s2⟩ k k' hk hI hnx
      have hk := irange_mem hk
      have i1 : inb bs k := hk
      have i2 : inb s1 k := ⟨hk.1, by dsimp only at hI; omega⟩
      have hc : ∀ {p : Prop}, (shCond c bs k = true → p) → ¬ c * gi bs k % bs.sum = 0 → p := fun f z => f (by unfold shCond; simpa using z)
      unfold incStep at hnx
      dsimp only at hnx ⊢
      refine ⟨fun _ => ⟨⟨i1, hm _⟩, hpos⟩, fun ht => ⟨i2, i2, fun x hx => ?_⟩, fun hf => ?_⟩
      · subst hx
        rw [if_pos ⟨ht.1, hc (fun z => z) ht.2⟩] at hnx
        exact hnx (by dsimp only; rw [List.length_set]; exact hI)
      · rw [if_neg fun z => hf.elim (fun h => h z.1) (fun h => by have z2 := z.2; unfold shCond at z2; simp at z2; first | exact absurd z2 h | exact z2 h | omega)] at hnx
        exact hnx hI
    · intro _
      unfold m_shares inc shBase
      rw [if_neg hz, hb, ho, hb, List.length_map]
abbrev s_by_level : Stmt := top 10
abbrev ns_by_level : List Str := ["coins", "bounds", "level", "borne", "bound", "over", "k"]
theorem sc_by_level : FnScope ns_by_level ["coins", "bounds"] (defScope s_by_level) := ⟨rfl, rfl, rfl, by decide +kernel, rfl, by decide +kernel, by decide +kernel⟩
abbrev sp_by_level : Sp := (spF (arc rInt (ar1 (rList rInt))) p_shares (rList rInt) m_bylevel)
theorem ok_by_level {f : Addr} {fd : FuncData} (Fn : Fun K "by_level" "by_level" s_by_level f fd) (Nm : Names0 mg) (cask_enough : Cal P w K mg base CX0 1 "ask_enough" ["coins", "bounds"] sp_ask_enough) (clevel_of : Cal P w K mg base CX0 1 "level_of" ["coins", "bounds"] sp_level_of) :
    FnOk P w K mg base CX0 2 f fd ["coins", "bounds"] sp_by_level := by
  refine fn_F Fn sc_by_level (s_c (s_1 (s_a (s_a (s_a (s_a (s_a s_n))))))) rfl rfl (fun cdv Ar outer s H EX hr => ?_)
  refine ⟨_, (pss_cons (ps_expr (pe_cal cask_enough (hr.mono (by decide)) (pa_cons (pv 0) (pa_cons (pv 1) pa_nil))))
    (pss_cons (ps_set (i := 2) sc_by_level.nd rfl (Or.inr rfl) (pe_cal clevel_of (hr.mono (by decide)) (pa_cons (pv 0) (pa_cons (pv 1) pa_nil))))
    (pss_cons (ps_setLc (i := 3) (own := [("bound", 4)]) (g := gName 4) (tt := tYes) rfl sc_by_level.nd rfl rfl (sw_true rfl rfl rfl (by decide +kernel)) (pi_list (pv 1)) (blkOk_by (N := ns_by_level) (sc := defScope s_by_level) (by decide +kernel)) (fun _ _ _ _ _ => pg_name (i := 4) sc_by_level.nd rfl (by first | exact Or.inl rfl | exact Or.inr rfl)) (fun _ _ _ _ _ => pts_nil) (fun _ _ _ _ _ => (pe_callB (call_min2 rfl) (by rfl) Nm.n_min bt_min (pa_cons (pv 4) (pa_cons (pv 2) pa_nil)))))
    (pss_cons (ps_set (i := 5) sc_by_level.nd rfl (Or.inl rfl) (pe_op op_sub (pv 0) (pe_callB (cr_sum rfl) (by rfl) Nm.n_sum bt_sum (pa_cons (pv 3) pa_nil))))
    (pss_cons (ps_for PassesOwn.never rfl (pi_range1 (by rfl) Nm.n_range (pa_cons (pe_callB call_len (by rfl) Nm.n_len bt_len (pa_cons (pv 1) pa_nil)) pa_nil)) (pg_name (i := 6) sc_by_level.nd rfl (Or.inl rfl))
    (pss_one (ps_if (pw_and (pt_cmpR op_gt (pv 5) pe_int (nomark _)) (pw_and1 (pt_cmpR op_gt (pe_ix ix_list (pv 1) (pv 6) (fun _ _ => rfl)) (pv 2) (nomark _)))).pt (pss_cons (ps_asg (pe_op op_add (pe_ix ix_list (pv 3) (pv 6) (fun _ _ => rfl)) pe_int) (pg_sub (pv 3) (pv 6) set_list))
    (pss_one (ps_set (i := 5) sc_by_level.nd rfl (Or.inl rfl) (pe_op op_sub (pv 5) pe_int)))) pss_nil)))
    (pss_one (ps_ret (pv 3)))))))), Unit, cN, _,
  (ds_seq (ds_drop (de_callF (dp_c (de_cv (de_var a0) cv_IF) (dp_1 (de_cv (de_var (aS a0)) cv_IF)))))
    (ds_seq (ds_set (de_cv (de_callF (dp_c (de_cv (de_var a0) cv_IF) (dp_1 (de_cv (de_var (aS a0)) cv_IF)))) cv_II) (pS (pS p0)))
    (ds_seq (ds_setL (de_cv (de_lcIy (de_var (aS a0)) (pS (pS (pS (pS p0)))) (de_min2 (de_var (aS (aS (aS (aS a0))))) (de_var (aS (aS a0))))) (cv_LG fl_int.to gt_N)) (pS (pS (pS p0))))
    (ds_seq (ds_set (de_op0 (de_var a0) (de_sum (de_cv (de_varL gn_N (aS (aS (aS a0)))) cv_FF))) (pS (pS (pS (pS (pS p0))))))
    (ds_seq (ds_forR1 (da_1 (de_len (de_cv (de_var (aS a0)) cv_IF))) (pS (pS (pS (pS (pS (pS p0))))))
    (ds_post (ds_if (dt_and (dt_test (de_opB (de_var (aS (aS (aS (aS (aS a0)))))) de_int)) (dt_test (de_opB (de_ixI (de_var (aS a0)) (de_var (aS (aS (aS (aS (aS (aS a0)))))))) (de_var (aS (aS a0)))))) (ds_seq (ds_setIx (lS (lS (lS l0))) (de_cv (de_op0 (de_cv (de_ixF (de_varL gn_N (aS (aS (aS a0)))) (de_var (aS (aS (aS (aS (aS (aS a0)))))))) (cv_to fl_int.to gt_I)) de_int) (cv_toI fl_int.to gt_N)) (de_var (aS (aS (aS (aS (aS (aS a0))))))))
    (ds_set (de_op0 (de_var (aS (aS (aS (aS (aS a0)))))) de_int) (pS (pS (pS (pS (pS p0))))))) ds_next) (sS sk_id (sS sk_id (sS sk_id (sS sk_id (sS sk_id (sS sk_id (sS sk_any sN)))))))))
    (ds_ret (de_varL gn_N (aS (aS (aS a0)))) (fun q => q))))))), ?_⟩
  rintro ⟨c, bs⟩ ⟨h0, h1, h2, h3, h4⟩
  dsimp only at h0 h1 h2 h3 h4
  simp only [T0, koN, koX, true_and, and_true, implies_true, and_self, decide_eq_true_eq, decide_eq_false_iff_not, Bool.and_eq_true, Bool.or_eq_true, Bool.and_eq_false_iff, Bool.or_eq_false_iff, Bool.not_eq_true', Bool.not_eq_false', if_true, Bool.false_eq_true, if_false]
  refine ⟨h1, h4, fun level hw => ⟨sl100 h4, fun borne hb over ho => ⟨by omega, by omega, ?_⟩⟩⟩
  · refine loopW_to (fun s : List Int × Int => (c, bs, level, s.1, (), s.2, (), ())) (incStep (lvCond bs level)) (fun s => s.1.length = bs.length) (s := (borne, over)) (by rw [hb, List.length_map]) ?_ ?_
    · rintro ⟨s1, s2⟩ k k' hk hI hnx
      have hk := irange_mem hk
      have i1 : inb bs k := hk
      have i2 : inb s1 k := ⟨hk.1, by dsimp only at hI; omega⟩
      have hc : ∀ {p : Prop}, (lvCond bs level k = true → p) → level < gi bs k → p := fun f z => f (by unfold lvCond; simpa using z)
      unfold incStep at hnx
      dsimp only at hnx ⊢
      refine ⟨fun _ => i1, fun ht => ⟨i2, i2, fun x hx => ?_⟩, fun hf => ?_⟩
      · subst hx
        rw [if_pos ⟨ht.1, hc (fun z => z) ht.2⟩] at hnx
        exact hnx (by dsimp only; rw [List.length_set]; exact hI)
      · rw [if_neg fun z => hf.elim (fun h => h z.1) (fun h => by have z2 := z.2; unfold lvCond at z2; simp at z2; first | exact absurd z2 h | exact z2 h | omega)] at hnx
        exact hnx hI
    · intro _
      unfold m_bylevel inc lvBase
      rw [hb, ho, hb, hw, List.length_map]
abbrev s__law_draw : Stmt := top 19
abbrev ns__law_draw : List Str := ["script", "k", "many"]
theorem sc__law_draw : FnScope ns__law_draw ["script", "k", "many"] (defScope s__law_draw) := ⟨rfl, rfl, rfl, by decide +kernel, rfl, by decide +kernel, by decide +kernel⟩
abbrev sp__law_draw (K : PySem.W.Frag) : Sp := (spF (arc (rScr K) (arc rInt (ar1 rInt))) p_draw rInt m_draw)
theorem ok__law_draw {f : Addr} {fd : FuncData} (Fn : Fun K "_law_draw" "_law_draw" s__law_draw f fd) (Nm : Names0 mg) (c_law_cell : Cal P w K mg base CX0 1 "_law_cell" ["script", "k"] (sp__law_cell K)) :
    FnOk P w K mg base CX0 2 f fd ["script", "k", "many"] (sp__law_draw K) := by
  refine fn_F Fn sc__law_draw (s_c (s_c (s_1 s_n))) rfl rfl (fun cdv Ar outer s H EX hr => ?_)
  refine ⟨_, (pss_one (ps_ret (pe_op op_mod (pe_op op_mod (pe_op op_mulX (pe_op op_add (pe_op op_add (pe_op op_mod (pe_cal c_law_cell (hr.mono (by decide)) (pa_cons (pv 0) (pa_cons (pv 1) pa_nil))) pe_int) (pe_op op_mulX (pv 1) (pv 1))) pe_int) pe_int) pe_int) (pv 2)))), Unit, cN, _,
  (ds_ret (de_cv (de_cv (de_opI (de_opI (de_opI (de_op0 (de_op0 (de_opI (de_cv (de_callF (dp_c (de_cv (de_var a0) cv_IF) (dp_1 (de_cv (de_var (aS a0)) cv_IF)))) cv_II) de_int) (de_opI (de_var (aS a0)) (de_var (aS a0)))) de_int) de_int) de_int) (de_var (aS (aS a0)))) (cv_toI fl_int.to gt_N)) cv_IF) (fun q => q)), ?_⟩
  rintro ⟨s, k, n⟩ ⟨h1, h2, h3⟩
  dsimp only at h1 h2 h3
  simp only [T0, koN, koX, true_and, and_true, implies_true, and_self, decide_eq_true_eq, decide_eq_false_iff_not, Bool.and_eq_true, Bool.or_eq_true, Bool.and_eq_false_iff, Bool.or_eq_false_iff, Bool.not_eq_true', Bool.not_eq_false', if_true, Bool.false_eq_true, if_false]
  exact ⟨⟨⟨⟨⟨by decide, mulOkL (by omega) (by omega)⟩, mulOkR (by decide) (by decide)⟩, by decide⟩, h3⟩, rfl⟩
abbrev s_common_row : Stmt := top 15
abbrev ns_common_row : List Str := ["word", "rests", "bounds", "own", "coins", "borne", "rest"]
theorem sc_common_row : FnScope ns_common_row ["word", "rests", "bounds", "own"] (defScope s_common_row) := ⟨rfl, rfl, rfl, by decide +kernel, rfl, by decide +kernel, by decide +kernel⟩
abbrev sp_common_row : Sp := (spF (arc rStr (arc (rList rInt) (arc (rList rInt) (ar1 rInt)))) p_common (rTup (fc (rList rInt) (f1 (rList rInt)))) m_common)
theorem ok_common_row {f : Addr} {fd : FuncData} (Fn : Fun K "common_row" "common_row" s_common_row f fd) (Nm : Names0 mg) (cby_shares : Cal P w K mg base CX0 2 "by_shares" ["coins", "bounds"] sp_by_shares) (cby_level : Cal P w K mg base CX0 2 "by_level" ["coins", "bounds"] sp_by_level) :
    FnOk P w K mg base CX0 3 f fd ["word", "rests", "bounds", "own"] sp_common_row := by
  refine fn_F Fn sc_common_row (s_c (s_c (s_c (s_1 (s_a (s_a (s_a s_n))))))) rfl rfl (fun cdv Ar outer s H EX hr => ?_)
  refine ⟨_, (pss_cons (ps_if (pt_cmpR op_eq (pv 0) pe_str (nomark _)) (pss_cons (ps_set (i := 4) sc_common_row.nd rfl (Or.inl rfl) (pe_callB (call_min2 rfl) (by rfl) Nm.n_min bt_min (pa_cons (pv 3) (pa_cons (pe_callB (cr_sum rfl) (by rfl) Nm.n_sum bt_sum (pa_cons (pv 1) pa_nil)) pa_nil))))
    (pss_one (ps_set (i := 5) sc_common_row.nd rfl (Or.inl rfl) (pe_op op_cat (pe_lc (own := [("rest", 6)]) (g := gName 6) (tt := tYes) rfl sc_common_row.nd (pi_list (pv 1)) (blkOk_by (N := ns_common_row) (sc := defScope s_common_row) (by decide +kernel)) (fun _ _ _ _ _ => pg_name (i := 6) sc_common_row.nd rfl (by first | exact Or.inl rfl | exact Or.inr rfl)) (fun _ _ _ _ _ => pts_nil) (fun _ _ _ _ _ => pe_int)) (pe_lst (pa_cons (pv 4) pa_nil)))))) (pss_cons (ps_set (i := 4) sc_common_row.nd rfl (Or.inl rfl) (pe_callB (call_min2 rfl) (by rfl) Nm.n_min bt_min (pa_cons (pe_callB (cr_sum rfl) (by rfl) Nm.n_sum bt_sum (pa_cons (pv 2) pa_nil)) (pa_cons (pe_callB (cr_sum rfl) (by rfl) Nm.n_sum bt_sum (pa_cons (pv 1) pa_nil)) pa_nil))))
    (pss_one (ps_if (pt_cmpR op_eq (pv 0) pe_str (nomark _)) (pss_one (ps_set (i := 5) sc_common_row.nd rfl (Or.inl rfl) (pe_op op_cat (pe_cal cby_shares (hr.mono (by decide)) (pa_cons (pv 4) (pa_cons (pv 2) pa_nil))) (pe_lst (pa_cons pe_int pa_nil))))) (pss_one (ps_set (i := 5) sc_common_row.nd rfl (Or.inl rfl) (pe_op op_cat (pe_cal cby_level (hr.mono (by decide)) (pa_cons (pv 4) (pa_cons (pv 2) pa_nil))) (pe_lst (pa_cons pe_int pa_nil)))))))))
    (pss_one (ps_ret (pe_tup (pa_cons (pe_cal cby_shares (hr.mono (by decide)) (pa_cons (pv 4) (pa_cons (pv 1) pa_nil))) (pa_cons (pv 5) pa_nil)))))), Unit, cN, _,
  (ds_seq (ds_if (dt_test (de_eqS (de_var a0) de_str)) (ds_seq (ds_set (de_min2 (de_var (aS (aS (aS a0)))) (de_sum (de_cv (de_var (aS a0)) cv_IF))) (pS (pS (pS (pS p0)))))
    (ds_set (de_cv (de_cat (de_cv (de_cv (de_lcIy (de_var (aS a0)) (pS (pS (pS (pS (pS (pS p0)))))) de_int) (cv_LG fl_int.to gt_N)) (cv_LI gn_N)) (de_cv (de_lst (di_c (de_cv (de_var (aS (aS (aS (aS a0))))) (cv_toI fl_int.to gt_N)) (di_0 (r := rInt))) (by decide +kernel)) (cv_LI gn_N))) (cv_LI gn_N)) (pS (pS (pS (pS (pS p0))))))) (ds_seq (ds_set (de_min2 (de_sum (de_cv (de_var (aS (aS a0))) cv_IF)) (de_sum (de_cv (de_var (aS a0)) cv_IF))) (pS (pS (pS (pS p0)))))
    (ds_if (dt_test (de_eqS (de_var a0) de_str)) (ds_set (de_cv (de_cat (de_cv (de_callL fl_int.to gt_N (dp_c (de_cv (de_var (aS (aS (aS (aS a0))))) cv_IF) (dp_1 (de_cv (de_var (aS (aS a0))) cv_IF)))) (cv_LI gn_N)) (de_cv (de_lst (di_c (de_cv de_int (cv_toI fl_int.to gt_N)) (di_0 (r := rInt))) (by decide +kernel)) (cv_LI gn_N))) (cv_LI gn_N)) (pS (pS (pS (pS (pS p0)))))) (ds_set (de_cv (de_cat (de_cv (de_callL fl_int.to gt_N (dp_c (de_cv (de_var (aS (aS (aS (aS a0))))) cv_IF) (dp_1 (de_cv (de_var (aS (aS a0))) cv_IF)))) (cv_LI gn_N)) (de_cv (de_lst (di_c (de_cv de_int (cv_toI fl_int.to gt_N)) (di_0 (r := rInt))) (by decide +kernel)) (cv_LI gn_N))) (cv_LI gn_N)) (pS (pS (pS (pS (pS p0)))))))))
    (ds_ret (de_cv (de_tup gn_N (df_c (de_cv (de_callL fl_int.to gt_N (dp_c (de_cv (de_var (aS (aS (aS (aS a0))))) cv_IF) (dp_1 (de_cv (de_var (aS a0)) cv_IF)))) (cv_LI gn_N)) (df_1 (de_var (aS (aS (aS (aS (aS a0)))))))) (by decide +kernel)) cv_IF) (fun q => q))), ?_⟩
  rintro ⟨wd, rs, bs, own⟩ ⟨h1, h2, h3, h4, h5, h6, h7⟩
  dsimp only at h1 h2 h3 h4 h5 h6 h7
  simp only [T0, koN, koX, true_and, and_true, implies_true, and_self, decide_eq_true_eq, decide_eq_false_iff_not, Bool.and_eq_true, Bool.or_eq_true, Bool.and_eq_false_iff, Bool.or_eq_false_iff, Bool.not_eq_true', Bool.not_eq_false', if_true, Bool.false_eq_true, if_false]
  have hr := sum_nn h3
  have hb := sum_nn h4
  refine ⟨fun hw => ?_, fun hw => ?_⟩
  · refine fun c hc => ⟨⟨sl100 (by omega), Nat.le_trans (m := 100) (by simp; omega) (by decide)⟩, fun br hbr => ⟨⟨by dsimp only; omega, by dsimp only; omega, h5, h3, by dsimp only; omega⟩, ?_⟩⟩
    unfold m_common commonBorne commonCoins
    dsimp only
    rw [if_pos hw, if_pos hw, hbr, hc]
  · refine fun c hc => ⟨fun hw2 => ?_, fun hw2 => ?_⟩
    · refine ⟨⟨⟨by dsimp only; omega, by dsimp only; omega, h6, h4, by dsimp only; omega⟩, Nat.le_trans (m := 100) (by rw [m_shares_len]; simp; omega) (by decide)⟩, fun br hbr => ⟨⟨by dsimp only; omega, by dsimp only; omega, h5, h3, by dsimp only; omega⟩, ?_⟩⟩
      unfold m_common commonBorne commonCoins
      dsimp only
      rw [if_neg hw, if_neg hw, if_pos hw2, hbr, hc]
    · refine ⟨⟨⟨by dsimp only; omega, by dsimp only; omega, h6, h4, by dsimp only; omega⟩, Nat.le_trans (m := 100) (by rw [m_bylevel_len]; simp; omega) (by decide)⟩, fun br hbr => ⟨⟨by dsimp only; omega, by dsimp only; omega, h5, h3, by dsimp only; omega⟩, ?_⟩⟩
      unfold m_common commonBorne commonCoins
      dsimp only
      rw [if_neg hw, if_neg hw, if_neg hw2, hbr, hc]
abbrev s__law_order : Stmt := top 20
abbrev ns__law_order : List Str := ["script", "start", "words", "order", "k"]
theorem sc__law_order : FnScope ns__law_order ["script", "start"] (defScope s__law_order) := ⟨rfl, rfl, rfl, by decide +kernel, rfl, by decide +kernel, by decide +kernel⟩
abbrev sp__law_order (K : PySem.W.Frag) : Sp := (spF (arc (rScr K) (ar1 rInt)) p_lorder (rList rStr) m_lorder)
theorem ok__law_order {f : Addr} {fd : FuncData} (Fn : Fun K "_law_order" "_law_order" s__law_order f fd) (Nm : Names0 mg) (c_law_draw : Cal P w K mg base CX0 2 "_law_draw" ["script", "k", "many"] (sp__law_draw K)) :
    FnOk P w K mg base CX0 3 f fd ["script", "start"] (sp__law_order K) := by
  refine fn_F Fn sc__law_order (s_c (s_1 (s_a (s_a (s_a s_n))))) rfl rfl (fun cdv Ar outer s H EX hr => ?_)
  refine ⟨_, (pss_cons (ps_set (i := 2) sc__law_order.nd rfl (Or.inl rfl) (pe_lst (pa_cons pe_str (pa_cons pe_str (pa_cons pe_str (pa_cons pe_str (pa_cons pe_str pa_nil)))))))
    (pss_cons (ps_set (i := 3) sc__law_order.nd rfl (Or.inl rfl) (pe_lst pa_nil))
    (pss_cons (ps_for PassesOwn.never rfl (pi_range1 (by rfl) Nm.n_range (pa_cons (pe_cal c_law_draw (hr.mono (by decide)) (pa_cons (pv 0) (pa_cons (pv 1) (pa_cons pe_int pa_nil)))) pa_nil)) (pg_name (i := 4) sc__law_order.nd rfl (Or.inl rfl))
    (pss_one (ps_expr (pe_bm PySem.F.plainAttrs_list PySem.F.slot_list_append PySem.F.type_list_append mt_append (pv 3) (pa_cons (pe_bm PySem.F.plainAttrs_list PySem.F.slot_list_pop PySem.F.type_list_pop mt_popAt (pv 2) (pa_cons (pe_cal c_law_draw (hr.mono (by decide)) (pa_cons (pv 0) (pa_cons (pe_op op_add (pe_op op_add (pv 1) pe_int) (pv 4)) (pa_cons (pe_callB call_len (by rfl) Nm.n_len bt_len (pa_cons (pv 2) pa_nil)) pa_nil)))) pa_nil)) pa_nil)))))
    (pss_one (ps_ret (pv 3)))))), Unit, cN, _,
  (ds_seq (ds_setL (de_lst (di_c (de_cv de_str (cv_toI fl_str.to gt_N)) (di_c (de_cv de_str (cv_toI fl_str.to gt_N)) (di_c (de_cv de_str (cv_toI fl_str.to gt_N)) (di_c (de_cv de_str (cv_toI fl_str.to gt_N)) (di_c (de_cv de_str (cv_toI fl_str.to gt_N)) (di_0 (r := rStr))))))) (by decide +kernel)) (pS (pS p0)))
    (ds_seq (ds_setL (de_lst (di_0 (r := rStr)) (by decide +kernel)) (pS (pS (pS p0))))
    (ds_seq (ds_forR1 (da_1 (de_cv (de_callF (dp_c (de_cv (de_var a0) cv_IF) (dp_c (de_cv (de_var (aS a0)) cv_IF) (dp_1 (de_cv de_int cv_IF))))) cv_II)) (pS (pS (pS (pS p0))))
    (ds_post (ds_appPop (by decide) fl_str.to gt_N (lS (lS (lS l0))) (lS (lS l0)) (de_cv (de_callF (dp_c (de_cv (de_var a0) cv_IF) (dp_c (de_cv (de_op0 (de_op0 (de_var (aS a0)) de_int) (de_var (aS (aS (aS (aS a0)))))) cv_IF) (dp_1 (de_cv (de_len (de_cv (de_varL gn_N (aS (aS a0))) cv_FF)) cv_IF))))) cv_II)) (sS sk_id (sS sk_id (sS sk_id (sS sk_id (sS sk_any sN)))))))
    (ds_ret (de_varL gn_N (aS (aS (aS a0)))) (fun q => q))))), ?_⟩
  rintro ⟨s, start⟩ ⟨h1, h2⟩
  dsimp only at h1 h2
  simp only [T0, koN, koX, true_and, and_true, implies_true, and_self, decide_eq_true_eq, decide_eq_false_iff_not, Bool.and_eq_true, Bool.or_eq_true, Bool.and_eq_false_iff, Bool.or_eq_false_iff, Bool.not_eq_true', Bool.not_eq_false', if_true, Bool.false_eq_true, if_false]
  intro words hw order ho
  have hd : 0 ≤ m_draw (s, start, 6) ∧ m_draw (s, start, 6) < 6 := m_draw_at (by omega)
  refine ⟨⟨by dsimp only; omega, by dsimp only; omega, by dsimp only; omega⟩, by omega, by omega, ?_⟩
  refine loopW_at (fun st : List Str × List Str => (s, start, st.1, st.2, (), ())) (loStep s start) (fun pre st => st.1.length + pre.length = 5 ∧ st.2.length = pre.length) (pre := []) (s := (words, order)) (by rw [hw, ho]; exact ⟨rfl, rfl⟩) ?_ ?_
  · rintro pre k post ⟨st1, st2⟩ k' e ⟨i1, i2⟩ hnx
    obtain ⟨ek, hlt⟩ := irange_split e
    dsimp only at i1 i2 ⊢
    have hi : inb st1 (m_draw (s, start + 1 + k, st1.length)) := m_draw_at (by omega)
    refine ⟨⟨by dsimp only; omega, by dsimp only; omega, by dsimp only; omega⟩, hi, by have := hi.2; omega, Nat.lt_of_le_of_lt (m := 5) (by omega) (by decide), ?_⟩
    refine hnx ⟨?_, ?_⟩
    · show (st1.eraseIdx (m_draw (s, start + 1 + k, (st1.length : Int))).toNat).length + (pre ++ [k]).length = 5
      have q1 := hi.1
      have q2 := hi.2
      have hlt2 : (m_draw (s, start + 1 + k, (st1.length : Int))).toNat < st1.length := by omega
      rw [List.length_eraseIdx, if_pos hlt2, List.length_append, List.length_singleton]
      omega
    · show (st2 ++ [_]).length = _
      rw [List.length_append, List.length_append, i2]; rfl
  · intro _
    rw [hw, ho]
    rfl
abbrev s__law_word : Stmt := top 21
abbrev ns__law_word : List Str := ["script", "start", "word", "at", "way", "letters", "many", "k"]
theorem sc__law_word : FnScope ns__law_word ["script", "start"] (defScope s__law_word) := ⟨rfl, rfl, rfl, by decide +kernel, rfl, by decide +kernel, by decide +kernel⟩
abbrev sp__law_word (K : PySem.W.Frag) : Sp := (spF (arc (rScr K) (ar1 rInt)) p_lorder rStr m_word)
theorem ok__law_word {f : Addr} {fd : FuncData} (Fn : Fun K "_law_word" "_law_word" s__law_word f fd) (Nm : Names0 mg) (c_law_draw : Cal P w K mg base CX0 2 "_law_draw" ["script", "k", "many"] (sp__law_draw K)) :
    FnOk P w K mg base CX0 3 f fd ["script", "start"] (sp__law_word K) := by
  refine fn_F Fn sc__law_word (s_c (s_1 (s_a (s_a (s_a (s_a (s_a (s_a s_n)))))))) rfl rfl (fun cdv Ar outer s H EX hr => ?_)
  refine ⟨_, (pss_cons (ps_set (i := 2) sc__law_word.nd rfl (Or.inl rfl) (pe_ix ix_list (pe_lst (pa_cons pe_str (pa_cons pe_str (pa_cons pe_str (pa_cons pe_str (pa_cons pe_str pa_nil)))))) (pe_cal c_law_draw (hr.mono (by decide)) (pa_cons (pv 0) (pa_cons (pv 1) (pa_cons pe_int pa_nil)))) (fun _ _ => rfl)))
    (pss_cons (ps_set (i := 3) sc__law_word.nd rfl (Or.inl rfl) (pe_cal c_law_draw (hr.mono (by decide)) (pa_cons (pv 0) (pa_cons (pe_op op_add (pv 1) pe_int) (pa_cons (pe_callB call_len (by rfl) Nm.n_len bt_len (pa_cons (pv 2) pa_nil)) pa_nil)))))
    (pss_cons (ps_set (i := 4) sc__law_word.nd rfl (Or.inl rfl) (pe_cal c_law_draw (hr.mono (by decide)) (pa_cons (pv 0) (pa_cons (pe_op op_add (pv 1) pe_int) (pa_cons pe_int pa_nil)))))
    (pss_cons (ps_if (pt_cmpR op_eq (pv 4) pe_int (nomark _)) (pss_one (ps_ret (pv 2))) pss_nil)
    (pss_cons (ps_if (pt_cmpR op_eq (pv 4) pe_int (nomark _)) (pss_one (ps_ret (pe_op op_add_str (pe_op op_add_str (pe_slice sl_str (pv 2) po_none (po_some (pv 3))) (pe_ix ix_str pe_str (pe_cal c_law_draw (hr.mono (by decide)) (pa_cons (pv 0) (pa_cons (pe_op op_add (pv 1) pe_int) (pa_cons pe_int pa_nil)))) (fun _ _ => rfl))) (pe_slice sl_str (pv 2) (po_some (pv 3)) po_none)))) pss_nil)
    (pss_cons (ps_if (pt_cmpR op_eq (pv 4) pe_int (nomark _)) (pss_one (ps_ret (pe_op op_add_str (pe_slice sl_str (pv 2) po_none (po_some (pv 3))) (pe_slice sl_str (pv 2) (po_some (pe_op op_add (pv 3) pe_int)) po_none)))) pss_nil)
    (pss_cons (ps_if (pt_cmpR op_eq (pv 4) pe_int (nomark _)) (pss_one (ps_ret (pe_op op_add_str (pe_op op_add_str (pe_slice sl_str (pv 2) po_none (po_some (pv 3))) (pe_upper (pe_ix ix_str (pv 2) (pv 3) (fun _ _ => rfl)))) (pe_slice sl_str (pv 2) (po_some (pe_op op_add (pv 3) pe_int)) po_none)))) pss_nil)
    (pss_cons (ps_set (i := 5) sc__law_word.nd rfl (Or.inr rfl) pe_str)
    (pss_cons (ps_set (i := 6) sc__law_word.nd rfl (Or.inl rfl) (pe_cal c_law_draw (hr.mono (by decide)) (pa_cons (pv 0) (pa_cons (pe_op op_add (pv 1) pe_int) (pa_cons pe_int pa_nil)))))
    (pss_one (ps_ret (pe_join pe_str (pe_lc (own := [("k", 7)]) (g := gName 7) (tt := tYes) rfl sc__law_word.nd (pi_range1 (by rfl) Nm.n_range (pa_cons (pv 6) pa_nil)) (blkOk_by (N := ns__law_word) (sc := defScope s__law_word) (by decide +kernel)) (fun _ _ _ _ _ => pg_name (i := 7) sc__law_word.nd rfl (by first | exact Or.inl rfl | exact Or.inr rfl)) (fun _ _ _ _ _ => pts_nil) (fun _ _ _ _ _ => (pe_ix ix_str (pv 5) (pe_cal c_law_draw (hr.mono (by decide)) (pa_cons (pv 0) (pa_cons (pe_op op_add (pe_op op_add (pv 1) pe_int) (pv 7)) (pa_cons pe_int pa_nil)))) (fun _ _ => rfl)))))))))))))))), Unit, cN, _,
  (ds_seq (ds_set (de_cv (de_ixI (de_cv (de_lst (di_c (de_cv de_str (cv_toI fl_str.to gt_N)) (di_c (de_cv de_str (cv_toI fl_str.to gt_N)) (di_c (de_cv de_str (cv_toI fl_str.to gt_N)) (di_c (de_cv de_str (cv_toI fl_str.to gt_N)) (di_c (de_cv de_str (cv_toI fl_str.to gt_N)) (di_0 (r := rStr))))))) (by decide +kernel)) (cv_LI gn_N)) (de_cv (de_callF (dp_c (de_cv (de_var a0) cv_IF) (dp_c (de_cv (de_var (aS a0)) cv_IF) (dp_1 (de_cv de_int cv_IF))))) cv_II)) cv_II) (pS (pS p0)))
    (ds_seq (ds_set (de_cv (de_callF (dp_c (de_cv (de_var a0) cv_IF) (dp_c (de_cv (de_op0 (de_var (aS a0)) de_int) cv_IF) (dp_1 (de_cv (de_lenS (de_var (aS (aS a0)))) cv_IF))))) cv_II) (pS (pS (pS p0))))
    (ds_seq (ds_set (de_cv (de_callF (dp_c (de_cv (de_var a0) cv_IF) (dp_c (de_cv (de_op0 (de_var (aS a0)) de_int) cv_IF) (dp_1 (de_cv de_int cv_IF))))) cv_II) (pS (pS (pS (pS p0)))))
    (ds_seq (ds_if (dt_test (de_eqI (de_var (aS (aS (aS (aS a0))))) de_int)) (ds_ret (de_cv (de_cv (de_var (aS (aS a0))) (cv_toI fl_str.to gt_N)) cv_IF) (fun q => q)) ds_next)
    (ds_seq (ds_if (dt_test (de_eqI (de_var (aS (aS (aS (aS a0))))) de_int)) (ds_ret (de_cv (de_cv (de_catS (de_catS (de_sliceS (de_var (aS (aS a0))) do_none (do_some (de_var (aS (aS (aS a0)))))) (de_ixStr de_str (de_cv (de_callF (dp_c (de_cv (de_var a0) cv_IF) (dp_c (de_cv (de_op0 (de_var (aS a0)) de_int) cv_IF) (dp_1 (de_cv de_int cv_IF))))) cv_II))) (de_sliceS (de_var (aS (aS a0))) (do_some (de_var (aS (aS (aS a0))))) do_none)) (cv_toI fl_str.to gt_N)) cv_IF) (fun q => q)) ds_next)
    (ds_seq (ds_if (dt_test (de_eqI (de_var (aS (aS (aS (aS a0))))) de_int)) (ds_ret (de_cv (de_cv (de_catS (de_sliceS (de_var (aS (aS a0))) do_none (do_some (de_var (aS (aS (aS a0)))))) (de_sliceS (de_var (aS (aS a0))) (do_some (de_op0 (de_var (aS (aS (aS a0)))) de_int)) do_none)) (cv_toI fl_str.to gt_N)) cv_IF) (fun q => q)) ds_next)
    (ds_seq (ds_if (dt_test (de_eqI (de_var (aS (aS (aS (aS a0))))) de_int)) (ds_ret (de_cv (de_cv (de_catS (de_catS (de_sliceS (de_var (aS (aS a0))) do_none (do_some (de_var (aS (aS (aS a0)))))) (de_upper (de_ixStr (de_var (aS (aS a0))) (de_var (aS (aS (aS a0))))))) (de_sliceS (de_var (aS (aS a0))) (do_some (de_op0 (de_var (aS (aS (aS a0)))) de_int)) do_none)) (cv_toI fl_str.to gt_N)) cv_IF) (fun q => q)) ds_next)
    (ds_seq (ds_set de_str (pS (pS (pS (pS (pS p0))))))
    (ds_seq (ds_set (de_cv (de_callF (dp_c (de_cv (de_var a0) cv_IF) (dp_c (de_cv (de_op0 (de_var (aS a0)) de_int) cv_IF) (dp_1 (de_cv de_int cv_IF))))) cv_II) (pS (pS (pS (pS (pS (pS p0)))))))
    (ds_ret (de_cv (de_cv (de_join de_str (de_cv (de_cv (de_lcR1y (da_1 (de_var (aS (aS (aS (aS (aS (aS a0)))))))) (pS (pS (pS (pS (pS (pS (pS p0))))))) (de_ixStr (de_var (aS (aS (aS (aS (aS a0)))))) (de_cv (de_callF (dp_c (de_cv (de_var a0) cv_IF) (dp_c (de_cv (de_op0 (de_op0 (de_var (aS a0)) de_int) (de_var (aS (aS (aS (aS (aS (aS (aS a0))))))))) cv_IF) (dp_1 (de_cv de_int cv_IF))))) cv_II))) (cv_LI gn_I)) cv_IF)) (cv_toI fl_str.to gt_N)) cv_IF) (fun q => q))))))))))), ?_⟩
  rintro ⟨s, a⟩ ⟨h1, h2⟩
  dsimp only at h1 h2
  have hw := w_word_in s a
  have hb := layers_b _ hw
  have hi := w_at_in s a
  simp only [T0, koN, koX, true_and, and_true, implies_true, and_self, decide_eq_true_eq, decide_eq_false_iff_not, Bool.and_eq_true, Bool.or_eq_true, Bool.and_eq_false_iff, Bool.or_eq_false_iff, Bool.not_eq_true', Bool.not_eq_false', if_true, Bool.false_eq_true, if_false]
  refine ⟨⟨⟨by dsimp only; omega, by dsimp only; omega, by dsimp only; omega⟩, m_draw_at (by decide)⟩, ?_⟩
  intro wd ewd
  rw [show wd = w_word s a from ewd]
  refine ⟨⟨le_line (by omega), by dsimp only; omega, by dsimp only; omega, by dsimp only; omega⟩, ?_⟩
  intro pt ept
  rw [show pt = w_at s a from ept]
  refine ⟨⟨by dsimp only; omega, by dsimp only; omega, by dsimp only; omega⟩, ?_⟩
  intro way eway
  have c1 := cutS_length (w_word s a) none (some (w_at s a))
  have c2 := cutS_length (w_word s a) (some (w_at s a)) none
  have c3 := cutS_length (w_word s a) (some (w_at s a + 1)) none
  have c4 := (layers_up hw hi.1 (by omega)).1
  have hm := eway
  refine ⟨fun h => by unfold m_word; rw [if_pos (hm.symm.trans h)], fun n0 => ⟨fun h => ⟨⟨⟨le_line (by omega), ⟨⟨by dsimp only; omega, by dsimp only; omega, by dsimp only; omega⟩, le_line (by rw [abc_len_]; decide), by rw [show (("abcdefghijklmnopqrstuvwxyz " : Str).cps.toList = abc_.cps.toList) from rfl]; unfold inb; rw [abc_b.2.2.2.1]; exact m_draw_at (by decide)⟩, le_line (by rw [at_len]; omega)⟩, le_line (by omega), le_line (by rw [app_len, at_len]; omega)⟩, ?_⟩, fun n1 => ⟨fun h => ⟨⟨le_line (by omega), le_line (by omega), le_line (by omega)⟩, ?_⟩, fun n2 => ⟨fun h => ⟨⟨⟨le_line (by omega), ⟨⟨le_line (by omega), ?_⟩, by rw [at_len]; decide⟩, le_line (by omega)⟩, le_line (by omega), le_line (by rw [app_len]; omega)⟩, ?_⟩, fun n3 => ?_⟩⟩⟩⟩
  · unfold m_word; rw [if_neg (fun z => n0 (hm.trans z)), if_pos (hm.symm.trans h)]; rfl
  · unfold m_word; rw [if_neg (fun z => n0 (hm.trans z)), if_neg (fun z => n1 (hm.trans z)), if_pos (hm.symm.trans h)]
  · exact hi
  · unfold m_word; rw [if_neg (fun z => n0 (hm.trans z)), if_neg (fun z => n1 (hm.trans z)), if_neg (fun z => n2 (hm.trans z)), if_pos (hm.symm.trans h)]
  · intro ls els
    refine ⟨⟨by dsimp only; omega, by dsimp only; omega, by dsimp only; omega⟩, ?_⟩
    intro mn emn
    have hmn : 0 ≤ mn ∧ mn < 8 := by rw [emn]; exact m_draw_at (by decide)
    rw [show ls = abc from els]
    refine ⟨⟨⟨⟨by omega, by omega, le_line (by omega)⟩, fun k hk => ?_⟩, ?_⟩, ?_⟩
    · have := irange_mem hk
      exact ⟨⟨by dsimp only; omega, by dsimp only; omega, by dsimp only; omega⟩, le_line (by rw [abc_b.2.2.2.2.1]; decide), by unfold inb; rw [abc_b.2.2.1]; exact m_draw_at (by decide)⟩
    · rw [sumlen1 (fun x hx => by obtain ⟨k, _, e⟩ := List.mem_map.mp hx; rw [← e]; rfl), show ("" : Str).length = 0 from rfl, List.length_map, irange_len]
      omega
    · unfold m_word; rw [if_neg (fun z => n0 (hm.trans z)), if_neg (fun z => n1 (hm.trans z)), if_neg (fun z => n2 (hm.trans z)), if_neg (fun z => n3 (hm.trans z)), emn]
abbrev s_layered : Stmt := top 16
abbrev ns_layered : List Str := ["order", "gaps", "pledges", "shares", "own", "rests", "stock", "rows", "word", "found", "bounds", "k"]
theorem sc_layered : FnScope ns_layered ["order", "gaps", "pledges", "shares", "own"] (defScope s_layered) := ⟨rfl, rfl, rfl, by decide +kernel, rfl, by decide +kernel, by decide +kernel⟩
abbrev sp_layered (K : PySem.W.Frag) : Sp := (spX K (arc (rList rStr) (arc (rList rInt) (arc (rList rInt) (arc (rList rInt) (ar1 rInt))))) p_layered (rTup (fc (rList (rTup (fc rStr (fc (rList rInt) (f1 (rList rInt)))))) (f1 (rList rInt)))) m_layered)
theorem ok_layered {f : Addr} {fd : FuncData} (Fn : Fun K "layered" "layered" s_layered f fd) (Nm : Names0 mg) (Er : Errs K mg nsL csL) (cask_order : Cal P w K mg base (L2.CX P w) 1 "ask_order" ["order"] (sp_ask_order K)) (cown_row : Cal P w K mg base CX0 1 "own_row" ["rests", "stock"] sp_own_row) (ccommon_row : Cal P w K mg base CX0 3 "common_row" ["word", "rests", "bounds", "own"] sp_common_row) :
    FnOk P w K mg base (L2.CX P w) 4 f fd ["order", "gaps", "pledges", "shares", "own"] (sp_layered K) := by
  refine fn_X Fn sc_layered (s_c (s_c (s_c (s_c (s_1 (s_a (s_a (s_a (s_a (s_a (s_a (s_a s_n)))))))))))) rfl rfl (fun cdv Ar outer s H EX hr => ?_)
  refine ⟨_, (pss_cons (ps_expr (pe_calS cask_order (hr.mono (by decide)) (takes_of rfl rfl rfl rfl) (pa_cons (pv 0) pa_nil)))
    (pss_cons (ps_set (i := 5) sc_layered.nd rfl (Or.inr rfl) (pe_callTy call_list_of (by rfl) Nm.n_list bt_list (pa_cons (pv 1) pa_nil)))
    (pss_cons (ps_set (i := 6) sc_layered.nd rfl (Or.inr rfl) (pe_callTy call_list_of (by rfl) Nm.n_list bt_list (pa_cons (pv 3) pa_nil)))
    (pss_cons (ps_set (i := 7) sc_layered.nd rfl (Or.inl rfl) (pe_lst pa_nil))
    (pss_cons (ps_for (passes_of rfl) rfl (pi_list (pv 0)) (pg_name (i := 8) sc_layered.nd rfl (Or.inl rfl))
    (pss_cons (ps_if (pt_cmpR op_eq (pv 8) pe_str (nomark _)) (pss_one (ps_set (i := 9) sc_layered.nd rfl (Or.inr rfl) (pe_cal cown_row (hr.mono (by decide)) (pa_cons (pv 5) (pa_cons (pv 2) pa_nil))))) (pss_one (ps_if (pt_cmpR op_eq (pv 8) pe_str (nomark _)) (pss_one (ps_set (i := 9) sc_layered.nd rfl (Or.inr rfl) (pe_cal cown_row (hr.mono (by decide)) (pa_cons (pv 5) (pa_cons (pv 6) pa_nil))))) (pss_cons (ps_setLc (i := 10) (own := [("k", 11)]) (g := gName 11) (tt := tYes) rfl sc_layered.nd rfl rfl (sw_true rfl rfl rfl (by decide +kernel)) (pi_range1 (by rfl) Nm.n_range (pa_cons (pe_callB call_len (by rfl) Nm.n_len bt_len (pa_cons (pv 1) pa_nil)) pa_nil)) (blkOk_by (N := ns_layered) (sc := defScope s_layered) (by decide +kernel)) (fun _ _ _ _ _ => pg_name (i := 11) sc_layered.nd rfl (by first | exact Or.inl rfl | exact Or.inr rfl)) (fun _ _ _ _ _ => pts_nil) (fun _ _ _ _ _ => (pe_ifExp (pt_cmpR op_eq (pe_ix ix_list (pv 1) (pv 11) (fun _ _ => rfl)) pe_int (nomark _)) (pe_ix ix_list (pv 6) (pv 11) (fun _ _ => rfl)) pe_int)))
    (pss_one (ps_set (i := 9) sc_layered.nd rfl (Or.inr rfl) (pe_cal ccommon_row (hr.mono (by decide)) (pa_cons (pv 8) (pa_cons (pv 5) (pa_cons (pv 10) (pa_cons (pv 4) pa_nil)))))))))))
    (pss_cons (ps_if (pt_cmpR op_ne (pv 8) pe_str (nomark _)) (pss_one (ps_set (i := 6) sc_layered.nd rfl (Or.inr rfl) (pe_lc (own := [("k", 11)]) (g := gName 11) (tt := tYes) rfl sc_layered.nd (pi_range1 (by rfl) Nm.n_range (pa_cons (pe_callB call_len (by rfl) Nm.n_len bt_len (pa_cons (pv 6) pa_nil)) pa_nil)) (blkOk_by (N := ns_layered) (sc := defScope s_layered) (by decide +kernel)) (fun _ _ _ _ _ => pg_name (i := 11) sc_layered.nd rfl (by first | exact Or.inl rfl | exact Or.inr rfl)) (fun _ _ _ _ _ => pts_nil) (fun _ _ _ _ _ => (pe_op op_sub (pe_ix ix_list (pv 6) (pv 11) (fun _ _ => rfl)) (pe_ix ix_list (pe_ix ix_tup (pv 9) pe_int (fun _ _ => rfl)) (pv 11) (fun _ _ => rfl))))))) pss_nil)
    (pss_cons (ps_set (i := 5) sc_layered.nd rfl (Or.inr rfl) (pe_lc (own := [("k", 11)]) (g := gName 11) (tt := tYes) rfl sc_layered.nd (pi_range1 (by rfl) Nm.n_range (pa_cons (pe_callB call_len (by rfl) Nm.n_len bt_len (pa_cons (pv 5) pa_nil)) pa_nil)) (blkOk_by (N := ns_layered) (sc := defScope s_layered) (by decide +kernel)) (fun _ _ _ _ _ => pg_name (i := 11) sc_layered.nd rfl (by first | exact Or.inl rfl | exact Or.inr rfl)) (fun _ _ _ _ _ => pts_nil) (fun _ _ _ _ _ => (pe_op op_sub (pe_ix ix_list (pv 5) (pv 11) (fun _ _ => rfl)) (pe_ix ix_list (pe_ix ix_tup (pv 9) pe_int (fun _ _ => rfl)) (pv 11) (fun _ _ => rfl))))))
    (pss_one (ps_expr (pe_bm PySem.F.plainAttrs_list PySem.F.slot_list_append PySem.F.type_list_append mt_append (pv 7) (pa_cons (pe_tup (pa_cons (pv 8) (pa_cons (pe_ix ix_tup (pv 9) pe_int (fun _ _ => rfl)) (pa_cons (pe_ix ix_tup (pv 9) pe_int (fun _ _ => rfl)) pa_nil)))) pa_nil))))))))
    (pss_one (ps_ret (pe_tup (pa_cons (pv 7) (pa_cons (pv 5) pa_nil)))))))))), Unit, cN, _,
  (ds_seq (dsx_drop (dp_1 (de_cv (de_var a0) cv_IF)) sub_top rfl)
    (ds_seq (ds_set (de_cv (de_cv (de_listof (de_var (aS a0))) (cv_LG fl_int.to gt_N)) (cv_LI gn_N)) (pS (pS (pS (pS (pS p0))))))
    (ds_seq (ds_set (de_cv (de_cv (de_listof (de_var (aS (aS (aS a0))))) (cv_LG fl_int.to gt_N)) (cv_LI gn_N)) (pS (pS (pS (pS (pS (pS p0)))))))
    (ds_seq (ds_setL (de_lst (di_0 (r := (rTup (fc rStr (fc (rList rInt) (f1 (rList rInt))))))) (by decide +kernel)) (pS (pS (pS (pS (pS (pS (pS p0))))))))
    (ds_seq (ds_forL (de_var a0) (pS (pS (pS (pS (pS (pS (pS (pS p0))))))))
    (ds_post (ds_cut (ds_if (dt_test (de_eqS (de_var (aS (aS (aS (aS (aS (aS (aS (aS a0))))))))) de_str)) (ds_set (de_callF (dp_c (de_cv (de_var (aS (aS (aS (aS (aS a0)))))) cv_IFI) (dp_1 (de_cv (de_var (aS (aS a0))) cv_IF)))) (pS (pS (pS (pS (pS (pS (pS (pS (pS p0)))))))))) (ds_if (dt_test (de_eqS (de_var (aS (aS (aS (aS (aS (aS (aS (aS a0))))))))) de_str)) (ds_set (de_callF (dp_c (de_cv (de_var (aS (aS (aS (aS (aS a0)))))) cv_IFI) (dp_1 (de_cv (de_var (aS (aS (aS (aS (aS (aS a0))))))) cv_IFI)))) (pS (pS (pS (pS (pS (pS (pS (pS (pS p0)))))))))) (ds_post (ds_seq (ds_set (de_cv (de_cv (de_lcR1y (da_1 (de_len (de_cv (de_var (aS a0)) cv_IF))) (pS (pS (pS (pS (pS (pS (pS (pS (pS (pS (pS p0))))))))))) (de_cv (de_if (dt_test (de_eqI (de_ixI (de_var (aS a0)) (de_var (aS (aS (aS (aS (aS (aS (aS (aS (aS (aS (aS a0))))))))))))) de_int)) (de_ixI (de_var (aS (aS (aS (aS (aS (aS a0))))))) (de_var (aS (aS (aS (aS (aS (aS (aS (aS (aS (aS (aS a0))))))))))))) (de_cv de_int (cv_toI fl_int.to gt_N))) cv_II)) (cv_LG fl_int.to gt_N)) (cv_LI gn_N)) (pS (pS (pS (pS (pS (pS (pS (pS (pS (pS p0)))))))))))
    (ds_set (de_callF (dp_c (de_cv (de_var (aS (aS (aS (aS (aS (aS (aS (aS a0))))))))) cv_IF) (dp_c (de_cv (de_var (aS (aS (aS (aS (aS a0)))))) cv_IFI) (dp_c (de_cv (de_var (aS (aS (aS (aS (aS (aS (aS (aS (aS (aS a0))))))))))) cv_IFI) (dp_1 (de_cv (de_var (aS (aS (aS (aS a0))))) cv_IF)))))) (pS (pS (pS (pS (pS (pS (pS (pS (pS p0))))))))))) (sS sk_id (sS sk_id (sS sk_id (sS sk_id (sS sk_id (sS sk_id (sS sk_id (sS sk_id (sS sk_id (sS sk_id (sS sk_any (sS sk_id sN)))))))))))))))
    (ds_cut (ds_if (dt_test (de_neS (de_var (aS (aS (aS (aS (aS (aS (aS (aS a0))))))))) de_str)) (ds_set (de_cv (de_cv (de_lcR1y (da_1 (de_len (de_cv (de_var (aS (aS (aS (aS (aS (aS a0))))))) cv_IFI))) (pS (pS (pS (pS (pS (pS (pS (pS (pS (pS (pS p0))))))))))) (de_op0 (de_cv (de_ixI (de_var (aS (aS (aS (aS (aS (aS a0))))))) (de_var (aS (aS (aS (aS (aS (aS (aS (aS (aS (aS (aS a0))))))))))))) cv_II) (de_cv (de_ixI (de_fld (n := 1) (de_var (aS (aS (aS (aS (aS (aS (aS (aS (aS a0)))))))))) (fn_S fn_l)) (de_var (aS (aS (aS (aS (aS (aS (aS (aS (aS (aS (aS a0))))))))))))) cv_II))) (cv_LG fl_int.to gt_N)) (cv_LI gn_N)) (pS (pS (pS (pS (pS (pS p0))))))) ds_next)
    (ds_seq (ds_set (de_cv (de_cv (de_lcR1y (da_1 (de_len (de_cv (de_var (aS (aS (aS (aS (aS a0)))))) cv_IFI))) (pS (pS (pS (pS (pS (pS (pS (pS (pS (pS (pS p0))))))))))) (de_op0 (de_cv (de_ixI (de_var (aS (aS (aS (aS (aS a0)))))) (de_var (aS (aS (aS (aS (aS (aS (aS (aS (aS (aS (aS a0))))))))))))) cv_II) (de_cv (de_ixI (de_fld (n := 0) (de_var (aS (aS (aS (aS (aS (aS (aS (aS (aS a0)))))))))) fn_0) (de_var (aS (aS (aS (aS (aS (aS (aS (aS (aS (aS (aS a0))))))))))))) cv_II))) (cv_LG fl_int.to gt_N)) (cv_LI gn_N)) (pS (pS (pS (pS (pS p0))))))
    (ds_app (lS (lS (lS (lS (lS (lS (lS l0))))))) (de_tup gn_N (df_c (de_cv (de_var (aS (aS (aS (aS (aS (aS (aS (aS a0))))))))) (cv_toI fl_str.to gt_N)) (df_c (de_fld (n := 0) (de_var (aS (aS (aS (aS (aS (aS (aS (aS (aS a0)))))))))) fn_0) (df_1 (de_fld (n := 1) (de_var (aS (aS (aS (aS (aS (aS (aS (aS (aS a0)))))))))) (fn_S fn_l))))) (by decide +kernel)))))) (sS sk_id (sS sk_id (sS sk_id (sS sk_id (sS sk_id (sS sk_id (sS sk_id (sS sk_id (sS sk_any (sS sk_any (sS sk_id (sS sk_id sN))))))))))))))
    (ds_sub (sS sk_id (sS sk_id (sS sk_id (sS sk_id (sS sk_id (sS sk_id (sS sk_id (sS sk_lN (sS sk_id (sS sk_id (sS sk_id (sS sk_id sN)))))))))))) (ds_ret (de_cv (de_tup gn_N (df_c (de_var (aS (aS (aS (aS (aS (aS (aS a0)))))))) (df_1 (de_var (aS (aS (aS (aS (aS a0)))))))) (by decide +kernel)) cv_IF) (fun q => q)))))))), ?_⟩
  rintro ⟨o, gaps, pledges, shares, own⟩ ⟨h1, h2, h3, h4, h5, h6, h7, h8, h9, h10⟩
  dsimp only at h1 h2 h3 h4 h5 h6 h7 h8 h9 h10
  simp only [T0, koN, koX, true_and, and_true, implies_true, and_self, decide_eq_true_eq, decide_eq_false_iff_not, Bool.and_eq_true, Bool.or_eq_true, Bool.and_eq_false_iff, Bool.or_eq_false_iff, Bool.not_eq_true', Bool.not_eq_false', if_true, Bool.false_eq_true, if_false]
  refine ⟨h1, fun n hn => by unfold m_layered; rw [hn], fun y hy rests hr stock hs rows hro => ?_⟩
  refine loopW_at (fun s : LySt => (o, gaps, pledges, shares, own, s.1, s.2.1, s.2.2, (), (), (), (), ())) (lyStep gaps pledges own) (fun pre s => LyInv gaps s pre.length) (pre := []) (s := (rests, stock, rows)) (by subst hr hs hro; exact ⟨rfl, h4, h5, h7, h8, h9, rfl⟩) ?_ ?_
  · rintro pre w post s k' he I hnx
    dsimp only
    have hrl : pre.length < 90 := by have := congrArg List.length he; simp at this; omega
    obtain ⟨f1, f2, f3, f4⟩ := ly_found I h2 h3 h6 h10 w
    have hI' := ly_step I h2 h3 h6 h10 w
    have hnx := hnx (by rw [List.length_append]; exact hI')
    refine ⟨fun e1 => e1 = (o, gaps, pledges, shares, own, s.1, s.2.1, s.2.2, w, lyFound gaps pledges own s.1 s.2.1 w, (), (), ()), ⟨fun hw1 => ?_, fun hw1 => ⟨fun hw2 => ?_, fun hw2 => ?_⟩⟩, ?_⟩
    · refine ⟨⟨by dsimp only; rw [I.l1]; omega, by dsimp only; rw [h3, I.l1]⟩, fun x hx => ?_⟩
      rw [hx]; unfold lyFound; rw [if_pos hw1]
    · refine ⟨⟨by dsimp only; rw [I.l1]; omega, by dsimp only; rw [I.l1, I.l2]⟩, fun x hx => ?_⟩
      rw [hx]; unfold lyFound; rw [if_neg hw1, if_pos hw2]
    · refine ⟨⟨⟨by omega, by omega, sl100 (by omega)⟩, fun k hk => ?_⟩, fun b hb => ⟨by rw [hb]; exact ly_common I h2 h10 w, fun x hx => ?_⟩⟩
      · have := irange_mem hk
        have i1 : inb gaps k := this
        exact ⟨i1, fun _ => ⟨this.1, by rw [I.l2]; exact this.2⟩⟩
      · rw [hx, hb]; unfold lyFound; rw [if_neg hw1, if_neg hw2]; rfl
    · rintro _ rfl
      dsimp only
      have j1 : ∀ {k}, k ∈ irange 0 s.1.length → inb s.1 k ∧ inb (lyFound gaps pledges own s.1 s.2.1 w).1 k := fun hk => by
        have := irange_mem hk
        exact ⟨this, this.1, by rw [f1, ← I.l1]; exact this.2⟩
      have j2 : ∀ {k}, k ∈ irange 0 s.2.1.length → inb s.2.1 k ∧ inb (lyFound gaps pledges own s.1 s.2.1 w).2 k := fun hk => by
        have := irange_mem hk
        exact ⟨this, this.1, by rw [f2]; have := I.l2; omega⟩
      refine ⟨fun e1 => e1 = (o, gaps, pledges, shares, own, s.1, (lyStep gaps pledges own s w).2.1, s.2.2, w, lyFound gaps pledges own s.1 s.2.1 w, (), (), ()), ⟨fun hw1 => ?_, fun hw1 => ?_⟩, ?_⟩
      · refine ⟨⟨⟨by have := I.l2; omega, by omega, sl100 (by have := I.l2; omega)⟩, fun k hk => j2 hk⟩, fun x hx => ?_⟩
        rw [hx]; unfold lyStep; dsimp only; rw [if_neg hw1]; rfl
      · unfold lyStep; dsimp only; rw [if_pos hw1]
      · rintro _ rfl
        dsimp only
        refine ⟨⟨⟨by have := I.l1; omega, by omega, sl100 (by have := I.l1; omega)⟩, fun k hk => j1 hk⟩, fun x hx => ⟨?_, ?_⟩⟩
        · have := I.len; have := hrl; exact Nat.lt_of_le_of_lt (m := 90) (by omega) (by decide)
        · rw [hx]
          exact hnx
  · intro hI
    unfold m_layered
    dsimp only
    rw [hy, hr, hs, hro]
    rfl
abbrev s__law_asked : Stmt := top 23
abbrev ns__law_asked : List Str := ["order", "gaps", "pledges", "shares", "found", "e", "right"]
theorem sc__law_asked : FnScope ns__law_asked ["order", "gaps", "pledges", "shares"] (defScope s__law_asked) := ⟨rfl, rfl, rfl, by decide +kernel, rfl, by decide +kernel, by decide +kernel⟩
abbrev sp__law_asked : Sp := (spF (arc (rList rStr) (arc (rList rInt) (arc (rList rInt) (ar1 (rList rInt))))) p_asked (rTup (fc rStr (f1 (rAlt rBool (rTup (fc (rList (rTup (fc rStr (fc (rList rInt) (f1 (rList rInt)))))) (f1 (rList rInt)))))))) m_asked)
theorem ok__law_asked {f : Addr} {fd : FuncData} (Fn : Fun K "_law_asked" "_law_asked" s__law_asked f fd) (Nm : Names0 mg) (Er : Errs K mg nsL csL) (clayered : Cal P w K mg base (L2.CX P w) 4 "layered" ["order", "gaps", "pledges", "shares", "own"] (sp_layered K)) :
    FnOk P w K mg base CX0 5 f fd ["order", "gaps", "pledges", "shares"] sp__law_asked := by
  refine fn_F Fn sc__law_asked (s_c (s_c (s_c (s_1 (s_a (s_a (s_a s_n))))))) rfl rfl (fun cdv Ar outer s H EX hr => ?_)
  refine ⟨_, (pss_cons (ps_set (i := 4) sc__law_asked.nd rfl (Or.inl rfl) (pe_tup (pa_cons pe_str (pa_cons pe_bl pa_nil))))
    (pss_cons (ps_tryQ (i := 5) rfl rfl sc__law_asked.nd rfl rfl ⟨rfl, by decide, .inl (Er.gl "QuitsError")⟩ takes0 (fun W pn xe tk po => (pss_one (ps_set (i := 4) sc__law_asked.nd rfl (Or.inl rfl) (pe_tup (pa_cons pe_str (pa_cons (pe_calS clayered (hr.mono (by decide)) tk (pa_cons (pv 0) (pa_cons (pe_callTy call_list_of (by rfl) Nm.n_list bt_list (pa_cons (pv 1) pa_nil)) (pa_cons (pe_callTy call_list_of (by rfl) Nm.n_list bt_list (pa_cons (pv 2) pa_nil)) (pa_cons (pe_callTy call_list_of (by rfl) Nm.n_list bt_list (pa_cons (pv 3) pa_nil)) (pa_cons pe_int pa_nil)))))) pa_nil)))))) (fun a oe cls d pn hz hf => (pss_cons (ps_set (i := 6) sc__law_asked.nd rfl (Or.inl rfl) (pe_and (pe_callB (call_isG hz hf) (by rfl) Nm.n_isinstance bt_isinstance (pa_cons (pv 5) (pa_cons (pe_glob (by rfl) (Er.gl "NoLayer") rr) pa_nil))) (pe_one (pe_callB (call_isG hz hf) (by rfl) Nm.n_isinstance bt_isinstance (pa_cons (pv 5) (pa_cons (pe_bltn (by rfl) Nm.n_ValueError bt_ValueError rty) pa_nil))))))
    (pss_cons (ps_if (pw_or (pt_val (pe_callB (call_isG hz hf) (by rfl) Nm.n_isinstance bt_isinstance (pa_cons (pv 5) (pa_cons (pe_glob (by rfl) (Er.gl "NoPart") rr) pa_nil)))) (pw_or (pt_val (pe_callB (call_isG hz hf) (by rfl) Nm.n_isinstance bt_isinstance (pa_cons (pv 5) (pa_cons (pe_glob (by rfl) (Er.gl "NoRule") rr) pa_nil)))) (pw_or1 (pt_val (pe_callB (call_isG hz hf) (by rfl) Nm.n_isinstance bt_isinstance (pa_cons (pv 5) (pa_cons (pe_glob (by rfl) (Er.gl "TooMuch") rr) pa_nil))))))).pt (pss_one (ps_set (i := 6) sc__law_asked.nd rfl (Or.inl rfl) pe_bl)) pss_nil)
    (pss_one (ps_set (i := 4) sc__law_asked.nd rfl (Or.inl rfl) (pe_tup (pa_cons pe_str (pa_cons (pv 6) pa_nil)))))))))
    (pss_one (ps_ret (pv 4))))), Unit, cN, _,
  (ds_seq (ds_set (de_tup gn_N (df_c (de_cv de_str (cv_toI fl_str.to gt_N)) (df_1 (de_inl (s := (rTup (fc (rList (rTup (fc rStr (fc (rList rInt) (f1 (rList rInt)))))) (f1 (rList rInt))))) (de_cv de_bool (cv_toI fl_bool.to gt_N))))) (by decide +kernel)) (pS (pS (pS (pS p0)))))
    (ds_seq (ds_try (L := nsL) (Γ' := (cS (kI gI (rList rStr)) (cS (kI gI (rList rInt)) (cS (kI gI (rList rInt)) (cS (kI gI (rList rInt)) (cS (kI (gN H) (rTup (fc rStr (f1 (rAlt rBool (rTup (fc (rList (rTup (fc rStr (fc (rList rInt) (f1 (rList rInt)))))) (f1 (rList rInt))))))))) (cS kAny (cS kAny cN)))))))) (Γo := fun a => (cS (kI gI (rList rStr)) (cS (kI gI (rList rInt)) (cS (kI gI (rList rInt)) (cS (kI gI (rList rInt)) (cS (kI (gN H) (rTup (fc rStr (f1 (rAlt rBool (rTup (fc (rList (rTup (fc rStr (fc (rList rInt) (f1 (rList rInt)))))) (f1 (rList rInt))))))))) (cS (kE a) (cS kAny cN)))))))) (Γy := (cS (kI gI (rList rStr)) (cS (kI gI (rList rInt)) (cS (kI gI (rList rInt)) (cS (kI gI (rList rInt)) (cS kAny (cS kAny (cS kAny cN)))))))) (Γs := fun a => (cS (kI gI (rList rStr)) (cS (kI gI (rList rInt)) (cS (kI gI (rList rInt)) (cS (kI gI (rList rInt)) (cS kAny (cS (kE a) (cS kAny cN)))))))) (fun n hn => (Er.all hn).2.2.1) (fun W2 => (dsx_pairA (dp_c (de_cv (de_var a0) cv_IF) (dp_c (de_cv (de_cv (de_listof (de_var (aS a0))) (cv_LI gn_I)) cv_IF) (dp_c (de_cv (de_cv (de_listof (de_var (aS (aS a0)))) (cv_LI gn_I)) cv_IF) (dp_c (de_cv (de_cv (de_listof (de_var (aS (aS (aS a0))))) (cv_LI gn_I)) cv_IF) (dp_1 (de_cv de_int cv_IF)))))) (sS sk_id (sS sk_id (sS sk_id (sS sk_id (sS sk_any (sS sk_id (sS sk_id sN))))))) rfl (pS (pS (pS (pS p0)))))) (fun a => (pS (pS (pS (pS (pS p0)))))) (fun a n hn => (ds_post (ds_seq (ds_set (de_andV (de_isE Er (c := "NoLayer") hn (by decide) (if_neg (by decide +kernel)) (aS (aS (aS (aS (aS a0)))))) (de_isE Er (c := "ValueError") hn (by decide) (if_pos rfl) (aS (aS (aS (aS (aS a0))))))) (pS (pS (pS (pS (pS (pS p0)))))))
    (ds_seq (ds_if (dt_or (dt_B (de_isE Er (c := "NoPart") hn (by decide) (if_neg (by decide +kernel)) (aS (aS (aS (aS (aS a0))))))) (dt_or (dt_B (de_isE Er (c := "NoRule") hn (by decide) (if_neg (by decide +kernel)) (aS (aS (aS (aS (aS a0))))))) (dt_B (de_isE Er (c := "TooMuch") hn (by decide) (if_neg (by decide +kernel)) (aS (aS (aS (aS (aS a0))))))))) (ds_set de_bool (pS (pS (pS (pS (pS (pS p0))))))) ds_next)
    (ds_set (de_tup gn_N (df_c (de_cv de_str (cv_toI fl_str.to gt_N)) (df_1 (de_inl (s := (rTup (fc (rList (rTup (fc rStr (fc (rList rInt) (f1 (rList rInt)))))) (f1 (rList rInt))))) (de_cv (de_var (aS (aS (aS (aS (aS (aS a0))))))) (cv_toI fl_bool.to gt_N))))) (by decide +kernel)) (pS (pS (pS (pS p0))))))) (sS sk_id (sS sk_id (sS sk_id (sS sk_id (sS sk_id (sS sk_id (sS sk_any sN))))))))) (fun a => (pS (pS (pS (pS (pS p0)))))))
    (ds_ret (g := (gN H)) (r := (rTup (fc rStr (f1 (rAlt rBool (rTup (fc (rList (rTup (fc rStr (fc (rList rInt) (f1 (rList rInt)))))) (f1 (rList rInt))))))))) (de_cv (de_var (aS (aS (aS (aS a0))))) cv_IF) (fun q => q)))), ?_⟩
  rintro ⟨o, g, p, s⟩ hx
  simp only [T0, koN, koX, true_and, and_true, implies_true, and_self, decide_eq_true_eq, decide_eq_false_iff_not, Bool.and_eq_true, Bool.or_eq_true, Bool.and_eq_false_iff, Bool.or_eq_false_iff, Bool.not_eq_true', Bool.not_eq_false', if_true, Bool.false_eq_true, if_false]
  intro fd0 _
  refine ⟨hx, fun n hn => ?_, fun y hy => ?_⟩
  · have en := m_layered_err hn
    subst en
    refine ⟨by decide, fun x2 h2 => ⟨fun h => ?_, fun _ x3 h3 => ?_⟩⟩
    · exact absurd h (by decide)
    · rw [h3, h2]
      unfold m_asked
      rw [hn]
      rfl
  · unfold m_asked
    rw [hy]
abbrev s_law : Stmt := top 25
abbrev ns_law : List Str := ["script", "order", "k", "at", "many", "gaps", "pledges", "shares", "mended", "handed", "found"]
theorem sc_law : FnScope ns_law ["script"] (defScope s_law) := ⟨rfl, rfl, rfl, by decide +kernel, rfl, by decide +kernel, by decide +kernel⟩
abbrev sp_law (K : PySem.W.Frag) : Sp := (spF (ar1 (rScr K)) (fun x => x.length ≤ 63) rBool (fun _ => true))
theorem ok_law {f : Addr} {fd : FuncData} (Fn : Fun K "law" "law" s_law f fd) (Nm : Names0 mg) (c_law_order : Cal P w K mg base CX0 3 "_law_order" ["script", "start"] (sp__law_order K)) (c_law_draw : Cal P w K mg base CX0 2 "_law_draw" ["script", "k", "many"] (sp__law_draw K)) (c_law_word : Cal P w K mg base CX0 3 "_law_word" ["script", "start"] (sp__law_word K)) (c_law_mended : Cal P w K mg base CX0 1 "_law_mended" ["order"] sp__law_mended) (c_law_asked : Cal P w K mg base CX0 5 "_law_asked" ["order", "gaps", "pledges", "shares"] sp__law_asked) (c_law_rows : Cal P w K mg base CX0 1 "_law_rows" ["found", "order"] sp__law_rows) :
    FnOk P w K mg base CX0 6 f fd ["script"] (sp_law K) := by
  refine fn_F Fn sc_law (s_1 (s_a (s_a (s_a (s_a (s_a (s_a (s_a (s_a (s_a (s_a s_n))))))))))) rfl rfl (fun cdv Ar outer s H EX hr => ?_)
  refine ⟨_, (pss_cons (ps_set (i := 1) sc_law.nd rfl (Or.inl rfl) (pe_cal c_law_order (hr.mono (by decide)) (pa_cons (pv 0) (pa_cons pe_int pa_nil))))
    (pss_cons (ps_for PassesOwn.never rfl (pi_range1 (by rfl) Nm.n_range (pa_cons (pe_cal c_law_draw (hr.mono (by decide)) (pa_cons (pv 0) (pa_cons pe_int (pa_cons pe_int pa_nil)))) pa_nil)) (pg_name (i := 2) sc_law.nd rfl (Or.inl rfl))
    (pss_cons (ps_set (i := 3) sc_law.nd rfl (Or.inl rfl) (pe_cal c_law_draw (hr.mono (by decide)) (pa_cons (pv 0) (pa_cons (pe_op op_add pe_int (pv 2)) (pa_cons (pe_op op_add (pe_callB call_len (by rfl) Nm.n_len bt_len (pa_cons (pv 1) pa_nil)) pe_int) pa_nil)))))
    (pss_one (ps_set (i := 1) sc_law.nd rfl (Or.inl rfl) (pe_op op_cat (pe_op op_cat (pe_slice sl_list (pv 1) po_none (po_some (pv 3))) (pe_lst (pa_cons (pe_cal c_law_word (hr.mono (by decide)) (pa_cons (pv 0) (pa_cons (pe_op op_add pe_int (pe_op op_mulX pe_int (pv 2))) pa_nil))) pa_nil))) (pe_slice sl_list (pv 1) (po_some (pv 3)) po_none))))))
    (pss_cons (ps_set (i := 4) sc_law.nd rfl (Or.inl rfl) (pe_op op_add pe_int (pe_cal c_law_draw (hr.mono (by decide)) (pa_cons (pv 0) (pa_cons pe_int (pa_cons pe_int pa_nil))))))
    (pss_cons (ps_setLc (i := 5) (own := [("k", 2)]) (g := gName 2) (tt := tYes) rfl sc_law.nd rfl rfl (sw_true rfl rfl rfl (by decide +kernel)) (pi_range1 (by rfl) Nm.n_range (pa_cons (pv 4) pa_nil)) (blkOk_by (N := ns_law) (sc := defScope s_law) (by decide +kernel)) (fun _ _ _ _ _ => pg_name (i := 2) sc_law.nd rfl (by first | exact Or.inl rfl | exact Or.inr rfl)) (fun _ _ _ _ _ => pts_nil) (fun _ _ _ _ _ => (pe_cal c_law_draw (hr.mono (by decide)) (pa_cons (pv 0) (pa_cons (pe_op op_add pe_int (pv 2)) (pa_cons pe_int pa_nil))))))
    (pss_cons (ps_setLc (i := 6) (own := [("k", 2)]) (g := gName 2) (tt := tYes) rfl sc_law.nd rfl rfl (sw_true rfl rfl rfl (by decide +kernel)) (pi_range1 (by rfl) Nm.n_range (pa_cons (pv 4) pa_nil)) (blkOk_by (N := ns_law) (sc := defScope s_law) (by decide +kernel)) (fun _ _ _ _ _ => pg_name (i := 2) sc_law.nd rfl (by first | exact Or.inl rfl | exact Or.inr rfl)) (fun _ _ _ _ _ => pts_nil) (fun _ _ _ _ _ => (pe_cal c_law_draw (hr.mono (by decide)) (pa_cons (pv 0) (pa_cons (pe_op op_add pe_int (pv 2)) (pa_cons pe_int pa_nil))))))
    (pss_cons (ps_setLc (i := 7) (own := [("k", 2)]) (g := gName 2) (tt := tYes) rfl sc_law.nd rfl rfl (sw_true rfl rfl rfl (by decide +kernel)) (pi_range1 (by rfl) Nm.n_range (pa_cons (pv 4) pa_nil)) (blkOk_by (N := ns_law) (sc := defScope s_law) (by decide +kernel)) (fun _ _ _ _ _ => pg_name (i := 2) sc_law.nd rfl (by first | exact Or.inl rfl | exact Or.inr rfl)) (fun _ _ _ _ _ => pts_nil) (fun _ _ _ _ _ => (pe_cal c_law_draw (hr.mono (by decide)) (pa_cons (pv 0) (pa_cons (pe_op op_add pe_int (pv 2)) (pa_cons pe_int pa_nil))))))
    (pss_cons (ps_set (i := 8) sc_law.nd rfl (Or.inl rfl) (pe_cal c_law_mended (hr.mono (by decide)) (pa_cons (pv 1) pa_nil)))
    (pss_cons (ps_set (i := 9) sc_law.nd rfl (Or.inl rfl) (pe_callTy call_list_of (by rfl) Nm.n_list bt_list (pa_cons (pv 1) pa_nil)))
    (pss_cons (ps_set (i := 10) sc_law.nd rfl (Or.inl rfl) (pe_cal c_law_asked (hr.mono (by decide)) (pa_cons (pv 9) (pa_cons (pv 5) (pa_cons (pv 6) (pa_cons (pv 7) pa_nil))))))
    (pss_cons (ps_if (pt_cmpR (op_neD hr.units) (pv 9) (pv 1) (nomark _)) (pss_one (ps_ret pe_bl)) pss_nil)
    (pss_cons (ps_if (pt_cmpR (op_eqD hr.units) (pv 8) (pv 1) (nomark _)) (pss_one (ps_ret (pe_cal c_law_rows (hr.mono (by decide)) (pa_cons (pv 10) (pa_cons (pv 1) pa_nil))))) pss_nil)
    (pss_cons (ps_if (pt_cmpR (op_neD hr.units) (pv 10) (pe_tup (pa_cons pe_str (pa_cons pe_bl pa_nil))) (nomark _)) (pss_one (ps_ret pe_bl)) pss_nil)
    (pss_cons (ps_if (pt_not (pt_val (pe_cal c_law_rows (hr.mono (by decide)) (pa_cons (pe_cal c_law_asked (hr.mono (by decide)) (pa_cons (pe_callTy call_list_of (by rfl) Nm.n_list bt_list (pa_cons (pv 8) pa_nil)) (pa_cons (pv 5) (pa_cons (pv 6) (pa_cons (pv 7) pa_nil))))) (pa_cons (pv 8) pa_nil))))) (pss_one (ps_ret pe_bl)) pss_nil)
    (pss_one (ps_ret (pe_cmpR (op_eqD hr.units) (pe_cal c_law_asked (hr.mono (by decide)) (pa_cons (pv 9) (pa_cons (pv 5) (pa_cons (pv 6) (pa_cons (pv 7) pa_nil))))) (pe_tup (pa_cons pe_str (pa_cons pe_bl pa_nil))) (nomark _))))))))))))))))), Unit, cN, _,
  (ds_seq (ds_set (de_cv (de_callL fl_str.to gt_N (dp_c (de_cv (de_var a0) cv_IF) (dp_1 (de_cv de_int cv_IF)))) (cv_LI gn_N)) (pS p0))
    (ds_seq (ds_forR1 (da_1 (de_cv (de_callF (dp_c (de_cv (de_var a0) cv_IF) (dp_c (de_cv de_int cv_IF) (dp_1 (de_cv de_int cv_IF))))) cv_II)) (pS (pS p0))
    (ds_post (ds_seq (ds_set (de_cv (de_callF (dp_c (de_cv (de_var a0) cv_IF) (dp_c (de_cv (de_op0 de_int (de_var (aS (aS a0)))) cv_IF) (dp_1 (de_cv (de_op0 (de_len (de_cv (de_var (aS a0)) cv_IFI)) de_int) cv_IF))))) cv_II) (pS (pS (pS p0))))
    (ds_set (de_cv (de_cat (de_cv (de_cat (de_cv (de_slice (de_var (aS a0)) do_none (do_some (de_var (aS (aS (aS a0)))))) (cv_LI gn_N)) (de_cv (de_lst (di_c (de_callF (dp_c (de_cv (de_var a0) cv_IF) (dp_1 (de_cv (de_op0 de_int (de_opI de_int (de_var (aS (aS a0))))) cv_IF)))) (di_0 (r := rStr))) (by decide +kernel)) (cv_LI gn_N))) (cv_LI gn_N)) (de_cv (de_slice (de_var (aS a0)) (do_some (de_var (aS (aS (aS a0))))) do_none) (cv_LI gn_N))) (cv_LI gn_N)) (pS p0))) (sS sk_id (sS sk_id (sS sk_any (sS sk_any (sS sk_id (sS sk_id (sS sk_id (sS sk_id (sS sk_id (sS sk_id (sS sk_id sN)))))))))))))
    (ds_seq (ds_set (de_op0 de_int (de_cv (de_callF (dp_c (de_cv (de_var a0) cv_IF) (dp_c (de_cv de_int cv_IF) (dp_1 (de_cv de_int cv_IF))))) cv_II)) (pS (pS (pS (pS p0)))))
    (ds_seq (ds_set (de_cv (de_cv (de_lcR1y (da_1 (de_var (aS (aS (aS (aS a0)))))) (pS (pS p0)) (de_cv (de_callF (dp_c (de_cv (de_var a0) cv_IF) (dp_c (de_cv (de_op0 de_int (de_var (aS (aS a0)))) cv_IF) (dp_1 (de_cv de_int cv_IF))))) cv_II)) (cv_LG fl_int.to gt_N)) (cv_LI gn_N)) (pS (pS (pS (pS (pS p0))))))
    (ds_seq (ds_set (de_cv (de_cv (de_lcR1y (da_1 (de_var (aS (aS (aS (aS a0)))))) (pS (pS p0)) (de_cv (de_callF (dp_c (de_cv (de_var a0) cv_IF) (dp_c (de_cv (de_op0 de_int (de_var (aS (aS a0)))) cv_IF) (dp_1 (de_cv de_int cv_IF))))) cv_II)) (cv_LG fl_int.to gt_N)) (cv_LI gn_N)) (pS (pS (pS (pS (pS (pS p0)))))))
    (ds_seq (ds_set (de_cv (de_cv (de_lcR1y (da_1 (de_var (aS (aS (aS (aS a0)))))) (pS (pS p0)) (de_cv (de_callF (dp_c (de_cv (de_var a0) cv_IF) (dp_c (de_cv (de_op0 de_int (de_var (aS (aS a0)))) cv_IF) (dp_1 (de_cv de_int cv_IF))))) cv_II)) (cv_LG fl_int.to gt_N)) (cv_LI gn_N)) (pS (pS (pS (pS (pS (pS (pS p0))))))))
    (ds_seq (ds_set (de_cv (de_callL fl_str.to gt_N (dp_1 (de_cv (de_var (aS a0)) cv_IFI))) (cv_LI gn_N)) (pS (pS (pS (pS (pS (pS (pS (pS p0)))))))))
    (ds_seq (ds_set (de_cv (de_listof (de_var (aS a0))) (cv_LI gn_N)) (pS (pS (pS (pS (pS (pS (pS (pS (pS p0))))))))))
    (ds_seq (ds_set (de_callF (dp_c (de_cv (de_var (aS (aS (aS (aS (aS (aS (aS (aS (aS a0)))))))))) cv_IFI) (dp_c (de_cv (de_var (aS (aS (aS (aS (aS a0)))))) cv_IFI) (dp_c (de_cv (de_var (aS (aS (aS (aS (aS (aS a0))))))) cv_IFI) (dp_1 (de_cv (de_var (aS (aS (aS (aS (aS (aS (aS a0)))))))) cv_IFI)))))) (pS (pS (pS (pS (pS (pS (pS (pS (pS (pS p0)))))))))))
    (ds_seq (ds_if (dt_test (de_neD (en_list en_str) (de_cv (de_var (aS (aS (aS (aS (aS (aS (aS (aS (aS a0)))))))))) cv_IFI) (de_cv (de_var (aS a0)) cv_IFI))) (ds_ret (de_cv (de_cv de_bool (cv_toI fl_bool.to gt_N)) cv_IF) (fun q => q)) ds_next)
    (ds_seq (ds_if (dt_test (de_eqD (en_list en_str) (de_cv (de_var (aS (aS (aS (aS (aS (aS (aS (aS a0))))))))) cv_IFI) (de_cv (de_var (aS a0)) cv_IFI))) (ds_ret (de_cv (de_callF (dp_c (de_cv (de_var (aS (aS (aS (aS (aS (aS (aS (aS (aS (aS a0))))))))))) cv_IFI) (dp_1 (de_cv (de_var (aS a0)) cv_IFI)))) cv_IF) (fun q => q)) ds_next)
    (ds_seq (ds_if (dt_test (de_neD (en_tup (enf_c en_str (enf_1 (en_alt en_bool (en_tup (enf_c (en_list (en_tup (enf_c en_str (enf_c (en_list en_int) (enf_1 (en_list en_int)))))) (enf_1 (en_list en_int)))) (apart_bt (enf_c (en_list (en_tup (enf_c en_str (enf_c (en_list en_int) (enf_1 (en_list en_int)))))) (enf_1 (en_list en_int)))))))) (de_cv (de_var (aS (aS (aS (aS (aS (aS (aS (aS (aS (aS a0))))))))))) cv_IFI) (de_cv (de_tup gn_N (df_c (de_cv de_str (cv_toI fl_str.to gt_N)) (df_1 (de_inl (s := (rTup (fc (rList (rTup (fc rStr (fc (rList rInt) (f1 (rList rInt)))))) (f1 (rList rInt))))) (de_cv de_bool (cv_toI fl_bool.to gt_N))))) (by decide +kernel)) cv_IFI))) (ds_ret (de_cv (de_cv de_bool (cv_toI fl_bool.to gt_N)) cv_IF) (fun q => q)) ds_next)
    (ds_seq (ds_if (dt_not (dt_B (de_cv (de_callF (dp_c (de_cv (de_callF (dp_c (de_cv (de_cv (de_cv (de_listof (de_var (aS (aS (aS (aS (aS (aS (aS (aS a0)))))))))) (cv_LI gn_N)) cv_II) cv_IF) (dp_c (de_cv (de_var (aS (aS (aS (aS (aS a0)))))) cv_IFI) (dp_c (de_cv (de_var (aS (aS (aS (aS (aS (aS a0))))))) cv_IFI) (dp_1 (de_cv (de_var (aS (aS (aS (aS (aS (aS (aS a0)))))))) cv_IFI)))))) cv_IFI) (dp_1 (de_cv (de_var (aS (aS (aS (aS (aS (aS (aS (aS a0))))))))) cv_IFI)))) cv_II))) (ds_ret (de_cv (de_cv de_bool (cv_toI fl_bool.to gt_N)) cv_IF) (fun q => q)) ds_next)
    (ds_ret (de_cv (de_cv (de_eqD (en_tup (enf_c en_str (enf_1 (en_alt en_bool (en_tup (enf_c (en_list (en_tup (enf_c en_str (enf_c (en_list en_int) (enf_1 (en_list en_int)))))) (enf_1 (en_list en_int)))) (apart_bt (enf_c (en_list (en_tup (enf_c en_str (enf_c (en_list en_int) (enf_1 (en_list en_int)))))) (enf_1 (en_list en_int)))))))) (de_cv (de_callF (dp_c (de_cv (de_var (aS (aS (aS (aS (aS (aS (aS (aS (aS a0)))))))))) cv_IFI) (dp_c (de_cv (de_var (aS (aS (aS (aS (aS a0)))))) cv_IFI) (dp_c (de_cv (de_var (aS (aS (aS (aS (aS (aS a0))))))) cv_IFI) (dp_1 (de_cv (de_var (aS (aS (aS (aS (aS (aS (aS a0)))))))) cv_IFI)))))) cv_IFI) (de_cv (de_tup gn_N (df_c (de_cv de_str (cv_toI fl_str.to gt_N)) (df_1 (de_inl (s := (rTup (fc (rList (rTup (fc rStr (fc (rList rInt) (f1 (rList rInt)))))) (f1 (rList rInt))))) (de_cv de_bool (cv_toI fl_bool.to gt_N))))) (by decide +kernel)) cv_IFI)) (cv_toI fl_bool.to gt_N)) cv_IF) (fun q => q))))))))))))))), ?_⟩
  intro x hx
  simp only [T0, koN, koX, true_and, and_true, implies_true, and_self, decide_eq_true_eq, decide_eq_false_iff_not, Bool.and_eq_true, Bool.or_eq_true, Bool.and_eq_false_iff, Bool.or_eq_false_iff, Bool.not_eq_true', Bool.not_eq_false', if_true, Bool.false_eq_true, if_false]
  refine ⟨⟨by dsimp only; omega, by dsimp only; omega⟩, fun o0 ho0 => ?_⟩
  have hd := m_draw_at (s := x) (k := 0) (n := 3) (by decide)
  have hlo := m_lorder_ok (x, 20)
  refine ⟨⟨by dsimp only; omega, by dsimp only; omega, by dsimp only; omega⟩, by omega, by omega, ?_⟩
  refine loopW_at (fun o : List Str => (x, o, (), (), (), (), (), (), (), (), (), ())) (insW x) (fun pre o => (o.length ≤ 23 ∧ (pre.length = 0 → o.length ≤ 5) ∧ (pre.length ≤ 1 → o.length ≤ 11)) ∧ ∀ w ∈ o, okT w) (pre := []) (s := o0) ?_ ?_ ?_
  · rw [ho0]
    exact ⟨⟨by omega, fun _ => hlo.2.2, fun _ => by omega⟩, fun w hw => layers_ok (hlo.2.1 w hw)⟩
  · rintro pre k post o k' e ⟨⟨l1, l2, l3⟩, hk⟩ nx
    obtain ⟨ek, hlt⟩ := irange_split e
    have c1 := @cuti_len _ o none (some (m_draw (x, 1 + k, (o.length : Int) + 1)))
    have c2 := @cuti_len _ o (some (m_draw (x, 1 + k, (o.length : Int) + 1))) none
    have c3 := insW_len x o k
    dsimp only
    refine ⟨⟨by dsimp only; omega, by dsimp only; omega, by dsimp only; omega⟩, fun at_ hat => ?_⟩
    rw [hat]
    refine ⟨⟨⟨⟨mulOkL (by omega) (by omega), by dsimp only; omega, by dsimp only; omega⟩, le_line (by simp; omega)⟩, le_line (by simp; omega)⟩, fun o2 ho2 => ?_⟩
    rw [ho2]
    have hp : pre.length ≤ 1 := by omega
    exact nx ⟨⟨by have := l3 hp; show (insW x o k).length ≤ 23; omega, fun h => by simp at h, fun h => by simp at h; have := l2 (by rw [h]; rfl); show (insW x o k).length ≤ 11; omega⟩, insW_ok hk⟩
  · rintro ⟨⟨l1, l2, l3⟩, hk⟩
    generalize (irange 0 (m_draw (x, 0, 3))).foldl (insW x) o0 = o at l1 l2 l3 hk ⊢
    have hn := m_draw_at (s := x) (k := 3) (n := 4) (by decide)
    have en : ∀ {o : List Str}, (∀ w ∈ o, okT w) → (en_list en_str).ok o := fun h w hw => okT_ok (h w hw)
    refine ⟨⟨by dsimp only; omega, by dsimp only; omega, by dsimp only; omega⟩, fun n hn' => ?_⟩
    have hn' : n = 1 + m_draw (x, 3, 4) := hn'
    have hn : 0 ≤ n ∧ n ≤ 4 := by omega
    have nn : (n < 2 ^ 62 ∧ -2 ^ 62 ≤ n ∧ n.toNat ≤ sizeLine) := ⟨by omega, by omega, le_line (by omega)⟩
    have pd : ∀ a : Int, 0 ≤ a → a < 100 → ∀ k, k ∈ irange 0 n → p_draw (x, a + k, 9) := fun a h0 h1 k hk => by
      have := irange_mem hk
      exact ⟨by dsimp only; omega, by dsimp only; omega, by dsimp only; omega⟩
    refine ⟨⟨nn, pd 4 (by decide) (by decide)⟩, fun g hg => ⟨⟨nn, pd 8 (by decide) (by decide)⟩, fun p hp => ⟨⟨nn, pd 12 (by decide) (by decide)⟩, fun s hs => ⟨by show o.length ≤ 90; omega, fun m hm o' ho' => ?_⟩⟩⟩⟩
    have ho' : o' = o := ho'
    subst ho'
    have hm : m = m_mended o' := hm
    have pa : ∀ o : List Str, o.length ≤ 90 → p_asked (o, g, p, s) := fun o ho => by rw [hg, hp, hs]; exact p_asked_law ho hn
    obtain ⟨n1, n2, n3⟩ := mended_ok o'
    have hmk : ∀ w ∈ m, okT w := fun w hw => layers_ok (n2 w (by rw [← hm]; exact hw))
    have hml : m.length ≤ 90 := by rw [hm]; omega
    refine ⟨pa _ (by omega), fun fd hfd => ⟨⟨en hk, en hk⟩, fun h => h rfl, fun _ => ⟨⟨en hmk, en hk⟩, fun he => ?_, fun hne => ?_⟩⟩⟩
    · rw [hfd]
      refine ⟨m_asked_rows (by omega) hk (show o'.length ≤ 90 by omega) hk, ?_⟩
      rw [hm] at he
      exact decide_eq_true (m_asked_good ((mended_iff o').mp he))
    · rw [hm] at hne
      have hbad := m_asked_bad (g := g) (p := p) (s := s) fun h => hne ((mended_iff o').mpr h)
      rw [hfd, hbad]
      have hr : PySem.PyData.strOk "refused" = true := by decide +kernel
      refine ⟨⟨⟨hr, trivial⟩, ⟨hr, trivial⟩⟩, fun h => h rfl, fun _ => ⟨⟨pa _ hml, m_asked_rows hml hmk hml hmk⟩, fun hf => ?_, fun _ => ⟨⟨pa _ (by omega), ⟨hr, trivial⟩, ⟨hr, trivial⟩⟩, rfl⟩⟩⟩
      rw [hm] at hf
      rw [show m_rows (m_asked (m_mended o', g, p, s), m_mended o') = true from decide_eq_true (m_asked_good ⟨n1, n2⟩)] at hf
      cases hf
end
section
open He
def fnL : List He.DefD := [dd "ask_enough" (top 7),
  dd "by_shares" (top 8),
  dd "level_of" (top 9),
  dd "by_level" (top 10),
  dd "ask_order" (top 13),
  dd "own_row" (top 14),
  dd "common_row" (top 15),
  dd "layered" (top 16),
  dd "_law_cell" (top 18),
  dd "_law_draw" (top 19),
  dd "_law_order" (top 20),
  dd "_law_word" (top 21),
  dd "_law_mended" (top 22),
  dd "_law_asked" (top 23),
  dd "_law_rows" (top 24),
  dd "law" (top 25)]
def faL : List He.Fa := [.glo "QuitsError", .glo "NoPart", .glo "NoRule", .glo "TooMuch", .glo "NoLayer", .glo "ask_enough", .glo "by_shares", .glo "level_of", .glo "by_level", .glo "LAYERS", .glo "ask_order", .glo "own_row", .glo "common_row", .glo "layered", .glo "_law_cell", .glo "_law_draw", .glo "_law_order", .glo "_law_word", .glo "_law_mended", .glo "_law_asked", .glo "_law_rows", .glo "law", .free "len", .free "sum", .free "abs", .free "min", .free "max", .free "all", .free "sorted", .free "isinstance", .free "list", .free "tuple", .free "range", .free "reversed", .free "int", .free "bool", .free "str", .free "ValueError"]
def exL (K : PySem.W.Frag) : Bool := tupB K "LAYERS" [.str "pledge", .str "share", .str "own", .str "others", .str "level"] && errB K nsL csL
abbrev RowL : PySem.W.OpenRow := PySem.W.OpenLaw.row PySem.Challenge.rw_quits_k66_no_order
abbrev hkL : PySem.W.Hook := hookQ 5 faL fnL exL
def obL (s : PySem.W.SharedT) : He.AlD × Bool := obsQ 5 faL fnL exL (HandSHeadRun.getT s)
theorem obL_eq (s : PySem.W.SharedT) : obL s = hkL.obs s.abs := obsQ_eq (HandSHeadRun.getT_eq s)
def looseL : List Str := (["__name__", "QuitsError", "NoPart", "NoRule", "TooMuch", "NoLayer", "ask_enough", "by_shares", "level_of", "by_level", "LAYERS", "ask_order", "own_row", "common_row", "layered", "_law_cell", "_law_draw", "_law_order", "_law_word", "_law_mended", "_law_asked", "_law_rows"] : List Str)
theorem runL (w : World) : HandSHeadRun.RunEq RowL (PySem.W.view RowL.prog [25]) hkL obL 4000 looseL w := by
  intro os
  kernel_rfl
theorem all {P : Program} {w : World} {K : PySem.W.Frag} {h : Heap} {mg : Str → Option Value} {f : Addr} (X : K.In h) (G : h.Ns mainGlobals mg) (hfa : mg ("law" : Str) = some (.ref f)) (c : SaysD faL fnL K) (c2 : exL K = true) :
    ∃ fd : FuncData, (∀ (s : Shared) (v : Value), BindsTo s fd ⟨[v], []⟩ [("script", v)]) ∧ ∀ base : Heap, K.In base → base.Ns mainGlobals mg → FnOk P w K mg base CX0 6 f fd ["script"] (spTrue K) := by
  have Nm : Names0 mg := ⟨(free_ok X G (c.fact 22 (f := He.Fa.free "len") rfl)), (free_ok X G (c.fact 23 (f := He.Fa.free "sum") rfl)), (free_ok X G (c.fact 24 (f := He.Fa.free "abs") rfl)), (free_ok X G (c.fact 25 (f := He.Fa.free "min") rfl)), (free_ok X G (c.fact 26 (f := He.Fa.free "max") rfl)), (free_ok X G (c.fact 27 (f := He.Fa.free "all") rfl)), (free_ok X G (c.fact 28 (f := He.Fa.free "sorted") rfl)), (free_ok X G (c.fact 29 (f := He.Fa.free "isinstance") rfl)), (free_ok X G (c.fact 30 (f := He.Fa.free "list") rfl)), (free_ok X G (c.fact 31 (f := He.Fa.free "tuple") rfl)), (free_ok X G (c.fact 32 (f := He.Fa.free "range") rfl)), (free_ok X G (c.fact 33 (f := He.Fa.free "reversed") rfl)), (free_ok X G (c.fact 34 (f := He.Fa.free "int") rfl)), (free_ok X G (c.fact 35 (f := He.Fa.free "bool") rfl)), (free_ok X G (c.fact 36 (f := He.Fa.free "str") rfl)), (free_ok X G (c.fact 37 (f := He.Fa.free "ValueError") rfl))⟩
  unfold exL at c2
  simp only [Bool.and_eq_true] at c2
  obtain ⟨e0, e1⟩ := c2
  have Er : Errs K mg nsL csL := ⟨e1, fun n hn => by
    have hn : n ∈ ((["QuitsError"] : List Str) ++ nsL) := hn
    simp only [nsL, List.cons_append, List.nil_append, List.mem_cons, List.not_mem_nil, or_false] at hn
    rcases hn with rfl | rfl | rfl | rfl | rfl
    · exact (glo_ok X G (c.fact 0 (f := He.Fa.glo "QuitsError") rfl))
    · exact (glo_ok X G (c.fact 1 (f := He.Fa.glo "NoPart") rfl))
    · exact (glo_ok X G (c.fact 2 (f := He.Fa.glo "NoRule") rfl))
    · exact (glo_ok X G (c.fact 3 (f := He.Fa.glo "TooMuch") rfl))
    · exact (glo_ok X G (c.fact 4 (f := He.Fa.glo "NoLayer") rfl))⟩
  have Z : Consts K mg := ⟨(glo_ok X G (c.fact 9 (f := He.Fa.glo "LAYERS") rfl)), fun H => tupB_ok e0 H⟩
  obtain ⟨d_ask_enough, F_ask_enough⟩ := fun_dd c (x := "ask_enough") (st := top 7) (List.mem_of_getElem? (i := 0) rfl)
  obtain ⟨d_level_of, F_level_of⟩ := fun_dd c (x := "level_of") (st := top 9) (List.mem_of_getElem? (i := 2) rfl)
  obtain ⟨d_ask_order, F_ask_order⟩ := fun_dd c (x := "ask_order") (st := top 13) (List.mem_of_getElem? (i := 4) rfl)
  obtain ⟨d_own_row, F_own_row⟩ := fun_dd c (x := "own_row") (st := top 14) (List.mem_of_getElem? (i := 5) rfl)
  obtain ⟨d__law_cell, F__law_cell⟩ := fun_dd c (x := "_law_cell") (st := top 18) (List.mem_of_getElem? (i := 8) rfl)
  obtain ⟨d__law_mended, F__law_mended⟩ := fun_dd c (x := "_law_mended") (st := top 22) (List.mem_of_getElem? (i := 12) rfl)
  obtain ⟨d__law_rows, F__law_rows⟩ := fun_dd c (x := "_law_rows") (st := top 24) (List.mem_of_getElem? (i := 14) rfl)
  obtain ⟨d_by_shares, F_by_shares⟩ := fun_dd c (x := "by_shares") (st := top 8) (List.mem_of_getElem? (i := 1) rfl)
  obtain ⟨d_by_level, F_by_level⟩ := fun_dd c (x := "by_level") (st := top 10) (List.mem_of_getElem? (i := 3) rfl)
  obtain ⟨d__law_draw, F__law_draw⟩ := fun_dd c (x := "_law_draw") (st := top 19) (List.mem_of_getElem? (i := 9) rfl)
  obtain ⟨d_common_row, F_common_row⟩ := fun_dd c (x := "common_row") (st := top 15) (List.mem_of_getElem? (i := 6) rfl)
  obtain ⟨d__law_order, F__law_order⟩ := fun_dd c (x := "_law_order") (st := top 20) (List.mem_of_getElem? (i := 10) rfl)
  obtain ⟨d__law_word, F__law_word⟩ := fun_dd c (x := "_law_word") (st := top 21) (List.mem_of_getElem? (i := 11) rfl)
  obtain ⟨d_layered, F_layered⟩ := fun_dd c (x := "layered") (st := top 16) (List.mem_of_getElem? (i := 7) rfl)
  obtain ⟨d__law_asked, F__law_asked⟩ := fun_dd c (x := "_law_asked") (st := top 23) (List.mem_of_getElem? (i := 13) rfl)
  obtain ⟨d_law, F_law⟩ := fun_dd c (x := "law") (st := top 25) (List.mem_of_getElem? (i := 15) rfl)
  have ef : f = He.ga K "law" := by
    have := hfa.symm.trans (glo_ok X G (c.fact 21 (f := He.Fa.glo "law") rfl))
    injection this with this
    injection this
  subst ef
  have bl : ∀ (us : List Value), us.length = 1 → ∀ s : Shared, True := fun _ _ _ => trivial
  refine ⟨d_law, fun s v => ?_, fun base Xb Gb => ?_⟩
  · obtain ⟨oc, od, kV, doc, pm, an, cdv, ct, osl, rfl, lk, hcd⟩ := F_law.ex
    exact BindsTo.of_eq rfl
  have c_ask_enough : Cal P w K mg base CX0 1 "ask_enough" ["coins", "bounds"] sp_ask_enough := ⟨_, _, ok_ask_enough F_ask_enough Nm, (glo_ok X G (c.fact 5 (f := He.Fa.glo "ask_enough") rfl)), F_ask_enough.kp, (F_ask_enough.binds (fun _ _ _ _ _ _ us hl => match us, hl with | [_, _], _ => rfl))⟩
  have c_level_of : Cal P w K mg base CX0 1 "level_of" ["coins", "bounds"] sp_level_of := ⟨_, _, ok_level_of F_level_of Nm, (glo_ok X G (c.fact 7 (f := He.Fa.glo "level_of") rfl)), F_level_of.kp, (F_level_of.binds (fun _ _ _ _ _ _ us hl => match us, hl with | [_, _], _ => rfl))⟩
  have c_ask_order : Cal P w K mg base (L2.CX P w) 1 "ask_order" ["order"] (sp_ask_order K) := ⟨_, _, ok_ask_order F_ask_order Nm Z Er, (glo_ok X G (c.fact 10 (f := He.Fa.glo "ask_order") rfl)), F_ask_order.kp, (F_ask_order.binds (fun _ _ _ _ _ _ us hl => match us, hl with | [_], _ => rfl))⟩
  have c_own_row : Cal P w K mg base CX0 1 "own_row" ["rests", "stock"] sp_own_row := ⟨_, _, ok_own_row F_own_row Nm, (glo_ok X G (c.fact 11 (f := He.Fa.glo "own_row") rfl)), F_own_row.kp, (F_own_row.binds (fun _ _ _ _ _ _ us hl => match us, hl with | [_, _], _ => rfl))⟩
  have c__law_cell : Cal P w K mg base CX0 1 "_law_cell" ["script", "k"] (sp__law_cell K) := ⟨_, _, ok__law_cell F__law_cell Nm, (glo_ok X G (c.fact 14 (f := He.Fa.glo "_law_cell") rfl)), F__law_cell.kp, (F__law_cell.binds (fun _ _ _ _ _ _ us hl => match us, hl with | [_, _], _ => rfl))⟩
  have c__law_mended : Cal P w K mg base CX0 1 "_law_mended" ["order"] sp__law_mended := ⟨_, _, ok__law_mended F__law_mended Nm, (glo_ok X G (c.fact 18 (f := He.Fa.glo "_law_mended") rfl)), F__law_mended.kp, (F__law_mended.binds (fun _ _ _ _ _ _ us hl => match us, hl with | [_], _ => rfl))⟩
  have c__law_rows : Cal P w K mg base CX0 1 "_law_rows" ["found", "order"] sp__law_rows := ⟨_, _, ok__law_rows F__law_rows Nm, (glo_ok X G (c.fact 20 (f := He.Fa.glo "_law_rows") rfl)), F__law_rows.kp, (F__law_rows.binds (fun _ _ _ _ _ _ us hl => match us, hl with | [_, _], _ => rfl))⟩
  have c_by_shares : Cal P w K mg base CX0 2 "by_shares" ["coins", "bounds"] sp_by_shares := ⟨_, _, ok_by_shares F_by_shares Nm c_ask_enough, (glo_ok X G (c.fact 6 (f := He.Fa.glo "by_shares") rfl)), F_by_shares.kp, (F_by_shares.binds (fun _ _ _ _ _ _ us hl => match us, hl with | [_, _], _ => rfl))⟩
  have c_by_level : Cal P w K mg base CX0 2 "by_level" ["coins", "bounds"] sp_by_level := ⟨_, _, ok_by_level F_by_level Nm c_ask_enough c_level_of, (glo_ok X G (c.fact 8 (f := He.Fa.glo "by_level") rfl)), F_by_level.kp, (F_by_level.binds (fun _ _ _ _ _ _ us hl => match us, hl with | [_, _], _ => rfl))⟩
  have c__law_draw : Cal P w K mg base CX0 2 "_law_draw" ["script", "k", "many"] (sp__law_draw K) := ⟨_, _, ok__law_draw F__law_draw Nm c__law_cell, (glo_ok X G (c.fact 15 (f := He.Fa.glo "_law_draw") rfl)), F__law_draw.kp, (F__law_draw.binds (fun _ _ _ _ _ _ us hl => match us, hl with | [_, _, _], _ => rfl))⟩
  have c_common_row : Cal P w K mg base CX0 3 "common_row" ["word", "rests", "bounds", "own"] sp_common_row := ⟨_, _, ok_common_row F_common_row Nm c_by_shares c_by_level, (glo_ok X G (c.fact 12 (f := He.Fa.glo "common_row") rfl)), F_common_row.kp, (F_common_row.binds (fun _ _ _ _ _ _ us hl => match us, hl with | [_, _, _, _], _ => rfl))⟩
  have c__law_order : Cal P w K mg base CX0 3 "_law_order" ["script", "start"] (sp__law_order K) := ⟨_, _, ok__law_order F__law_order Nm c__law_draw, (glo_ok X G (c.fact 16 (f := He.Fa.glo "_law_order") rfl)), F__law_order.kp, (F__law_order.binds (fun _ _ _ _ _ _ us hl => match us, hl with | [_, _], _ => rfl))⟩
  have c__law_word : Cal P w K mg base CX0 3 "_law_word" ["script", "start"] (sp__law_word K) := ⟨_, _, ok__law_word F__law_word Nm c__law_draw, (glo_ok X G (c.fact 17 (f := He.Fa.glo "_law_word") rfl)), F__law_word.kp, (F__law_word.binds (fun _ _ _ _ _ _ us hl => match us, hl with | [_, _], _ => rfl))⟩
  have c_layered : Cal P w K mg base (L2.CX P w) 4 "layered" ["order", "gaps", "pledges", "shares", "own"] (sp_layered K) := ⟨_, _, ok_layered F_layered Nm Er c_ask_order c_own_row c_common_row, (glo_ok X G (c.fact 13 (f := He.Fa.glo "layered") rfl)), F_layered.kp, (F_layered.binds (fun _ _ _ _ _ _ us hl => match us, hl with | [_, _, _, _, _], _ => rfl))⟩
  have c__law_asked : Cal P w K mg base CX0 5 "_law_asked" ["order", "gaps", "pledges", "shares"] sp__law_asked := ⟨_, _, ok__law_asked F__law_asked Nm Er c_layered, (glo_ok X G (c.fact 19 (f := He.Fa.glo "_law_asked") rfl)), F__law_asked.kp, (F__law_asked.binds (fun _ _ _ _ _ _ us hl => match us, hl with | [_, _, _, _], _ => rfl))⟩
  exact (ok_law F_law Nm c__law_order c__law_draw c__law_word c__law_mended c__law_asked c__law_rows).imp fun _ _ _ _ z => spTrue_imp z
end
end Q
open PySem PySem.W PySem.Calls PyProof.Rows
set_option maxRecDepth 100000 in
set_option maxHeartbeats 0 in
theorem PySem.Challenge.cw_quits_k66_no_order_holds : PySem.Challenge.rw_quits_k66_no_order.Holds := by
  w_on; o_law
  refine HandSHeadRun.head_any (r := OpenLaw.row PySem.Challenge.rw_quits_k66_no_order) (q := view (OpenLaw.row PySem.Challenge.rw_quits_k66_no_order).prog [25]) (H := Q.hkL) (ob := Q.obL) (M := 4000) (loose := Q.looseL) (d := HandSHeadRun.topDef (OpenLaw.row PySem.Challenge.rw_quits_k66_no_order).prog 25) (kwd := []) Q.obL_eq
    (by kernel_rfl) (fun s => by kernel_rfl) Q.runL (by kernel_rfl) (by kernel_rfl) (by kernel_rfl) (by rfl) (by first | assumption | decide +kernel) (by decide +kernel) ⟨rfl, rfl, rfl, rfl, rfl, by decide +kernel⟩ ?hw ?hc
  case hw => w_witness2
  case hc =>
    refine L2.walk_ofE (l := PySem.Challenge.rw_quits_k66_no_order) (n := 63) (k := 6) (x := "script") (CX := L2.CX0) rfl (by decide) (by kernel_rfl) ⟨rfl, by decide, by decide⟩ ?F (fun _ _ _ _ z => z)
    intro w mg fa h Y G hmg0
    obtain ⟨K, KX, c, c2⟩ := Y
    have hmg : mg ("law" : PySem.Str) = some (.ref fa) := by
      have e : (HandSHeadRun.topDef (OpenLaw.row PySem.Challenge.rw_quits_k66_no_order).prog 25).name = ("law" : PySem.Str) := by kernel_rfl
      rw [← e]
      exact hmg0
    obtain ⟨fd, hb, hF⟩ := Q.all (P := (PySem.Challenge.rw_quits_k66_no_order).prog) (w := w) KX G hmg c c2
    exact ⟨K, fd, D.spTrue K, KX, hb, fun H a ns hl _ hS => ⟨a, ns, rfl, hS, hl, fun _ => rfl⟩, hF⟩

