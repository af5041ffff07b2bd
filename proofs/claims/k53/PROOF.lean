import PyProof.Rows.All
import Wide.All
import OpenK.AllK
import Wide.FinOn
import HandS.ForMost
import HandS.Deep
import HandS.TupAny
import HandS.Conv
import HandS.Strs
import HandS.SortInts
import HandS.IsInst
import HandS.Replace
import HandS.Style
import HandS.SetFor
import PyProof.ListStr
import HandS.Walk
import HandS.TryOnly
import HandS.Rev
import HandS.Comp
import HandS.Words
import KE.GoesMore
import KE.GoesEnum
import HandS.TupMul
import HandS.RevRange
import PyProof.StrLawsFirst
import PyProof.StrLawsIn
import KE.KxText
import PyProof.Rows.StrJoinRep
import PySem.Challenge.RW_patternsfound_k53_pumped_texts
set_option Elab.async false
set_option linter.all false
set_option maxRecDepth 100000
/-! A layer over HandS: every def gets a plain Lean function (its image) over deep values; lists that change are owned by one name. -/
namespace Mm
open PySem L2

abbrev D := PyData
/-- what a name holds: a value that never changes again, or an object that this name alone owns -/
inductive O where
  | v (d : D)
  | l (ds : List D)
  | c (os : List O)
  | k (kvs : List (Key × D))
  | t (kvs : List (List Key × D))
/-- what an expression gives: a value, a new object, or the object that the slot i owns -/
inductive R where
  | v (d : D)
  | o (o : O)
  | at (i : Nat)
abbrev Rho := List (Option O)

section
variable (K : PySem.W.Frag) (F H : Hp)
def KvOk : List (Key × V) → List (Key × D) → Prop
  | [], [] => True
  | p :: ps, q :: qs => p.1 = q.1 ∧ Dp K F p.2 q.2 ∧ KvOk ps qs
  | _, _ => False
def KtOk : List (List Key × V) → List (List Key × D) → Prop
  | [], [] => True
  | p :: ps, q :: qs => p.1 = q.1 ∧ Dp K F p.2 q.2 ∧ KtOk ps qs
  | _, _ => False
mutual
inductive Own : V → O → List Addr → Prop
  | v {x d} : Dp K F x d → Own x (.v d) []
  | l {a vs ds} : F a = none → H a = some (.lst vs) → DpAll K F vs ds → Own (.ref a) (.l ds) [a]
  | c {a vs os fp} : F a = none → H a = some (.lst vs) → OwnL vs os fp → a ∉ fp → Own (.ref a) (.c os) (a :: fp)
  | k {a kv kvs} : F a = none → H a = some (.dK kv) → KvOk K F kv kvs → Own (.ref a) (.k kvs) [a]
  | t {a kv kvs} : F a = none → H a = some (.dT kv) → KtOk K F kv kvs → Own (.ref a) (.t kvs) [a]
inductive OwnL : List V → List O → List Addr → Prop
  | nil : OwnL [] [] []
  | cons {x xs o os f fp} : Own x o f → OwnL xs os fp → (∀ a ∈ f, a ∉ fp) → OwnL (x :: xs) (o :: os) (f ++ fp)
end
inductive OwnE : List (Option V) → Rho → List Addr → Prop
  | emp : OwnE [] [] []
  | non {x σ ρ fp} : OwnE σ ρ fp → OwnE (x :: σ) (none :: ρ) fp
  | som {x o σ ρ f fp} : Own K F H x o f → OwnE σ ρ fp → (∀ a ∈ f, a ∉ fp) → OwnE (some x :: σ) (some o :: ρ) (f ++ fp)
end

/-! ### the frozen part grows -/
section
variable {K : PySem.W.Frag} {F F' H H' : Hp}
theorem seqT (e : Same F F') {a : Addr} {xs : List V} (h : SqT K F a xs) : SqT K F' a xs := by
  rcases h with (h | ⟨o, h⟩) | h
  · exact .inl (.inl (e _ _ h))
  · exact .inl (.inr ⟨o, e _ _ h⟩)
  · exact .inr h
theorem dp_mono (e : Same F F') {x : V} {d : D} (h : Dp K F x d) : Dp K F' x d := by
  refine Dp.rec (motive_1 := fun x d _ => Dp K F' x d) (motive_2 := fun xs ds _ => DpAll K F' xs ds) ?_ ?_ ?_ ?_ ?_ ?_ ?_ ?_ h
  · exact .non
  · exact fun b => .bl b
  · exact fun i => .int i
  · exact fun x => .str x
  · exact fun s _ ih => .lst (e.seq s) ih
  · exact fun s _ ih => .tup (seqT e s) ih
  · exact .nil
  · exact fun _ _ h1 h2 => .cons h1 h2
theorem da_mono (e : Same F F') : ∀ {xs : List V} {ds : List D}, DpAll K F xs ds → DpAll K F' xs ds
  | _, _, .nil => .nil
  | _, _, .cons h t => .cons (dp_mono e h) (da_mono e t)
theorem KvOk.mono (e : Same F F') : ∀ {xs : List (Key × V)} {ds : List (Key × D)}, KvOk K F xs ds → KvOk K F' xs ds
  | [], [], _ => trivial
  | _ :: _, _ :: _, ⟨a, b, c⟩ => ⟨a, dp_mono e b, KvOk.mono e c⟩
theorem KtOk.mono (e : Same F F') : ∀ {xs : List (List Key × V)} {ds : List (List Key × D)}, KtOk K F xs ds → KtOk K F' xs ds
  | [], [], _ => trivial
  | _ :: _, _ :: _, ⟨a, b, c⟩ => ⟨a, dp_mono e b, KtOk.mono e c⟩
theorem da_length : ∀ {xs : List V} {ds : List D}, DpAll K F xs ds → xs.length = ds.length
  | _, _, .nil => rfl
  | _, _, .cons _ t => by simp [da_length t]
theorem da_append : ∀ {xs ys : List V} {ds es : List D}, DpAll K F xs ds → DpAll K F ys es → DpAll K F (xs ++ ys) (ds ++ es)
  | _, _, _, _, .nil, h => h
  | _, _, _, _, .cons a t, h => .cons a (da_append t h)
theorem da_get : ∀ {xs : List V} {ds : List D} {i : Nat} {d : D}, DpAll K F xs ds → ds[i]? = some d → ∃ x, xs[i]? = some x ∧ Dp K F x d
  | _, _, _, _, .nil, e => by simp at e
  | _, _, 0, _, .cons a t, e => by simp at e; subst e; exact ⟨_, rfl, a⟩
  | _, _, i + 1, d, .cons _ t, e => by
    obtain ⟨x, h1, h2⟩ := da_get (i := i) (d := d) t (by simpa using e)
    exact ⟨x, by simpa using h1, h2⟩
theorem da_getV : ∀ {xs : List V} {ds : List D} {i : Nat} {x : V}, DpAll K F xs ds → xs[i]? = some x → ∃ d, ds[i]? = some d ∧ Dp K F x d
  | _, _, _, _, .nil, e => by simp at e
  | _, _, 0, _, .cons a t, e => by simp at e; subst e; exact ⟨_, rfl, a⟩
  | _, _, i + 1, x, .cons _ t, e => by
    obtain ⟨d, h1, h2⟩ := da_getV (i := i) (x := x) t (by simpa using e)
    exact ⟨d, by simpa using h1, h2⟩
theorem da_set : ∀ {xs : List V} {ds : List D} {x : V} {d : D} (i : Nat), DpAll K F xs ds → Dp K F x d → DpAll K F (xs.set i x) (ds.set i d)
  | _, _, _, _, _, .nil, _ => .nil
  | _, _, _, _, 0, .cons _ t, h => .cons h t
  | _, _, _, _, i + 1, .cons a t, h => .cons a (da_set i t h)
theorem da_reverse : ∀ {xs : List V} {ds : List D}, DpAll K F xs ds → DpAll K F xs.reverse ds.reverse
  | _, _, .nil => .nil
  | _, _, .cons a t => by
    rw [List.reverse_cons, List.reverse_cons]
    exact da_append (da_reverse t) (.cons a .nil)
theorem da_take : ∀ (n : Nat) {xs : List V} {ds : List D}, DpAll K F xs ds → DpAll K F (xs.take n) (ds.take n)
  | 0, _, _, _ => .nil
  | _ + 1, _, _, .nil => .nil
  | n + 1, _, _, .cons a t => .cons a (da_take n t)
theorem da_drop : ∀ (n : Nat) {xs : List V} {ds : List D}, DpAll K F xs ds → DpAll K F (xs.drop n) (ds.drop n)
  | 0, _, _, h => h
  | _ + 1, _, _, .nil => .nil
  | n + 1, _, _, .cons _ t => da_drop n t
theorem da_dropLast {xs : List V} {ds : List D} (h : DpAll K F xs ds) : DpAll K F xs.dropLast ds.dropLast := by
  rw [List.dropLast_eq_take, List.dropLast_eq_take, da_length h]
  exact da_take _ h
theorem da_eraseIdx : ∀ (i : Nat) {xs : List V} {ds : List D}, DpAll K F xs ds → DpAll K F (xs.eraseIdx i) (ds.eraseIdx i)
  | _, _, _, .nil => .nil
  | 0, _, _, .cons _ t => t
  | i + 1, _, _, .cons a t => .cons a (da_eraseIdx i t)
theorem da_ints : ∀ {xs : List V} {ns : List Int}, DpAll K F xs (ns.map PyData.int) → xs = ns.map V.int
  | [], [], _ => rfl
  | _ :: _, [], h => by cases h
  | [], _ :: _, h => by cases h
  | _ :: _, _ :: _, h => by
    cases h with
    | cons a t =>
      cases a
      rw [da_ints t]
      rfl
theorem da_strs : ∀ {xs : List V} {ns : List Str}, DpAll K F xs (ns.map PyData.str) → xs = ns.map V.str
  | [], [], _ => rfl
  | _ :: _, [], h => by cases h
  | [], _ :: _, h => by cases h
  | _ :: _, _ :: _, h => by
    cases h with
    | cons a t =>
      cases a
      rw [da_strs t]
      rfl
theorem da_bools : ∀ {xs : List V} {ns : List Bool}, DpAll K F xs (ns.map PyData.bool) → xs = ns.map V.bl
  | [], [], _ => rfl
  | _ :: _, [], h => by cases h
  | [], _ :: _, h => by cases h
  | _ :: _, _ :: _, h => by
    cases h with
    | cons a t =>
      cases a
      rw [da_bools t]
      rfl
theorem da_of_ints : ∀ (ns : List Int), DpAll K F (ns.map V.int) (ns.map PyData.int)
  | [] => .nil
  | n :: ns => .cons (.int n) (da_of_ints ns)
theorem da_of_strs : ∀ (ns : List Str), DpAll K F (ns.map V.str) (ns.map PyData.str)
  | [] => .nil
  | n :: ns => .cons (.str n) (da_of_strs ns)

/-! ### what is owned is there, and is not frozen -/
mutual
theorem Own.there {x : V} {o : O} {f : List Addr} (h : Own K F H x o f) : ∀ a ∈ f, F a = none ∧ ∃ u, H a = some u := by
  cases h with
  | v _ => intro a z; cases z
  | l n e _ => intro a z; rw [List.mem_singleton] at z; subst z; exact ⟨n, _, e⟩
  | c n e t _ =>
    intro a z
    rcases List.mem_cons.mp z with rfl | z
    · exact ⟨n, _, e⟩
    · exact OwnL.there t a z
  | k n e _ => intro a z; rw [List.mem_singleton] at z; subst z; exact ⟨n, _, e⟩
  | t n e _ => intro a z; rw [List.mem_singleton] at z; subst z; exact ⟨n, _, e⟩
theorem OwnL.there {xs : List V} {os : List O} {f : List Addr} (h : OwnL K F H xs os f) : ∀ a ∈ f, F a = none ∧ ∃ u, H a = some u := by
  cases h with
  | nil => intro a z; cases z
  | cons h1 h2 _ =>
    intro a z
    rcases List.mem_append.mp z with z | z
    · exact Own.there h1 a z
    · exact OwnL.there h2 a z
end
mutual
theorem Own.keep (e : Same F F') {x : V} {o : O} {f : List Addr} (h : Own K F H x o f) (k : ∀ a ∈ f, H' a = H a ∧ F' a = none) : Own K F' H' x o f := by
  cases h with
  | v h => exact .v (dp_mono e h)
  | l n q t => exact .l (k _ (List.mem_singleton.mpr rfl)).2 ((k _ (List.mem_singleton.mpr rfl)).1.trans q) (da_mono e t)
  | c n q t d => exact .c (k _ List.mem_cons_self).2 ((k _ List.mem_cons_self).1.trans q) (OwnL.keep e t fun a z => k a (List.mem_cons_of_mem _ z)) d
  | k n q t => exact .k (k _ (List.mem_singleton.mpr rfl)).2 ((k _ (List.mem_singleton.mpr rfl)).1.trans q) (KvOk.mono e t)
  | t n q t => exact .t (k _ (List.mem_singleton.mpr rfl)).2 ((k _ (List.mem_singleton.mpr rfl)).1.trans q) (KtOk.mono e t)
theorem OwnL.keep (e : Same F F') {xs : List V} {os : List O} {f : List Addr} (h : OwnL K F H xs os f) (k : ∀ a ∈ f, H' a = H a ∧ F' a = none) : OwnL K F' H' xs os f := by
  cases h with
  | nil => exact .nil
  | cons h1 h2 d => exact .cons (Own.keep e h1 fun a z => k a (List.mem_append_left _ z)) (OwnL.keep e h2 fun a z => k a (List.mem_append_right _ z)) d
end
theorem OwnE.there {σ : St} {ρ : Rho} {f : List Addr} (h : OwnE K F H σ ρ f) : ∀ a ∈ f, F a = none ∧ ∃ u, H a = some u := by
  induction h with
  | emp => intro a z; cases z
  | non _ ih => exact ih
  | som h1 _ _ ih =>
    intro a z
    rcases List.mem_append.mp z with z | z
    · exact h1.there a z
    · exact ih a z
theorem OwnE.keep (e : Same F F') {σ : St} {ρ : Rho} {f : List Addr} (h : OwnE K F H σ ρ f) (k : ∀ a ∈ f, H' a = H a ∧ F' a = none) : OwnE K F' H' σ ρ f := by
  induction h with
  | emp => exact .emp
  | non _ ih => exact .non (ih k)
  | som h1 _ d ih => exact .som (h1.keep e fun a z => k a (List.mem_append_left _ z)) (ih fun a z => k a (List.mem_append_right _ z)) d
theorem OwnE.len {σ : St} {ρ : Rho} {f : List Addr} (h : OwnE K F H σ ρ f) : σ.length = ρ.length := by
  induction h with
  | emp => rfl
  | non _ ih => simp [ih]
  | som _ _ _ ih => simp [ih]
/-- the slot i apart: the addresses fa ++ f ++ fb, f its own -/
theorem OwnE.split {σ : St} {ρ : Rho} {fp : List Addr} (h : OwnE K F H σ ρ fp) : ∀ {i : Nat}, i < ρ.length → ∃ fa f fb, fp = fa ++ f ++ fb ∧ (∀ a ∈ f, a ∉ fa ++ fb) ∧
    (∀ o, ρ[i]? = some (some o) → ∃ x, σ[i]? = some (some x) ∧ Own K F H x o f) ∧
    (∀ F' H', Same F F' → (∀ a ∈ fa ++ fb, H' a = H a ∧ F' a = none) →
      (∀ y, OwnE K F' H' (σ.set i y) (ρ.set i none) (fa ++ fb)) ∧
      ∀ x' o' f', Own K F' H' x' o' f' → (∀ a ∈ f', a ∉ fa ++ fb) → OwnE K F' H' (σ.set i (some x')) (ρ.set i (some o')) (fa ++ f' ++ fb)) := by
  induction h with
  | emp => intro i hi; cases hi
  | @non x σ ρ fp h ih =>
    intro i hi
    cases i with
    | zero =>
      refine ⟨[], [], fp, by simp, fun a z => (nomatch z), fun o e => by simp at e, fun F' H' e k => ⟨fun y => .non (h.keep e fun a z => k a (by simpa using z)), fun x' o' f' q d => ?_⟩⟩
      exact .som q (h.keep e fun a z => k a (by simpa using z)) fun a z => by simpa using d a z
    | succ i =>
      obtain ⟨fa, f, fb, e1, d1, g1, g2⟩ := ih (Nat.lt_of_succ_lt_succ hi)
      exact ⟨fa, f, fb, e1, d1, fun o e => by simpa using g1 o (by simpa using e), fun F' H' e k => ⟨fun y => .non ((g2 F' H' e k).1 y), fun x' o' f' q d => .non ((g2 F' H' e k).2 x' o' f' q d)⟩⟩
  | @som x o σ ρ f fp h1 h d ih =>
    intro i hi
    cases i with
    | zero =>
      refine ⟨[], f, fp, by simp, fun a z => by simpa using d a z, fun o' e => ?_, fun F' H' e k => ⟨fun y => .non (h.keep e fun a z => k a (by simpa using z)), fun x' o' f' q d => ?_⟩⟩
      · have e' : o = o' := by simpa using e
        subst e'
        exact ⟨x, rfl, h1⟩
      · exact .som q (h.keep e fun a z => k a (by simpa using z)) fun a z => by simpa using d a z
    | succ i =>
      obtain ⟨fa, f2, fb, e1, d1, g1, g2⟩ := ih (Nat.lt_of_succ_lt_succ hi)
      subst e1
      have dd : ∀ a ∈ f, a ∉ fa ∧ a ∉ f2 ∧ a ∉ fb := fun a z => by
        have := d a z
        simp only [List.append_assoc, List.mem_append, not_or] at this
        exact this
      have dd1 : ∀ a ∈ f2, a ∉ fa ∧ a ∉ fb := fun a z => by
        have := d1 a z
        simp only [List.mem_append, not_or] at this
        exact this
      refine ⟨f ++ fa, f2, fb, by simp, fun a z => ?_, fun o' e => by simpa using g1 o' (by simpa using e), fun F' H' e k => ?_⟩
      · simp only [List.append_assoc, List.mem_append, not_or]
        exact ⟨fun q => (dd a q).2.1 z, (dd1 a z).1, (dd1 a z).2⟩
      · have k1 : ∀ a ∈ fa ++ fb, H' a = H a ∧ F' a = none := fun a z => k a (by
          rcases List.mem_append.mp z with z | z
          · exact List.mem_append_left _ (List.mem_append_right _ z)
          · exact List.mem_append_right _ z)
        have k2 : ∀ a ∈ f, H' a = H a ∧ F' a = none := fun a z => k a (List.mem_append_left _ (List.mem_append_left _ z))
        refine ⟨fun y => ?_, fun x' o' f' q d' => ?_⟩
        · have := OwnE.som (h1.keep e k2) ((g2 F' H' e k1).1 y) fun a z => by
            simp only [List.mem_append, not_or]
            exact ⟨(dd a z).1, (dd a z).2.2⟩
          simpa using this
        · have d2 : ∀ a ∈ f', a ∉ fa ++ fb := fun a z => by
            have := d' a z
            simp only [List.append_assoc, List.mem_append, not_or] at this ⊢
            exact this.2
          have d3 : ∀ a ∈ f, a ∉ f' := fun a z q => by
            have := d' a q
            simp only [List.append_assoc, List.mem_append, not_or] at this
            exact this.1 z
          have := OwnE.som (h1.keep e k2) ((g2 F' H' e k1).2 x' o' f' q d2) fun a z => by
            simp only [List.append_assoc, List.mem_append, not_or]
            exact ⟨(dd a z).1, d3 a z, (dd a z).2.2⟩
          simpa using this
end
end Mm
namespace Mm
open PySem L2

structure S0 (K : PySem.W.Frag) (ρ : Rho) (σ : St) (fp : List Addr) (F H : Hp) : Prop where
  same : Same F H
  own : OwnE K F H σ ρ fp
/-- from one state to a later one: what is owned may change, what is new may be anything -/
structure Ext (C : List Addr) (F H : Hp) (C' : List Addr) (F' H' : Hp) : Prop where
  fF : Same F F'
  fH : ∀ a o, H a = some o → a ∉ C → H' a = some o
  fC : ∀ a, a ∈ C' → a ∈ C ∨ H a = none
  fN : ∀ a o, F' a = some o → F a = some o ∨ H a = none ∨ a ∈ C
  dom : ∀ a, H a ≠ none → H' a ≠ none
section
variable {K : PySem.W.Frag} {C C' C'' : List Addr} {F F' F'' H H' H'' : Hp} {σ σ' : St} {ρ ρ' : Rho}
theorem Ext.refl : Ext C F H C F H := ⟨Same.refl F, fun _ _ h _ => h, fun _ h => .inl h, fun _ _ h => .inl h, fun _ h => h⟩
theorem Ext.trans (a : Ext C F H C' F' H') (b : Ext C' F' H' C'' F'' H'') : Ext C F H C'' F'' H'' where
  fF := a.fF.trans b.fF
  fH := fun c o h n => b.fH c o (a.fH c o h n) fun z => by
    rcases a.fC c z with z | z
    · exact n z
    · rw [h] at z; cases z
  fC := fun c z => by
    rcases b.fC c z with z | z
    · exact a.fC c z
    · exact .inr (by
        cases q : H c with
        | none => rfl
        | some o => exact absurd z (a.dom c (by rw [q]; exact fun z => nomatch z)))
  fN := fun c o h => by
    rcases b.fN c o h with z | z | z
    · exact a.fN c o z
    · exact .inr (.inl (by
        cases q : H c with
        | none => rfl
        | some o => exact absurd z (a.dom c (by rw [q]; exact fun z => nomatch z))))
    · rcases a.fC c z with z | z
      · exact .inr (.inr z)
      · exact .inr (.inl z)
  dom := fun c h => b.dom c (a.dom c h)
theorem Ext.none_back (e : Ext C F H C' F' H') {a : Addr} (h : H' a = none) : H a = none := by
  cases q : H a with
  | none => rfl
  | some o => exact absurd h (e.dom a (by rw [q]; exact fun z => nomatch z))

/-- the value x of a result, made since the heap H0 -/
inductive ROk (K : PySem.W.Frag) (H0 F H : Hp) (σ : St) (fp : List Addr) : V → R → Prop
  | v {x d} : Dp K F x d → ROk K H0 F H σ fp x (.v d)
  | o {x o f} : Own K F H x o f → (∀ a ∈ f, a ∉ fp ∧ H0 a = none) → ROk K H0 F H σ fp x (.o o)
  | at {x i} : σ[i]? = some (some x) → ROk K H0 F H σ fp x (.at i)
theorem ROk.step {H0 : Hp} {x : V} {r : R} (h : ROk K H0 F H σ C x r) (e : Ext C F H C' F' H') : ROk K H0 F' H' σ C' x r := by
  cases h with
  | v h => exact .v (dp_mono e.fF h)
  | o h k =>
    refine .o (h.keep e.fF fun a z => ?_) fun a z => ⟨fun q => ?_, (k a z).2⟩
    · obtain ⟨n, u, hu⟩ := h.there a z
      refine ⟨(e.fH a u hu (k a z).1).trans hu.symm, ?_⟩
      cases q : F' a with
      | none => rfl
      | some w =>
        rcases e.fN a w q with y | y | y
        · rw [n] at y; cases y
        · rw [hu] at y; cases y
        · exact absurd y (k a z).1
    · obtain ⟨n, u, hu⟩ := h.there a z
      rcases e.fC a q with y | y
      · exact (k a z).1 y
      · rw [hu] at y; cases y
  | «at» h => exact .at h
theorem ROk.base {H0 H1 : Hp} {x : V} {r : R} (h : ROk K H1 F H σ C x r) (e : ∀ a, H1 a = none → H0 a = none) : ROk K H0 F H σ C x r := by
  cases h with
  | v h => exact .v h
  | o h k => exact .o h fun a z => ⟨(k a z).1, e a (k a z).2⟩
  | «at» h => exact .at h

/-! ### what a result is worth now; what it is worth when it is kept for ever -/
mutual
def frz : O → Option D
  | .v d => some d
  | .l ds => some (.list ds)
  | .c os => (frzL os).map .list
  | .k _ => none
  | .t _ => none
def frzL : List O → Option (List D)
  | [] => some []
  | o :: os => (frz o).bind fun d => (frzL os).map fun ds => d :: ds
end
mutual
theorem Own.frz (s : Same F H) {x : V} {o : O} {f : List Addr} (h : Own K F H x o f) {d : D} (e : frz o = some d) {F' : Hp} (s' : Same F F') (k : ∀ a ∈ f, F' a = H a) : Dp K F' x d := by
  cases h with
  | v h => cases e; exact dp_mono s' h
  | l n q t => cases e; exact .lst (.inl (.inl ((k _ (List.mem_singleton.mpr rfl)).trans q))) (da_mono s' t)
  | c n q t dj =>
    rw [Mm.frz] at e
    obtain ⟨ds, e1, e2⟩ := Option.map_eq_some_iff.mp e
    subst e2
    exact .lst (.inl (.inl ((k _ List.mem_cons_self).trans q))) (OwnL.frz s t e1 s' fun a z => k a (List.mem_cons_of_mem _ z))
  | k n q t => cases e
  | t n q t => cases e
theorem OwnL.frz (s : Same F H) {xs : List V} {os : List O} {f : List Addr} (h : OwnL K F H xs os f) {ds : List D} (e : frzL os = some ds) {F' : Hp} (s' : Same F F') (k : ∀ a ∈ f, F' a = H a) : DpAll K F' xs ds := by
  cases h with
  | nil => cases e; exact .nil
  | cons h1 h2 _ =>
    rw [Mm.frzL] at e
    obtain ⟨d, e1, e2⟩ := Option.bind_eq_some_iff.mp e
    obtain ⟨ds', e3, e4⟩ := Option.map_eq_some_iff.mp e2
    subst e4
    exact .cons (Own.frz s h1 e1 s' fun a z => k a (List.mem_append_left _ z)) (OwnL.frz s h2 e3 s' fun a z => k a (List.mem_append_right _ z))
end
def peek (ρ : Rho) : R → Option D
  | .v d => some d
  | .o o => frz o
  | .at i => match ρ[i]? with
    | some (some o) => frz o
    | _ => none
theorem S0.slot {ρ : Rho} {fp : List Addr} (s : S0 K ρ σ fp F H) {i : Nat} {o : O} (e : ρ[i]? = some (some o)) : ∃ x f, σ[i]? = some (some x) ∧ Own K F H x o f ∧ ∀ a ∈ f, a ∈ fp := by
  obtain ⟨fa, f, fb, e1, _, g, _⟩ := s.own.split (i := i) (List.getElem?_eq_some_iff.mp e).1
  obtain ⟨x, hx, ho⟩ := g o e
  exact ⟨x, f, hx, ho, fun a z => by subst e1; exact List.mem_append_left _ (List.mem_append_right _ z)⟩
theorem peek_ok {H0 : Hp} {x : V} {r : R} {fp : List Addr} (s : S0 K ρ σ fp F H) (h : ROk K H0 F H σ fp x r) {d : D} (e : peek ρ r = some d) : Dp K H x d := by
  cases h with
  | v h => cases e; exact dp_mono s.same h
  | o h _ => exact h.frz s.same e s.same fun _ _ => rfl
  | @«at» i h =>
    cases q : ρ[i]? with
    | none => simp [peek, q] at e
    | some u =>
      cases u with
      | none => simp [peek, q] at e
      | some o =>
        have e' : Mm.frz o = some d := by simpa [peek, q] using e
        obtain ⟨y, f, hy, ho, _⟩ := s.slot q
        rw [h] at hy
        cases hy
        exact ho.frz s.same e' s.same fun _ _ => rfl
/-- the items of a list or tuple, frozen ones -/
theorem peek_list {H0 : Hp} {x : V} {r : R} {fp : List Addr} (s : S0 K ρ σ fp F H) (h : ROk K H0 F H σ fp x r) {ds : List D} (e : peek ρ r = some (.list ds)) (hc : ∀ os, r ≠ .o (.c os)) (hc2 : ∀ i os, r = .at i → ρ[i]? ≠ some (some (.c os))) :
    ∃ a vs, x = .ref a ∧ SqL K H a vs ∧ DpAll K F vs ds := by
  have own : ∀ {o f}, Own K F H x o f → (∀ os, o ≠ .c os) → Mm.frz o = some (.list ds) → ∃ a vs, x = .ref a ∧ SqL K H a vs ∧ DpAll K F vs ds := fun {o f} ho nc e => by
    cases ho with
    | v h =>
      cases e
      cases h with
      | lst hs ha => exact ⟨_, _, rfl, s.same.seq hs, ha⟩
    | l n q t => cases e; exact ⟨_, _, rfl, .of q, t⟩
    | c n q t _ => exact absurd rfl (nc _)
    | k n q t => cases e
    | t n q t => cases e
  cases h with
  | v h =>
    cases e
    cases h with
    | lst hs ha => exact ⟨_, _, rfl, s.same.seq hs, ha⟩
  | o h _ => exact own h (fun os z => hc os (by rw [z])) e
  | @«at» i h =>
    cases q : ρ[i]? with
    | none => simp [peek, q] at e
    | some u =>
      cases u with
      | none => simp [peek, q] at e
      | some o =>
        have e' : Mm.frz o = some (.list ds) := by simpa [peek, q] using e
        obtain ⟨y, f, hy, ho, _⟩ := s.slot q
        rw [h] at hy
        cases hy
        exact own ho (fun os z => hc2 i os rfl (by rw [q, z])) e'
theorem dp_tup {x : V} {ds : List D} (h : Dp K F x (.tuple ds)) : ∃ a vs, x = .ref a ∧ SqT K F a vs ∧ DpAll K F vs ds := by
  cases h with
  | tup hs ha => exact ⟨_, _, rfl, hs, ha⟩
theorem dp_lst {x : V} {ds : List D} (h : Dp K F x (.list ds)) : ∃ a vs, x = .ref a ∧ SqL K F a vs ∧ DpAll K F vs ds := by
  cases h with
  | lst hs ha => exact ⟨_, _, rfl, hs, ha⟩
theorem frzL_not_tuple : ∀ o : O, ∀ ds, Mm.frz o = some (.tuple ds) → o = .v (.tuple ds)
  | .v d, ds, e => by cases e; rfl
  | .l _, ds, e => by cases e
  | .c os, ds, e => by rw [Mm.frz] at e; obtain ⟨_, _, e2⟩ := Option.map_eq_some_iff.mp e; cases e2
  | .k _, ds, e => by cases e
  | .t _, ds, e => by cases e
/-- what is no list is a frozen value -/
theorem peek_val {H0 : Hp} {x : V} {r : R} {fp : List Addr} (s : S0 K ρ σ fp F H) (h : ROk K H0 F H σ fp x r) {d : D} (e : peek ρ r = some d) (nl : ∀ ds, d ≠ .list ds) : Dp K F x d := by
  have own : ∀ {o f}, Own K F H x o f → Mm.frz o = some d → Dp K F x d := fun {o f} ho e => by
    cases ho with
    | v h => cases e; exact h
    | l n q t => cases e; exact absurd rfl (nl _)
    | c n q t _ =>
      rw [Mm.frz] at e
      obtain ⟨ds, _, e2⟩ := Option.map_eq_some_iff.mp e
      exact absurd e2.symm (nl _)
    | k n q t => cases e
    | t n q t => cases e
  cases h with
  | v h => cases e; exact h
  | o h _ => exact own h e
  | @«at» i h =>
    cases q : ρ[i]? with
    | none => simp [peek, q] at e
    | some u =>
      cases u with
      | none => simp [peek, q] at e
      | some o =>
        have e' : Mm.frz o = some d := by simpa [peek, q] using e
        obtain ⟨y, f, hy, ho, _⟩ := s.slot q
        rw [h] at hy
        cases hy
        exact own ho e'

def keep (ρ : Rho) : R → Option (D × Rho)
  | .v d => some (d, ρ)
  | .o o => (frz o).map fun d => (d, ρ)
  | .at i => match ρ[i]? with
    | some (some o) => (frz o).map fun d => (d, ρ.set i (some (.v d)))
    | _ => none
theorem set_self {α : Type} : ∀ {l : List α} {i : Nat} {x : α}, l[i]? = some x → l.set i x = l
  | [], _, _, h => by simp at h
  | a :: l, 0, x, h => by simp at h; subst h; rfl
  | a :: l, i + 1, x, h => by rw [List.set_cons_succ, set_self (by simpa using h)]
/-- some addresses are frozen as they stand -/
def icy (F H : Hp) (f : List Addr) : Hp := fun a => if a ∈ f then H a else F a
theorem icy_in {f : List Addr} {a : Addr} (h : a ∈ f) : icy F H f a = H a := if_pos h
theorem icy_out {f : List Addr} {a : Addr} (h : a ∉ f) : icy F H f a = F a := if_neg h
theorem icy_same {f : List Addr} (h : ∀ a ∈ f, F a = none) : Same F (icy F H f) := fun a o e => by
  by_cases z : a ∈ f
  · rw [h a z] at e; cases e
  · rw [icy_out z]; exact e
theorem icy_le {f : List Addr} (s : Same F H) : Same (icy F H f) H := fun a o e => by
  by_cases z : a ∈ f
  · rw [icy_in z] at e; exact e
  · rw [icy_out z] at e; exact s a o e
theorem keep_ok {H0 : Hp} {x : V} {r : R} {fp fp0 : List Addr} {F0 : Hp} (s : S0 K ρ σ fp F H) (h : ROk K H0 F H σ fp x r) (e0 : Ext fp0 F0 H0 fp F H) {d : D} (e : keep ρ r = some (d, ρ')) :
    ∃ F' fp', S0 K ρ' σ fp' F' H ∧ Ext fp0 F0 H0 fp' F' H ∧ Dp K F' x d := by
  cases h with
  | v h => cases e; exact ⟨F, fp, s, e0, h⟩
  | @o o f h k =>
    obtain ⟨d', e1, e2⟩ := Option.map_eq_some_iff.mp e
    cases e2
    have hn : ∀ a ∈ f, F a = none := fun a z => (h.there a z).1
    refine ⟨icy F H f, fp, ⟨icy_le s.same, s.own.keep (icy_same hn) fun a z => ⟨rfl, ?_⟩⟩, ⟨e0.fF.trans (icy_same hn), e0.fH, e0.fC, fun a u z => ?_, e0.dom⟩, h.frz s.same e1 (icy_same hn) fun a z => icy_in z⟩
    · rw [icy_out fun q => (k a q).1 z]
      exact (s.own.there a z).1
    · by_cases q : a ∈ f
      · exact .inr (.inl (k a q).2)
      · rw [icy_out q] at z
        exact e0.fN a u z
  | @«at» i h =>
    cases q : ρ[i]? with
    | none => simp [keep, q] at e
    | some u =>
      cases u with
      | none => simp [keep, q] at e
      | some o =>
        have e' : (Mm.frz o).map (fun d => (d, ρ.set i (some (.v d)))) = some (d, ρ') := by simpa [keep, q] using e
        obtain ⟨d', e1, e2⟩ := Option.map_eq_some_iff.mp e'
        cases e2
        obtain ⟨fa, f, fb, ef, dj, g1, g2⟩ := s.own.split (i := i) (List.getElem?_eq_some_iff.mp q).1
        obtain ⟨y, hy, ho⟩ := g1 o q
        rw [h] at hy
        cases hy
        have hn : ∀ a ∈ f, F a = none := fun a z => (ho.there a z).1
        have hd := ho.frz s.same e1 (icy_same hn) (F' := icy F H f) fun a z => icy_in z
        have sp := (g2 (icy F H f) H (icy_same hn) fun a z => ⟨rfl, by
          rw [icy_out fun q => dj a q z]
          exact (s.own.there a (by
            subst ef
            rcases List.mem_append.mp z with z | z
            · exact List.mem_append_left _ (List.mem_append_left _ z)
            · exact List.mem_append_right _ z)).1⟩).2 x (.v d) [] (.v hd) (fun a z => nomatch z)
        rw [set_self h] at sp
        have sub : ∀ a, a ∈ fa ++ [] ++ fb → a ∈ fp := fun a z => by
          subst ef
          simp only [List.append_nil, List.mem_append] at z ⊢
          rcases z with z | z
          · exact .inl (.inl z)
          · exact .inr z
        refine ⟨icy F H f, fa ++ [] ++ fb, ⟨icy_le s.same, sp⟩, ⟨e0.fF.trans (icy_same hn), e0.fH, fun a z => e0.fC a (sub a z), fun a u z => ?_, e0.dom⟩, hd⟩
        by_cases w : a ∈ f
        · have : a ∈ fp := by subst ef; exact List.mem_append_left _ (List.mem_append_right _ w)
          rcases e0.fC a this with p | p
          · exact .inr (.inr p)
          · exact .inr (.inl p)
        · rw [icy_out w] at z
          exact e0.fN a u z
end

/-! ### the judgements' second halves -/
abbrev EF := Rho → Option (R × Rho)
abbrev VF := Rho → Option (D × Rho)
abbrev TF := Rho → Option (Bool × Rho)
abbrev AF := Rho → Option (List D × Rho)
section
variable (K : PySem.W.Frag)
def DEx (t : TE) (f : EF) : Prop := ∀ (ρ : Rho) (σ : St) (fp : List Addr) (F H : Hp) (r : R) (ρ' : Rho) (Q : VK), S0 K ρ σ fp F H → f ρ = some (r, ρ') →
  (∀ fp' F' H' x, S0 K ρ' σ fp' F' H' → Ext fp F H fp' F' H' → ROk K H F' H' σ fp' x r → Q x H') → t σ H Q
def DVx (t : TE) (f : VF) : Prop := ∀ (ρ : Rho) (σ : St) (fp : List Addr) (F H : Hp) (d : D) (ρ' : Rho) (Q : VK), S0 K ρ σ fp F H → f ρ = some (d, ρ') →
  (∀ fp' F' H' x, S0 K ρ' σ fp' F' H' → Ext fp F H fp' F' H' → Dp K F' x d → Q x H') → t σ H Q
def DTx (t : TT) (f : TF) : Prop := ∀ (ρ : Rho) (σ : St) (fp : List Addr) (F H : Hp) (b : Bool) (ρ' : Rho) (Q : Bool → Hp → Prop), S0 K ρ σ fp F H → f ρ = some (b, ρ') →
  (∀ fp' F' H', S0 K ρ' σ fp' F' H' → Ext fp F H fp' F' H' → Q b H') → t σ H Q
def DAx (t : TA) (f : AF) : Prop := ∀ (ρ : Rho) (σ : St) (fp : List Addr) (F H : Hp) (ds : List D) (ρ' : Rho) (Q : List V → Hp → Prop), S0 K ρ σ fp F H → f ρ = some (ds, ρ') →
  (∀ fp' F' H' xs, S0 K ρ' σ fp' F' H' → Ext fp F H fp' F' H' → DpAll K F' xs ds → Q xs H') → t σ H Q
end
inductive Fl where
  | nx (ρ : Rho)
  | rt (r : R) (ρ : Rho)
  | bk (ρ : Rho)
  | ct (ρ : Rho)
abbrev SF := Rho → Option Fl
def Kont (K : PySem.W.Frag) (w : List Nat) (σ : St) (fp : List Addr) (F H : Hp) (dn : Ends) : Fl → Prop
  | .nx ρ' => ∀ σ' fp' F' H', S0 K ρ' σ' fp' F' H' → Ext fp F H fp' F' H' → (∀ j, j ∉ w → σ'[j]? = σ[j]?) → dn.nx σ' H'
  | .bk ρ' => ∀ σ' fp' F' H', S0 K ρ' σ' fp' F' H' → Ext fp F H fp' F' H' → (∀ j, j ∉ w → σ'[j]? = σ[j]?) → dn.bk σ' H'
  | .ct ρ' => ∀ σ' fp' F' H', S0 K ρ' σ' fp' F' H' → Ext fp F H fp' F' H' → (∀ j, j ∉ w → σ'[j]? = σ[j]?) → dn.ct σ' H'
  | .rt r ρ' => ∀ σ' fp' F' H' x, S0 K ρ' σ' fp' F' H' → Ext fp F H fp' F' H' → (∀ j, j ∉ w → σ'[j]? = σ[j]?) → ROk K H F' H' σ' fp' x r → dn.rt x H'
def DSx (K : PySem.W.Frag) (w : List Nat) (t : TS) (f : SF) : Prop := ∀ (ρ : Rho) (σ : St) (fp : List Addr) (F H : Hp) (fl : Fl) (dn : Ends), S0 K ρ σ fp F H → f ρ = some fl → Kont K w σ fp F H dn fl → t dn σ H

structure DE (K : PySem.W.Frag) (wd : World) (X : Cx) (e : Expr) (t : TE) (f : EF) : Prop where
  pe : X.K = K → X.w = wd → PE X e t
  dn : DEx K t f
structure DV (K : PySem.W.Frag) (wd : World) (X : Cx) (e : Expr) (t : TE) (f : VF) : Prop where
  pe : X.K = K → X.w = wd → PE X e t
  dn : DVx K t f
structure DT (K : PySem.W.Frag) (wd : World) (X : Cx) (e : Expr) (t : TT) (f : TF) : Prop where
  pe : X.K = K → X.w = wd → PT X e t
  dn : DTx K t f
structure DW (K : PySem.W.Frag) (wd : World) (X : Cx) (e : Expr) (t : TT) (f : TF) : Prop where
  pe : X.K = K → X.w = wd → PW X e t
  dn : DTx K t f
structure DA (K : PySem.W.Frag) (wd : World) (X : Cx) (es : List Expr) (t : TA) (f : AF) : Prop where
  pe : X.K = K → X.w = wd → PA X es t
  dn : DAx K t f
structure DS (K : PySem.W.Frag) (wd : World) (X : Cx) (w : List Nat) (st : Stmt) (t : TS) (f : SF) : Prop where
  pe : X.K = K → X.w = wd → PS X st t
  dn : DSx K w t f
structure DSs (K : PySem.W.Frag) (wd : World) (X : Cx) (w : List Nat) (st : List Stmt) (t : TS) (f : SF) : Prop where
  pe : X.K = K → X.w = wd → PSs X st t
  dn : DSx K w t f
end Mm
namespace Mm
open PySem L2

section
variable {K : PySem.W.Frag} {C C' fp : List Addr} {F F' H H' : Hp} {σ : St} {ρ ρ' : Rho}
theorem S0.none_of (s : S0 K ρ σ fp F H) {p : Addr} (hp : H p = none) : F p = none ∧ p ∉ fp := by
  refine ⟨?_, fun z => ?_⟩
  · cases q : F p with
    | none => rfl
    | some o => have := s.same p o q; rw [hp] at this; cases this
  · obtain ⟨_, u, hu⟩ := s.own.there p z
    rw [hp] at hu; cases hu
theorem same_upd {p : Addr} (hp : H p = none) (o : HO) : Same H (upd H p o) := fun a u e => by rw [upd_ne (ne_of_none e hp)]; exact e
theorem alloc_frz (s : S0 K ρ σ fp F H) {p : Addr} (hp : H p = none) (o : HO) : S0 K ρ σ fp (upd F p o) (upd H p o) ∧ Ext fp F H fp (upd F p o) (upd H p o) := by
  obtain ⟨hF, hf⟩ := s.none_of hp
  refine ⟨⟨fun a u e => ?_, s.own.keep (same_upd hF o) fun a z => ?_⟩, ⟨same_upd hF o, fun a u e _ => same_upd hp o a u e, fun a z => .inl z, fun a u e => ?_, fun a h z => h ?_⟩⟩
  · by_cases q : a = p
    · subst q; rw [upd_same] at e ⊢; exact e
    · rw [upd_ne q] at e ⊢; exact s.same a u e
  · have q : a ≠ p := fun q => by subst q; exact hf z
    rw [upd_ne q, upd_ne q]
    exact ⟨rfl, (s.own.there a z).1⟩
  · by_cases q : a = p
    · subst q; exact .inr (.inl hp)
    · rw [upd_ne q] at e; exact .inl e
  · by_cases q : a = p
    · subst q; exact hp
    · rw [upd_ne q] at z; exact z
theorem alloc_own (s : S0 K ρ σ fp F H) {p : Addr} (hp : H p = none) (o : HO) : S0 K ρ σ fp F (upd H p o) ∧ Ext fp F H fp F (upd H p o) ∧ F p = none ∧ p ∉ fp := by
  obtain ⟨hF, hf⟩ := s.none_of hp
  refine ⟨⟨s.same.trans (same_upd hp o), s.own.keep (Same.refl F) fun a z => ?_⟩, ⟨Same.refl F, fun a u e _ => same_upd hp o a u e, fun a z => .inl z, fun a u e => .inl e, fun a h z => h ?_⟩, hF, hf⟩
  · have q : a ≠ p := fun q => by subst q; exact hf z
    rw [upd_ne q]
    exact ⟨rfl, (s.own.there a z).1⟩
  · by_cases q : a = p
    · subst q; exact hp
    · rw [upd_ne q] at z; exact z
end

/-! ### what expressions give -/
def nmE (i : Nat) : EF := fun ρ => match ρ[i]? with
  | some (some (.v d)) => some (.v d, ρ)
  | some (some _) => some (.at i, ρ)
  | _ => none
def cE (d : D) : EF := fun ρ => some (.v d, ρ)
def vE (f : EF) : VF := fun ρ => (f ρ).bind fun p => keep p.2 p.1
def pE (f : VF) : EF := fun ρ => (f ρ).map fun p => (.v p.1, p.2)
section
variable {X : Cx} {e : Expr} {t : TE} {f : EF} {K : PySem.W.Frag}
theorem dx_name (i : Nat) : DEx K (tVar i) (nmE i) := by
  intro ρ σ fp F H r ρ' Q s e q
  unfold nmE at e
  split at e
  · rename_i d hd
    cases e
    obtain ⟨x, f, hx, ho, _⟩ := s.slot hd
    refine ⟨x, hx, q fp F H x s .refl ?_⟩
    cases ho with
    | v h => exact .v h
  · rename_i o _ hd
    cases e
    obtain ⟨x, f, hx, ho, _⟩ := s.slot hd
    exact ⟨x, hx, q fp F H x s .refl (.at hx)⟩
  · cases e
theorem de_name (i : Nat) {x : Str} {pos : Pos} (hN : X.N[i]? = some x := by rfl) (hv : Vis X.env.scope x := by first | exact Or.inl rfl | exact Or.inr (Or.inl rfl) | exact Or.inr (Or.inr rfl)) (hd : (x == ("__debug__" : Str)) = false := by decide)
    (hcd : (x == ("__classdict__" : Str)) = false := by decide) : DE K wd X (.Name x pos) (tVar i) (nmE i) := ⟨fun hk hw => by subst hk hw; exact pe_var hN hv hd hcd, dx_name i⟩
theorem dx_c {x : V} {d : D} (h : ∀ F, Dp K F x d) : DEx K (tC x) (cE d) := by
  intro ρ σ fp F H r ρ' Q s e q
  cases e
  exact q fp F H x s .refl (.v (h F))
theorem de_int {i j pos} : DE K wd X (.Constant (.int i) j pos) (tC (.int i)) (cE (.int i)) := ⟨fun hk hw => by subst hk hw; exact pe_int, dx_c fun _ => .int i⟩
theorem de_bl {i j pos} : DE K wd X (.Constant (.bool i) j pos) (tC (.bl i)) (cE (.bool i)) := ⟨fun hk hw => by subst hk hw; exact pe_bl, dx_c fun _ => .bl i⟩
theorem de_non {j pos} : DE K wd X (.Constant .none j pos) (tC .non) (cE .none) := ⟨fun hk hw => by subst hk hw; exact pe_non, dx_c fun _ => .non⟩
theorem de_str {x j pos} : DE K wd X (.Constant (.str x) j pos) (tC (.str x)) (cE (.str x)) := ⟨fun hk hw => by subst hk hw; exact pe_str, dx_c fun _ => .str x⟩
theorem dv (h : DE K wd X e t f) : DV K wd X e t (vE f) := by
  refine ⟨fun hk hw => by subst hk hw; exact (h.pe rfl rfl), fun ρ σ fp F H d ρ' Q s e q => ?_⟩
  obtain ⟨⟨r, ρ1⟩, e1, e2⟩ := Option.bind_eq_some_iff.mp e
  refine h.dn ρ σ fp F H r ρ1 Q s e1 fun fp1 F1 H1 x s1 x1 k1 => ?_
  obtain ⟨F2, fp2, s2, x2, k2⟩ := keep_ok s1 k1 x1 e2
  exact q fp2 F2 H1 x s2 x2 k2
end

/-! ### argument lists -/
def aN : AF := fun ρ => some ([], ρ)
def aC (f : VF) (g : AF) : AF := fun ρ => (f ρ).bind fun p => (g p.2).map fun q => (p.1 :: q.1, q.2)
section
variable {X : Cx} {e : Expr} {es : List Expr} {t : TE} {f : VF} {ta : TA} {g : AF} {K : PySem.W.Frag} {pos : Pos}
theorem da_nil : DA K wd X [] tNil aN := ⟨fun hk hw => by subst hk hw; exact pa_nil, fun ρ σ fp F H ds ρ' Q s e q => by cases e; exact q fp F H [] s .refl .nil⟩
theorem da_cons (h : DV K wd X e t f) (k : DA K wd X es ta g) (hs : starEach (e :: es) X.env = (false, eval e X.env) :: starEach es X.env := by rfl) : DA K wd X (e :: es) (tCons t ta) (aC f g) := by
  refine ⟨fun hk hw => by subst hk hw; exact pa_cons (h.pe rfl rfl) (k.pe rfl rfl) hs, fun ρ σ fp F H ds ρ' Q s e q => ?_⟩
  obtain ⟨⟨d, ρ1⟩, e1, e2⟩ := Option.bind_eq_some_iff.mp e
  obtain ⟨⟨ds2, ρ2⟩, e3, e4⟩ := Option.map_eq_some_iff.mp e2
  cases e4
  refine h.dn ρ σ fp F H d ρ1 _ s e1 fun fp1 F1 H1 x s1 x1 k1 => ?_
  refine k.dn ρ1 σ fp1 F1 H1 ds2 ρ2 _ s1 e3 fun fp2 F2 H2 xs s2 x2 k2 => ?_
  exact q fp2 F2 H2 (x :: xs) s2 (x1.trans x2) (.cons (dp_mono x2.fF k1) k2)
/-! ### displays -/
def sizeOk (ds : List D) : Bool := decide (ds.length ≤ sizeLine)
def tupE (g : AF) : EF := fun ρ => (g ρ).bind fun p => if sizeOk p.1 then some (.v (.tuple p.1), p.2) else none
def lstE (g : AF) : EF := fun ρ => (g ρ).bind fun p => if sizeOk p.1 then some (.o (.l p.1), p.2) else none
theorem de_tup {x1} (h : DA K wd X es ta g) : DE K wd X (.Tuple es x1 pos) (tTup ta) (tupE g) := by
  refine ⟨fun hk hw => by subst hk hw; exact pe_tup (h.pe rfl rfl), fun ρ σ fp F H r ρ' Q s e q => ?_⟩
  obtain ⟨⟨ds, ρ1⟩, e1, e2⟩ := Option.bind_eq_some_iff.mp e
  split at e2
  · rename_i hz
    cases e2
    refine h.dn ρ σ fp F H ds ρ1 _ s e1 fun fp1 F1 H1 xs s1 x1 k1 => ?_
    refine ⟨by rw [da_length k1]; exact of_decide_eq_true hz, fun p hp => ?_⟩
    obtain ⟨s2, x2⟩ := alloc_frz s1 hp (.tup xs)
    exact q fp1 _ _ _ s2 (x1.trans x2) (.v (.tup (.inl (.inl upd_same)) (da_mono x2.fF k1)))
  · cases e2
theorem de_lst (h : DA K wd X es ta g) : DE K wd X (.List es pos) (tLst ta) (lstE g) := by
  refine ⟨fun hk hw => by subst hk hw; exact pe_lst (h.pe rfl rfl), fun ρ σ fp F H r ρ' Q s e q => ?_⟩
  obtain ⟨⟨ds, ρ1⟩, e1, e2⟩ := Option.bind_eq_some_iff.mp e
  split at e2
  · rename_i hz
    cases e2
    refine h.dn ρ σ fp F H ds ρ1 _ s e1 fun fp1 F1 H1 xs s1 x1 k1 => ?_
    refine ⟨by rw [da_length k1]; exact of_decide_eq_true hz, fun p hp => ?_⟩
    obtain ⟨s2, x2, n1, n2⟩ := alloc_own s1 hp (.lst xs)
    refine q fp1 _ _ _ s2 (x1.trans x2) (.o (.l n1 upd_same k1) fun a z => ?_)
    rw [List.mem_singleton] at z
    subst z
    exact ⟨n2, x1.none_back hp⟩
  · cases e2
end

/-! ### operators on values: the left, the right, then both as they stand -/
def o2 (op : D → D → Option D) (fa fb : EF) : EF := fun ρ => (fa ρ).bind fun p => (fb p.2).bind fun q => (peek q.2 p.1).bind fun a => (peek q.2 q.1).bind fun b => (op a b).map fun d => (.v d, q.2)
def o1 (op : D → Option D) (fa : EF) : EF := fun ρ => (fa ρ).bind fun p => (peek p.2 p.1).bind fun a => (op a).map fun d => (.v d, p.2)
/-- a flat value -/
def sc : D → Option V
  | .none => some .non
  | .bool b => some (.bl b)
  | .int i => some (.int i)
  | .str z => some (.str z)
  | _ => none
theorem sc_dp {d : D} {x : V} (h : sc d = some x) (K : PySem.W.Frag) (F : Hp) : Dp K F x d := by
  cases d with
  | none => cases h; exact .non
  | bool b => cases h; exact .bl b
  | int i => cases h; exact .int i
  | str z => cases h; exact .str z
  | list _ => cases h
  | tuple _ => cases h
  | dict _ => cases h
def Op2 (K : PySem.W.Frag) (r : R2) (op : D → D → Option D) : Prop := ∀ x y H a b d Q, Dp K H x a → Dp K H y b → op a b = some d → (∀ z, sc d = some z → Q z H) → r x y H Q
def Op1 (K : PySem.W.Frag) (r : V → Hp → VK → Prop) (op : D → Option D) : Prop := ∀ x H a d Q, Dp K H x a → op a = some d → (∀ z, sc d = some z → Q z H) → r x H Q
section
variable {X : Cx} {e a b : Expr} {ta tb : TE} {fa fb : EF} {K : PySem.W.Frag} {pos : Pos} {r : R2} {op : D → D → Option D}
theorem dx_op2 (ho : Op2 K r op) (ha : DEx K ta fa) (hb : DEx K tb fb) : DEx K (tOp r ta tb) (o2 op fa fb) := by
  intro ρ σ fp F H rr ρ' Q s e q
  obtain ⟨⟨ra, ρ1⟩, e1, e⟩ := Option.bind_eq_some_iff.mp e
  obtain ⟨⟨rb, ρ2⟩, e2, e⟩ := Option.bind_eq_some_iff.mp e
  obtain ⟨da, e3, e⟩ := Option.bind_eq_some_iff.mp e
  obtain ⟨db, e4, e⟩ := Option.bind_eq_some_iff.mp e
  obtain ⟨d, e5, e⟩ := Option.map_eq_some_iff.mp e
  cases e
  refine ha ρ σ fp F H ra ρ1 _ s e1 fun fp1 F1 H1 x s1 x1 k1 => ?_
  refine hb ρ1 σ fp1 F1 H1 rb ρ2 _ s1 e2 fun fp2 F2 H2 y s2 x2 k2 => ?_
  refine ho x y H2 da db d Q (peek_ok s2 (k1.step x2) e3) (peek_ok s2 k2 e4) e5 fun z hz => ?_
  exact q fp2 F2 H2 z s2 (x1.trans x2) (.v (sc_dp hz K F2))
theorem de_op {o : Operator} (h : X.K = K → X.w = wd → OpR X (binaryOp o) r) (ho : Op2 K r op) (ha : DE K wd X a ta fa) (hb : DE K wd X b tb fb) : DE K wd X (.BinOp a o b pos) (tOp r ta tb) (o2 op fa fb) := ⟨fun hk hw => by subst hk hw; exact pe_op (h rfl rfl) (ha.pe rfl rfl) (hb.pe rfl rfl), dx_op2 ho ha.dn hb.dn⟩
theorem de_cmp {o : CmpOp} (h : X.K = K → X.w = wd → OpR X (compareOp o) r) (ho : Op2 K r op) (ha : DE K wd X a ta fa) (hb : DE K wd X b tb fb) (hm : behindInMarks o b = false := by first | rfl | exact nomark _) : DE K wd X (.Compare a [o] [b] pos) (tOp r ta tb) (o2 op fa fb) :=
  ⟨fun hk hw => by subst hk hw; exact pe_cmpR (h rfl rfl) (ha.pe rfl rfl) (hb.pe rfl rfl) hm, dx_op2 ho ha.dn hb.dn⟩
/-- a test of a truth value -/
def tE (f : EF) : TF := fun ρ => (f ρ).bind fun p => match peek p.2 p.1 with
  | some (.bool b) => some (b, p.2)
  | _ => none
theorem dt_cmp {o : CmpOp} (h : X.K = K → X.w = wd → OpR X (compareOp o) r) (ho : Op2 K r op) (ha : DE K wd X a ta fa) (hb : DE K wd X b tb fb) (hm : behindInMarks o b = false := by first | rfl | exact nomark _) : DT K wd X (.Compare a [o] [b] pos) (tTest (tOp r ta tb)) (tE (o2 op fa fb)) := by
  refine ⟨fun hk hw => by subst hk hw; exact pt_cmpR (h rfl rfl) (ha.pe rfl rfl) (hb.pe rfl rfl) hm, fun ρ σ fp F H c ρ' Q s e q => ?_⟩
  obtain ⟨⟨rr, ρ1⟩, e1, e⟩ := Option.bind_eq_some_iff.mp e
  show tOp r ta tb σ H _
  refine dx_op2 ho ha.dn hb.dn ρ σ fp F H rr ρ1 _ s e1 fun fp1 F1 H1 x s1 x1 k1 => ?_
  split at e
  · rename_i b' hb'
    cases e
    have hd := peek_ok s1 k1 hb'
    cases hd
    exact ⟨_, rfl, q fp1 F1 H1 s1 x1⟩
  · cases e
/-- a value that is True or False, as a test -/
theorem dt_val (h : DE K wd X a ta fa) (he : ∀ whole, isTrue a X.env whole = (do let v ← whole; standAt a.pos; holding [v] (truthy v)) := by intro _; rfl) : DT K wd X a (tB ta) (tE fa) := by
  refine ⟨fun hk hw => by subst hk hw; exact pt_val (h.pe rfl rfl) he, fun ρ σ fp F H c ρ' Q s e q => ?_⟩
  obtain ⟨⟨rr, ρ1⟩, e1, e⟩ := Option.bind_eq_some_iff.mp e
  refine h.dn ρ σ fp F H rr ρ1 _ s e1 fun fp1 F1 H1 x s1 x1 k1 => ?_
  split at e
  · rename_i b' hb'
    cases e
    have hd := peek_ok s1 k1 hb'
    cases hd
    exact ⟨_, rfl, q fp1 F1 H1 s1 x1⟩
  · cases e
end
end Mm
namespace Mm
open PySem L2

/-! ### results of any kind by operators -/
abbrev G2 := R → R → Rho → Option R
abbrev G1 := R → Rho → Option R
def Sem2 (K : PySem.W.Frag) (r : R2) (g : G2) : Prop := ∀ ρ σ fp F H H0 x y ra rb rr Q, S0 K ρ σ fp F H → ROk K H0 F H σ fp x ra → ROk K H0 F H σ fp y rb → (∀ a, H a = none → H0 a = none) → g ra rb ρ = some rr →
  (∀ fp' F' H' z, S0 K ρ σ fp' F' H' → Ext fp F H fp' F' H' → ROk K H0 F' H' σ fp' z rr → Q z H') → r x y H Q
def Sem1 (K : PySem.W.Frag) (r : V → Hp → VK → Prop) (g : G1) : Prop := ∀ ρ σ fp F H H0 x ra rr Q, S0 K ρ σ fp F H → ROk K H0 F H σ fp x ra → (∀ a, H a = none → H0 a = none) → g ra ρ = some rr →
  (∀ fp' F' H' z, S0 K ρ σ fp' F' H' → Ext fp F H fp' F' H' → ROk K H0 F' H' σ fp' z rr → Q z H') → r x H Q
def g2 (g : G2) (fa fb : EF) : EF := fun ρ => (fa ρ).bind fun p => (fb p.2).bind fun q => (g p.1 q.1 q.2).map fun r => (r, q.2)
def g1 (g : G1) (fa : EF) : EF := fun ρ => (fa ρ).bind fun p => (g p.1 p.2).map fun r => (r, p.2)
section
variable {X : Cx} {e a b : Expr} {ta tb : TE} {fa fb : EF} {K : PySem.W.Frag} {pos : Pos} {r : R2} {g : G2} {r1 : V → Hp → VK → Prop} {h1 : G1}
theorem dx_g2 (ho : Sem2 K r g) (ha : DEx K ta fa) (hb : DEx K tb fb) : DEx K (tOp r ta tb) (g2 g fa fb) := by
  intro ρ σ fp F H rr ρ' Q s e q
  obtain ⟨⟨ra, ρ1⟩, e1, e⟩ := Option.bind_eq_some_iff.mp e
  obtain ⟨⟨rb, ρ2⟩, e2, e⟩ := Option.bind_eq_some_iff.mp e
  obtain ⟨rr', e3, e⟩ := Option.map_eq_some_iff.mp e
  cases e
  refine ha ρ σ fp F H ra ρ1 _ s e1 fun fp1 F1 H1 x s1 x1 k1 => ?_
  refine hb ρ1 σ fp1 F1 H1 rb ρ2 _ s1 e2 fun fp2 F2 H2 y s2 x2 k2 => ?_
  refine ho ρ2 σ fp2 F2 H2 H x y ra rb rr Q s2 (k1.step x2) (k2.base fun c => x1.none_back) (fun c z => (x1.trans x2).none_back z) e3 fun fp3 F3 H3 z s3 x3 k3 => ?_
  exact q fp3 F3 H3 z s3 ((x1.trans x2).trans x3) k3
theorem dx_g1 {t : TE} (ho : Sem1 K r1 h1) (ha : DEx K ta fa) (ht : ∀ σ H Q, ta σ H (fun x H1 => r1 x H1 Q) → t σ H Q) : DEx K t (g1 h1 fa) := by
  intro ρ σ fp F H rr ρ' Q s e q
  obtain ⟨⟨ra, ρ1⟩, e1, e⟩ := Option.bind_eq_some_iff.mp e
  obtain ⟨rr', e3, e⟩ := Option.map_eq_some_iff.mp e
  cases e
  refine ht σ H Q (ha ρ σ fp F H ra ρ1 _ s e1 fun fp1 F1 H1 x s1 x1 k1 => ?_)
  exact ho ρ1 σ fp1 F1 H1 H x ra rr Q s1 k1 (fun c z => x1.none_back z) e3 fun fp3 F3 H3 z s3 x3 k3 => q fp3 F3 H3 z s3 (x1.trans x3) k3
theorem de_g2 {o : Operator} (h : X.K = K → X.w = wd → OpR X (binaryOp o) r) (ho : Sem2 K r g) (ha : DE K wd X a ta fa) (hb : DE K wd X b tb fb) : DE K wd X (.BinOp a o b pos) (tOp r ta tb) (g2 g fa fb) := ⟨fun hk hw => by subst hk hw; exact pe_op (h rfl rfl) (ha.pe rfl rfl) (hb.pe rfl rfl), dx_g2 ho ha.dn hb.dn⟩
theorem sem2_of {op : D → D → Option D} (ho : Op2 K r op) : Sem2 K r (fun ra rb ρ => (peek ρ ra).bind fun a => (peek ρ rb).bind fun b => (op a b).map .v) := by
  intro ρ σ fp F H H0 x y ra rb rr Q s ka kb _ e q
  obtain ⟨da, e1, e⟩ := Option.bind_eq_some_iff.mp e
  obtain ⟨db, e2, e⟩ := Option.bind_eq_some_iff.mp e
  obtain ⟨d, e3, e⟩ := Option.map_eq_some_iff.mp e
  cases e
  exact ho x y H da db d Q (peek_ok s ka e1) (peek_ok s kb e2) e3 fun z hz => q fp F H z s .refl (.v (sc_dp hz K F))
end

/-! ### owned lists -/
def ownL (ρ : Rho) : R → Option (List D)
  | .o (.l ds) => some ds
  | .at i => match ρ[i]? with
    | some (some (.l ds)) => some ds
    | _ => none
  | _ => none
section
variable {K : PySem.W.Frag} {ρ : Rho} {σ : St} {fp : List Addr} {F H H0 : Hp} {x : V} {r : R} {ds : List D}
theorem ownL_ok (s : S0 K ρ σ fp F H) (k : ROk K H0 F H σ fp x r) (e : ownL ρ r = some ds) : ∃ a vs, x = .ref a ∧ H a = some (.lst vs) ∧ DpAll K F vs ds := by
  cases k with
  | v _ => cases e
  | @o o f h _ =>
    cases o with
    | l ds' =>
      cases e
      cases h with
      | l n q t => exact ⟨_, _, rfl, q, t⟩
    | v _ => cases e
    | c _ => cases e
    | k _ => cases e
    | t _ => cases e
  | @«at» i h =>
    cases q : ρ[i]? with
    | none => simp [ownL, q] at e
    | some u =>
      cases u with
      | none => simp [ownL, q] at e
      | some o =>
        cases o with
        | l ds' =>
          have e' : ds' = ds := by simpa [ownL, q] using e
          subst e'
          obtain ⟨y, f, hy, ho, _⟩ := s.slot q
          rw [h] at hy
          cases hy
          cases ho with
          | l n q t => exact ⟨_, _, rfl, q, t⟩
        | v _ => simp [ownL, q] at e
        | c _ => simp [ownL, q] at e
        | k _ => simp [ownL, q] at e
        | t _ => simp [ownL, q] at e
/-- the items of a list (owned flat, or frozen) or of a tuple -/
def seqOf (ρ : Rho) (r : R) : Option (Bool × List D) :=
  match ownL ρ r with
  | some ds => some (true, ds)
  | none => match r with
    | .v (.list ds) => some (true, ds)
    | .v (.tuple ds) => some (false, ds)
    | _ => none
theorem seqOf_ok (s : S0 K ρ σ fp F H) (k : ROk K H0 F H σ fp x r) {b : Bool} (e : seqOf ρ r = some (b, ds)) :
    (b = true ∧ ∃ a vs, x = .ref a ∧ SqL K H a vs ∧ DpAll K F vs ds) ∨ (b = false ∧ ∃ a vs, x = .ref a ∧ SqT K F a vs ∧ DpAll K F vs ds) := by
  unfold seqOf at e
  split at e
  · rename_i ds' e'
    cases e
    obtain ⟨a, vs, h1, h2, h3⟩ := ownL_ok s k e'
    exact .inl ⟨rfl, a, vs, h1, .of h2, h3⟩
  · split at e
    · cases e
      cases k with
      | v h =>
        obtain ⟨a, vs, h1, h2, h3⟩ := dp_lst h
        exact .inl ⟨rfl, a, vs, h1, s.same.seq h2, h3⟩
    · cases e
      cases k with
      | v h =>
        obtain ⟨a, vs, h1, h2, h3⟩ := dp_tup h
        exact .inr ⟨rfl, a, vs, h1, h2, h3⟩
    · cases e
end

/-! ### + -/
def addG : G2 := fun ra rb ρ =>
  match ownL ρ ra, ownL ρ rb with
  | some xs, some ys => if sizeOk (xs ++ ys) then some (.o (.l (xs ++ ys))) else none
  | _, _ => match ra, rb with
    | .v (.int i), .v (.int j) => some (.v (.int (i + j)))
    | .v (.str a), .v (.str b) => if a.length + b.length ≤ sizeLine then some (.v (.str (a ++ b))) else none
    | .v (.tuple xs), .v (.tuple ys) => if sizeOk (xs ++ ys) then some (.v (.tuple (xs ++ ys))) else none
    | _, _ => none
def rAddA (K : PySem.W.Frag) : R2 := fun x y H Q => (∃ i j, x = .int i ∧ y = .int j ∧ Q (.int (i + j)) H) ∨ (∃ i j, x = .str i ∧ y = .str j ∧ i.length + j.length ≤ sizeLine ∧ Q (.str (i ++ j)) H) ∨ rCat x y H Q ∨ rCatA K x y H Q
theorem op_addA {X : Cx} : OpR X (binaryOp .Add) (rAddA X.K) := op_add.or (op_add_str.or (op_cat.or op_catA))
theorem dp_int {K : PySem.W.Frag} {F : Hp} {x : V} {i : Int} (h : Dp K F x (.int i)) : x = .int i := by cases h; rfl
theorem dp_str {K : PySem.W.Frag} {F : Hp} {x : V} {i : Str} (h : Dp K F x (.str i)) : x = .str i := by cases h; rfl
theorem dp_bl {K : PySem.W.Frag} {F : Hp} {x : V} {i : Bool} (h : Dp K F x (.bool i)) : x = .bl i := by cases h; rfl
theorem dp_non {K : PySem.W.Frag} {F : Hp} {x : V} (h : Dp K F x .none) : x = .non := by cases h; rfl
theorem sem_add (K : PySem.W.Frag) : Sem2 K (rAddA K) addG := by
  intro ρ σ fp F H H0 x y ra rb rr Q s ka kb hN e q
  unfold addG at e
  split at e
  · rename_i xs ys ex ey
    split at e
    · rename_i hz
      cases e
      obtain ⟨a, vs, rfl, h1, h2⟩ := ownL_ok s ka ex
      obtain ⟨b, ws, rfl, h3, h4⟩ := ownL_ok s kb ey
      have hl : vs.length + ws.length = (xs ++ ys).length := by rw [da_length h2, da_length h4, List.length_append]
      refine .inr (.inr (.inl ⟨a, b, vs, ws, rfl, rfl, h1, h3, by rw [hl]; exact of_decide_eq_true hz, fun p hp => ?_⟩))
      obtain ⟨s2, x2, n1, n2⟩ := alloc_own s hp (.lst (vs ++ ws))
      exact q fp _ _ _ s2 x2 (.o (.l n1 upd_same (da_append h2 h4)) fun c z => by
        rw [List.mem_singleton] at z; subst z; exact ⟨n2, hN _ hp⟩)
    · cases e
  · split at e
    · cases e
      cases ka with | v ka => cases kb with | v kb => exact .inl ⟨_, _, dp_int ka, dp_int kb, q fp F H _ s .refl (.v (.int _))⟩
    · split at e
      · cases e
        cases ka with | v ka => cases kb with | v kb => exact .inr (.inl ⟨_, _, dp_str ka, dp_str kb, by assumption, q fp F H _ s .refl (.v (.str _))⟩)
      · cases e
    · split at e
      · rename_i xs ys _ hz
        cases e
        cases ka with | v ka => cases kb with | v kb =>
          obtain ⟨a, vs, rfl, h1, h2⟩ := dp_tup ka
          obtain ⟨b, ws, rfl, h3, h4⟩ := dp_tup kb
          have hl : vs.length + ws.length = (xs ++ ys).length := by rw [da_length h2, da_length h4, List.length_append]
          refine .inr (.inr (.inr (⟨a, b, vs, ws, rfl, rfl, seqT s.same h1, seqT s.same h3, by rw [hl]; exact of_decide_eq_true hz, fun z => ?_, fun _ z => ?_, fun _ _ p hp => ?_⟩)))
          · subst z
            cases h2
            exact q fp F H _ s .refl (.v kb)
          · subst z
            cases h4
            exact q fp F H _ s .refl (.v (by rw [List.append_nil]; exact ka))
          · obtain ⟨s2, x2⟩ := alloc_frz s hp (.tup (vs ++ ws))
            exact q fp _ _ _ s2 x2 (.v (.tup (.inl (.inl upd_same)) (da_mono x2.fF (da_append h2 h4))))
      · cases e
    · cases e

/-! ### - * // % ** << and so on, on ints -/
def subD : D → D → Option D
  | .int i, .int j => some (.int (i - j))
  | _, _ => none
def modD : D → D → Option D
  | .int i, .int j => if j ≠ 0 then some (.int (i.fmod j)) else none
  | _, _ => none
def divD : D → D → Option D
  | .int i, .int j => if j ≠ 0 ∧ j.natAbs < 1073741824 then some (.int (i.fdiv j)) else none
  | _, _ => none
def powD : D → D → Option D
  | .int i, .int j => if 0 ≤ j ∧ j ≤ 1000000 ∧ i.natAbs < 2 ^ 64 then some (.int (i ^ j.toNat)) else none
  | _, _ => none
def shlD : D → D → Option D
  | .int i, .int j => if 0 ≤ j ∧ j ≤ 1000000 ∧ i.natAbs < 2 ^ 64 then some (.int (i * 2 ^ j.toNat)) else none
  | _, _ => none
def mulD : D → D → Option D
  | .int i, .int j => if (-(2 ^ 64) < i ∧ i < 2 ^ 64) ∨ (-(2 ^ 64) < j ∧ j < 2 ^ 64) then some (.int (i * j)) else none
  | .str x, .int n => if n < 2 ^ 32 ∧ -(2 ^ 32) < n ∧ x.length * n.toNat ≤ 65536 then some (.str (Txt.mul x n)) else none
  | _, _ => none
theorem op2_sub (K : PySem.W.Frag) : Op2 K (rI0 fun i j => .int (i - j)) subD := by
  intro x y H a b d Q ha hb e q
  unfold subD at e
  split at e
  · cases e
    exact ⟨_, _, dp_int ha, dp_int hb, q _ rfl⟩
  · cases e
theorem op2_mod (K : PySem.W.Frag) : Op2 K (rI (fun _ j => j ≠ 0) fun i j => .int (i.fmod j)) modD := by
  intro x y H a b d Q ha hb e q
  unfold modD at e
  split at e
  · split at e
    · cases e
      exact ⟨_, _, dp_int ha, dp_int hb, by assumption, q _ rfl⟩
    · cases e
  · cases e
theorem op2_div (K : PySem.W.Frag) : Op2 K (rI CDivN fun i j => .int (i.fdiv j)) divD := by
  intro x y H a b d Q ha hb e q
  unfold divD at e
  split at e
  · split at e
    · cases e
      exact ⟨_, _, dp_int ha, dp_int hb, by assumption, q _ rfl⟩
    · cases e
  · cases e
theorem op2_pow (K : PySem.W.Frag) : Op2 K (rI CPow fun i j => .int (i ^ j.toNat)) powD := by
  intro x y H a b d Q ha hb e q
  unfold powD at e
  split at e
  · split at e
    · cases e
      exact ⟨_, _, dp_int ha, dp_int hb, by assumption, q _ rfl⟩
    · cases e
  · cases e
theorem op2_shl (K : PySem.W.Frag) : Op2 K (rI CPow fun i j => .int (i * 2 ^ j.toNat)) shlD := by
  intro x y H a b d Q ha hb e q
  unfold shlD at e
  split at e
  · split at e
    · cases e
      exact ⟨_, _, dp_int ha, dp_int hb, by assumption, q _ rfl⟩
    · cases e
  · cases e
def rMulS : R2 := fun x y H Q => ∃ z n, x = .str z ∧ y = .int n ∧ MulOk z n ∧ Q (.str (Txt.mul z n)) H
theorem op_mulS {X : Cx} : OpR X (binaryOp .Mult) rMulS := by
  intro pins s σ H x y v u Q I rx ry h
  obtain ⟨z, n, rfl, rfl, hok, q⟩ := h
  obtain ⟨t, rfl⟩ := rx
  obtain ⟨t', rfl⟩ := ry
  exact SB.mul hok fun t' k => ⟨.str _, H, I.tok _, ⟨_, rfl⟩, q⟩
def rMulA : R2 := fun x y H Q => rI CMul (fun i j => .int (i * j)) x y H Q ∨ rMulS x y H Q
theorem op_mulA {X : Cx} : OpR X (binaryOp .Mult) rMulA := op_mul.or op_mulS
theorem mulOk_of {x : Str} {n : Int} (h1 : n < 2 ^ 32) (h2 : -(2 ^ 32) < n) (h3 : x.length * n.toNat ≤ 65536) : MulOk x n := by
  refine ⟨?_, fun hn _ => ?_, fun hn _ => ?_⟩
  · simp only [Bool.or_eq_false_iff, decide_eq_false_iff_not]
    omega
  · have h0 : 0 < n := by omega
    intro hx
    have := Int.mul_lt_of_lt_ediv (c := n) h0 (a := (2 ^ 63 - 1 : Int) / n) (b := (2 ^ 63 - 1))
    have e : ((x.length * n.toNat : Nat) : Int) = (x.length : Int) * n := by
      rw [Int.natCast_mul, Int.toNat_of_nonneg (by omega)]
    have k1 : (2 ^ 63 - 1 : Int) / n < (x.length : Int) := hx
    have k2 : (2 ^ 63 - 1 : Int) < (x.length : Int) * n := Int.lt_mul_of_ediv_lt h0 k1
    omega
  · have : x.length * n.toNat ≤ sizeLine := by rw [sizeLine_eq]; omega
    show decide (x.length * n.toNat > sizeLine) = false
    exact decide_eq_false (by omega)
theorem op2_mul (K : PySem.W.Frag) : Op2 K rMulA mulD := by
  intro x y H a b d Q ha hb e q
  unfold mulD at e
  split at e
  · split at e
    · cases e
      exact .inl ⟨_, _, dp_int ha, dp_int hb, by assumption, q _ rfl⟩
    · cases e
  · split at e
    · rename_i hh
      cases e
      exact .inr ⟨_, _, dp_str ha, dp_int hb, mulOk_of hh.1 hh.2.1 hh.2.2, q _ rfl⟩
    · cases e
  · cases e
end Mm
namespace Mm
open PySem L2

/-! ### comparisons -/
def scalD : D → D → Bool
  | .none, .none => true | .none, .int _ => true | .int _, .none => true | .none, .bool _ => true | .bool _, .none => true | .none, .str _ => true | .str _, .none => true
  | .int _, .int _ => true | .bool _, .bool _ => true | .str _, .str _ => true
  | .int _, .str _ => true | .str _, .int _ => true | .bool _, .str _ => true | .str _, .bool _ => true
  | _, _ => false
def eqOk (a b : D) : Bool := scalD a b || (SeqAt.shaped a && SeqAt.shaped b)
def eqD (a b : D) : Option D := if eqOk a b then some (.bool (PyData.eqv a b)) else none
def neD (a b : D) : Option D := if eqOk a b then some (.bool (!PyData.eqv a b)) else none
theorem scal_eq {K : PySem.W.Frag} {H : Hp} {x y : V} {a b : D} (ha : Dp K H x a) (hb : Dp K H y b) (h : scalD a b = true) : scal x y = true ∧ decide (x = y) = PyData.eqv a b := by
  cases ha <;> cases hb <;> first
    | (refine ⟨rfl, ?_⟩; first | exact dec_int | exact dec_bl | (rw [PyData.eqv]; exact dec_str) | (simp [PyData.eqv]))
    | exact absurd h (by simp [scalD])
def rEqA (K : PySem.W.Frag) : R2 := fun x y H Q => rEq x y H Q ∨ rEqD K x y H Q
def rNeA (K : PySem.W.Frag) : R2 := fun x y H Q => rNe x y H Q ∨ rNeD K x y H Q
theorem op_eqA {X : Cx} (hu : X.A.units + 64 < cLine) : OpR X (compareOp .Eq) (rEqA X.K) := op_eq.or (op_eqD hu)
theorem op_neA {X : Cx} (hu : X.A.units + 64 < cLine) : OpR X (compareOp .NotEq) (rNeA X.K) := op_ne.or (op_neD hu)
theorem op2_eq (K : PySem.W.Frag) : Op2 K (rEqA K) eqD := by
  intro x y H a b d Q ha hb e q
  unfold eqD at e
  split at e
  · rename_i h
    cases e
    rcases Bool.or_eq_true_iff.mp h with h | h
    · obtain ⟨h1, h2⟩ := scal_eq ha hb h
      exact .inl ⟨h1, by rw [h2]; exact q _ rfl⟩
    · obtain ⟨h1, h2⟩ := Bool.and_eq_true_iff.mp h
      exact .inr ⟨a, b, ha, hb, h1, h2, q _ rfl⟩
  · cases e
theorem op2_ne (K : PySem.W.Frag) : Op2 K (rNeA K) neD := by
  intro x y H a b d Q ha hb e q
  unfold neD at e
  split at e
  · rename_i h
    cases e
    rcases Bool.or_eq_true_iff.mp h with h | h
    · obtain ⟨h1, h2⟩ := scal_eq ha hb h
      exact .inl ⟨h1, by rw [h2]; exact q _ rfl⟩
    · obtain ⟨h1, h2⟩ := Bool.and_eq_true_iff.mp h
      exact .inr ⟨a, b, ha, hb, h1, h2, q _ rfl⟩
  · cases e
def cmpD (p : Int → Int → Bool) : D → D → Option D
  | .int i, .int j => some (.bool (p i j))
  | _, _ => none
abbrev ltD := cmpD fun i j => decide (i < j)
abbrev leD := cmpD fun i j => decide (i ≤ j)
abbrev gtD := cmpD fun i j => decide (j < i)
abbrev geD := cmpD fun i j => decide (j ≤ i)
theorem op2_cmp (K : PySem.W.Frag) (p : Int → Int → Bool) : Op2 K (rI0 fun i j => .bl (p i j)) (cmpD p) := by
  intro x y H a b d Q ha hb e q
  unfold cmpD at e
  split at e
  · cases e
    exact ⟨_, _, dp_int ha, dp_int hb, q _ rfl⟩
  · cases e
/-- x is None -/
def isND : D → D → Option D
  | .none, .none => some (.bool true)
  | .int _, .none => some (.bool false)
  | .bool _, .none => some (.bool false)
  | .str _, .none => some (.bool false)
  | .list _, .none => some (.bool false)
  | .tuple _, .none => some (.bool false)
  | _, _ => none
def notND (a b : D) : Option D := match isND a b with
  | some (.bool k) => some (.bool !k)
  | _ => none
theorem isN_dp {K : PySem.W.Frag} {H : Hp} {x y : V} {a b : D} {k : Bool} (ha : Dp K H x a) (hb : Dp K H y b) (h : isND a b = some (.bool k)) : y = .non ∧ decide (x = .non) = k := by
  unfold isND at h
  split at h <;> cases h <;> cases ha <;> cases hb <;> exact ⟨rfl, by simp⟩
theorem op2_isN (K : PySem.W.Frag) : Op2 K (fun x y H Q => y = .non ∧ Q (.bl (decide (x = .non))) H) isND := by
  intro x y H a b d Q ha hb e q
  cases d with
  | bool k =>
    obtain ⟨h1, h2⟩ := isN_dp ha hb e
    exact ⟨h1, by rw [h2]; exact q _ rfl⟩
  | _ => unfold isND at e; split at e <;> cases e
theorem op2_notN (K : PySem.W.Frag) : Op2 K (fun x y H Q => y = .non ∧ Q (.bl (!decide (x = .non))) H) notND := by
  intro x y H a b d Q ha hb e q
  unfold notND at e
  split at e
  · rename_i k h
    cases e
    obtain ⟨h1, h2⟩ := isN_dp ha hb h
    exact ⟨h1, by rw [h2]; exact q _ rfl⟩
  · cases e

/-! ### in -/
def flatD : D → Bool
  | .none => true | .bool _ => true | .int _ => true | .str _ => true
  | _ => false
theorem flat_dp {K : PySem.W.Frag} {H : Hp} {x : V} {a : D} (h : Dp K H x a) : flatV x = flatD a := by cases h <;> rfl
theorem flat_all {K : PySem.W.Frag} {H : Hp} : ∀ {xs : List V} {ds : List D}, DpAll K H xs ds → xs.all flatV = ds.all flatD
  | _, _, .nil => rfl
  | _, _, .cons h t => by rw [List.all_cons, List.all_cons, flat_dp h, flat_all t]
theorem eqv_dp {K : PySem.W.Frag} {H : Hp} {x y : V} {a b : D} (ha : Dp K H x a) (hb : Dp K H y b) (fa : flatD a = true) (fb : flatD b = true) : eqV x y = PyData.eqv a b := by
  cases ha <;> cases hb <;> first
    | (simp [eqV, PyData.eqv]; done)
    | exact absurd fa (by simp [flatD])
    | exact absurd fb (by simp [flatD])
theorem inV_dp {K : PySem.W.Frag} {H : Hp} {x : V} {a : D} (ha : Dp K H x a) (fa : flatD a = true) : ∀ {xs : List V} {ds : List D}, DpAll K H xs ds → ds.all flatD = true → inV x xs = ds.any fun z => PyData.eqv z a
  | _, _, .nil, _ => rfl
  | _, _, .cons h t, f => by
    rw [List.all_cons, Bool.and_eq_true_iff] at f
    have ih := inV_dp ha fa t f.2
    unfold inV at ih ⊢
    rw [List.any_cons, List.any_cons, ih, eqv_dp h ha f.1 fa]
def inOk (a : D) (ds : List D) : Bool := (flatD a && ds.all flatD)
def inDeep (a : D) (ds : List D) : Bool := SeqAt.shaped a && SeqAt.shaped (.list ds)
def inD (neg : Bool) (a b : D) : Option D := match a, b with
  | .str x, .str y => some (.bool (if neg then !(!(Builtin.Str.occurrences y x 0 y.length 1).isEmpty) else !(Builtin.Str.occurrences y x 0 y.length 1).isEmpty))
  | a, .list ds => if inOk a ds || inDeep a ds then some (.bool (if neg then !(ds.any fun z => PyData.eqv z a) else ds.any fun z => PyData.eqv z a)) else none
  | a, .tuple ds => if inOk a ds then some (.bool (if neg then !(ds.any fun z => PyData.eqv z a) else ds.any fun z => PyData.eqv z a)) else none
  | _, _ => none
def rInA (K : PySem.W.Frag) : R2 := fun x y H Q => rIn K false x y H Q ∨ (∃ i j, x = .str i ∧ y = .str j ∧ Q (.bl (!(Builtin.Str.occurrences j i 0 j.length 1).isEmpty)) H) ∨ rInD K x y H Q
def rNotInA (K : PySem.W.Frag) : R2 := fun x y H Q => rIn K true x y H Q ∨ (∃ i j, x = .str i ∧ y = .str j ∧ Q (.bl (!(!(Builtin.Str.occurrences j i 0 j.length 1).isEmpty))) H) ∨ rNotInD K x y H Q
theorem op_inA {X : Cx} (hu : X.A.units + 65 < cLine) : OpR X (compareOp .In) (rInA X.K) := op_in_seq.or (op_in_str.or (op_inD hu))
theorem op_notInA {X : Cx} (hu : X.A.units + 65 < cLine) : OpR X (compareOp .NotIn) (rNotInA X.K) := op_notIn_seq.or (op_notIn_str.or (op_notInD hu))
theorem op2_in (K : PySem.W.Frag) : Op2 K (rInA K) (inD false) := by
  intro x y H a b d Q ha hb e q
  unfold inD at e
  split at e
  · cases e
    exact .inr (.inl ⟨_, _, dp_str ha, dp_str hb, q _ rfl⟩)
  · rename_i ds _
    split at e
    · rename_i h
      cases e
      rcases Bool.or_eq_true_iff.mp h with h | h
      · obtain ⟨h1, h2⟩ := Bool.and_eq_true_iff.mp h
        obtain ⟨p, vs, rfl, k1, k2⟩ := dp_lst hb
        refine .inl ⟨p, vs, rfl, .inl k1, by rw [flat_dp ha]; exact h1, by rw [flat_all k2]; exact h2, ?_⟩
        rw [if_neg Bool.false_ne_true, inV_dp ha h1 k2 h2]
        exact q _ rfl
      · obtain ⟨h1, h2⟩ := Bool.and_eq_true_iff.mp h
        exact .inr (.inr ⟨_, _, ha, hb, h1, h2, q _ rfl⟩)
    · cases e
  · split at e
    · rename_i h
      cases e
      obtain ⟨h1, h2⟩ := Bool.and_eq_true_iff.mp h
      obtain ⟨p, vs, rfl, k1, k2⟩ := dp_tup hb
      refine .inl ⟨p, vs, rfl, .inr k1, by rw [flat_dp ha]; exact h1, by rw [flat_all k2]; exact h2, ?_⟩
      rw [if_neg Bool.false_ne_true, inV_dp ha h1 k2 h2]
      exact q _ rfl
    · cases e
  · cases e
theorem op2_notin (K : PySem.W.Frag) : Op2 K (rNotInA K) (inD true) := by
  intro x y H a b d Q ha hb e q
  unfold inD at e
  split at e
  · cases e
    exact .inr (.inl ⟨_, _, dp_str ha, dp_str hb, q _ rfl⟩)
  · rename_i ds _
    split at e
    · rename_i h
      cases e
      rcases Bool.or_eq_true_iff.mp h with h | h
      · obtain ⟨h1, h2⟩ := Bool.and_eq_true_iff.mp h
        obtain ⟨p, vs, rfl, k1, k2⟩ := dp_lst hb
        refine .inl ⟨p, vs, rfl, .inl k1, by rw [flat_dp ha]; exact h1, by rw [flat_all k2]; exact h2, ?_⟩
        rw [if_pos rfl, inV_dp ha h1 k2 h2]
        exact q _ rfl
      · obtain ⟨h1, h2⟩ := Bool.and_eq_true_iff.mp h
        exact .inr (.inr ⟨_, _, ha, hb, h1, h2, q _ rfl⟩)
    · cases e
  · split at e
    · rename_i h
      cases e
      obtain ⟨h1, h2⟩ := Bool.and_eq_true_iff.mp h
      obtain ⟨p, vs, rfl, k1, k2⟩ := dp_tup hb
      refine .inl ⟨p, vs, rfl, .inr k1, by rw [flat_dp ha]; exact h1, by rw [flat_all k2]; exact h2, ?_⟩
      rw [if_pos rfl, inV_dp ha h1 k2 h2]
      exact q _ rfl
    · cases e
  · cases e

/-! ### a[b], a[b:c] -/
def ixG : G2 := fun ra rb ρ => match rb with
  | .v (.int i) => match seqOf ρ ra with
    | some (_, ds) => (atI ds i).map .v
    | none => match ra with
      | .v (.str z) => if z.length ≤ sizeLine then (atI z.cps.toList i).map fun c => .v (.str ⟨#[c]⟩) else none
      | .at j => match ρ[j]? with
        | some (some (.c os)) => (atI os i).bind fun o => match o with
          | .v d => some (.v d)
          | _ => none
        | _ => none
      | _ => none
  | _ => none
theorem da_at {K : PySem.W.Frag} {F : Hp} {vs : List V} {ds : List D} {i : Int} {d : D} (h : DpAll K F vs ds) (e : atI ds i = some d) : ∃ x, atI vs i = some x ∧ Dp K F x d := by
  unfold atI at e ⊢
  rw [da_length h]
  obtain ⟨j, e1, e2⟩ := Option.bind_eq_some_iff.mp e
  obtain ⟨x, h1, h2⟩ := da_get h e2
  exact ⟨x, by rw [e1]; exact h1, h2⟩
theorem ownL_get {K : PySem.W.Frag} {F H : Hp} : ∀ {vs : List V} {os : List O} {fp : List Addr} {j : Nat} {o : O}, OwnL K F H vs os fp → os[j]? = some o → ∃ x f, vs[j]? = some x ∧ Own K F H x o f
  | _, _, _, _, _, .nil, e => by simp at e
  | _, _, _, 0, _, .cons h _ _, e => by simp at e; subst e; exact ⟨_, _, rfl, h⟩
  | _, _, _, j + 1, o, .cons _ t _, e => by
    obtain ⟨x, f, h1, h2⟩ := ownL_get (j := j) (o := o) t (by simpa using e)
    exact ⟨x, f, by simpa using h1, h2⟩
theorem ownL_len {K : PySem.W.Frag} {F H : Hp} : ∀ {vs : List V} {os : List O} {fp : List Addr}, OwnL K F H vs os fp → vs.length = os.length
  | _, _, _, .nil => rfl
  | _, _, _, .cons _ t _ => by simp [ownL_len t]
theorem sem_ix (K : PySem.W.Frag) : Sem2 K (rIx K) ixG := by
  intro ρ σ fp F H H0 x y ra rb rr Q s ka kb hN e q
  unfold ixG at e
  split at e
  · rename_i i
    cases kb with | v kb =>
    obtain rfl := dp_int kb
    split at e
    · rename_i b ds hs
      obtain ⟨d, e1, e2⟩ := Option.map_eq_some_iff.mp e
      subst e2
      rcases seqOf_ok s ka hs with ⟨_, a, vs, rfl, h1, h2⟩ | ⟨_, a, vs, rfl, h1, h2⟩
      · obtain ⟨z, h3, h4⟩ := da_at h2 e1
        exact .inl ⟨a, vs, i, z, rfl, rfl, h1, h3, q fp F H z s .refl (.v h4)⟩
      · obtain ⟨z, h3, h4⟩ := da_at h2 e1
        exact .inr (.inl ⟨a, vs, i, z, rfl, rfl, seqT s.same h1, h3, q fp F H z s .refl (.v h4)⟩)
    · split at e
      · rename_i z _
        split at e
        · obtain ⟨c, e1, e2⟩ := Option.map_eq_some_iff.mp e
          subst e2
          cases ka with | v ka =>
          exact .inr (.inr ⟨z, i, c, dp_str ka, rfl, by assumption, e1, q fp F H _ s .refl (.v (.str _))⟩)
        · cases e
      · rename_i j _
        split at e
        · rename_i os hj
          obtain ⟨o, e1, e2⟩ := Option.bind_eq_some_iff.mp e
          split at e2
          · cases e2
            cases ka with | «at» ka =>
            obtain ⟨x', f, hx, ho, _⟩ := s.slot hj
            rw [ka] at hx
            cases hx
            cases ho with
            | @c a vs os' fp' n qq t _ =>
              unfold atI at e1
              obtain ⟨k, e3, e4⟩ := Option.bind_eq_some_iff.mp e1
              obtain ⟨z, f', h1, h2⟩ := ownL_get t e4
              cases h2 with
              | v h2 =>
                refine .inl ⟨a, vs, i, z, rfl, rfl, .of qq, ?_, q fp F H z s .refl (.v h2)⟩
                unfold atI
                rw [ownL_len t, e3]
                exact h1
          · cases e2
        · cases e
      · cases e
  · cases e
section
variable {X : Cx} {a b : Expr} {ta tb : TE} {fa fb : EF} {pos : Pos}
theorem de_ix (ha : DE K wd X a ta fa) (hb : DE K wd X b tb fb) (hs : PlainIx b := by exact fun _ _ => rfl) : DE K wd X (.Subscript a b pos) (tOp (rIx K) ta tb) (g2 ixG fa fb) := ⟨fun hk hw => by subst hk hw; exact pe_ix ix_seq (ha.pe rfl rfl) (hb.pe rfl rfl) hs, dx_g2 (sem_ix K) ha.dn hb.dn⟩
end
def cutD {α : Type} (ds : List α) (lo hi : Option Int) : List α := (ds.drop (HT.sIx ds.length 0 lo)).take (HT.sIx ds.length ds.length hi - HT.sIx ds.length 0 lo)
def pN : Rho → Option (Option Int × Rho) := fun ρ => some (none, ρ)
def pS (f : EF) : Rho → Option (Option Int × Rho) := fun ρ => (f ρ).bind fun p => match p.1 with
  | .v (.int i) => some (some i, p.2)
  | _ => none
def slG (lo hi : Option Int) : G1 := fun ra ρ => match ra with
  | .v (.str z) => if z.length ≤ sizeLine then some (.v (.str (cutS z lo hi))) else none
  | .v (.tuple ds) => some (.v (.tuple (cutD ds lo hi)))
  | r => match seqOf ρ r with
    | some (true, ds) => some (.o (.l (cutD ds lo hi)))
    | _ => none
def slE (fa : EF) (fl fh : Rho → Option (Option Int × Rho)) : EF := fun ρ => (fa ρ).bind fun p => (fl p.2).bind fun l => (fh l.2).bind fun h => (slG l.1 h.1 p.1 h.2).map fun r => (r, h.2)
structure DO (K : PySem.W.Frag) (wd : World) (X : Cx) (e : Option Expr) (t : TO) (f : Rho → Option (Option Int × Rho)) : Prop where
  pe : X.K = K → X.w = wd → PO X e t
  dn : ∀ (ρ : Rho) (σ : St) (fp : List Addr) (F H : Hp) (r : Option Int) (ρ' : Rho) (Q : Option Int → Hp → Prop), S0 K ρ σ fp F H → f ρ = some (r, ρ') →
    (∀ fp' F' H', S0 K ρ' σ fp' F' H' → Ext fp F H fp' F' H' → Q r H') → t σ H Q
def rSlAll (K : PySem.W.Frag) : V → Option Int → Option Int → Hp → VK → Prop := fun x lo hi H Q => rSlL K x lo hi H Q ∨ rSlA K x lo hi H Q ∨ rSlS x lo hi H Q
theorem da_cut {K : PySem.W.Frag} {F : Hp} {vs : List V} {ds : List D} (h : DpAll K F vs ds) (lo hi : Option Int) : DpAll K F (cutV vs lo hi) (cutD ds lo hi) := by
  unfold cutV cutD
  rw [da_length h]
  exact da_take _ (da_drop _ h)
theorem cutD_whole {α : Type} {ds : List α} {lo hi : Option Int} (h : HT.sIx ds.length 0 lo = 0 ∧ HT.sIx ds.length ds.length hi = ds.length) : cutD ds lo hi = ds := by
  unfold cutD
  rw [h.1, h.2, List.drop_zero, Nat.sub_zero, List.take_length]
section
variable {X : Cx} {e : Expr} {te : TE} {fa : EF} {lo hi : Option Expr} {tl th : TO} {fl fh : Rho → Option (Option Int × Rho)} {pos p2 : Pos}
theorem do_none : DO K wd X none tNoPart pN := ⟨fun hk hw => by subst hk hw; exact po_none, fun ρ σ fp F H r ρ' Q s e q => by cases e; exact q fp F H s .refl⟩
theorem do_some (h : DE K wd X e te fa) : DO K wd X (some e) (tPart te) (pS fa) := by
  refine ⟨fun hk hw => by subst hk hw; exact po_some (h.pe rfl rfl), fun ρ σ fp F H r ρ' Q s e q => ?_⟩
  obtain ⟨⟨ra, ρ1⟩, e1, e2⟩ := Option.bind_eq_some_iff.mp e
  refine h.dn ρ σ fp F H ra ρ1 _ s e1 fun fp1 F1 H1 x s1 x1 k1 => ?_
  dsimp only at e2
  split at e2
  · cases e2
    cases k1 with | v k1 => exact ⟨_, dp_int k1, q fp1 F1 H1 s1 x1⟩
  · cases e2
theorem de_slice (ha : DE K wd X e te fa) (hl : DO K wd X lo tl fl) (hh : DO K wd X hi th fh) : DE K wd X (.Subscript e (.Slice lo hi none p2) pos) (tSl (rSlAll K) te tl th) (slE fa fl fh) := by
  refine ⟨fun hk hw => by subst hk hw; exact pe_slice (sl_list.or (sl_tupA.or sl_str)) (ha.pe rfl rfl) (hl.pe rfl rfl) (hh.pe rfl rfl), fun ρ σ fp F H rr ρ' Q s e q => ?_⟩
  obtain ⟨⟨ra, ρ1⟩, e1, e⟩ := Option.bind_eq_some_iff.mp e
  obtain ⟨⟨l, ρ2⟩, e2, e⟩ := Option.bind_eq_some_iff.mp e
  obtain ⟨⟨h, ρ3⟩, e3, e⟩ := Option.bind_eq_some_iff.mp e
  obtain ⟨r', e4, e⟩ := Option.map_eq_some_iff.mp e
  cases e
  refine ha.dn ρ σ fp F H ra ρ1 _ s e1 fun fp1 F1 H1 x s1 x1 k1 => ?_
  refine hl.dn ρ1 σ fp1 F1 H1 l ρ2 _ s1 e2 fun fp2 F2 H2 s2 x2 => ?_
  refine hh.dn ρ2 σ fp2 F2 H2 h ρ3 _ s2 e3 fun fp3 F3 H3 s3 x3 => ?_
  have k3 := (k1.step x2).step x3
  have xx := (x1.trans x2).trans x3
  dsimp only at e4
  unfold slG at e4
  split at e4
  · split at e4
    · cases e4
      cases k3 with | v k3 => exact .inr (.inr ⟨_, dp_str k3, by assumption, q fp3 F3 H3 _ s3 xx (.v (.str _))⟩)
    · cases e4
  · cases e4
    cases k3 with | v k3 =>
    obtain ⟨a, vs, rfl, h1, h2⟩ := dp_tup k3
    refine .inr (.inl ⟨a, vs, rfl, seqT s3.same h1, fun w => ?_, fun w p hp => ?_⟩)
    · rw [da_length h2] at w
      exact q fp3 F3 H3 _ s3 xx (.v (by rw [cutD_whole w]; exact k3))
    · obtain ⟨s4, x4⟩ := alloc_frz s3 hp (.tup (cutV vs l h))
      exact q fp3 _ _ _ s4 (xx.trans x4) (.v (.tup (.inl (.inl upd_same)) (da_mono x4.fF (da_cut h2 l h))))
  · split at e4
    · rename_i ds hs
      cases e4
      rcases seqOf_ok s3 k3 hs with ⟨_, a, vs, rfl, h1, h2⟩ | ⟨z, _⟩
      · refine .inl ⟨a, vs, rfl, h1, fun p hp => ?_⟩
        obtain ⟨s4, x4, n1, n2⟩ := alloc_own s3 hp (.lst (cutV vs l h))
        exact q fp3 _ _ _ s4 (xx.trans x4) (.o (.l n1 upd_same (da_cut h2 l h)) fun c z => by
          rw [List.mem_singleton] at z; subst z; exact ⟨n2, xx.none_back hp⟩)
      · cases z
    · cases e4
/-- xs[::-1] -/
def revE (fa : EF) : EF := g1 (fun r ρ => match seqOf ρ r with
  | some (true, ds) => some (.o (.l ds.reverse))
  | _ => none) fa
theorem de_rev {k : Nat} {p1 p3 : Pos} (ha : DE K wd X e te fa) : DE K wd X (.Subscript e (.Slice none none (some (.UnaryOp .USub (.Constant (.int 1) k p1) p2)) p3) pos) (tRevL K te) (revE fa) := by
  refine ⟨fun hk hw => by subst hk hw; exact pe_revL (ha.pe rfl rfl), dx_g1 (r1 := fun x H Q => ∃ a xs, x = .ref a ∧ SqL K H a xs ∧ ∀ p, H p = none → Q (.ref p) (upd H p (.lst xs.reverse))) ?_ ha.dn fun _ _ _ h => h⟩
  intro ρ σ fp F H H0 x ra rr Q s ka hN e q
  dsimp only at e
  split at e
  · rename_i ds hs
    cases e
    rcases seqOf_ok s ka hs with ⟨_, a, vs, rfl, h1, h2⟩ | ⟨z, _⟩
    · refine ⟨a, vs, rfl, h1, fun p hp => ?_⟩
      obtain ⟨s4, x4, n1, n2⟩ := alloc_own s hp (.lst vs.reverse)
      exact q fp _ _ _ s4 x4 (.o (.l n1 upd_same (da_reverse h2)) fun c z => by
        rw [List.mem_singleton] at z; subst z; exact ⟨n2, hN _ hp⟩)
    · cases z
  · cases e
end
end Mm
namespace Mm
open PySem L2

section
variable {X : Cx} {e a b : Expr} {ta tb : TE} {fa fb : EF} {K : PySem.W.Frag} {pos p : Pos} {id T : String} {x : Str} {r : List V → Hp → VK → Prop} {g : G1} {gg : G2}
/-- a builtin of one argument -/
theorem de_b1 (hc : X.K = K → X.w = wd → CallR X (.builtin id) r) (ho : Sem1 K (fun x H Q => r [x] H Q) g) (hm : X.mg x = none) (ha : DE K wd X e ta fa) (hg : Gl X x := by rfl) (hv : bootBuiltins x = some (.builtin id) := by decide +kernel) (hn : x ≠ "__name__" := by decide) (hdb : (x == ("__debug__" : Str)) = false := by decide)
    (he : starEach [e] X.env = (false, eval e X.env) :: starEach [] X.env := by rfl) (hpl : (backTo pos (starEach [] X.env)).any (·.1) = false := by rfl) : DE K wd X (.Call (.Name x p) [e] [] pos) (tCB r (tCons ta tNil)) (g1 g fa) :=
  ⟨fun hk hw => by subst hk hw; exact pe_callB (hc rfl rfl) hg hm hv (pa_cons (ha.pe rfl rfl) pa_nil he) hn hdb he hpl, dx_g1 ho ha.dn fun _ _ _ h => h⟩
theorem de_t1 (hc : X.K = K → X.w = wd → CallR X (.type T) r) (ho : Sem1 K (fun x H Q => r [x] H Q) g) (hm : X.mg x = none) (ha : DE K wd X e ta fa) (hg : Gl X x := by rfl) (hv : bootBuiltins x = some (.type T) := by decide +kernel) (hn : x ≠ "__name__" := by decide) (hdb : (x == ("__debug__" : Str)) = false := by decide)
    (he : starEach [e] X.env = (false, eval e X.env) :: starEach [] X.env := by rfl) (hpl : (backTo pos (starEach [] X.env)).any (·.1) = false := by rfl) : DE K wd X (.Call (.Name x p) [e] [] pos) (tCB r (tCons ta tNil)) (g1 g fa) :=
  ⟨fun hk hw => by subst hk hw; exact pe_callTy (hc rfl rfl) hg hm hv (pa_cons (ha.pe rfl rfl) pa_nil he) hn hdb he hpl, dx_g1 ho ha.dn fun _ _ _ h => h⟩
/-- of two -/
theorem de_b2 (hc : X.K = K → X.w = wd → CallR X (.builtin id) r) (ho : Sem2 K (fun x y H Q => r [x, y] H Q) gg) (hm : X.mg x = none) (ha : DE K wd X a ta fa) (hb : DE K wd X b tb fb) (hg : Gl X x := by rfl) (hv : bootBuiltins x = some (.builtin id) := by decide +kernel) (hn : x ≠ "__name__" := by decide) (hdb : (x == ("__debug__" : Str)) = false := by decide)
    (he : starEach [a, b] X.env = (false, eval a X.env) :: starEach [b] X.env := by rfl) (he2 : starEach [b] X.env = (false, eval b X.env) :: starEach [] X.env := by rfl) (hpl : (backTo pos (starEach [b] X.env)).any (·.1) = false := by rfl) :
    DE K wd X (.Call (.Name x p) [a, b] [] pos) (tCB r (tCons ta (tCons tb tNil))) (g2 gg fa fb) :=
  ⟨fun hk hw => by subst hk hw; exact pe_callB (hc rfl rfl) hg hm hv (pa_cons (ha.pe rfl rfl) (pa_cons (hb.pe rfl rfl) pa_nil he2) he) hn hdb he hpl, dx_g2 (r := fun x y H Q => r [x, y] H Q) ho ha.dn hb.dn⟩
end

/-! ### len, int, list, tuple -/
section
variable {K : PySem.W.Frag}
def lenG : G1 := fun ra ρ => match seqOf ρ ra with
  | some (_, ds) => some (.v (.int ds.length))
  | none => match ra with
    | .v (.str z) => if z.length ≤ sizeLine then some (.v (.int z.length)) else none
    | .at j => match ρ[j]? with
      | some (some (.c os)) => some (.v (.int os.length))
      | _ => none
    | _ => none
def rLenA (K : PySem.W.Frag) : List V → Hp → VK → Prop := fun xs H Q => (∃ p ys, xs = [.ref p] ∧ (SqL K H p ys ∨ SqT K H p ys) ∧ Q (.int ys.length) H) ∨ (∃ z, xs = [.str z] ∧ z.length ≤ sizeLine ∧ Q (.int z.length) H)
theorem call_lenA {X : Cx} : CallR X (.builtin "len") (rLenA X.K) := call_len_seq.or call_len_str
theorem sem_len : Sem1 K (fun x H Q => rLenA K [x] H Q) lenG := by
  intro ρ σ fp F H H0 x ra rr Q s ka hN e q
  unfold lenG at e
  split at e
  · rename_i b ds hs
    cases e
    rcases seqOf_ok s ka hs with ⟨_, a, vs, rfl, h1, h2⟩ | ⟨_, a, vs, rfl, h1, h2⟩
    · exact .inl ⟨a, vs, rfl, .inl h1, q fp F H _ s .refl (.v (by rw [da_length h2]; exact .int _))⟩
    · exact .inl ⟨a, vs, rfl, .inr (seqT s.same h1), q fp F H _ s .refl (.v (by rw [da_length h2]; exact .int _))⟩
  · split at e
    · split at e
      · cases e
        cases ka with | v ka =>
        obtain rfl := dp_str ka
        exact .inr ⟨_, rfl, by assumption, q fp F H _ s .refl (.v (.int _))⟩
      · cases e
    · split at e
      · rename_i j _ _ os hj
        cases e
        cases ka with | «at» ka =>
        obtain ⟨x', f, hx, ho, _⟩ := s.slot hj
        rw [ka] at hx
        cases hx
        cases ho with
        | @c a vs os' fp' n qq t _ => exact .inl ⟨a, vs, rfl, .inl (.of qq), q fp F H _ s .refl (.v (by rw [ownL_len t]; exact .int _))⟩
      · cases e
    · cases e
def intG : G1 := fun ra _ => match ra with
  | .v (.int i) => some (.v (.int i))
  | .v (.bool k) => some (.v (.int (if k then 1 else 0)))
  | _ => none
theorem sem_int : Sem1 K (fun x H Q => (∃ i, [x] = [V.int i] ∧ Q (.int i) H) ∨ ∃ k, [x] = [V.bl k] ∧ Q (.int (if k then 1 else 0)) H) intG := by
  intro ρ σ fp F H H0 x ra rr Q s ka hN e q
  unfold intG at e
  split at e
  · cases e
    cases ka with | v ka =>
    obtain rfl := dp_int ka
    exact .inl ⟨_, rfl, q fp F H _ s .refl (.v (.int _))⟩
  · cases e
    cases ka with | v ka =>
    obtain rfl := dp_bl ka
    exact .inr ⟨_, rfl, q fp F H _ s .refl (.v (.int _))⟩
  · cases e
def listG : G1 := fun ra ρ => match seqOf ρ ra with
  | some (_, ds) => some (.o (.l ds))
  | none => none
def tupleG : G1 := fun ra ρ => match seqOf ρ ra with
  | some (_, ds) => some (.v (.tuple ds))
  | none => none
theorem sem_list : Sem1 K (fun x H Q => ∃ p ys, [x] = [V.ref p] ∧ (SqL K H p ys ∨ SqT K H p ys) ∧ ∀ l, H l = none → Q (.ref l) (upd H l (.lst ys))) listG := by
  intro ρ σ fp F H H0 x ra rr Q s ka hN e q
  unfold listG at e
  split at e
  · rename_i b ds hs
    cases e
    have fin : ∀ vs, DpAll K F vs ds → ∀ l, H l = none → Q (.ref l) (upd H l (.lst vs)) := fun vs h2 l hp => by
      obtain ⟨s4, x4, n1, n2⟩ := alloc_own s hp (.lst vs)
      exact q fp _ _ _ s4 x4 (.o (.l n1 upd_same h2) fun c z => by
        rw [List.mem_singleton] at z; subst z; exact ⟨n2, hN _ hp⟩)
    rcases seqOf_ok s ka hs with ⟨_, a, vs, rfl, h1, h2⟩ | ⟨_, a, vs, rfl, h1, h2⟩
    · exact ⟨a, vs, rfl, .inl h1, fin vs h2⟩
    · exact ⟨a, vs, rfl, .inr (seqT s.same h1), fin vs h2⟩
  · cases e
theorem sem_tuple : Sem1 K (fun x H Q => ∃ p ys, [x] = [V.ref p] ∧ ((SqL K H p ys ∧ ∀ l, H l = none → Q (.ref l) (upd H l (.tup ys))) ∨ (SqT K H p ys ∧ Q (.ref p) H))) tupleG := by
  intro ρ σ fp F H H0 x ra rr Q s ka hN e q
  unfold tupleG at e
  split at e
  · rename_i b ds hs
    cases e
    rcases seqOf_ok s ka hs with ⟨_, a, vs, rfl, h1, h2⟩ | ⟨_, a, vs, rfl, h1, h2⟩
    · refine ⟨a, vs, rfl, .inl ⟨h1, fun l hp => ?_⟩⟩
      obtain ⟨s4, x4⟩ := alloc_frz s hp (.tup vs)
      exact q fp _ _ _ s4 x4 (.v (.tup (.inl (.inl upd_same)) (da_mono x4.fF h2)))
    · exact ⟨a, vs, rfl, .inr ⟨seqT s.same h1, q fp F H _ s .refl (.v (.tup h1 h2))⟩⟩
  · cases e

/-! ### lists of ints: sum, max, min, sorted -/
def intsD : List D → Option (List Int)
  | [] => some []
  | .int i :: ds => (intsD ds).map fun ns => i :: ns
  | _ => none
theorem intsD_eq : ∀ {ds : List D} {ns : List Int}, intsD ds = some ns → ds = ns.map PyData.int
  | [], _, e => by cases e; rfl
  | .int i :: ds, _, e => by
    rw [intsD] at e
    obtain ⟨ms, e1, e2⟩ := Option.map_eq_some_iff.mp e
    subst e2
    rw [intsD_eq e1]
    rfl
  | .none :: _, _, e => by cases e
  | .bool _ :: _, _, e => by cases e
  | .str _ :: _, _, e => by cases e
  | .list _ :: _, _, e => by cases e
  | .tuple _ :: _, _, e => by cases e
  | .dict _ :: _, _, e => by cases e
@[simp] theorem intsD_map : ∀ ns : List Int, intsD (ns.map PyData.int) = some ns
  | [] => rfl
  | n :: ns => by rw [List.map_cons, intsD, intsD_map ns]; rfl
/-- of a list of ints -/
def onInts (k : List Int → Option R) : G1 := fun ra ρ => match seqOf ρ ra with
  | some (true, ds) => (intsD ds).bind k
  | _ => none
theorem onInts_ok {k : List Int → Option R} {ρ : Rho} {σ : St} {fp : List Addr} {F H H0 : Hp} {x : V} {ra rr : R} (s : S0 K ρ σ fp F H) (ka : ROk K H0 F H σ fp x ra) (e : onInts k ra ρ = some rr) :
    ∃ a ns, x = .ref a ∧ SqL K H a (ns.map V.int) ∧ k ns = some rr := by
  unfold onInts at e
  split at e
  · rename_i ds hs
    obtain ⟨ns, e1, e2⟩ := Option.bind_eq_some_iff.mp e
    rcases seqOf_ok s ka hs with ⟨_, a, vs, rfl, h1, h2⟩ | ⟨z, _⟩
    · have e3 := intsD_eq e1
      subst e3
      have e4 := da_ints h2
      subst e4
      exact ⟨a, ns, rfl, h1, e2⟩
    · cases z
  · cases e
def sumG : G1 := onInts fun ns => some (.v (.int ns.sum))
def maxI : List Int → Int
  | [] => 0
  | [n] => n
  | n :: ns => if n < maxI ns then maxI ns else n
def minI : List Int → Int
  | [] => 0
  | [n] => n
  | n :: ns => if minI ns < n then minI ns else n
def maxG : G1 := onInts fun ns => if ns = [] then none else some (.v (.int (maxI ns)))
def minG : G1 := onInts fun ns => if ns = [] then none else some (.v (.int (minI ns)))
theorem maxI_spec : ∀ ns : List Int, ns ≠ [] → maxI ns ∈ ns ∧ ∀ y ∈ ns, y ≤ maxI ns
  | [], h => absurd rfl h
  | [n], _ => ⟨List.mem_singleton.mpr rfl, fun y z => by rw [List.mem_singleton] at z; subst z; exact Int.le_refl _⟩
  | n :: m :: ns, _ => by
    obtain ⟨h1, h2⟩ := maxI_spec (m :: ns) (by simp)
    rw [maxI]
    split
    · refine ⟨List.mem_cons_of_mem _ h1, fun y z => ?_⟩
      rcases List.mem_cons.mp z with rfl | z
      · omega
      · exact h2 y z
    · refine ⟨List.mem_cons_self, fun y z => ?_⟩
      rcases List.mem_cons.mp z with rfl | z
      · omega
      · have := h2 y z; omega
    · simp
theorem minI_spec : ∀ ns : List Int, ns ≠ [] → minI ns ∈ ns ∧ ∀ y ∈ ns, minI ns ≤ y
  | [], h => absurd rfl h
  | [n], _ => ⟨List.mem_singleton.mpr rfl, fun y z => by rw [List.mem_singleton] at z; subst z; exact Int.le_refl _⟩
  | n :: m :: ns, _ => by
    obtain ⟨h1, h2⟩ := minI_spec (m :: ns) (by simp)
    rw [minI]
    split
    · refine ⟨List.mem_cons_of_mem _ h1, fun y z => ?_⟩
      rcases List.mem_cons.mp z with rfl | z
      · omega
      · exact h2 y z
    · refine ⟨List.mem_cons_self, fun y z => ?_⟩
      rcases List.mem_cons.mp z with rfl | z
      · omega
      · have := h2 y z; omega
    · simp
theorem sem_sum : Sem1 K (fun x H Q => rSum K [x] H Q) sumG := by
  intro ρ σ fp F H H0 x ra rr Q s ka hN e q
  obtain ⟨a, ns, rfl, h1, h2⟩ := onInts_ok s ka e
  cases h2
  exact ⟨a, ns, rfl, h1, q fp F H _ s .refl (.v (.int _))⟩
theorem sem_max : Sem1 K (fun x H Q => rMax K [x] H Q) maxG := by
  intro ρ σ fp F H H0 x ra rr Q s ka hN e q
  obtain ⟨a, ns, rfl, h1, h2⟩ := onInts_ok s ka e
  split at h2
  · cases h2
  · rename_i hne
    cases h2
    refine ⟨a, ns, rfl, h1, List.length_pos_iff.mpr hne, fun m h3 h4 => ?_⟩
    obtain ⟨h5, h6⟩ := maxI_spec ns hne
    have : m = maxI ns := by have := h4 _ h5; have := h6 _ h3; omega
    subst this
    exact q fp F H _ s .refl (.v (.int _))
theorem sem_min : Sem1 K (fun x H Q => rMin K [x] H Q) minG := by
  intro ρ σ fp F H H0 x ra rr Q s ka hN e q
  obtain ⟨a, ns, rfl, h1, h2⟩ := onInts_ok s ka e
  split at h2
  · cases h2
  · rename_i hne
    cases h2
    refine ⟨a, ns, rfl, h1, List.length_pos_iff.mpr hne, fun m h3 h4 => ?_⟩
    obtain ⟨h5, h6⟩ := minI_spec ns hne
    have : m = minI ns := by have := h4 _ h5; have := h6 _ h3; omega
    subst this
    exact q fp F H _ s .refl (.v (.int _))
def max2D : D → D → Option D
  | .int i, .int j => some (.int (if j > i then j else i))
  | _, _ => none
def min2D : D → D → Option D
  | .int i, .int j => some (.int (if j < i then j else i))
  | _, _ => none
def valG2 (op : D → D → Option D) : G2 := fun ra rb ρ => (peek ρ ra).bind fun a => (peek ρ rb).bind fun b => (op a b).map .v
theorem sem_max2 : Sem2 K (fun x y H Q => ∃ i j, [x, y] = [V.int i, V.int j] ∧ Q (.int (if j > i then j else i)) H) (valG2 max2D) := sem2_of fun x y H a b d Q ha hb e q => by
  unfold max2D at e
  split at e
  · cases e
    exact ⟨_, _, by rw [dp_int ha, dp_int hb], q _ rfl⟩
  · cases e
theorem sem_min2 : Sem2 K (fun x y H Q => ∃ i j, [x, y] = [V.int i, V.int j] ∧ Q (.int (if j < i then j else i)) H) (valG2 min2D) := sem2_of fun x y H a b d Q ha hb e q => by
  unfold min2D at e
  split at e
  · cases e
    exact ⟨_, _, by rw [dp_int ha, dp_int hb], q _ rfl⟩
  · cases e

/-! ### sorted -/
def ins (n : Int) : List Int → List Int
  | [] => [n]
  | m :: ms => if n ≤ m then n :: m :: ms else m :: ins n ms
def isort : List Int → List Int
  | [] => []
  | n :: ns => ins n (isort ns)
theorem ins_perm (n : Int) : ∀ ms : List Int, (ins n ms).Perm (n :: ms)
  | [] => .refl _
  | m :: ms => by
    rw [ins]
    split
    · exact .refl _
    · exact (List.Perm.cons m (ins_perm n ms)).trans (List.Perm.swap n m ms)
theorem isort_perm : ∀ ns : List Int, (isort ns).Perm ns
  | [] => .refl _
  | n :: ns => (ins_perm n (isort ns)).trans (List.Perm.cons n (isort_perm ns))
theorem ins_sorted (n : Int) : ∀ ms : List Int, ms.Pairwise (· ≤ ·) → (ins n ms).Pairwise (· ≤ ·)
  | [], _ => by simp [ins]
  | m :: ms, h => by
    rw [ins]
    rw [List.pairwise_cons] at h
    split
    · rw [List.pairwise_cons]
      refine ⟨fun y z => ?_, List.pairwise_cons.mpr h⟩
      rcases List.mem_cons.mp z with rfl | z
      · assumption
      · have := h.1 y z; omega
    · rw [List.pairwise_cons]
      refine ⟨fun y z => ?_, ins_sorted n ms h.2⟩
      rcases List.mem_cons.mp ((ins_perm n ms).mem_iff.mp z) with rfl | z
      · omega
      · exact h.1 y z
theorem isort_sorted : ∀ ns : List Int, (isort ns).Pairwise (· ≤ ·)
  | [] => .nil
  | n :: ns => ins_sorted n _ (isort_sorted ns)
theorem sorted_uniq : ∀ {xs ys : List Int}, xs.Perm ys → xs.Pairwise (· ≤ ·) → ys.Pairwise (· ≤ ·) → xs = ys
  | [], ys, p, _, _ => by rw [List.nil_perm.mp p]
  | x :: xs, [], p, _, _ => by have := p.length_eq; simp at this
  | x :: xs, y :: ys, p, h1, h2 => by
    rw [List.pairwise_cons] at h1 h2
    have e : x = y := by
      have a1 : x ∈ y :: ys := p.mem_iff.mp List.mem_cons_self
      have a2 : y ∈ x :: xs := p.mem_iff.mpr List.mem_cons_self
      rcases List.mem_cons.mp a1 with z | z
      · exact z
      · rcases List.mem_cons.mp a2 with w | w
        · exact w.symm
        · have := h2.1 x z; have := h1.1 y w; omega
    subst e
    rw [sorted_uniq (List.Perm.cons_inv p) h1.2 h2.2]
def sortedG : G1 := onInts fun ns => some (.o (.l ((isort ns).map .int)))
theorem sem_sorted : Sem1 K (fun x H Q => rSortedI K [x] H Q) sortedG := by
  intro ρ σ fp F H H0 x ra rr Q s ka hN e q
  obtain ⟨a, ns, rfl, h1, h2⟩ := onInts_ok s ka e
  cases h2
  refine ⟨a, ns, rfl, h1, fun ns' p h3 h4 hp => ?_⟩
  have : ns' = isort ns := sorted_uniq (h3.trans (isort_perm ns).symm) h4 (isort_sorted ns)
  subst this
  obtain ⟨s4, x4, n1, n2⟩ := alloc_own s hp (.lst ((isort ns).map V.int))
  exact q fp _ _ _ s4 x4 (.o (.l n1 upd_same (da_of_ints _)) fun c z => by
    rw [List.mem_singleton] at z; subst z; exact ⟨n2, hN _ hp⟩)
end

/-! ### sorted(set(xs)), xs a list of ints -/
section
variable {X : Cx}
def rSetI (w : World) (K : PySem.W.Frag) : List V → Hp → VK → Prop := fun vs H Q => ∃ (a : Addr) (ns : List Int), vs = [V.ref a] ∧ SqL K H a (ns.map V.int) ∧ ns.length + 1 < scanBound ∧
  ∀ p S n, H p = none → (∀ k, S k = true ↔ k ∈ ns) → n ≤ ns.length → Q (.ref p) (upd H p (SetO w p S n))
end
def uniqI : List Int → List Int
  | [] => []
  | n :: ns => if n ∈ uniqI ns then uniqI ns else n :: uniqI ns
theorem uniqI_mem : ∀ {ns : List Int} {k : Int}, k ∈ uniqI ns ↔ k ∈ ns
  | [], k => by simp [uniqI]
  | n :: ns, k => by
    have ih := @uniqI_mem ns k
    rw [uniqI]
    split
    · rename_i h
      rw [ih, List.mem_cons]
      constructor
      · exact .inr
      · rintro (rfl | z)
        · exact uniqI_mem.mp h
        · exact z
    · rw [List.mem_cons, List.mem_cons, ih]
theorem uniqI_nodup : ∀ ns : List Int, (uniqI ns).Nodup
  | [] => .nil
  | n :: ns => by
    rw [uniqI]
    split
    · exact uniqI_nodup ns
    · rename_i h
      exact List.nodup_cons.mpr ⟨h, uniqI_nodup ns⟩
def setSort (ns : List Int) : List Int := isort (uniqI ns)
theorem setSort_mem {ns : List Int} {k : Int} : k ∈ setSort ns ↔ k ∈ ns := by
  unfold setSort
  rw [(isort_perm _).mem_iff, uniqI_mem]
theorem setSort_lt (ns : List Int) : (setSort ns).Pairwise (· < ·) := by
  have h1 := isort_sorted (uniqI ns)
  have h2 : (setSort ns).Nodup := (isort_perm _).nodup_iff.mpr (uniqI_nodup ns)
  exact h1.imp₂ (fun a b h n => by omega) h2
theorem lt_uniq : ∀ {xs ys : List Int}, xs.Pairwise (· < ·) → ys.Pairwise (· < ·) → (∀ k, k ∈ xs ↔ k ∈ ys) → xs = ys
  | [], [], _, _, _ => rfl
  | [], y :: ys, _, _, h => absurd ((h y).mpr List.mem_cons_self) (by simp)
  | x :: xs, [], _, _, h => absurd ((h x).mp List.mem_cons_self) (by simp)
  | x :: xs, y :: ys, h1, h2, h => by
    rw [List.pairwise_cons] at h1 h2
    have e : x = y := by
      rcases List.mem_cons.mp ((h x).mp List.mem_cons_self) with z | z
      · exact z
      · rcases List.mem_cons.mp ((h y).mpr List.mem_cons_self) with w | w
        · exact w.symm
        · have := h2.1 x z; have := h1.1 y w; omega
    subst e
    rw [lt_uniq h1.2 h2.2 fun k => ?_]
    constructor
    · intro z
      rcases List.mem_cons.mp ((h k).mp (List.mem_cons_of_mem _ z)) with w | w
      · subst w; have := h1.1 _ z; omega
      · exact w
    · intro z
      rcases List.mem_cons.mp ((h k).mpr (List.mem_cons_of_mem _ z)) with w | w
      · subst w; have := h2.1 _ z; omega
      · exact w
end Mm
namespace Mm
open PySem PySem.Spec PyProof.Rows L2
section
variable {P : Program} {w : World} {A : Around} {E : Value → Shared → Prop} {s : Shared}
set_option maxRecDepth 100000 in
set_option maxHeartbeats 3200000 in
theorem call_set_lstI {l : Addr} {items : Array Value} (ns : List Int) {Q : Value → Shared → Prop} (hh : A.handled = none) (hl : s.heap.IsList l items) (hit : IntsAre items.toList ns) (hb : ns.length + 1 < scanBound)
    (h : ∀ (h' : Heap) (tk c : Nat), SetR w h' s.heap.objs.size (fun j => decide (j ∈ ns)) c → c ≤ ns.length → (∀ b o, s.heap.get? b = some o → h'.get? b = some o) → Q (.ref s.heap.objs.size) { s with heap := h', toks := tk }) :
    wpAny (model P w) A (call (.type "set") [.ref l]) Q E s := by
  have hisz : items.size = ns.length := by
    have q := IntsAre.length hit
    rw [Array.length_toList] at q
    exact q
  obtain ⟨c, tl, hmro⟩ := F.called_set.mro
  have hmade := F.called_set.made
  have hsub := F.called_set.sub
  refine wpAny_call (codeAny_of_tree ?_)
  show wpAny _ _ (callAny (.type "set") _) _ _ _
  refine wpAny_pure ⟨Code.quiet_builtin _ (by decide +kernel), codeAny_builtin F.entry_type_call ?_⟩
  rw [Around.under_plain (weight_type_call_type "set" [.ref l] []) rfl]
  have h1 := F.called_set.notType
  have h2 := F.called_set.canCreate
  have hct := F.typeCall_set_1 (.ref l)
  repeat (any_goals (first | assumption | wp_step))

  refine codeAny_mono (code_set_led1 (.ref l) (E := E) (Q₁ := fun obj s₁ => obj = .ref s.heap.objs.size ∧ s₁ = { s with heap := s.heap.push { cls := .type "set", dict := none, data := .set #[] 0 (.fresh 0 0 (!w.params.followText "set-order")) } }) ⟨rfl, rfl⟩) fun r s₁ hr => ?_
  cases r with
  | error e => exact hr
  | ok fl =>
    cases fl with
    | ret obj =>
      obtain ⟨rfl, rfl⟩ := hr
      have hS : (s.heap.push { cls := .type "set", dict := none, data := .set #[] 0 (.fresh 0 0 (!w.params.followText "set-order")) }).get? s.heap.objs.size = some { cls := .type "set", dict := none, data := .set #[] 0 (.fresh 0 0 (!w.params.followText "set-order")) } := Heap.get?_push_size _ rfl
      have hT : Shared.TypeIs { s with heap := s.heap.push { cls := .type "set", dict := none, data := .set #[] 0 (.fresh 0 0 (!w.params.followText "set-order")) } } (.ref s.heap.objs.size) "set" := ⟨_, hS, rfl⟩
      have hli := F.called_set.init.lookup
      have hbi := F.called_set.init.bind (.ref s.heap.objs.size)
      repeat (any_goals (first | assumption | wp_step))

      refine codeAny_mono (codeAny_call_builtin (R := wants (fun r s₂ => r = .none ∧ ∃ h' tk c, s₂ = { s with heap := h', toks := tk } ∧ SetR w h' s.heap.objs.size (fun j => decide (j ∈ ns)) c ∧ c ≤ ns.length ∧
          (∀ b o, s.heap.get? b = some o → h'.get? b = some o)) E) F.called_set.init.plain F.entry_set_init (check_set_init_1 hT ?_)) fun r₂ s₂ hr₂ => ?_
      · obtain ⟨ol, hol, hcl, nl, hdl⟩ := hl
        obtain ⟨ocls, odict, odata, oslots⟩ := ol
        simp only at hcl hdl
        subst hcl; subst hdl
        have hol' : (s.heap.push { cls := .type "set", dict := none, data := .set #[] 0 (.fresh 0 0 (!w.params.followText "set-order")) }).get? l = some { cls := .type "list", dict := odict, data := .seq items nl, slots := oslots } := Heap.get?_push_of_some _ hol
        have hsls := F.sub_list_set
        have hslf := F.sub_list_frozenset
        have hne : (Value.type "list" == Value.type "dict") = false := by decide
        have hl1 : (s.heap.push { cls := .type "set", dict := none, data := .set #[] 0 (.fresh 0 0 (!w.params.followText "set-order")) }).IsList l items := ⟨_, hol', rfl, nl, rfl⟩
        unfold Builtin.«set.__init__» noKeywords Builtin.Frozenset.updateFrom
        generalize hPI : pyIter = PI
        wp_walk
        subst hPI

        refine wpAny_pyIter_list hl1 ?_
        refine wpAny_bind (wpAny_runValue ?_)
        have hlS : l < s.heap.objs.size := Heap.lt_size hol
        have hh3 : A.in1.in1.in1.handled = none := by simp [hh]
        have hz1 : (s.heap.push { cls := .type "set", dict := none, data := .set #[] 0 (.fresh 0 0 (!w.params.followText "set-order")) }).objs.size = s.heap.objs.size + 1 := Heap.size_push ..
        have hneI : l ≠ (s.heap.push { cls := .type "set", dict := none, data := .set #[] 0 (.fresh 0 0 (!w.params.followText "set-order")) }).objs.size := by
          rw [Heap.size_push]; exact Nat.ne_of_lt (Nat.lt_succ_of_lt hlS)
        have hSf : s.heap.objs.size ∉ [(s.heap.push { cls := .type "set", dict := none, data := .set #[] 0 (.fresh 0 0 (!w.params.followText "set-order")) }).objs.size, l] := by
          rw [Heap.size_push]; simp only [List.mem_cons, List.mem_singleton, List.not_mem_nil, or_false, not_or]
          exact ⟨Nat.ne_of_lt (Nat.lt_succ_self _), Nat.ne_of_gt hlS⟩
        have hval : ∀ (i : Nat) (v : Value), items[i]? = some v → ∃ k t, ns[i]? = some k ∧ v = .int k t := fun i v hv => by
          have hi : i < ns.length := by rw [← hisz]; exact (Array.getElem?_eq_some_iff.mp hv).1
          obtain ⟨t, e⟩ := PyProof.Rows.IntsAre.int_at hit i v (by rw [Array.getElem?_toList]; exact hv)
          refine ⟨ns[i], t, List.getElem?_eq_getElem hi, ?_⟩
          rw [e, List.getD_eq_getElem?_getD, List.getElem?_eq_getElem hi] <;> rfl
        refine set_update_ints ((Walks.list hh3 _ l hneI items).toS) s.heap.objs.size
          hSf ns hisz hb hval (items.size - 0) 0 _ (by omega) (Nat.zero_le _)
          ⟨⟨_, Heap.get?_push_size _ rfl, rfl, rfl⟩, (hl1.push _)⟩ ?hS0 ?hR
        case hS0 =>
          have hget : ((s.heap.push { cls := .type "set", dict := none, data := .set #[] 0 (.fresh 0 0 (!w.params.followText "set-order")) }).push { cls := .type "list_iterator", data := .fields #[.ref l, .int 0 0] }).get? s.heap.objs.size
              = some { cls := .type "set", dict := none, data := .set #[] 0 (.fresh 0 0 (!w.params.followText "set-order")) } := Heap.get?_push_of_some _ hS
          exact ⟨0, Nat.le_refl 0, setR_new_at hget⟩
        case hR =>
          intro s' c' hm hc' hS'
          obtain ⟨h', g2, d', tk', os'⟩ := s'
          have eg : g2 = s.gens := hm.gens
          have ed : d' = s.drawn := hm.drawn
          have eo : os' = s.os := hm.os
          subst eg; subst ed; subst eo
          show wpAny _ _ _ _ _ _
          refine wpAny_pure ?_
          show wpAny _ _ (ret Value.none) _ _ _
          rw [hisz] at hc'
          refine wpAny_pure ⟨rfl, h', tk', c', rfl, hS', hc', fun b o e => ?_⟩
          have hb0 : b < s.heap.objs.size := Heap.lt_size e
          have hb1 : b ≠ s.heap.objs.size := Nat.ne_of_lt hb0
          have hb2 : b ≠ (s.heap.push { cls := .type "set", dict := none, data := .set #[] 0 (.fresh 0 0 (!w.params.followText "set-order")) }).objs.size := by
            rw [Heap.size_push]; exact Nat.ne_of_lt (Nat.lt_succ_of_lt hb0)
          exact hm.heap b o (by simp only [List.mem_cons, List.mem_singleton, List.not_mem_nil, or_false, not_or]; exact ⟨hb1, hb2⟩) (Heap.get?_push_of_some _ (Heap.get?_push_of_some _ e))

      · cases r₂ with
        | error e => exact hr₂
        | ok fl₂ =>
          cases fl₂ with
          | ret r =>
            obtain ⟨rfl, h', tk, c', rfl, hS', hc', hk'⟩ := hr₂
            repeat (any_goals (first | assumption | wp_step))
            exact h _ _ _ hS' hc' hk'
          | _ => exact hr₂.elim
    | _ => exact hr.elim

end
end Mm
namespace Mm
open PySem L2
theorem uniq_len {xs ys : List Int} (h1 : xs.Nodup) (h2 : ys.Nodup) (h : ∀ k, k ∈ xs ↔ k ∈ ys) : xs.length = ys.length :=
  ((List.perm_ext_iff_of_nodup h1 h2).mpr h).length_eq
theorem setSort_nodup (ns : List Int) : (setSort ns).Nodup := (isort_perm _).nodup_iff.mpr (uniqI_nodup ns)
section
variable {X : Cx}
def rSetJ (w : World) (K : PySem.W.Frag) : List V → Hp → VK → Prop := fun vs H Q => ∃ (a : Addr) (ns : List Int), vs = [V.ref a] ∧ SqL K H a (ns.map V.int) ∧ ns.length + 1 < scanBound ∧
  ∀ p S, H p = none → (∀ k, S k = true ↔ k ∈ ns) → Q (.ref p) (upd H p (SetO w p S (setSort ns).length))
theorem call_setJ (hc : X.calm = true) : CallR X (.type "set") (rSetJ X.w X.K) := by
  intro pins s σ H vs us Q I r h
  obtain ⟨a, ns, rfl, hs, hb, q⟩ := h
  obtain ⟨its, rv, hl, hz⟩ := I.list hs
  rw [Vals.ref1 r]
  refine call_set_lstI ns (I.ok.hd hc) hl.isList (by simpa using rv.ints) hb fun h' tk c R hcl hk => ?_
  have e : c = (setSort ns).length := by
    obtain ⟨o, es, ep, t, ho, _, _, _, nd, mem, _, _, sz, _⟩ := R
    have := uniq_len nd (setSort_nodup ns) fun k => by
      rw [← mem k, setSort_mem]
      exact decide_eq_true_iff
    rw [← this, List.length_map, Array.length_toList]
    exact sz.symm
  subst e
  exact ⟨.ref _, upd H s.heap.objs.size (SetO X.w s.heap.objs.size (fun j => decide (j ∈ ns)) (setSort ns).length), I.laid (t' := tk) hk (Nat.le_refl _) (setO_new R), rfl,
    q _ _ (I.hok.fresh (Nat.le_refl _)) (fun k => by simp)⟩
end
def sortedSetG : G1 := onInts fun ns => if ns.length + 1 < scanBound ∧ (setSort ns).length < 64 then some (.o (.l ((setSort ns).map .int))) else none
section
variable {X : Cx} {e : Expr} {ta : TE} {fa : EF} {pos p pos2 p2 : Pos}
def tSortedSet (w : World) (K : PySem.W.Frag) (ta : TE) : TE := tCB (rSortedSet w) (tCons (tCB (rSetJ w K) (tCons ta tNil)) tNil)
theorem sem_sortedSet {K : PySem.W.Frag} {w : World} : Sem1 K (fun x H Q => rSetJ w K [x] H fun y H1 => rSortedSet w [y] H1 Q) sortedSetG := by
  intro ρ σ fp F H H0 x ra rr Q s ka hN e q
  obtain ⟨a, ns, rfl, h1, h2⟩ := onInts_ok s ka e
  split at h2
  · rename_i hh
    cases h2
    refine ⟨a, ns, rfl, h1, hh.1, fun p S hp hS => ?_⟩
    refine ⟨p, S, _, rfl, upd_same, hh.2, fun ms p2 k1 k2 k3 hp2 => ?_⟩
    have e1 : ms = setSort ns := lt_uniq k1 (setSort_lt ns) fun k => by rw [k2 k, hS k, setSort_mem]
    subst e1
    obtain ⟨s1, x1, _, _⟩ := alloc_own s hp (SetO w p S (setSort ns).length)
    obtain ⟨s2, x2, n1, n2⟩ := alloc_own s1 hp2 (.lst ((setSort ns).map V.int))
    exact q fp _ _ _ s2 (x1.trans x2) (.o (.l n1 upd_same (da_of_ints _)) fun c z => by
      rw [List.mem_singleton] at z; subst z; exact ⟨n2, hN _ (x1.none_back hp2)⟩)
  · cases h2
theorem de_sortedSet (hc : X.calm = true) (hm : X.mg "sorted" = none) (hm2 : X.mg "set" = none) (ha : DE K wd X e ta fa) (hg : Gl X "sorted" := by rfl) (hg2 : Gl X "set" := by rfl)
    (he : starEach [e] X.env = (false, eval e X.env) :: starEach [] X.env := by rfl) : DE K wd X (.Call (.Name "sorted" p) [.Call (.Name "set" p2) [e] [] pos2] [] pos) (tSortedSet wd K ta) (g1 sortedSetG fa) :=
  ⟨fun hk hw => by subst hk hw; exact pe_callB (cr_sortedSet hc) hg hm (by decide +kernel) (pa_cons (pe_callTy (call_setJ hc) hg2 hm2 (by decide +kernel) (pa_cons (ha.pe rfl rfl) pa_nil he) (by decide) (by decide) he rfl) pa_nil rfl) (by decide) (by decide) rfl rfl,
    dx_g1 (r1 := fun x H Q => rSetJ wd K [x] H fun y H1 => rSortedSet wd [y] H1 Q) sem_sortedSet ha.dn fun _ _ _ h => h⟩
end
end Mm
namespace Mm
open PySem L2

/-! ### isinstance -/
def tyN : D → String
  | .none => "NoneType" | .bool _ => "bool" | .int _ => "int" | .str _ => "str" | .list _ => "list" | .tuple _ => "tuple" | .dict _ => "dict"
theorem dp_ty {K : PySem.W.Frag} {H : Hp} {x : V} {d : D} (h : Dp K H x d) : TyX K H x (.type (tyN d)) := by
  cases h with
  | non => exact .base .non
  | bl b => exact .base (.bl b)
  | int i => exact .base (.int i)
  | str z => exact .base (.str z)
  | lst hs _ =>
    rcases hs with (h | ⟨o, h⟩) | ⟨o, its, n, h, hc, _⟩
    · exact .base (.lst h)
    · exact .base (.frz h)
    · exact .kList h hc
  | tup hs _ =>
    rcases hs with (h | ⟨o, h⟩) | ⟨o, its, n, h, hc, _⟩
    · exact .base (.tup h)
    · exact .fTuple h
    · exact .kTuple h hc
def isiG (T : String) : G1 := fun ra ρ => (peek ρ ra).bind fun d => (kitB (tyN d) T).map fun b => .v (.bool b)
def isi2 (T U : String) (d : D) : Option Bool := match kitB (tyN d) T with
  | some true => some true
  | some false => kitB (tyN d) U
  | none => none
def isi2G (T U : String) : G1 := fun ra ρ => (peek ρ ra).bind fun d => (isi2 T U d).map fun b => .v (.bool b)
section
variable {X : Cx} {e : Expr} {ta : TE} {fa : EF} {pos p p1 p2 p3 : Pos} {T U : String} {y z : Str}
theorem de_isi (hm : X.mg "isinstance" = none) (hm2 : X.mg y = none) (ha : DE K wd X e ta fa) (hv : bootBuiltins y = some (.type T) := by decide +kernel) (hg : Gl X "isinstance" := by rfl) (hg2 : Gl X y := by rfl) (hn : y ≠ "__name__" := by decide) (hd : (y == ("__debug__" : Str)) = false := by decide)
    (he : starEach [e, .Name y p2] X.env = (false, eval e X.env) :: starEach [.Name y p2] X.env := by rfl) :
    DE K wd X (.Call (.Name "isinstance" p) [e, .Name y p2] [] pos) (tCB (rIsi K) (tCons ta (tCons (tC (.ty T)) tNil))) (g1 (isiG T) fa) := by
  refine ⟨fun hk hw => by subst hk hw; exact pe_callB call_isi hg hm (by decide +kernel) (pa_cons (ha.pe rfl rfl) (pa_cons (pe_bltn (v := .ty T) hg2 hm2 hv rfl hn hd) pa_nil rfl) he) (by decide) (by decide) he rfl,
    dx_g1 (r1 := fun x H Q => rIsi K [x, .ty T] H Q) ?_ ha.dn fun _ _ _ h => h⟩
  intro ρ σ fp F H H0 x ra rr Q s ka hN e q
  obtain ⟨d, e1, e⟩ := Option.bind_eq_some_iff.mp e
  obtain ⟨b, e2, e⟩ := Option.map_eq_some_iff.mp e
  subst e
  exact ⟨x, .ty T, .type (tyN d), .type T, b, rfl, .ty T, dp_ty (peek_ok s ka e1), kit_ty e2, q fp F H _ s .refl (.v (.bl b))⟩
theorem de_isi2 {x1} (hm : X.mg "isinstance" = none) (hm2 : X.mg y = none) (hm3 : X.mg z = none) (ha : DE K wd X e ta fa) (hv : bootBuiltins y = some (.type T) := by decide +kernel) (hv3 : bootBuiltins z = some (.type U) := by decide +kernel) (hg : Gl X "isinstance" := by rfl) (hg2 : Gl X y := by rfl) (hg3 : Gl X z := by rfl)
    (hn : y ≠ "__name__" := by decide) (hd : (y == ("__debug__" : Str)) = false := by decide) (hn3 : z ≠ "__name__" := by decide) (hd3 : (z == ("__debug__" : Str)) = false := by decide)
    (he : starEach [e, .Tuple [.Name y p1, .Name z p2] x1 p3] X.env = (false, eval e X.env) :: starEach [.Tuple [.Name y p1, .Name z p2] x1 p3] X.env := by rfl) :
    DE K wd X (.Call (.Name "isinstance" p) [e, .Tuple [.Name y p1, .Name z p2] x1 p3] [] pos) (tCB (rIsiT K) (tCons ta (tCons (tTup (tCons (tC (.ty T)) (tCons (tC (.ty U)) tNil))) tNil))) (g1 (isi2G T U) fa) := by
  refine ⟨fun hk hw => by subst hk hw; exact pe_callB call_isiT hg hm (by decide +kernel) (pa_cons (ha.pe rfl rfl) (pa_cons (pe_tup (pa_cons (pe_bltn (v := .ty T) hg2 hm2 hv rfl hn hd) (pa_cons (pe_bltn (v := .ty U) hg3 hm3 hv3 rfl hn3 hd3) pa_nil rfl) rfl)) pa_nil rfl) he) (by decide) (by decide) he rfl,
    dx_g1 (r1 := fun x H Q => tTup (tCons (tC (.ty T)) (tCons (tC (.ty U)) tNil)) [] H fun t H1 => rIsiT K [x, t] H1 Q) ?_ ha.dn fun _ _ _ h => h⟩
  intro ρ σ fp F H H0 x ra rr Q s ka hN e q
  obtain ⟨d, e1, e⟩ := Option.bind_eq_some_iff.mp e
  obtain ⟨b, e2, e⟩ := Option.map_eq_some_iff.mp e
  subst e
  refine ⟨by show 2 ≤ sizeLine; decide, fun t ht => ?_⟩
  obtain ⟨s1, x1'⟩ := alloc_frz s ht (.tup [.ty T, .ty U])
  have hx : Dp K (upd H t (.tup [.ty T, .ty U])) x d := dp_mono (same_upd ht _) (peek_ok s ka e1)
  refine ⟨x, t, [.ty T, .ty U], .type (tyN d), [.type T, .type U], b, rfl, upd_same, .cons (.ty T) (.cons (.ty U) .nil), dp_ty hx, ?_, q fp _ _ _ s1 x1' (.v (.bl b))⟩
  unfold isi2 at e2
  show PySem.W.kitAny K (.type (tyN d)) [.type T, .type U] = some b
  rw [PySem.W.kitAny]
  cases k1 : kitB (tyN d) T with
  | none => rw [k1] at e2; cases e2
  | some b1 =>
    rw [kit_ty k1]
    rw [k1] at e2
    cases b1 with
    | true => exact e2
    | false =>
      dsimp only at e2 ⊢
      rw [PySem.W.kitAny, kit_ty e2]
      cases b <;> rfl
end

/-! ### list(range(..)), tuple(range(..)) -/
def rgD (a b : Int) : List D := (List.range (b - a).toNat).map fun i => PyData.int (a + (i : Nat))
def rgOk (a b : Int) : Bool := decide (-1000000 ≤ a ∧ a ≤ 1000000 ∧ -1000000 ≤ b ∧ b ≤ 1000000)
theorem rgOk_of {a b : Int} (h : rgOk a b = true) : RgOk a b := by
  have := of_decide_eq_true h
  unfold RgOk
  omega
theorem da_rg {K : PySem.W.Frag} {F : Hp} (a b : Int) : DpAll K F (rgV a b) (rgD a b) := by
  unfold rgV rgD
  induction List.range (b - a).toNat with
  | nil => exact .nil
  | cons i r ih => exact .cons (.int _) ih
/-- an int that is written down at once -/
def iE (f : EF) : Rho → Option (Int × Rho) := fun ρ => (f ρ).bind fun p => match p.1 with
  | .v (.int i) => some (i, p.2)
  | _ => none
def lrg1 (fa : EF) : EF := fun ρ => (iE fa ρ).bind fun p => if rgOk 0 p.1 then some (.o (.l (rgD 0 p.1)), p.2) else none
def trg1 (fa : EF) : EF := fun ρ => (iE fa ρ).bind fun p => if rgOk 0 p.1 then some (.v (.tuple (rgD 0 p.1)), p.2) else none
section
variable {X : Cx} {e : Expr} {ta : TE} {fa : EF} {pos p p2 pos2 : Pos}
theorem iE_ok {K : PySem.W.Frag} (ha : DEx K ta fa) {ρ ρ' : Rho} {σ : St} {fp : List Addr} {F H : Hp} {i : Int} {Q : VK} (s : S0 K ρ σ fp F H) (e : iE fa ρ = some (i, ρ'))
    (q : ∀ fp' F' H', S0 K ρ' σ fp' F' H' → Ext fp F H fp' F' H' → Q (.int i) H') : ta σ H Q := by
  obtain ⟨⟨ra, ρ1⟩, e1, e2⟩ := Option.bind_eq_some_iff.mp e
  refine ha ρ σ fp F H ra ρ1 _ s e1 fun fp1 F1 H1 x s1 x1 k1 => ?_
  dsimp only at e2
  split at e2
  · cases e2
    cases k1 with | v k1 => rw [dp_int k1]; exact q fp1 F1 H1 s1 x1
  · cases e2
theorem de_lrg1 (hc : X.calm = true) (hm : X.mg "list" = none) (hm2 : X.mg "range" = none) (ha : DE K wd X e ta fa) (hg : Gl X "list" := by rfl) (hg2 : Gl X "range" := by rfl) (he : starEach [e] X.env = (false, eval e X.env) :: starEach [] X.env := by rfl) :
    DE K wd X (.Call (.Name "list" p) [.Call (.Name "range" p2) [e] [] pos2] [] pos) (tLstRg (tRg1 ta)) (lrg1 fa) := by
  refine ⟨fun hk hw => by subst hk hw; exact pe_listRg hc hg hm (prg_1 hg2 hm2 (ha.pe rfl rfl) he) rfl, fun ρ σ fp F H r ρ' Q s e q => ?_⟩
  obtain ⟨⟨i, ρ1⟩, e1, e2⟩ := Option.bind_eq_some_iff.mp e
  split at e2
  · rename_i hz
    cases e2
    refine iE_ok ha.dn s e1 fun fp1 F1 H1 s1 x1 => ⟨i, rfl, rgOk_of hz, fun p hp => ?_⟩
    obtain ⟨s2, x2, n1, n2⟩ := alloc_own s1 hp (.lst (rgV 0 i))
    exact q fp1 _ _ _ s2 (x1.trans x2) (.o (.l n1 upd_same (da_rg 0 i)) fun c z => by
      rw [List.mem_singleton] at z; subst z; exact ⟨n2, x1.none_back hp⟩)
  · cases e2
theorem de_trg1 (hc : X.calm = true) (hm : X.mg "tuple" = none) (hm2 : X.mg "range" = none) (ha : DE K wd X e ta fa) (hg : Gl X "tuple" := by rfl) (hg2 : Gl X "range" := by rfl) (he : starEach [e] X.env = (false, eval e X.env) :: starEach [] X.env := by rfl) :
    DE K wd X (.Call (.Name "tuple" p) [.Call (.Name "range" p2) [e] [] pos2] [] pos) (tTupRg (tRg1 ta)) (trg1 fa) := by
  refine ⟨fun hk hw => by subst hk hw; exact pe_tupRg hc hg hm (prg_1 hg2 hm2 (ha.pe rfl rfl) he) rfl, fun ρ σ fp F H r ρ' Q s e q => ?_⟩
  obtain ⟨⟨i, ρ1⟩, e1, e2⟩ := Option.bind_eq_some_iff.mp e
  split at e2
  · rename_i hz
    cases e2
    refine iE_ok ha.dn s e1 fun fp1 F1 H1 s1 x1 => ⟨i, rfl, rgOk_of hz, fun p hp => ?_⟩
    obtain ⟨s2, x2⟩ := alloc_frz s1 hp (.tup (rgV 0 i))
    exact q fp1 _ _ _ s2 (x1.trans x2) (.v (.tup (.inl (.inl upd_same)) (da_rg 0 i)))
  · cases e2
end

/-! ### list(text) -/
def chD (z : Str) : List D := z.cps.toList.map fun c => PyData.str ⟨#[c]⟩
def chV (z : Str) : List V := z.cps.toList.map fun c => V.str ⟨#[c]⟩
theorem da_ch {K : PySem.W.Frag} {F : Hp} (z : Str) : DpAll K F (chV z) (chD z) := by
  unfold chV chD
  induction z.cps.toList with
  | nil => exact .nil
  | cons i r ih => exact .cons (.str _) ih
section
variable {X : Cx}
theorem call_listStr (hc : X.calm = true) : CallR X (.type "list") (fun xs H Q => ∃ z, xs = [.str z] ∧ z.length ≤ sizeLine ∧ ∀ q, H q = none → Q (.ref q) (upd H q (.lst (chV z)))) := by
  intro pins s σ H vs us Q I r h
  obtain ⟨z, rfl, hz, q⟩ := h
  obtain ⟨u, rfl, rx⟩ := vals1 r
  obtain ⟨t, rfl⟩ := rx
  refine PySem.call_list_str (I.ok.hd hc) z t (fun h' tk acc' c' hk e' hi => ?_) hz
  have hv : Vals (chV z) acc'.toList := by
    refine vals_of_at ?_ fun j x u hx hu => ?_
    · unfold chV
      rw [List.length_map, Array.length_toList, Array.length_toList]
      exact hi.1.symm
    · obtain ⟨c, t', e1, e2⟩ := hi.2 j u (by rw [← hu, Array.getElem?_toList])
      subst e2
      unfold chV at hx
      rw [List.getElem?_map, Array.getElem?_toList, e1] at hx
      have hx' : V.str ⟨#[c]⟩ = x := by simpa using hx
      rw [← hx']
      exact ⟨t', rfl⟩
  have hl : (chV z).length ≤ sizeLine := by unfold chV; rw [List.length_map, Array.length_toList]; exact hz
  exact ⟨.ref _, upd H s.heap.objs.size (.lst (chV z)), I.laid (t' := tk) hk (Nat.le_refl _) (show ObjOk X.prog X.w _ _ _ (.lst (chV z)) from ⟨hl, acc'.toList, c', hv, by rw [Array.toArray_toList]; exact e'⟩), rfl, q _ (I.hok.fresh (Nat.le_refl _))⟩
end

def listAG : G1 := fun ra ρ => match ra with
  | .v (.str z) => if z.length ≤ sizeLine then some (.o (.l (chD z))) else none
  | r => listG r ρ
def rListA (K : PySem.W.Frag) : List V → Hp → VK → Prop := fun xs H Q => (∃ p ys, xs = [.ref p] ∧ (SqL K H p ys ∨ SqT K H p ys) ∧ ∀ l, H l = none → Q (.ref l) (upd H l (.lst ys))) ∨ (∃ z, xs = [.str z] ∧ z.length ≤ sizeLine ∧ ∀ q, H q = none → Q (.ref q) (upd H q (.lst (chV z))))
theorem call_listA {X : Cx} (hc : X.calm = true) : CallR X (.type "list") (rListA X.K) := call_list_of.or (call_listStr hc)
theorem sem_listA {K : PySem.W.Frag} : Sem1 K (fun x H Q => rListA K [x] H Q) listAG := by
  intro ρ σ fp F H H0 x ra rr Q s ka hN e q
  unfold listAG at e
  split at e
  · split at e
    · cases e
      cases ka with | v ka =>
      obtain rfl := dp_str ka
      refine .inr ⟨_, rfl, by assumption, fun l hp => ?_⟩
      obtain ⟨s4, x4, n1, n2⟩ := alloc_own s hp (.lst (chV _))
      exact q fp _ _ _ s4 x4 (.o (.l n1 upd_same (da_ch _)) fun c z => by
        rw [List.mem_singleton] at z; subst z; exact ⟨n2, hN _ hp⟩)
    · cases e
  · exact .inl (sem_list ρ σ fp F H H0 x _ rr Q s ka hN e q)

/-! ### sep.join(xs) -/
def strsD : List D → Option (List Str)
  | [] => some []
  | .str i :: ds => (strsD ds).map fun ns => i :: ns
  | _ => none
theorem strsD_eq : ∀ {ds : List D} {ns : List Str}, strsD ds = some ns → ds = ns.map PyData.str
  | [], _, e => by cases e; rfl
  | .str i :: ds, _, e => by
    rw [strsD] at e
    obtain ⟨ms, e1, e2⟩ := Option.map_eq_some_iff.mp e
    subst e2
    rw [strsD_eq e1]
    rfl
  | .none :: _, _, e => by cases e
  | .bool _ :: _, _, e => by cases e
  | .int _ :: _, _, e => by cases e
  | .list _ :: _, _, e => by cases e
  | .tuple _ :: _, _, e => by cases e
  | .dict _ :: _, _, e => by cases e
@[simp] theorem strsD_map : ∀ ns : List Str, strsD (ns.map PyData.str) = some ns
  | [] => rfl
  | n :: ns => by rw [List.map_cons, strsD, strsD_map ns]; rfl
def joinG : G2 := fun ra rb ρ => match ra with
  | .v (.str a) => match seqOf ρ rb with
    | some (_, ds) => (strsD ds).bind fun ys => if (ys.map (·.length)).sum + ys.length * a.length ≤ 16777216 then some (.v (.str (Txt.join a ys))) else none
    | _ => none
  | _ => none
def rJoin (K : PySem.W.Frag) : V → List V → Hp → VK → Prop := fun x xs H Q => ∃ a p, ∃ ys : List Str, x = .str a ∧ xs = [.ref p] ∧ (SqL K H p (ys.map V.str) ∨ SqT K H p (ys.map V.str)) ∧
    (ys.map (·.length)).sum + ys.length * a.length ≤ 16777216 ∧ Q (.str (Txt.join a ys)) H
theorem sem_join {K : PySem.W.Frag} : Sem2 K (fun x y H Q => rJoin K x [y] H Q) joinG := by
  intro ρ σ fp F H H0 x y ra rb rr Q s ka kb hN e q
  unfold joinG at e
  split at e
  · cases ka with | v ka =>
    obtain rfl := dp_str ka
    split at e
    · rename_i b ds hs
      obtain ⟨ys, e1, e3⟩ := Option.bind_eq_some_iff.mp e
      have e2 := strsD_eq e1
      subst e2
      split at e3
      · rename_i hz
        cases e3
        rcases seqOf_ok s kb hs with ⟨_, p, vs, rfl, h1, h2⟩ | ⟨_, p, vs, rfl, h1, h2⟩
        · rw [da_strs h2] at h1
          exact ⟨_, p, ys, rfl, rfl, .inl h1, hz, q fp F H _ s .refl (.v (.str _))⟩
        · rw [da_strs h2] at h1
          exact ⟨_, p, ys, rfl, rfl, .inr (seqT s.same h1), hz, q fp F H _ s .refl (.v (.str _))⟩
      · cases e3
    · cases e
  · cases e

/-! ### methods of one argument that change nothing -/
section
variable {X : Cx} {o e : Expr} {to te : TE} {fo fe : EF} {apos cpos : Pos} {name : Str} {id : String} {r : V → List V → Hp → VK → Prop} {g : G2}
/-- a text's method -/
def strE (g : G2) (fo fe : EF) : EF := fun ρ => (fo ρ).bind fun p => match p.1 with
  | .v (.str z) => (fe p.2).bind fun q => (g (.v (.str z)) q.1 q.2).map fun r => (r, q.2)
  | _ => none
theorem de_sm (slot : Slot "str" name id) (hty : typeOf (.builtin id) = pure (.type "method_descriptor")) (hm : X.K = K → X.w = wd → MtR X id r) (hs : Sem2 K (fun x y H Q => r x [y] H Q) g) (ho : DE K wd X o to fo) (he : DE K wd X e te fe)
    (hse : starEach [e] X.env = [(false, eval e X.env)] := by rfl) (hbase : attributeBase o name X.env (eval o X.env) = eval o X.env := by rfl) (hline : (apos.endLine == cpos.line) = true := by rfl) :
    DE K wd X (.Call (.Attribute o name apos) [e] [] cpos) (tM1 r to te) (strE g fo fe) := by
  refine ⟨fun hk hw => by subst hk hw; exact pe_m1 slot hty (hm rfl rfl) (ho.pe rfl rfl) (he.pe rfl rfl) hse hbase hline, fun ρ σ fp F H rr ρ' Q s e q => ?_⟩
  obtain ⟨⟨ra, ρ1⟩, e1, e2⟩ := Option.bind_eq_some_iff.mp e
  refine ho.dn ρ σ fp F H ra ρ1 _ s e1 fun fp1 F1 H1 x s1 x1 k1 => ?_
  dsimp only at e2
  split at e2
  · rename_i z
    obtain ⟨⟨rb, ρ2⟩, e3, e4⟩ := Option.bind_eq_some_iff.mp e2
    obtain ⟨rr', e5, e6⟩ := Option.map_eq_some_iff.mp e4
    cases e6
    have hx : x = .str z := by cases k1 with | v k1 => exact dp_str k1
    subst hx
    refine ⟨⟨z, rfl⟩, he.dn ρ1 σ fp1 F1 H1 rb ρ2 _ s1 e3 fun fp2 F2 H2 y s2 x2 k2 => ?_⟩
    refine hs ρ2 σ fp2 F2 H2 H _ y _ rb rr Q s2 (.v (.str z)) (k2.base fun c => x1.none_back) (fun c z => (x1.trans x2).none_back z) e5 fun fp3 F3 H3 z s3 x3 k3 => ?_
    exact q fp3 F3 H3 z s3 ((x1.trans x2).trans x3) k3
  · cases e2
def sidxD : D → D → Option D
  | .str a, .str b => match Builtin.Str.occurrences a b 0 a.length 1 with
    | i :: _ => some (.int (i : Nat))
    | [] => none
  | _, _ => none
theorem sem_sidx {K : PySem.W.Frag} : Sem2 K (fun x y H Q => ∃ a b i rest, x = .str a ∧ [y] = [V.str b] ∧ Builtin.Str.occurrences a b 0 a.length 1 = i :: rest ∧ Q (.int (i : Nat)) H) (valG2 sidxD) := sem2_of fun x y H a b d Q ha hb e q => by
  unfold sidxD at e
  split at e
  · split at e
    · rename_i i rest ho
      cases e
      exact ⟨_, _, i, rest, dp_str ha, by rw [dp_str hb], ho, q _ rfl⟩
    · cases e
  · cases e
/-- a list's method; the list as it stands when the argument is there -/
def lstM (ρ : Rho) (r : R) : Option (List D) := match seqOf ρ r with
  | some (true, ds) => some ds
  | _ => none
def lmE (g : G2) (fo fe : EF) : EF := fun ρ => (fo ρ).bind fun p => (lstM p.2 p.1).bind fun _ => (fe p.2).bind fun q => (g p.1 q.1 q.2).map fun r => (r, q.2)
theorem de_lm (slot : Slot "list" name id) (hty : typeOf (.builtin id) = pure (.type "method_descriptor")) (hm : X.K = K → X.w = wd → MtR X id r) (hs : Sem2 K (fun x y H Q => r x [y] H Q) g) (ho : DE K wd X o to fo) (he : DE K wd X e te fe)
    (hbase : attributeBase o name X.env (eval o X.env) = eval o X.env := by rfl)
    (hfew : ((backTo cpos (starEach [e] X.env)).all (fun x => !x.1) && (backToKw cpos (keywordEach [] X.env)).all (fun x => x.1.isSome)
      && decide ([e].length + ([] : List Keyword).length + (if ([] : List Keyword).isEmpty then 0 else 1) < 30)) = true := by rfl)
    (hline : (apos.endLine == cpos.line) = true := by rfl) (hse : starEach [e] X.env = (false, eval e X.env) :: starEach [] X.env := by rfl) (hplain : (backTo cpos (starEach [] X.env)).any (·.1) = false := by rfl) :
    DE K wd X (.Call (.Attribute o name apos) [e] [] cpos) (tBM K "list" r to (tCons te tNil)) (lmE g fo fe) := by
  refine ⟨fun hk hw => by subst hk hw; exact pe_bm PySem.F.plainAttrs_list slot hty (hm rfl rfl) (ho.pe rfl rfl) (pa_cons (he.pe rfl rfl) pa_nil hse) hbase hfew hline hse hplain, fun ρ σ fp F H rr ρ' Q s e q => ?_⟩
  obtain ⟨⟨ra, ρ1⟩, e1, e2⟩ := Option.bind_eq_some_iff.mp e
  obtain ⟨ds, e0, e2⟩ := Option.bind_eq_some_iff.mp e2
  obtain ⟨⟨rb, ρ2⟩, e3, e4⟩ := Option.bind_eq_some_iff.mp e2
  obtain ⟨rr', e5, e6⟩ := Option.map_eq_some_iff.mp e4
  cases e6
  refine ho.dn ρ σ fp F H ra ρ1 _ s e1 fun fp1 F1 H1 x s1 x1 k1 => ?_
  have ty : tyV K "list" x H1 := by
    unfold lstM at e0
    split at e0
    · rename_i ds' hs
      rcases seqOf_ok s1 k1 hs with ⟨_, p, vs, rfl, h1, h2⟩ | ⟨z, _⟩
      · exact .inl ⟨rfl, vs, h1⟩
      · cases z
    · cases e0
  refine ⟨ty, he.dn ρ1 σ fp1 F1 H1 rb ρ2 _ s1 e3 fun fp2 F2 H2 y s2 x2 k2 => ?_⟩
  refine hs ρ2 σ fp2 F2 H2 H x y ra rb rr Q s2 (k1.step x2) (k2.base fun c => x1.none_back) (fun c z => (x1.trans x2).none_back z) e5 fun fp3 F3 H3 z s3 x3 k3 => ?_
  exact q fp3 F3 H3 z s3 ((x1.trans x2).trans x3) k3
end
/-! ### list.index -/
/-- the first place of an equal item -/
def findD (d : D) : List D → Option Nat
  | [] => none
  | z :: ds => if PyData.eqv z d then some 0 else (findD d ds).map (· + 1)
theorem findD_ok {d : D} : ∀ {ds : List D} {j : Nat}, findD d ds = some j → (∃ z, ds[j]? = some z ∧ PyData.eqv z d = true) ∧ ∀ m z', m < j → ds[m]? = some z' → PyData.eqv z' d = false
  | [], _, e => by cases e
  | z :: ds, j, e => by
    rw [findD] at e
    split at e
    · rename_i h
      cases e
      exact ⟨⟨z, rfl, h⟩, fun m z' hm => absurd hm (Nat.not_lt_zero m)⟩
    · rename_i h
      obtain ⟨k, e1, e2⟩ := Option.map_eq_some_iff.mp e
      subst e2
      obtain ⟨⟨y, h1, h2⟩, h3⟩ := findD_ok e1
      refine ⟨⟨y, by simpa using h1, h2⟩, fun m z' hm hz => ?_⟩
      cases m with
      | zero =>
        have : z = z' := by simpa using hz
        subst this
        exact Bool.eq_false_iff.mpr h
      | succ m => exact h3 m z' (by omega) (by simpa using hz)
def lidxG : G2 := fun ra rb ρ => match lstM ρ ra with
  | some ds => (peek ρ rb).bind fun d => if inOk d ds || inDeep d ds then (findD d ds).map fun j => .v (.int (j : Nat)) else none
  | _ => none
def rIdxA (K : PySem.W.Frag) : V → List V → Hp → VK → Prop := fun x xs H Q => rIndex K x xs H Q ∨ rIndexD K x xs H Q
theorem mt_idxA {X : Cx} (hu : X.A.units + 65 < cLine) : MtR X "list.index" (rIdxA X.K) := mt_index.or (mt_indexD hu)
theorem sem_lidx {K : PySem.W.Frag} : Sem2 K (fun x y H Q => rIdxA K x [y] H Q) lidxG := by
  intro ρ σ fp F H H0 x y ra rb rr Q s ka kb hN e q
  unfold lidxG at e
  split at e
  · rename_i ds hl
    unfold lstM at hl
    split at hl
    · rename_i ds' hs
      cases hl
      obtain ⟨d, e1, e⟩ := Option.bind_eq_some_iff.mp e
      rcases seqOf_ok s ka hs with ⟨_, p, vs, rfl, h1, h2⟩ | ⟨z, _⟩
      · have hd := peek_ok s kb e1
        have h2' := da_mono s.same h2
        split at e
        · rename_i hok
          obtain ⟨j, e2, e3⟩ := Option.map_eq_some_iff.mp e
          subst e3
          obtain ⟨⟨z, f1, f2⟩, f3⟩ := findD_ok e2
          have fin := q fp F H (.int (j : Nat)) s .refl (.v (.int _))
          rcases Bool.or_eq_true_iff.mp hok with hok | hok
          · obtain ⟨o1, o2⟩ := Bool.and_eq_true_iff.mp hok
            have fl : ∀ (m : Nat) (z' : V), vs[m]? = some z' → ∃ d', ds[m]? = some d' ∧ eqV z' y = PyData.eqv d' d := fun m z' hz => by
              obtain ⟨d', g1, g2⟩ := da_getV h2' hz
              exact ⟨d', g1, eqv_dp g2 hd (List.all_eq_true.mp o2 d' (List.mem_of_getElem? g1)) o1⟩
            obtain ⟨zv, g1, g2⟩ := da_get h2' f1
            refine .inl ⟨p, vs, y, j, zv, rfl, rfl, h1, by rw [flat_dp hd]; exact o1, by rw [flat_all h2']; exact o2, g1, ?_, fun m z' hm hz => ?_, fin⟩
            · obtain ⟨d', g3, g4⟩ := fl j zv g1
              rw [f1] at g3
              cases g3
              rw [g4]; exact f2
            · obtain ⟨d', g3, g4⟩ := fl m z' hz
              rw [g4]
              exact f3 m d' hm g3
          · obtain ⟨o1, o2⟩ := Bool.and_eq_true_iff.mp hok
            exact .inr ⟨p, y, d, ds, j, z, rfl, rfl, .lst h1 h2', hd, o2, o1, f1, f2, f3, fin⟩
        · cases e
      · cases z
    · cases hl
  · cases e
end Mm
namespace Mm
open PySem L2

/-! ### truth values put together -/
def andE (fa fb : EF) : EF := fun ρ => (fa ρ).bind fun p => match p.1 with
  | .v (.bool c) => if c then fb p.2 else some (.v (.bool false), p.2)
  | _ => none
def orE (fa fb : EF) : EF := fun ρ => (fa ρ).bind fun p => match p.1 with
  | .v (.bool c) => if c then some (.v (.bool true), p.2) else fb p.2
  | _ => none
def notE (fa : EF) : EF := fun ρ => (fa ρ).bind fun p => match p.1 with
  | .v (.bool c) => some (.v (.bool !c), p.2)
  | _ => none
def ifE (ft : TF) (fa fb : EF) : EF := fun ρ => (ft ρ).bind fun p => if p.1 then fa p.2 else fb p.2
def andT (fa fb : TF) : TF := fun ρ => (fa ρ).bind fun p => if p.1 then fb p.2 else some (false, p.2)
def orT (fa fb : TF) : TF := fun ρ => (fa ρ).bind fun p => if p.1 then some (true, p.2) else fb p.2
def notT (fa : TF) : TF := fun ρ => (fa ρ).map fun p => (!p.1, p.2)
section
variable {X : Cx} {a b c : Expr} {rest : List Expr} {ta tb : TE} {fa fb : EF} {pos : Pos} {tt tA tC' : TT} {ft gA gB : TF} {op : BoolOp}
theorem dx_step {K : PySem.W.Frag} {fp fp1 : List Addr} {F F1 H H1 : Hp} {ρ : Rho} {σ : St} {r : R} {Q : VK} (x1 : Ext fp F H fp1 F1 H1) (q : ∀ fp' F' H' x, S0 K ρ σ fp' F' H' → Ext fp F H fp' F' H' → ROk K H F' H' σ fp' x r → Q x H') :
    ∀ fp' F' H' x, S0 K ρ σ fp' F' H' → Ext fp1 F1 H1 fp' F' H' → ROk K H1 F' H' σ fp' x r → Q x H' := fun fp' F' H' x s e k => q fp' F' H' x s (x1.trans e) (k.base fun c => x1.none_back)
theorem bool_of {K : PySem.W.Frag} {H0 F H : Hp} {σ : St} {fp : List Addr} {x : V} {k : Bool} (h : ROk K H0 F H σ fp x (.v (.bool k))) : x = .bl k := by cases h with | v h => exact dp_bl h
theorem de_one (h : DE K wd X a ta fa) : DE K wd X (.BoolOp op [a] pos) ta fa := ⟨fun hk hw => by subst hk hw; exact pe_one (h.pe rfl rfl), h.dn⟩
theorem de_and (ha : DE K wd X a ta fa) (hb : DE K wd X (.BoolOp .And (b :: rest) pos) tb fb) : DE K wd X (.BoolOp .And (a :: b :: rest) pos) (tAndV ta tb) (andE fa fb) := by
  refine ⟨fun hk hw => by subst hk hw; exact pe_and (ha.pe rfl rfl) (hb.pe rfl rfl), fun ρ σ fp F H rr ρ' Q s e q => ?_⟩
  obtain ⟨⟨ra, ρ1⟩, e1, e2⟩ := Option.bind_eq_some_iff.mp e
  refine ha.dn ρ σ fp F H ra ρ1 _ s e1 fun fp1 F1 H1 x s1 x1 k1 => ?_
  dsimp only at e2
  split at e2
  · rename_i k
    refine ⟨k, bool_of k1, ?_⟩
    cases k with
    | true => exact hb.dn ρ1 σ fp1 F1 H1 rr ρ' Q s1 e2 (dx_step x1 q)
    | false => cases e2; exact q fp1 F1 H1 _ s1 x1 (.v (.bl false))
  · cases e2
theorem de_or (ha : DE K wd X a ta fa) (hb : DE K wd X (.BoolOp .Or (b :: rest) pos) tb fb) : DE K wd X (.BoolOp .Or (a :: b :: rest) pos) (tOrV ta tb) (orE fa fb) := by
  refine ⟨fun hk hw => by subst hk hw; exact pe_or (ha.pe rfl rfl) (hb.pe rfl rfl), fun ρ σ fp F H rr ρ' Q s e q => ?_⟩
  obtain ⟨⟨ra, ρ1⟩, e1, e2⟩ := Option.bind_eq_some_iff.mp e
  refine ha.dn ρ σ fp F H ra ρ1 _ s e1 fun fp1 F1 H1 x s1 x1 k1 => ?_
  dsimp only at e2
  split at e2
  · rename_i k
    refine ⟨k, bool_of k1, ?_⟩
    cases k with
    | false => exact hb.dn ρ1 σ fp1 F1 H1 rr ρ' Q s1 e2 (dx_step x1 q)
    | true => cases e2; exact q fp1 F1 H1 _ s1 x1 (.v (.bl true))
  · cases e2
theorem de_not (ha : DE K wd X a ta fa) : DE K wd X (.UnaryOp .Not a pos) (tNotV ta) (notE fa) := by
  refine ⟨fun hk hw => by subst hk hw; exact pe_not (ha.pe rfl rfl), fun ρ σ fp F H rr ρ' Q s e q => ?_⟩
  obtain ⟨⟨ra, ρ1⟩, e1, e2⟩ := Option.bind_eq_some_iff.mp e
  refine ha.dn ρ σ fp F H ra ρ1 _ s e1 fun fp1 F1 H1 x s1 x1 k1 => ?_
  dsimp only at e2
  split at e2
  · rename_i k
    cases e2
    exact ⟨k, bool_of k1, q fp1 F1 H1 _ s1 x1 (.v (.bl _))⟩
  · cases e2
theorem de_if (hc : DT K wd X c tt ft) (ha : DE K wd X a ta fa) (hb : DE K wd X b tb fb) : DE K wd X (.IfExp c a b pos) (tIf tt ta tb) (ifE ft fa fb) := by
  refine ⟨fun hk hw => by subst hk hw; exact pe_ifExp (hc.pe rfl rfl) (ha.pe rfl rfl) (hb.pe rfl rfl), fun ρ σ fp F H rr ρ' Q s e q => ?_⟩
  obtain ⟨⟨k, ρ1⟩, e1, e2⟩ := Option.bind_eq_some_iff.mp e
  refine hc.dn ρ σ fp F H k ρ1 _ s e1 fun fp1 F1 H1 s1 x1 => ?_
  cases k with
  | true => rw [if_pos rfl]; exact ha.dn ρ1 σ fp1 F1 H1 rr ρ' Q s1 e2 (dx_step x1 q)
  | false => rw [if_neg Bool.false_ne_true]; exact hb.dn ρ1 σ fp1 F1 H1 rr ρ' Q s1 e2 (dx_step x1 q)
/-! tests -/
theorem dw_and1 (h : DT K wd X a tA gA) : DW K wd X (.BoolOp .And [a] pos) tA gA := ⟨fun hk hw => by subst hk hw; exact pw_and1 (h.pe rfl rfl), h.dn⟩
theorem dw_or1 (h : DT K wd X a tA gA) : DW K wd X (.BoolOp .Or [a] pos) tA gA := ⟨fun hk hw => by subst hk hw; exact pw_or1 (h.pe rfl rfl), h.dn⟩
theorem dw_and (ha : DT K wd X a tA gA) (hb : DW K wd X (.BoolOp .And (b :: rest) pos) tC' gB) : DW K wd X (.BoolOp .And (a :: b :: rest) pos) (tAnd tA tC') (andT gA gB) := by
  refine ⟨fun hk hw => by subst hk hw; exact pw_and (ha.pe rfl rfl) (hb.pe rfl rfl), fun ρ σ fp F H rr ρ' Q s e q => ?_⟩
  obtain ⟨⟨k, ρ1⟩, e1, e2⟩ := Option.bind_eq_some_iff.mp e
  refine ha.dn ρ σ fp F H k ρ1 _ s e1 fun fp1 F1 H1 s1 x1 => ?_
  cases k with
  | true => rw [if_pos rfl]; exact hb.dn ρ1 σ fp1 F1 H1 rr ρ' Q s1 e2 fun fp2 F2 H2 s2 x2 => q fp2 F2 H2 s2 (x1.trans x2)
  | false => rw [if_neg Bool.false_ne_true]; cases e2; exact q fp1 F1 H1 s1 x1
theorem dw_or (ha : DT K wd X a tA gA) (hb : DW K wd X (.BoolOp .Or (b :: rest) pos) tC' gB) : DW K wd X (.BoolOp .Or (a :: b :: rest) pos) (tOr tA tC') (orT gA gB) := by
  refine ⟨fun hk hw => by subst hk hw; exact pw_or (ha.pe rfl rfl) (hb.pe rfl rfl), fun ρ σ fp F H rr ρ' Q s e q => ?_⟩
  obtain ⟨⟨k, ρ1⟩, e1, e2⟩ := Option.bind_eq_some_iff.mp e
  refine ha.dn ρ σ fp F H k ρ1 _ s e1 fun fp1 F1 H1 s1 x1 => ?_
  cases k with
  | true => rw [if_pos rfl]; cases e2; exact q fp1 F1 H1 s1 x1
  | false => rw [if_neg Bool.false_ne_true]; exact hb.dn ρ1 σ fp1 F1 H1 rr ρ' Q s1 e2 fun fp2 F2 H2 s2 x2 => q fp2 F2 H2 s2 (x1.trans x2)
theorem dt_w (h : DW K wd X a tA gA) : DT K wd X a tA gA := ⟨fun hk hw => by subst hk hw; exact (h.pe rfl rfl).pt, h.dn⟩
theorem dt_not (ha : DT K wd X a tA gA) : DT K wd X (.UnaryOp .Not a pos) (tNot tA) (notT gA) := by
  refine ⟨fun hk hw => by subst hk hw; exact pt_not (ha.pe rfl rfl), fun ρ σ fp F H rr ρ' Q s e q => ?_⟩
  obtain ⟨⟨k, ρ1⟩, e1, e2⟩ := Option.map_eq_some_iff.mp e
  cases e2
  exact ha.dn ρ σ fp F H k ρ1 _ s e1 fun fp1 F1 H1 s1 x1 => q fp1 F1 H1 s1 x1
/-- the truth of any value -/
def truD : D → Option Bool
  | .none => some false
  | .bool b => some b
  | .int i => some (i != 0)
  | .str z => if z.length ≤ sizeLine then some ((z.length : Int) != 0) else none
  | .list ds => some (!ds.isEmpty)
  | .tuple ds => some (!ds.isEmpty)
  | .dict _ => none
def truT (fa : EF) : TF := fun ρ => (fa ρ).bind fun p => (peek p.2 p.1).bind fun d => (truD d).map fun b => (b, p.2)
theorem da_empty {K : PySem.W.Frag} {F : Hp} {vs : List V} {ds : List D} (h : DpAll K F vs ds) : vs.isEmpty = ds.isEmpty := by cases h <;> rfl
theorem tru_dp {K : PySem.W.Frag} {H : Hp} {x : V} {d : D} {b : Bool} (h : Dp K H x d) (e : truD d = some b) : TruV K x H b := by
  cases h with
  | non => cases e; rfl
  | bl k => cases e; rfl
  | int i => cases e; rfl
  | str z =>
    rw [truD] at e
    split at e
    · cases e; exact ⟨by assumption, rfl⟩
    · cases e
  | lst hs ha => cases e; exact .inl ⟨_, hs, by rw [da_empty ha]⟩
  | tup hs ha => cases e; exact .inr (.inl ⟨_, hs, by rw [da_empty ha]⟩)
theorem dt_tru (ha : DE K wd X a ta fa) (he : ∀ whole, isTrue a X.env whole = (do let v ← whole; standAt a.pos; holding [v] (truthy v)) := by intro _; rfl) : DT K wd X a (fun σ H Q => ta σ H fun x H' => ∃ k, TruV K x H' k ∧ Q k H') (truT fa) := by
  refine ⟨fun hk hw => by subst hk hw; exact pt_truth (ha.pe rfl rfl) he, fun ρ σ fp F H rr ρ' Q s e q => ?_⟩
  obtain ⟨⟨ra, ρ1⟩, e1, e2⟩ := Option.bind_eq_some_iff.mp e
  obtain ⟨d, e3, e2⟩ := Option.bind_eq_some_iff.mp e2
  obtain ⟨k, e4, e2⟩ := Option.map_eq_some_iff.mp e2
  cases e2
  exact ha.dn ρ σ fp F H ra ρ1 _ s e1 fun fp1 F1 H1 x s1 x1 k1 => ⟨_, tru_dp (peek_ok s1 k1 e3) e4, q fp1 F1 H1 s1 x1⟩
end

/-! ### statements -/
/-- a result goes to the slot i -/
def put (i : Nat) (r : R) (ρ : Rho) : Option Rho := match r with
  | .v d => some (ρ.set i (some (.v d)))
  | .o o => some (ρ.set i (some o))
  | .at j => (keep ρ (.at j)).map fun p => p.2.set i (some (.v p.1))
theorem put_ok {K : PySem.W.Frag} {σ : St} {ρ ρ' : Rho} {fp fp0 : List Addr} {F F0 H H0 : Hp} {x : V} {r : R} {i : Nat} (s : S0 K ρ σ fp F H) (k : ROk K H0 F H σ fp x r) (x0 : Ext fp0 F0 H0 fp F H) (hi : i < ρ.length) (e : put i r ρ = some ρ') :
    ∃ fp' F', S0 K ρ' (σ.set i (some x)) fp' F' H ∧ Ext fp0 F0 H0 fp' F' H := by
  have base : ∀ {ρ : Rho} {fp : List Addr} {F : Hp} {o : O} {f : List Addr}, i < ρ.length → S0 K ρ σ fp F H → Ext fp0 F0 H0 fp F H → Own K F H x o f → (∀ a ∈ f, a ∉ fp ∧ H0 a = none) →
      ∃ fp' F', S0 K (ρ.set i (some o)) (σ.set i (some x)) fp' F' H ∧ Ext fp0 F0 H0 fp' F' H := fun {ρ fp F o f} hi s x0 ho hf => by
    obtain ⟨fa, f2, fb, ef, dj, g1, g2⟩ := s.own.split hi
    have sub : ∀ a ∈ fa ++ fb, a ∈ fp := fun a z => by
      subst ef
      simp only [List.mem_append] at z ⊢
      rcases z with z | z
      · exact .inl (.inl z)
      · exact .inr z
    have h := (g2 F H (Same.refl F) fun a z => ⟨rfl, (s.own.there a (sub a z)).1⟩).2 x o f ho fun a z q => (hf a z).1 (sub a q)
    refine ⟨_, F, ⟨s.same, h⟩, ⟨x0.fF, x0.fH, fun a z => ?_, x0.fN, x0.dom⟩⟩
    simp only [List.mem_append] at z
    rcases z with (z | z) | z
    · exact x0.fC a (sub a (List.mem_append_left _ z))
    · exact .inr (hf a z).2
    · exact x0.fC a (sub a (List.mem_append_right _ z))
  cases r with
  | v d =>
    cases e
    cases k with | v k => exact base hi s x0 (.v k) fun a z => nomatch z
  | o o =>
    cases e
    cases k with | o k h => exact base hi s x0 k h
  | «at» j =>
    obtain ⟨⟨d, ρ1⟩, e1, e2⟩ := Option.map_eq_some_iff.mp e
    subst e2
    obtain ⟨F1, fp1, s1, x1, k1⟩ := keep_ok s k x0 e1
    have hl : ρ1.length = ρ.length := by rw [← s1.own.len, s.own.len]
    exact base (by rw [hl]; exact hi) s1 x1 (.v k1) fun a z => nomatch z
def nxS : SF := fun ρ => some (.nx ρ)
def sqS (f g : SF) : SF := fun ρ => (f ρ).bind fun fl => match fl with
  | .nx ρ' => g ρ'
  | fl => some fl
def ifS (ft : TF) (f g : SF) : SF := fun ρ => (ft ρ).bind fun p => if p.1 then f p.2 else g p.2
def exS (f : EF) : SF := fun ρ => (f ρ).map fun p => .nx p.2
def rtS (f : EF) : SF := fun ρ => (f ρ).map fun p => .rt p.1 p.2
def rnS : SF := fun ρ => some (.rt (.v .none) ρ)
def bkS : SF := fun ρ => some (.bk ρ)
def ctS : SF := fun ρ => some (.ct ρ)
def asS (i : Nat) (f : EF) : SF := fun ρ => (f ρ).bind fun p => if i < p.2.length then (put i p.1 p.2).map .nx else none
section
variable {X : Cx} {w w2 : List Nat} {st : Stmt} {rest : List Stmt} {t u : TS} {f g : SF} {e : Expr} {te : TE} {fe : EF} {pos : Pos}
theorem Kont.of_nx {K : PySem.W.Frag} {w w2 : List Nat} {σ σ1 : St} {fp fp1 : List Addr} {F F1 H H1 : Hp} {dn : Ends} (x1 : Ext fp F H fp1 F1 H1) (hw : ∀ j, j ∉ w → σ1[j]? = σ[j]?) :
    ∀ {fl : Fl}, Kont K (w ++ w2) σ fp F H dn fl → Kont K w2 σ1 fp1 F1 H1 dn fl := by
  have hx : ∀ {σ' : St}, (∀ j, j ∉ w2 → σ'[j]? = σ1[j]?) → ∀ j, j ∉ w ++ w2 → σ'[j]? = σ[j]? := fun h j z => by
    simp only [List.mem_append, not_or] at z
    rw [h j z.2, hw j z.1]
  intro fl k
  cases fl with
  | nx ρ' => exact fun σ' fp' F' H' s x h => k σ' fp' F' H' s (x1.trans x) (hx h)
  | bk ρ' => exact fun σ' fp' F' H' s x h => k σ' fp' F' H' s (x1.trans x) (hx h)
  | ct ρ' => exact fun σ' fp' F' H' s x h => k σ' fp' F' H' s (x1.trans x) (hx h)
  | rt r ρ' => exact fun σ' fp' F' H' y s x h kk => k σ' fp' F' H' y s (x1.trans x) (hx h) (kk.base fun c => x1.none_back)
theorem Kont.left {K : PySem.W.Frag} {w w2 : List Nat} {σ : St} {fp : List Addr} {F H : Hp} {dn : Ends} (hw : ∀ j, j ∈ w → j ∈ w2) : ∀ {fl : Fl}, Kont K w2 σ fp F H dn fl → Kont K w σ fp F H dn fl := by
  intro fl k
  have hx : ∀ {σ' : St}, (∀ j, j ∉ w → σ'[j]? = σ[j]?) → ∀ j, j ∉ w2 → σ'[j]? = σ[j]? := fun h j z => h j fun q => z (hw j q)
  cases fl with
  | nx ρ' => exact fun σ' fp' F' H' s x h => k σ' fp' F' H' s x (hx h)
  | bk ρ' => exact fun σ' fp' F' H' s x h => k σ' fp' F' H' s x (hx h)
  | ct ρ' => exact fun σ' fp' F' H' s x h => k σ' fp' F' H' s x (hx h)
  | rt r ρ' => exact fun σ' fp' F' H' y s x h kk => k σ' fp' F' H' y s x (hx h) kk
theorem dss_nil : DSs K wd X [] [] tNext nxS := ⟨fun hk hw => by subst hk hw; exact pss_nil, fun ρ σ fp F H fl dn s e k => by cases e; exact k σ fp F H s .refl fun _ _ => rfl⟩
theorem dss_one (h : DS K wd X w st t f) : DSs K wd X w [st] t f := ⟨fun hk hw => by subst hk hw; exact pss_one (h.pe rfl rfl), h.dn⟩
theorem dss_cons (h : DS K wd X w st t f) (k : DSs K wd X w2 rest u g) : DSs K wd X (w ++ w2) (st :: rest) (tSeq t u) (sqS f g) := by
  refine ⟨fun hk hw => by subst hk hw; exact pss_cons (h.pe rfl rfl) (k.pe rfl rfl), fun ρ σ fp F H fl dn s e q => ?_⟩
  obtain ⟨fl1, e1, e2⟩ := Option.bind_eq_some_iff.mp e
  refine h.dn ρ σ fp F H fl1 { dn with nx := u dn } s e1 ?_
  cases fl1 with
  | nx ρ1 => exact fun σ1 fp1 F1 H1 s1 x1 hw => k.dn ρ1 σ1 fp1 F1 H1 fl dn s1 e2 (Kont.of_nx x1 hw q)
  | bk ρ1 => cases e2; exact fun σ' fp' F' H' s x h => q σ' fp' F' H' s x fun j z => h j fun y => z (List.mem_append_left _ y)
  | ct ρ1 => cases e2; exact fun σ' fp' F' H' s x h => q σ' fp' F' H' s x fun j z => h j fun y => z (List.mem_append_left _ y)
  | rt r ρ1 => cases e2; exact fun σ' fp' F' H' y s x h kk => q σ' fp' F' H' y s x (fun j z => h j fun y => z (List.mem_append_left _ y)) kk
theorem ds_pass : DS K wd X [] (.Pass pos) tNext nxS := ⟨fun hk hw => by subst hk hw; exact ps_pass, fun ρ σ fp F H fl dn s e k => by cases e; exact k σ fp F H s .refl fun _ _ => rfl⟩
theorem ds_break : DS K wd X [] (.Break pos) tBreak bkS := ⟨fun hk hw => by subst hk hw; exact ps_break, fun ρ σ fp F H fl dn s e k => by cases e; exact k σ fp F H s .refl fun _ _ => rfl⟩
theorem ds_continue : DS K wd X [] (.Continue pos) tCont ctS := ⟨fun hk hw => by subst hk hw; exact ps_continue, fun ρ σ fp F H fl dn s e k => by cases e; exact k σ fp F H s .refl fun _ _ => rfl⟩
theorem ds_expr (h : DE K wd X e te fe) (hs : swapsWith e none pos.line X.env = pure false := by rfl) : DS K wd X [] (.Expr e pos) (tDrop te) (exS fe) := by
  refine ⟨fun hk hw => by subst hk hw; exact ps_expr (h.pe rfl rfl) hs, fun ρ σ fp F H fl dn s e q => ?_⟩
  obtain ⟨⟨r, ρ1⟩, e1, e2⟩ := Option.map_eq_some_iff.mp e
  subst e2
  exact h.dn ρ σ fp F H r ρ1 _ s e1 fun fp1 F1 H1 x s1 x1 k1 => q σ fp1 F1 H1 s1 x1 fun _ _ => rfl
theorem ds_ret (h : DE K wd X e te fe) : DS K wd X [] (.Return (some e) pos) (tRet te) (rtS fe) := by
  refine ⟨fun hk hw => by subst hk hw; exact ps_ret (h.pe rfl rfl), fun ρ σ fp F H fl dn s e q => ?_⟩
  obtain ⟨⟨r, ρ1⟩, e1, e2⟩ := Option.map_eq_some_iff.mp e
  subst e2
  exact h.dn ρ σ fp F H r ρ1 _ s e1 fun fp1 F1 H1 x s1 x1 k1 => q σ fp1 F1 H1 x s1 x1 (fun _ _ => rfl) k1
theorem ds_retN : DS K wd X [] (.Return none pos) tRetN rnS := ⟨fun hk hw => by subst hk hw; exact ps_retN, fun ρ σ fp F H fl dn s e k => by cases e; exact k σ fp F H .non s .refl (fun _ _ => rfl) (.v .non)⟩
variable {c : Expr} {a b : List Stmt} {tc : TT} {ft : TF}
theorem ds_if (hc : DT K wd X c tc ft) (ha : DSs K wd X w a t f) (hb : DSs K wd X w2 b u g) : DS K wd X (w ++ w2) (.If c a b pos) (tIfS tc t u) (ifS ft f g) := by
  refine ⟨fun hk hw => by subst hk hw; exact ps_if (hc.pe rfl rfl) (ha.pe rfl rfl) (hb.pe rfl rfl), fun ρ σ fp F H fl dn s e q => ?_⟩
  obtain ⟨⟨k, ρ1⟩, e1, e2⟩ := Option.bind_eq_some_iff.mp e
  refine hc.dn ρ σ fp F H k ρ1 _ s e1 fun fp1 F1 H1 s1 x1 => ?_
  cases k with
  | true => rw [if_pos rfl]; exact ha.dn ρ1 σ fp1 F1 H1 fl dn s1 e2 (Kont.of_nx (w := []) x1 (fun _ _ => rfl) (Kont.left (fun j z => List.mem_append_left _ z) q))
  | false => rw [if_neg Bool.false_ne_true]; exact hb.dn ρ1 σ fp1 F1 H1 fl dn s1 e2 (Kont.of_nx (w := []) x1 (fun _ _ => rfl) (Kont.left (fun j z => List.mem_append_right _ z) q))
theorem ds_set (i : Nat) {x : Str} {pos' : Pos} (hN : X.N.Nodup) (h : DE K wd X e te fe) (hi : X.N[i]? = some x := by rfl) (hx : Loc X.env.scope x := by first | exact .inl rfl | exact .inr rfl) (hs : swapsWith e (some (.Name x pos')) pos.line X.env = pure false := by rfl) (hf : X.fn x = true ∨ X.env.scope.names.lookup x = some .local := by first | exact .inl rfl | exact .inr rfl) :
    DS K wd X [i] (.Assign [.Name x pos'] e pos) (tAsg te (gName i)) (asS i fe) := by
  refine ⟨fun hk hw => by subst hk hw; exact ps_set hN hi hx (h.pe rfl rfl) hs hf, fun ρ σ fp F H fl dn s e q => ?_⟩
  obtain ⟨⟨r, ρ1⟩, e1, e2⟩ := Option.bind_eq_some_iff.mp e
  split at e2
  · rename_i hl
    obtain ⟨ρ2, e3, e4⟩ := Option.map_eq_some_iff.mp e2
    subst e4
    refine h.dn ρ σ fp F H r ρ1 _ s e1 fun fp1 F1 H1 y s1 x1 k1 => ?_
    obtain ⟨fp2, F2, s2, x2⟩ := put_ok s1 k1 x1 hl e3
    refine q _ fp2 F2 H1 s2 x2 fun j z => ?_
    rw [List.getElem?_set_ne fun h => z (by rw [h]; exact List.mem_singleton.mpr rfl)]
  · cases e2
end
end Mm
namespace Mm
open PySem L2 RT

/-! ### targets -/
abbrev GF := D → Rho → Option Rho
abbrev GsF := List D → Rho → Option Rho
def DGx (K : PySem.W.Frag) (w : List Nat) (g : TG) (G : GF) : Prop := ∀ (ρ : Rho) (σ : St) (fp : List Addr) (F H : Hp) (d : D) (x : V) (ρ' : Rho) (Q : St → Hp → Prop), S0 K ρ σ fp F H → Dp K F x d → G d ρ = some ρ' →
  (∀ σ' fp' F' H', S0 K ρ' σ' fp' F' H' → Ext fp F H fp' F' H' → σ'.length = σ.length → (∀ j, j ∉ w → σ'[j]? = σ[j]?) → Q σ' H') → g x σ H Q
def DGsx (K : PySem.W.Frag) (w : List Nat) (g : TGs) (G : GsF) : Prop := ∀ (ρ : Rho) (σ : St) (fp : List Addr) (F H : Hp) (ds : List D) (xs : List V) (ρ' : Rho) (Q : St → Hp → Prop), S0 K ρ σ fp F H → DpAll K F xs ds → G ds ρ = some ρ' →
  (∀ σ' fp' F' H', S0 K ρ' σ' fp' F' H' → Ext fp F H fp' F' H' → σ'.length = σ.length → (∀ j, j ∉ w → σ'[j]? = σ[j]?) → Q σ' H') → g xs σ H Q
structure DG (K : PySem.W.Frag) (wd : World) (X : Cx) (w : List Nat) (tg : Expr) (g : TG) (G : GF) : Prop where
  pe : X.K = K → X.w = wd → PG X tg g
  dn : DGx K w g G
structure DGs (K : PySem.W.Frag) (wd : World) (X : Cx) (w : List Nat) (ts : List Expr) (g : TGs) (G : GsF) : Prop where
  pe : X.K = K → X.w = wd → PGs X ts g
  dn : DGsx K w g G
def nmG (i : Nat) : GF := fun d ρ => if i < ρ.length then some (ρ.set i (some (.v d))) else none
def nilG : GsF := fun ds ρ => match ds with
  | [] => some ρ
  | _ => none
def consG (G : GF) (Gs : GsF) : GsF := fun ds ρ => match ds with
  | d :: ds => (G d ρ).bind (Gs ds)
  | [] => none
def tupG (n : Nat) (Gs : GsF) : GF := fun d ρ => match d with
  | .tuple ds => if ds.length = n then Gs ds ρ else none
  | .list ds => if ds.length = n then Gs ds ρ else none
  | _ => none
section
variable {X : Cx} {w w2 : List Nat} {e : Expr} {es : List Expr} {g : TG} {gs : TGs} {G : GF} {Gs : GsF} {pos : Pos}
theorem dg_name (i : Nat) {x : Str} (hN : X.N.Nodup) (hi : X.N[i]? = some x := by rfl) (hx : Loc X.env.scope x := by first | exact .inl rfl | exact .inr rfl) (hf : X.fn x = true ∨ X.env.scope.names.lookup x = some .local := by first | exact .inl rfl | exact .inr rfl) : DG K wd X [i] (.Name x pos) (gName i) (nmG i) := by
  refine ⟨fun hk hw => by subst hk hw; exact pg_name hN hi hx hf, fun ρ σ fp F H d y ρ' Q s hd e q => ?_⟩
  unfold nmG at e
  split at e
  · rename_i hl
    obtain ⟨fp2, F2, s2, x2⟩ := put_ok (r := .v d) (H0 := H) s (.v hd) .refl hl e
    exact q _ fp2 F2 H s2 x2 (List.length_set ..) fun j z => by rw [List.getElem?_set_ne fun h => z (by rw [h]; exact List.mem_singleton.mpr rfl)]
  · cases e
theorem dgs_nil : DGs K wd X [] [] gNil nilG := by
  refine ⟨fun hk hw => by subst hk hw; exact pgs_nil, fun ρ σ fp F H ds xs ρ' Q s hd e q => ?_⟩
  unfold nilG at e
  split at e
  · cases e; cases hd; exact ⟨rfl, q σ fp F H s .refl rfl fun _ _ => rfl⟩
  · cases e
theorem dgs_cons (h : DG K wd X w e g G) (k : DGs K wd X w2 es gs Gs) (hs : (assignEach (e :: es) X.env).map (·.2) = assign e X.env :: (assignEach es X.env).map (·.2) := by rfl) : DGs K wd X (w ++ w2) (e :: es) (gCons g gs) (consG G Gs) := by
  refine ⟨fun hk hw => by subst hk hw; exact pgs_cons (h.pe rfl rfl) (k.pe rfl rfl) hs, fun ρ σ fp F H ds xs ρ' Q s hd e q => ?_⟩
  unfold consG at e
  split at e
  · cases hd with
    | cons h1 h2 =>
      obtain ⟨ρ1, e1, e2⟩ := Option.bind_eq_some_iff.mp e
      refine ⟨_, _, rfl, h.dn ρ σ fp F H _ _ ρ1 _ s h1 e1 fun σ1 fp1 F1 H1 s1 x1 l1 w1 => ?_⟩
      refine k.dn ρ1 σ1 fp1 F1 H1 _ _ ρ' Q s1 (da_mono x1.fF h2) e2 fun σ2 fp2 F2 H2 s2 x2 l2 w2' => q σ2 fp2 F2 H2 s2 (x1.trans x2) (l2.trans l1) fun j z => ?_
      simp only [List.mem_append, not_or] at z
      rw [w2' j z.2, w1 j z.1]
  · cases e
def gTL (K : PySem.W.Frag) (n : Nat) (t : TGs) : TG := fun v σ H Q => gTup K n t v σ H Q ∨ gLst K n t v σ H Q
theorem pg_or {tg : Expr} {g1 g2 : TG} (h1 : PG X tg g1) (h2 : PG X tg g2) : PG X tg (fun v σ H Q => g1 v σ H Q ∨ g2 v σ H Q) := by
  refine ⟨?_⟩
  intro pins s σ H x v Q I r h
  rcases h with h | h
  · exact h1.run pins s σ H x v Q I r h
  · exact h2.run pins s σ H x v Q I r h
theorem dg_tup {k n : Nat} (hc : X.calm = true) (h : DGs K wd X w es gs Gs) (hn : (assignEach es X.env).length = n := by rfl) (hst : (assignEach es X.env).findIdx? (·.1) = none := by rfl) : DG K wd X w (.Tuple es k pos) (gTL K n gs) (tupG n Gs) := by
  refine ⟨fun hk hw => by subst hk hw; exact pg_or (pg_tup hc (h.pe rfl rfl) hn hst) (pg_lst hc (h.pe rfl rfl) hn hst), fun ρ σ fp F H d x ρ' Q s hd e q => ?_⟩
  unfold tupG at e
  split at e
  · split at e
    · rename_i hn
      obtain ⟨a, vs, rfl, k1, k2⟩ := dp_tup hd
      exact .inl ⟨a, vs, rfl, seqT s.same k1, by rw [da_length k2]; exact hn, h.dn ρ σ fp F H _ vs ρ' Q s k2 e q⟩
    · cases e
  · split at e
    · rename_i hn
      obtain ⟨a, vs, rfl, k1, k2⟩ := dp_lst hd
      exact .inr ⟨a, vs, rfl, s.same.seq k1, by rw [da_length k2]; exact hn, h.dn ρ σ fp F H _ vs ρ' Q s k2 e q⟩
    · cases e
  · cases e
/-- target = value -/
def agS (f : VF) (G : GF) : SF := fun ρ => (f ρ).bind fun p => (G p.1 p.2).map .nx
theorem ds_asg {tg : Expr} {te : TE} {f : VF} (he : DV K wd X e te f) (hg : DG K wd X w tg g G) (hs : swapsWithSole [tg] e pos.line X.env = pure false := by rfl) (hw : swappedStores [tg] e X.env = pure none := by rfl)
    (h1 : (assignEach [tg] X.env).map (·.2) = [assign tg X.env] := by rfl) : DS K wd X w (.Assign [tg] e pos) (tAsg te g) (agS f G) := by
  refine ⟨fun hk hw => by subst hk hw; exact ps_asg (he.pe rfl rfl) (hg.pe rfl rfl) hs hw h1, fun ρ σ fp F H fl dn s e q => ?_⟩
  obtain ⟨⟨d, ρ1⟩, e1, e2⟩ := Option.bind_eq_some_iff.mp e
  obtain ⟨ρ2, e3, e4⟩ := Option.map_eq_some_iff.mp e2
  subst e4
  refine he.dn ρ σ fp F H d ρ1 _ s e1 fun fp1 F1 H1 x s1 x1 k1 => ?_
  exact hg.dn ρ1 σ fp1 F1 H1 d x ρ2 _ s1 k1 e3 fun σ2 fp2 F2 H2 s2 x2 _ w2 => q σ2 fp2 F2 H2 s2 (x1.trans x2) w2
end

/-! ### what is walked -/
def Grow (F H F' H' : Hp) : Prop := (F' = F ∧ H' = H) ∨ ∃ p o, H p = none ∧ F' = upd F p o ∧ H' = upd H p o
theorem S0.grow {K : PySem.W.Frag} {ρ : Rho} {σ : St} {fp : List Addr} {F H F' H' : Hp} (s : S0 K ρ σ fp F H) (g : Grow F H F' H') : S0 K ρ σ fp F' H' ∧ Ext fp F H fp F' H' := by
  rcases g with ⟨rfl, rfl⟩ | ⟨p, o, hp, rfl, rfl⟩
  · exact ⟨s, .refl⟩
  · exact alloc_frz s hp o
def Runs (K : PySem.W.Frag) (J : It) (ds : List D) (F0 : Hp) : Prop := ∃ (G : Hp → Prop) (Y : Nat → Hp → V → Hp → Prop), Walk J ds.length G Y ∧ (∀ F H, Same F0 F → Same F H → G H) ∧
  ∀ i H x H', Y i H x H' → ∀ F, Same F0 F → Same F H → ∃ d, ds[i]? = some d ∧ ∃ F', Grow F H F' H' ∧ Dp K F' x d
abbrev IF := Rho → Option (List D × Rho)
structure DI (K : PySem.W.Frag) (wd : World) (X : Cx) (tg it : Expr) (wi : TI) (f : IF) : Prop where
  pe : X.K = K → X.w = wd → PI X tg it wi
  dn : ∀ (ρ : Rho) (σ : St) (fp : List Addr) (F H : Hp) (ds : List D) (ρ' : Rho) (R : It → Hp → Prop), S0 K ρ σ fp F H → f ρ = some (ds, ρ') →
    (∀ fp' F' H' J, S0 K ρ' σ fp' F' H' → Ext fp F H fp' F' H' → Runs K J ds F' → R J H') → wi σ H R
def itemsD : D → Option (List D)
  | .list ds => some ds
  | .tuple ds => some ds
  | .str z => some (chD z)
  | _ => none
def sqI (f : VF) : IF := fun ρ => (f ρ).bind fun p => (itemsD p.1).map fun ds => (ds, p.2)
def rg1I (f : EF) : IF := fun ρ => (iE f ρ).bind fun p => if rgOk 0 p.1 then some (rgD 0 p.1, p.2) else none
def rg2I (f g : EF) : IF := fun ρ => (iE f ρ).bind fun p => (iE g p.2).bind fun q => if rgOk p.1 q.1 then some (rgD p.1 q.1, q.2) else none
def rvI (f : VF) : IF := fun ρ => (f ρ).bind fun p => match p.1 with
  | .list ds => some (ds.reverse, p.2)
  | .tuple ds => some (ds.reverse, p.2)
  | _ => none
section
variable {X : Cx} {tg e e2 : Expr} {te te2 : TE} {f : VF} {fe fe2 : EF} {w1 w2 : TI} {p pos : Pos}
theorem pi_or (h1 : PI X tg e w1) (h2 : PI X tg e w2) : PI X tg e (fun σ H R => w1 σ H R ∨ w2 σ H R) := by
  refine ⟨?_⟩
  intro pins s σ H R I h
  rcases h with h | h
  · exact h1.run pins s σ H R I h
  · exact h2.run pins s σ H R I h
theorem runs_list {K : PySem.W.Frag} {F : Hp} {a : Addr} {vs : List V} {ds : List D} (h1 : SqL K F a vs) (h2 : DpAll K F vs ds) : Runs K (Itl K a) ds F := by
  refine ⟨_, _, by rw [← da_length h2]; exact walk_list (xs := vs), fun F' H' s1 s2 => s2.seq (s1.seq h1), fun i H x H' y F' s1 s2 => ?_⟩
  obtain ⟨rfl, hx⟩ := y
  obtain ⟨d, g1, g2⟩ := da_getV h2 hx
  exact ⟨d, g1, F', .inl ⟨rfl, rfl⟩, dp_mono s1 g2⟩
theorem runs_tup {K : PySem.W.Frag} {F : Hp} {a : Addr} {vs : List V} {ds : List D} (h1 : SqT K F a vs) (h2 : DpAll K F vs ds) : Runs K (Itt K a) ds F := by
  refine ⟨_, _, by rw [← da_length h2]; exact walk_tup (xs := vs), fun F' H' s1 s2 => seqT s2 (seqT s1 h1), fun i H x H' y F' s1 s2 => ?_⟩
  obtain ⟨rfl, hx⟩ := y
  obtain ⟨d, g1, g2⟩ := da_getV h2 hx
  exact ⟨d, g1, F', .inl ⟨rfl, rfl⟩, dp_mono s1 g2⟩
theorem runs_str {K : PySem.W.Frag} {F : Hp} {z : Str} : Runs K (Its z) (chD z) F := by
  refine ⟨_, _, by unfold chD; rw [List.length_map, Array.length_toList]; exact walk_str (z := z), fun _ _ _ _ => trivial, fun i H x H' y F' s1 s2 => ?_⟩
  obtain ⟨rfl, c, hc, rfl⟩ := y
  refine ⟨.str ⟨#[c]⟩, ?_, F', .inl ⟨rfl, rfl⟩, .str _⟩
  unfold chD
  rw [List.getElem?_map, Array.getElem?_toList, hc]
  rfl
theorem runs_range {K : PySem.W.Frag} {F : Hp} {a b : Int} : Runs K (Itr a (b - a).toNat) (rgD a b) F := by
  have hl : (rgD a b).length = (b - a).toNat := by unfold rgD; rw [List.length_map, List.length_range]
  have hw : Walk (Itr a (b - a).toNat) (rgD a b).length (fun _ => True) (fun i H x H' => i < (b - a).toNat ∧ (H' = H ∧ x = .int (a + i))) := by
    rw [hl]
    exact ⟨fun i H h _ => h, fun _ _ => Nat.le_refl _, fun i H x H' h _ y => ⟨h, y⟩⟩
  refine ⟨_, _, hw, fun _ _ _ _ => trivial, fun i H x H' y F' s1 s2 => ?_⟩
  obtain ⟨hi, rfl, rfl⟩ := y
  refine ⟨.int (a + i), ?_, F', .inl ⟨rfl, rfl⟩, .int _⟩
  unfold rgD
  rw [List.getElem?_map, List.getElem?_range hi]
  rfl
theorem di_seq (h : DV K wd X e te f) : DI K wd X tg e (fun σ H R => iList K te σ H R ∨ iTup K te σ H R ∨ iStr te σ H R) (sqI f) := by
  refine ⟨fun hk hw => by subst hk hw; exact pi_or (pi_list (h.pe rfl rfl)) (pi_or (pi_tup (h.pe rfl rfl)) (pi_str (h.pe rfl rfl))), fun ρ σ fp F H ds ρ' R s e q => ?_⟩
  obtain ⟨⟨d, ρ1⟩, e1, e2⟩ := Option.bind_eq_some_iff.mp e
  obtain ⟨ds', e3, e4⟩ := Option.map_eq_some_iff.mp e2
  cases e4
  cases d with
  | list ds =>
    cases e3
    refine .inl (h.dn ρ σ fp F H _ ρ1 _ s e1 fun fp1 F1 H1 x s1 x1 k1 => ?_)
    obtain ⟨a, vs, rfl, h1, h2⟩ := dp_lst k1
    exact ⟨a, rfl, ⟨vs, s1.same.seq h1⟩, q fp1 F1 H1 _ s1 x1 (runs_list h1 h2)⟩
  | tuple ds =>
    cases e3
    refine .inr (.inl (h.dn ρ σ fp F H _ ρ1 _ s e1 fun fp1 F1 H1 x s1 x1 k1 => ?_))
    obtain ⟨a, vs, rfl, h1, h2⟩ := dp_tup k1
    exact ⟨a, rfl, ⟨vs, seqT s1.same h1⟩, q fp1 F1 H1 _ s1 x1 (runs_tup h1 h2)⟩
  | str z =>
    cases e3
    refine .inr (.inr (h.dn ρ σ fp F H _ ρ1 _ s e1 fun fp1 F1 H1 x s1 x1 k1 => ?_))
    exact ⟨z, dp_str k1, q fp1 F1 H1 _ s1 x1 runs_str⟩
  | _ => cases e3
theorem di_rg1 (hm : X.mg "range" = none) (h : DE K wd X e te fe) (hg : Gl X "range" := by rfl) (he : starEach [e] X.env = (false, eval e X.env) :: starEach [] X.env := by rfl) (hs : starEach [e] X.env = [(false, eval e X.env)] := by rfl) :
    DI K wd X tg (.Call (.Name "range" p) [e] [] pos) (iRng1 (tCons te tNil)) (rg1I fe) := by
  refine ⟨fun hk hw => by subst hk hw; exact pi_range1 hg hm (pa_cons (h.pe rfl rfl) pa_nil he) hs, fun ρ σ fp F H ds ρ' R s e q => ?_⟩
  obtain ⟨⟨i, ρ1⟩, e1, e2⟩ := Option.bind_eq_some_iff.mp e
  split at e2
  · rename_i hz
    cases e2
    have hz' := of_decide_eq_true hz
    refine iE_ok h.dn s e1 fun fp1 F1 H1 s1 x1 => ⟨i, rfl, by omega, by omega, q fp1 F1 H1 _ s1 x1 ?_⟩
    have := runs_range (K := K) (F := F1) (a := 0) (b := i)
    rwa [Int.sub_zero] at this
  · cases e2
theorem di_rg2 (hm : X.mg "range" = none) (h : DE K wd X e te fe) (h2 : DE K wd X e2 te2 fe2) (hg : Gl X "range" := by rfl) (he : starEach [e, e2] X.env = (false, eval e X.env) :: starEach [e2] X.env := by rfl) (he2 : starEach [e2] X.env = (false, eval e2 X.env) :: starEach [] X.env := by rfl)
    (hs : starEach [e, e2] X.env = [(false, eval e X.env), (false, eval e2 X.env)] := by rfl) (hs2 : starEach [e2] X.env = [(false, eval e2 X.env)] := by rfl) :
    DI K wd X tg (.Call (.Name "range" p) [e, e2] [] pos) (iRng2 (tCons te (tCons te2 tNil))) (rg2I fe fe2) := by
  refine ⟨fun hk hw => by subst hk hw; exact pi_range2 hg hm (pa_cons (h.pe rfl rfl) (pa_cons (h2.pe rfl rfl) pa_nil he2) he) hs hs2, fun ρ σ fp F H ds ρ' R s e q => ?_⟩
  obtain ⟨⟨i, ρ1⟩, e1, e2⟩ := Option.bind_eq_some_iff.mp e
  obtain ⟨⟨j, ρ2⟩, e3, e4⟩ := Option.bind_eq_some_iff.mp e2
  split at e4
  · rename_i hz
    cases e4
    have hz' := of_decide_eq_true hz
    dsimp only at hz'
    refine iE_ok h.dn s e1 fun fp1 F1 H1 s1 x1 => iE_ok h2.dn s1 e3 fun fp2 F2 H2 s2 x2 => ⟨i, j, rfl, by omega, q fp2 F2 H2 _ s2 (x1.trans x2) runs_range⟩
  · cases e4
theorem rev_get {ds : List D} {i : Nat} (hi : i < ds.length) : ds.reverse[i]? = ds[ds.length - 1 - i]? := List.getElem?_reverse hi
theorem di_rev (hm : X.mg "reversed" = none) (h : DV K wd X e te f) (hg : Gl X "reversed" := by rfl) (he : starEach [e] X.env = (false, eval e X.env) :: starEach [] X.env := by rfl) :
    DI K wd X tg (.Call (.Name "reversed" p) [e] [] pos) (iRevA K te) (rvI f) := by
  refine ⟨fun hk hw => by subst hk hw; exact pi_revA hg hm (h.pe rfl rfl) he, fun ρ σ fp F H ds ρ' R s e q => ?_⟩
  obtain ⟨⟨d, ρ1⟩, e1, e2⟩ := Option.bind_eq_some_iff.mp e
  refine h.dn ρ σ fp F H d ρ1 _ s e1 fun fp1 F1 H1 x s1 x1 k1 => ?_
  dsimp only at e2
  split at e2
  · rename_i ds0
    cases e2
    obtain ⟨a, vs, rfl, h1, h2⟩ := dp_lst k1
    refine ⟨a, vs, rfl, .inl ⟨s1.same.seq h1, q fp1 F1 H1 _ s1 x1 ?_⟩⟩
    refine ⟨fun H => SqL K H a vs, fun i H x H' => i < vs.length ∧ (H' = H ∧ vs[vs.length - 1 - i]? = some x), ?_, fun F' H' s1 s2 => s2.seq (s1.seq h1), fun i H x H' y F' s1 s2 => ?_⟩
    · rw [List.length_reverse, ← da_length h2]
      exact (walk_rev (K := K) (a := a) (xs := vs)).mono (fun _ h => h) fun i H x H' hi _ y => ⟨hi, y⟩
    · obtain ⟨hi, rfl, hx⟩ := y
      obtain ⟨d, g1, g2⟩ := da_getV h2 hx
      rw [da_length h2] at hi g1
      exact ⟨d, by rw [rev_get hi]; exact g1, F', .inl ⟨rfl, rfl⟩, dp_mono s1 g2⟩
  · rename_i ds0
    cases e2
    obtain ⟨a, vs, rfl, h1, h2⟩ := dp_tup k1
    refine ⟨a, vs, rfl, .inr ⟨seqT s1.same h1, q fp1 F1 H1 _ s1 x1 ?_⟩⟩
    refine ⟨fun H => SqT K H a vs, fun i H x H' => i < vs.length ∧ (H' = H ∧ vs[vs.length - 1 - i]? = some x), ?_, fun F' H' s1 s2 => seqT s2 (seqT s1 h1), fun i H x H' y F' s1 s2 => ?_⟩
    · rw [List.length_reverse, ← da_length h2]
      exact ⟨fun i _ hi q => ⟨hi, vs, vs[vs.length - 1 - i]'(by omega), q, by simp [show vs.length - 1 - i < vs.length by omega]⟩, fun _ _ => Nat.le_refl _, fun i _ _ _ hi q y => ⟨hi, y.1, y.2 vs q⟩⟩
    · obtain ⟨hi, rfl, hx⟩ := y
      obtain ⟨d, g1, g2⟩ := da_getV h2 hx
      rw [da_length h2] at hi g1
      exact ⟨d, by rw [rev_get hi]; exact g1, F', .inl ⟨rfl, rfl⟩, dp_mono s1 g2⟩
  · cases e2
end
end Mm
namespace Mm
open PySem L2

/-! ### for -/
def loopS (G : GF) (b : SF) : List D → SF
  | [], ρ => some (.nx ρ)
  | d :: ds, ρ => (G d ρ).bind fun ρ1 => (b ρ1).bind fun fl => match fl with
    | .nx ρ' => loopS G b ds ρ'
    | .ct ρ' => loopS G b ds ρ'
    | .bk ρ' => some (.nx ρ')
    | .rt r ρ' => some (.rt r ρ')
def forS (f : IF) (G : GF) (b : SF) : SF := fun ρ => (f ρ).bind fun p => loopS G b p.1 p.2
section
variable {X : Cx} {w w2 : List Nat} {tg it : Expr} {wi : TI} {f : IF} {g : TG} {G : GF} {body : List Stmt} {t : TS} {b : SF} {pos : Pos} {c : Expr} {tc : TT} {ft : TF}
theorem ds_for (hp : PassesOwn (model X.prog wd) X.A X.env X.xe) (hc : X.calm = true) (hi : DI K wd X tg it wi f) (hg : DG K wd X w tg g G) (hb : DSs K wd X w2 body t b)
    (hs : ∀ x, foldedSetIterable it X.env x = pure x := by intro _; rfl) : DS K wd X (w ++ w2) (.For tg it body [] pos) (tFor wi g t) (forS f G b) := by
  refine ⟨fun hk hw => by subst hk hw; exact ps_for hp hc (hi.pe rfl rfl) (hg.pe rfl rfl) (hb.pe rfl rfl) hs, fun ρ σ fp F H fl dn s e q => ?_⟩
  obtain ⟨⟨ds, ρ1⟩, e1, e2⟩ := Option.bind_eq_some_iff.mp e
  refine hi.dn ρ σ fp F H ds ρ1 _ s e1 fun fp1 F1 H1 J s1 x1 ⟨GG, Y, wk, hG, hY⟩ => ?_
  refine for_it wk (fun i σ' H' => ∃ ρ' fp' F', S0 K ρ' σ' fp' F' H' ∧ Ext fp1 F1 H1 fp' F' H' ∧ (∀ j, j ∉ w ++ w2 → σ'[j]? = σ[j]?) ∧ loopS G b (ds.drop i) ρ' = some fl)
    ⟨ρ1, fp1, F1, s1, .refl, fun _ _ => rfl, by rw [List.drop_zero]; exact e2⟩ (fun i σ' H' hi ⟨ρ', fp', F', s', x', w', e'⟩ => hG F' H' x'.fF s'.same) (fun i x σ' H' H'' hlt ⟨ρ', fp', F', s', x', w', e'⟩ y => ?_) (fun σ' H' ⟨ρ', fp', F', s', x', w', e'⟩ => ?_)
  · obtain ⟨d, hd, F'', gr, hx⟩ := hY i H' x H'' y F' x'.fF s'.same
    obtain ⟨s2, x2⟩ := s'.grow gr
    rw [List.drop_eq_getElem_cons hlt] at e'
    have hd' : ds[i] = d := by
      rw [List.getElem?_eq_getElem hlt] at hd
      exact Option.some.inj hd
    rw [hd'] at e'
    obtain ⟨ρ3, e3, e4⟩ := Option.bind_eq_some_iff.mp e'
    obtain ⟨fl1, e5, e6⟩ := Option.bind_eq_some_iff.mp e4
    refine hg.dn ρ' σ' fp' F'' H'' d x ρ3 _ s2 hx e3 fun σ3 fp3 F3 H3 s3 x3 _ w3 => ?_
    have x13 := (x'.trans x2).trans x3
    have w13 : ∀ j, j ∉ w ++ w2 → σ3[j]? = σ[j]? := fun j z => by
      rw [w3 j fun y => z (List.mem_append_left _ y), w' j z]
    refine hb.dn ρ3 σ3 fp3 F3 H3 fl1 _ s3 e5 ?_
    have ww : ∀ {σ4 : St}, (∀ j, j ∉ w2 → σ4[j]? = σ3[j]?) → ∀ j, j ∉ w ++ w2 → σ4[j]? = σ[j]? := fun h j z => by
      rw [h j fun y => z (List.mem_append_right _ y), w13 j z]
    cases fl1 with
    | nx ρ4 => exact fun σ4 fp4 F4 H4 s4 x4 w4 => ⟨ρ4, fp4, F4, s4, x13.trans x4, ww w4, e6⟩
    | ct ρ4 => exact fun σ4 fp4 F4 H4 s4 x4 w4 => ⟨ρ4, fp4, F4, s4, x13.trans x4, ww w4, e6⟩
    | bk ρ4 => cases e6; exact fun σ4 fp4 F4 H4 s4 x4 w4 => q σ4 fp4 F4 H4 s4 ((x1.trans x13).trans x4) (ww w4)
    | rt r ρ4 => cases e6; exact fun σ4 fp4 F4 H4 y4 s4 x4 w4 k4 => q σ4 fp4 F4 H4 y4 s4 ((x1.trans x13).trans x4) (ww w4) (k4.base fun c => (x1.trans x13).none_back)
  · rw [List.drop_length] at e'
    cases e'
    exact q σ' fp' F' H' s' (x1.trans x') w'

/-! ### while -/
def whileR (c : TF) (b : SF) : Nat → SF
  | 0, _ => none
  | n + 1, ρ => (c ρ).bind fun p => if p.1 then (b p.2).bind fun fl => match fl with
    | .nx ρ' => whileR c b n ρ'
    | .ct ρ' => whileR c b n ρ'
    | .bk ρ' => some (.nx ρ')
    | .rt r ρ' => some (.rt r ρ')
    else some (.nx p.2)
def FUEL : Nat := 1000000000000
def whileS (c : TF) (b : SF) : SF := whileR c b FUEL
theorem whileR_mono {c : TF} {b : SF} : ∀ {n m : Nat} {ρ : Rho} {fl : Fl}, n ≤ m → whileR c b n ρ = some fl → whileR c b m ρ = some fl
  | 0, _, _, _, _, e => by cases e
  | n + 1, 0, _, _, h, _ => absurd h (by omega)
  | n + 1, m + 1, ρ, fl, h, e => by
    rw [whileR] at e ⊢
    obtain ⟨p, e1, e2⟩ := Option.bind_eq_some_iff.mp e
    rw [e1]
    show (if p.1 = true then _ else _) = some fl
    split at e2
    · rename_i hp
      rw [if_pos hp]
      obtain ⟨fl1, e3, e4⟩ := Option.bind_eq_some_iff.mp e2
      rw [e3]
      cases fl1 with
      | nx ρ' => exact whileR_mono (by omega) e4
      | ct ρ' => exact whileR_mono (by omega) e4
      | bk ρ' => exact e4
      | rt r ρ' => exact e4
    · rename_i hp
      rw [if_neg hp]
      exact e2
theorem ds_while (hp : PassesOwn (model X.prog wd) X.A X.env X.xe) (hc : DT K wd X c tc ft) (hb : DSs K wd X w2 body t b) : DS K wd X w2 (.While c body [] pos) (tWhile tc t) (whileS ft b) := by
  refine ⟨fun hk hw => by subst hk hw; exact ps_while hp (hc.pe rfl rfl) (hb.pe rfl rfl), fun ρ σ fp F H fl dn s e q => ?_⟩
  refine ⟨fun m σ' H' => ∃ ρ' fp' F', S0 K ρ' σ' fp' F' H' ∧ Ext fp F H fp' F' H' ∧ (∀ j, j ∉ w2 → σ'[j]? = σ[j]?) ∧ whileR ft b m ρ' = some fl, ⟨FUEL, ρ, fp, F, s, .refl, fun _ _ => rfl, e⟩, ?_⟩
  rintro m σ1 H1 ⟨ρ1, fp1, F1, s1, x1, w1, e1⟩
  cases m with
  | zero => cases e1
  | succ m =>
    obtain ⟨⟨k, ρ2⟩, e2, e3⟩ := Option.bind_eq_some_iff.mp e1
    refine hc.dn ρ1 σ1 fp1 F1 H1 k ρ2 _ s1 e2 fun fp2 F2 H2 s2 x2 => ?_
    have x12 := x1.trans x2
    cases k with
    | false => rw [if_neg Bool.false_ne_true]; cases e3; exact q σ1 fp2 F2 H2 s2 x12 w1
    | true =>
      rw [if_pos rfl]
      obtain ⟨fl1, e5, e6⟩ := Option.bind_eq_some_iff.mp e3
      refine ⟨fun σ' H' => ∃ ρ' fp' F', S0 K ρ' σ' fp' F' H' ∧ Ext fp F H fp' F' H' ∧ (∀ j, j ∉ w2 → σ'[j]? = σ[j]?) ∧ whileR ft b m ρ' = some fl, fun σ' H' h => ⟨m, Nat.lt_succ_self m, h⟩, ?_⟩
      refine hb.dn ρ2 σ1 fp2 F2 H2 fl1 _ s2 e5 ?_
      have ww : ∀ {σ4 : St}, (∀ j, j ∉ w2 → σ4[j]? = σ1[j]?) → ∀ j, j ∉ w2 → σ4[j]? = σ[j]? := fun h j z => by rw [h j z, w1 j z]
      cases fl1 with
      | nx ρ4 => exact fun σ4 fp4 F4 H4 s4 x4 w4 => ⟨ρ4, fp4, F4, s4, x12.trans x4, ww w4, e6⟩
      | ct ρ4 => exact fun σ4 fp4 F4 H4 s4 x4 w4 => ⟨ρ4, fp4, F4, s4, x12.trans x4, ww w4, e6⟩
      | bk ρ4 => cases e6; exact fun σ4 fp4 F4 H4 s4 x4 w4 => q σ4 fp4 F4 H4 s4 (x12.trans x4) (ww w4)
      | rt r ρ4 => cases e6; exact fun σ4 fp4 F4 H4 y4 s4 x4 w4 k4 => q σ4 fp4 F4 H4 y4 s4 (x12.trans x4) (ww w4) (k4.base fun c => x12.none_back)
end

/-! ### list comprehensions -/
def wipeR (ρ : Rho) : List Nat → Rho
  | [] => ρ
  | v :: vs => (wipeR ρ vs).set v none
def isV : Option (Option O) → Bool
  | some (some (.v _)) => true
  | some (some _) => false
  | _ => true
def rest1 (ρ0 : Rho) (v : Nat) (ρ : Rho) : Rho := ρ.set v (ρ0[v]?.getD none)
def restR (ρ0 : Rho) : List Nat → Rho → Rho
  | [], ρ => ρ
  | v :: vs, ρ => restR ρ0 vs (rest1 ρ0 v ρ)
section
variable {K : PySem.W.Frag} {F F' H H' : Hp} {σ σ' : St} {ρ ρ' ρ0 : Rho} {fp : List Addr}
theorem wipeR_len (ρ : Rho) : ∀ vs : List Nat, (wipeR ρ vs).length = ρ.length
  | [] => rfl
  | v :: vs => by rw [wipeR, List.length_set, wipeR_len ρ vs]
theorem own_none (h : OwnE K F H σ ρ fp) (v : Nat) : ∃ fp', OwnE K F H (σ.set v none) (ρ.set v none) fp' ∧ ∀ a ∈ fp', a ∈ fp := by
  by_cases hv : v < ρ.length
  · obtain ⟨fa, f, fb, ef, _, _, g⟩ := h.split hv
    refine ⟨fa ++ fb, (g F H (Same.refl F) fun a z => ⟨rfl, (h.there a ?_).1⟩).1 none, fun a z => ?_⟩
    all_goals
      subst ef
      simp only [List.mem_append] at z ⊢
      rcases z with z | z
      · exact .inl (.inl z)
      · exact .inr z
  · rw [List.set_eq_of_length_le (by rw [h.len]; omega), List.set_eq_of_length_le (by omega)]
    exact ⟨fp, h, fun _ z => z⟩
theorem own_wipe (h : OwnE K F H σ ρ fp) : ∀ vs : List Nat, ∃ fp', OwnE K F H (wipe σ vs) (wipeR ρ vs) fp' ∧ ∀ a ∈ fp', a ∈ fp
  | [] => ⟨fp, h, fun _ z => z⟩
  | v :: vs => by
    obtain ⟨fp1, h1, k1⟩ := own_wipe h vs
    obtain ⟨fp2, h2, k2⟩ := own_none h1 v
    exact ⟨fp2, h2, fun a z => k1 a (k2 a z)⟩
theorem S0.wipe (s : S0 K ρ σ fp F H) (vs : List Nat) : ∃ fp', S0 K (wipeR ρ vs) (L2.wipe σ vs) fp' F H ∧ ∀ a ∈ fp', a ∈ fp := by
  obtain ⟨fp', h, k⟩ := own_wipe s.own vs
  exact ⟨fp', ⟨s.same, h⟩, k⟩
theorem wipe_ne (σ : St) : ∀ {vs : List Nat} {v : Nat}, v ∉ vs → (wipe σ vs)[v]? = σ[v]?
  | [], _, _ => rfl
  | u :: vs, v, h => by
    simp only [List.mem_cons, not_or] at h
    rw [wipe, List.getElem?_set_ne (fun z => h.1 z.symm), wipe_ne σ h.2]
theorem set_set {α : Type} : ∀ (l : List α) (i : Nat) (x y : α), (l.set i x).set i y = l.set i y
  | [], _, _, _ => rfl
  | a :: l, 0, _, _ => rfl
  | a :: l, i + 1, x, y => by rw [List.set_cons_succ, List.set_cons_succ, List.set_cons_succ, set_set]
theorem own_put (h : OwnE K F H σ ρ fp) {v : Nat} {y : Option V} {o : Option O} (hv : v < ρ.length) (hy : ∀ u, o = some u → ∃ x, y = some x ∧ Own K F H x u []) : ∃ fp', OwnE K F H (σ.set v y) (ρ.set v o) fp' ∧ ∀ a ∈ fp', a ∈ fp := by
  obtain ⟨fa, f, fb, ef, _, _, g⟩ := h.split hv
  have sub : ∀ a ∈ fa ++ fb, a ∈ fp := fun a z => by
    subst ef
    simp only [List.mem_append] at z ⊢
    rcases z with z | z
    · exact .inl (.inl z)
    · exact .inr z
  have gg := g F H (Same.refl F) fun a z => ⟨rfl, (h.there a (sub a z)).1⟩
  cases o with
  | none => exact ⟨_, gg.1 y, sub⟩
  | some u =>
    obtain ⟨x, rfl, ho⟩ := hy u rfl
    refine ⟨_, gg.2 x u [] ho (fun a z => nomatch z), fun a z => sub a ?_⟩
    simpa using z
/-- the slots vs of ρ0 hold nothing that is owned -/
def OldV (K : PySem.W.Frag) (F : Hp) (σ : St) (ρ0 : Rho) (vs : List Nat) : Prop := ∀ v ∈ vs, v < ρ0.length ∧ ∀ u, ρ0[v]? = some (some u) → ∃ x, σ[v]? = some (some x) ∧ ∃ d, u = .v d ∧ Dp K F x d
theorem own_rest {ρ0 : Rho} : ∀ {vs : List Nat} {ρ : Rho} {fp : List Addr}, vs.Nodup → OldV K F σ ρ0 vs → ρ.length = σ.length → ρ0.length = σ.length → OwnE K F H (wipe σ vs) ρ fp → ∃ fp', OwnE K F H σ (restR ρ0 vs ρ) fp' ∧ ∀ a ∈ fp', a ∈ fp
  | [], _, fp, _, _, _, _, h => ⟨fp, h, fun _ z => z⟩
  | v :: vs, ρ, fp, nd, old, hl, hl0, h => by
    rw [List.nodup_cons] at nd
    obtain ⟨hv, ho⟩ := old v List.mem_cons_self
    have hv' : v < σ.length := by rw [← hl0]; exact hv
    obtain ⟨y, hy⟩ : ∃ y, σ[v]? = some y := ⟨_, List.getElem?_eq_getElem hv'⟩
    obtain ⟨fp1, h1, k1⟩ := own_put (v := v) (y := y) (o := ρ0[v]?.getD none) h (by rw [hl]; exact hv') fun u hu => by
      have e0 : ρ0[v]? = some (some u) := by
        cases q : ρ0[v]? with
        | none => rw [q] at hu; cases hu
        | some w => rw [q] at hu; exact congrArg some hu
      obtain ⟨x, hx, d, rfl, hd⟩ := ho u e0
      rw [hy] at hx
      cases hx
      exact ⟨x, rfl, .v hd⟩
    have e1 : (wipe σ (v :: vs)).set v y = wipe σ vs := by
      rw [wipe, set_set, set_self]
      rw [wipe_ne σ nd.1]
      exact hy
    rw [e1] at h1
    obtain ⟨fp2, h2, k2⟩ := own_rest (ρ := rest1 ρ0 v ρ) nd.2 (fun u hu => old u (List.mem_cons_of_mem _ hu)) (by unfold rest1; rw [List.length_set]; exact hl) hl0 h1
    exact ⟨fp2, h2, fun a z => k1 a (k2 a z)⟩
theorem isV_old {vs : List Nat} (s : S0 K ρ σ fp F H) (h : (vs.all fun v => decide (v < ρ.length) && isV ρ[v]?) = true) : OldV K F σ ρ vs := fun v hv => by
  have := List.all_eq_true.mp h v hv
  rw [Bool.and_eq_true_iff] at this
  refine ⟨of_decide_eq_true this.1, fun u hu => ?_⟩
  obtain ⟨x, f, hx, ho, _⟩ := s.slot hu
  have h2 := this.2
  rw [hu] at h2
  cases ho with
  | v hd => exact ⟨x, hx, _, rfl, hd⟩
  | l _ _ _ => cases h2
  | c _ _ _ _ => cases h2
  | k _ _ _ => cases h2
  | t _ _ _ => cases h2
theorem wipe_eq {vs w : List Nat} (hw : ∀ j ∈ w, j ∈ vs) (hl : σ'.length = (wipe σ vs).length) (h : ∀ j, j ∉ w → σ'[j]? = (wipe σ vs)[j]?) : wipe σ' vs = wipe σ vs := by
  have len : ∀ τ : St, (wipe τ vs).length = τ.length := fun τ => wipe_length τ vs
  have inn : ∀ (τ : St) {us : List Nat} {j : Nat}, j ∈ us → j < τ.length → (wipe τ us)[j]? = some none := by
    intro τ us
    induction us with
    | nil => intro j z; cases z
    | cons u us ih =>
      intro j z hj
      rw [wipe]
      by_cases e : u = j
      · subst e
        rw [List.getElem?_set_self (by rw [wipe_length]; exact hj)]
      · rw [List.getElem?_set_ne e]
        rcases List.mem_cons.mp z with z | z
        · exact absurd z.symm e
        · exact ih z hj
  refine List.ext_getElem? fun j => ?_
  have hl' : σ'.length = σ.length := by rw [hl, len]
  by_cases hj : j ∈ vs
  · by_cases hlt : j < σ.length
    · rw [inn σ' hj (by omega), inn σ hj hlt]
    · rw [List.getElem?_eq_none (by rw [len]; omega), List.getElem?_eq_none (by rw [len]; omega)]
  · rw [wipe_ne σ' hj, h j fun z => hj (hw j z)]
end
/-- the turns of a comprehension: the list so far, the slots (the block's own ones wiped ahead of each turn) -/
def lcL (vs : List Nat) (G : GF) (T : TF) (e : VF) : List D → List D → Rho → Option (List D × Rho)
  | [], acc, ρ => some (acc, ρ)
  | d :: ds, acc, ρ => (G d ρ).bind fun ρ1 => (T ρ1).bind fun t => if t.1 then (e t.2).bind fun y => if acc.length < sizeLine then lcL vs G T e ds (acc ++ [y.1]) (wipeR y.2 vs) else none
    else lcL vs G T e ds acc (wipeR t.2 vs)
def lcE (f : IF) (vs : List Nat) (G : GF) (T : TF) (e : VF) : EF := fun ρ => (f ρ).bind fun p => if (vs.all fun v => decide (v < p.2.length) && isV p.2[v]?) then
    (lcL vs G T e p.1 [] (wipeR p.2 vs)).map fun r => (.o (.l r.1), restR p.2 vs r.2) else none
def yesT : TF := fun ρ => some (true, ρ)
structure DTs (K : PySem.W.Frag) (wd : World) (X : Cx) (es : List Expr) (t : TT) (f : TF) : Prop where
  pe : X.K = K → X.w = wd → PTs X es t
  dn : DTx K t f
theorem dts_nil {X : Cx} : DTs K wd X [] tYes yesT := ⟨fun hk hw => by subst hk hw; exact pts_nil, fun ρ σ fp F H b ρ' Q s e q => by cases e; exact q fp F H s .refl⟩
theorem dts_one {X : Cx} {c : Expr} {t : TT} {f : TF} (h : DT K wd X c t f) : DTs K wd X [c] t f := ⟨fun hk hw => by subst hk hw; exact pts_one (h.pe rfl rfl), h.dn⟩
theorem dx_lc {K : PySem.W.Frag} {wi : TI} {f : IF} {g : TG} {G : GF} {tt : TT} {T : TF} {te : TE} {e : VF} {vs w : List Nat} (nd : vs.Nodup) (hw : ∀ j ∈ w, j ∈ vs)
    (hi : ∀ (ρ : Rho) (σ : St) (fp : List Addr) (F H : Hp) (ds : List D) (ρ' : Rho) (R : It → Hp → Prop), S0 K ρ σ fp F H → f ρ = some (ds, ρ') → (∀ fp' F' H' J, S0 K ρ' σ fp' F' H' → Ext fp F H fp' F' H' → Runs K J ds F' → R J H') → wi σ H R)
    (hg : DGx K w g G) (ht : DTx K tt T) (he : DVx K te e) : DEx K (tLc wi g tt te vs) (lcE f vs G T e) := by
  intro ρ σ fp F H r ρ' Q s ee q
  obtain ⟨⟨ds, ρ1⟩, e1, e2⟩ := Option.bind_eq_some_iff.mp ee
  dsimp only at e2
  split at e2
  · rename_i hv
    obtain ⟨⟨out, ρ2⟩, e3, e4⟩ := Option.map_eq_some_iff.mp e2
    cases e4
    refine hi ρ σ fp F H ds ρ1 _ s e1 fun fp1 F1 H1 J s1 x1 ⟨GG, Y, wk, hG, hY⟩ => ?_
    intro D hD
    have old := isV_old s1 hv
    obtain ⟨hF1, hf1⟩ := s1.none_of hD
    obtain ⟨fpw, sw, subw⟩ := s1.wipe vs
    have hDw : D ∉ fpw := fun z => hf1 (subw D z)
    refine lc_it wk (fun i H' => ∃ acc va ρ' fp' F', S0 K ρ' (wipe σ vs) fp' F' H' ∧ Ext fpw F1 H1 fp' F' H' ∧ H' D = some (.lst va) ∧ DpAll K F' va acc ∧ F' D = none ∧ D ∉ fp' ∧ lcL vs G T e (ds.drop i) acc ρ' = some (out, ρ2)) ?_ ?_ ?_ ?_
    · obtain ⟨s2, x2, n1, n2⟩ := alloc_own sw hD (.lst [])
      exact ⟨[], [], _, fpw, F1, s2, x2, upd_same, .nil, n1, n2, by rw [List.drop_zero]; exact e3⟩
    · rintro i H' hi ⟨acc, va, ρ', fp', F', s', x', _⟩
      exact hG F' H' x'.fF s'.same
    · rintro i x H' H'' hlt ⟨acc, va, ρ', fp', F', s', x', hva, hac, hFD, hfD, e'⟩ y
      obtain ⟨d, hd, F'', gr, hx⟩ := hY i H' x H'' y F' x'.fF s'.same
      obtain ⟨s2, x2⟩ := s'.grow gr
      rw [List.drop_eq_getElem_cons hlt] at e'
      have hd' : ds[i] = d := by
        rw [List.getElem?_eq_getElem hlt] at hd
        exact Option.some.inj hd
      rw [hd'] at e'
      obtain ⟨ρ3, e5, e6⟩ := Option.bind_eq_some_iff.mp e'
      obtain ⟨⟨k, ρ4⟩, e7, e8⟩ := Option.bind_eq_some_iff.mp e6
      refine hg ρ' _ fp' F'' H'' d x ρ3 _ s2 hx e5 fun σ3 fp3 F3 H3 s3 x3 hl3 w3 => ?_
      refine ⟨wipe_eq hw hl3 w3, ?_⟩
      refine ht ρ3 σ3 fp3 F3 H3 k ρ4 _ s3 e7 fun fp4 F4 H4 s4 x4 => ?_
      have x24 := (x2.trans x3).trans x4
      have stayD : ∀ {fpz Fz Hz}, Ext fp' F' H' fpz Fz Hz → Hz D = some (.lst va) ∧ DpAll K Fz va acc ∧ Fz D = none ∧ D ∉ fpz := fun {fpz Fz Hz} xz => by
        refine ⟨xz.fH D _ hva hfD, da_mono xz.fF hac, ?_, fun z => ?_⟩
        · cases qq : Fz D with
          | none => rfl
          | some o =>
            rcases xz.fN D o qq with z | z | z
            · rw [hFD] at z; cases z
            · rw [hva] at z; cases z
            · exact absurd z hfD
        · rcases xz.fC D z with z | z
          · exact hfD z
          · rw [hva] at z; cases z
      cases k with
      | true =>
        rw [if_pos rfl]
        obtain ⟨⟨yd, ρ5⟩, e9, e10⟩ := Option.bind_eq_some_iff.mp e8
        split at e10
        · rename_i hsz
          refine he ρ4 σ3 fp4 F4 H4 yd ρ5 _ s4 e9 fun fp5 F5 H5 yv s5 x5 k5 => ?_
          have x25 := x24.trans x5
          obtain ⟨g1, g2, g3, g4⟩ := stayD x25
          refine ⟨va, g1, by rw [da_length g2]; exact hsz, acc ++ [yd], va ++ [yv], wipeR ρ5 vs, ?_⟩
          obtain ⟨fp6, s6, sub6⟩ := s5.wipe vs
          rw [wipe_eq hw hl3 w3] at s6
          have hn6 : D ∉ fp6 := fun z => g4 (sub6 D z)
          refine ⟨fp6, F5, ⟨fun a o z => ?_, s6.own.keep (Same.refl _) fun a z => ?_⟩, ?_, upd_same, da_append g2 (.cons k5 .nil), g3, hn6, e10⟩
          · by_cases qq : a = D
            · subst qq; rw [g3] at z; cases z
            · rw [upd_ne qq]; exact s5.same a o z
          · have qq : a ≠ D := fun qq => by subst qq; exact hn6 z
            rw [upd_ne qq]
            exact ⟨rfl, (s6.own.there a z).1⟩
          · have xx := x'.trans x25
            refine ⟨xx.fF, fun a o z za => ?_, fun a z => xx.fC a (sub6 a z), xx.fN, fun a z => ?_⟩
            · rw [upd_ne (ne_of_none z hD)]; exact xx.fH a o z za
            · have qq : a ≠ D := fun qq => by subst qq; exact z hD
              rw [upd_ne qq]; exact xx.dom a z
        · cases e10
      | false =>
        rw [if_neg Bool.false_ne_true]
        obtain ⟨g1, g2, g3, g4⟩ := stayD x24
        obtain ⟨fp6, s6, sub6⟩ := s4.wipe vs
        rw [wipe_eq hw hl3 w3] at s6
        have xx := x'.trans x24
        exact ⟨acc, va, wipeR ρ4 vs, fp6, F4, s6, ⟨xx.fF, xx.fH, fun a z => xx.fC a (sub6 a z), xx.fN, xx.dom⟩, g1, g2, g3, fun z => g4 (sub6 D z), e8⟩
    · rintro H' ⟨acc, va, ρ', fp', F', s', x', hva, hac, hFD, hfD, e'⟩
      rw [List.drop_length] at e'
      cases e'
      have l1 := s1.own.len
      have l2 := s'.own.len
      rw [wipe_length] at l2
      obtain ⟨fp2, h2, sub2⟩ := own_rest nd (fun v hv => ⟨(old v hv).1, fun u hu => by
        obtain ⟨x, hx, d, hu', hd⟩ := (old v hv).2 u hu
        exact ⟨x, hx, d, hu', dp_mono x'.fF hd⟩⟩) l2.symm l1.symm s'.own
      have x2 : Ext fp1 F1 H1 fp2 F' H' := ⟨x'.fF, fun a o z za => x'.fH a o z fun y => za (subw a y), fun a z => (x'.fC a (sub2 a z)).imp (subw a) id, fun a o z => (x'.fN a o z).imp id (Or.imp id (subw a)), x'.dom⟩
      refine q fp2 F' H' _ ⟨s'.same, h2⟩ (x1.trans x2) (.o (.l hFD hva hac) fun a z => ?_)
      rw [List.mem_singleton] at z
      subst z
      exact ⟨fun z => hfD (sub2 _ z), x1.none_back hD⟩
  · cases e2

section
variable {X : Cx} {elt tg iter : Expr} {ifs : List Expr} {scope : Scope} {own : List (Str × Nat)} {pos spos : Pos} {wi : TI} {g : TG} {tt : TT} {te : TE} {w : List Nat} {f : IF} {G : GF} {T : TF} {e : VF}
theorem de_lc (hc : X.calm = true) (hN : X.N.Nodup) (own : List (Str × Nat)) (ok : BlkOk X.N X.env.scope scope own) (nd : (own.map (·.2)).Nodup) (hw : ∀ j ∈ w, j ∈ own.map (·.2)) (hi : DI K wd X tg iter wi f)
    (hg : ∀ (s : Shared) (H : Hp) (C : Addr) (cl : List (Str × Addr)) (fp : List Addr), DG K wd (X.blk s H scope (compEnvC scope cl C X.env) fp) w tg g G)
    (ht : ∀ (s : Shared) (H : Hp) (C : Addr) (cl : List (Str × Addr)) (fp : List Addr), DTs K wd (X.blk s H scope (compEnvC scope cl C X.env) fp) ifs tt T)
    (he : ∀ (s : Shared) (H : Hp) (C : Addr) (cl : List (Str × Addr)) (fp : List Addr), DV K wd (X.blk s H scope (compEnvC scope cl C X.env) fp) elt te e) (hs : ∀ x, foldedSetIterable iter X.env x = pure x := by intro _; rfl) :
    DE K wd X (.ListComp elt [⟨tg, iter, ifs, 0⟩] scope pos) (tLc wi g tt te (own.map (·.2))) (lcE f (own.map (·.2)) G T e) :=
  ⟨fun hk hw => by subst hk hw; exact pe_lc hc hN (hi.pe rfl rfl) ok (fun s H C cl fp => (hg s H C cl fp).pe rfl rfl) (fun s H C cl fp => (ht s H C cl fp).pe rfl rfl) (fun s H C cl fp => (he s H C cl fp).pe rfl rfl) hs,
    dx_lc nd hw hi.dn (hg X.s_0 (fun _ => none) 0 [] []).dn (ht X.s_0 (fun _ => none) 0 [] []).dn (he X.s_0 (fun _ => none) 0 [] []).dn⟩
/-- name = [..] -/
theorem ds_setLc (i : Nat) {y : Str} {py : Pos} (hc : X.calm = true) (hN : X.N.Nodup) (hy : X.N[i]? = some y) (hyl : X.env.scope.names.lookup y = some .local)
    (hsw : swapsWith (.ListComp elt [⟨tg, iter, ifs, 0⟩] scope pos) (some (.Name y py)) spos.line X.env = pure true) (own : List (Str × Nat)) (ok : BlkOk X.N X.env.scope scope own) (nd : (own.map (·.2)).Nodup) (hw : ∀ j ∈ w, j ∈ own.map (·.2)) (hi : DI K wd X tg iter wi f)
    (hg : ∀ (s : Shared) (H : Hp) (C : Addr) (cl : List (Str × Addr)) (fp : List Addr), DG K wd (X.blk s H scope (compEnvC scope cl C X.env) fp) w tg g G)
    (ht : ∀ (s : Shared) (H : Hp) (C : Addr) (cl : List (Str × Addr)) (fp : List Addr), DTs K wd (X.blk s H scope (compEnvC scope cl C X.env) fp) ifs tt T)
    (he : ∀ (s : Shared) (H : Hp) (C : Addr) (cl : List (Str × Addr)) (fp : List Addr), DV K wd (X.blk s H scope (compEnvC scope cl C X.env) fp) elt te e) (hs : ∀ x, foldedSetIterable iter X.env x = pure x := by intro _; rfl) :
    DS K wd X [i] (.Assign [.Name y py] (.ListComp elt [⟨tg, iter, ifs, 0⟩] scope pos) spos) (tAsg (tLc wi g tt te (own.map (·.2))) (gName i)) (asS i (lcE f (own.map (·.2)) G T e)) := by
  refine ⟨fun hk hw => by subst hk hw; exact ps_setLc hc hN hy hyl hsw (hi.pe rfl rfl) ok (fun s H C cl fp => (hg s H C cl fp).pe rfl rfl) (fun s H C cl fp => (ht s H C cl fp).pe rfl rfl) (fun s H C cl fp => (he s H C cl fp).pe rfl rfl) hs, fun ρ σ fp F H fl dn s ee q => ?_⟩
  obtain ⟨⟨r, ρ1⟩, e1, e2⟩ := Option.bind_eq_some_iff.mp ee
  split at e2
  · rename_i hl
    obtain ⟨ρ2, e3, e4⟩ := Option.map_eq_some_iff.mp e2
    subst e4
    refine dx_lc nd hw hi.dn (hg X.s_0 (fun _ => none) 0 [] []).dn (ht X.s_0 (fun _ => none) 0 [] []).dn (he X.s_0 (fun _ => none) 0 [] []).dn ρ σ fp F H r ρ1 _ s e1 fun fp1 F1 H1 y s1 x1 k1 => ?_
    obtain ⟨fp2, F2, s2, x2⟩ := put_ok s1 k1 x1 hl e3
    refine q _ fp2 F2 H1 s2 x2 fun j z => ?_
    rw [List.getElem?_set_ne fun h => z (by rw [h]; exact List.mem_singleton.mpr rfl)]
  · cases e2
end
end Mm
namespace Mm
open PySem L2

/-! ### an owned object changes -/
section
variable {K : PySem.W.Frag} {F H : Hp} {σ : St} {ρ : Rho} {fp : List Addr} {i : Nat} {x : V}
theorem set_id {α : Type} {l : List α} {i : Nat} {y : α} (h : l[i]? = some y) : l.set i y = l := set_self h
/-- the slot i owns the list at a: it is rewritten -/
theorem mut_l (s : S0 K ρ σ fp F H) {ds ds' : List D} (e : ρ[i]? = some (some (.l ds))) {a : Addr} {vs vs' : List V} (hx : σ[i]? = some (some (.ref a))) (ha : H a = some (.lst vs)) (h : DpAll K F vs' ds') :
    S0 K (ρ.set i (some (.l ds'))) σ fp F (upd H a (.lst vs')) ∧ Ext fp F H fp F (upd H a (.lst vs')) := by
  obtain ⟨fa, f, fb, ef, dj, g1, g2⟩ := s.own.split (i := i) (List.getElem?_eq_some_iff.mp e).1
  obtain ⟨y, hy, ho⟩ := g1 _ e
  rw [hx] at hy
  cases hy
  cases ho with
  | l n q t =>
    have ina : a ∈ fp := by subst ef; simp
    have nota : ∀ b ∈ fa ++ fb, b ≠ a := fun b z y => by subst y; exact dj _ (List.mem_singleton.mpr rfl) z
    have sub : ∀ b ∈ fa ++ fb, b ∈ fp := fun b z => by
      subst ef
      simp only [List.mem_append] at z ⊢
      rcases z with z | z
      · exact .inl (.inl z)
      · exact .inr z
    have k := (g2 F (upd H a (.lst vs')) (Same.refl F) fun b z => ⟨upd_ne (nota b z), (s.own.there b (sub b z)).1⟩).2 (.ref a) (.l ds') [a] (.l n upd_same h) fun b z => by
      rw [List.mem_singleton] at z; subst z; exact dj _ (List.mem_singleton.mpr rfl)
    rw [set_id hx, ← ef] at k
    refine ⟨⟨fun b o z => ?_, k⟩, ⟨Same.refl F, fun b o z nb => ?_, fun b z => .inl z, fun b o z => .inl z, fun b z => ?_⟩⟩
    · have : b ≠ a := fun y => by subst y; rw [n] at z; cases z
      rw [upd_ne this]; exact s.same b o z
    · have : b ≠ a := fun y => by subst y; exact nb ina
      rw [upd_ne this]; exact z
    · by_cases y : b = a
      · subst y; rw [upd_same]; exact fun z => nomatch z
      · rw [upd_ne y]; exact z
theorem ownL_set : ∀ {vs : List V} {os : List O} {f : List Addr} {j : Nat} {o o' : O} {y : V}, OwnL K F H vs os f → os[j]? = some o → (∀ b, o = .v b → True) → Own K F H y o' [] →
    ∃ f', OwnL K F H (vs.set j y) (os.set j o') f' ∧ ∀ a ∈ f', a ∈ f
  | _, _, _, _, _, _, _, .nil, e, _, _ => by simp at e
  | _, _, _, 0, o, o', y, .cons h t d, e, _, k => ⟨_, .cons k t (fun a z => nomatch z), fun a z => List.mem_append_right _ (by simpa using z)⟩
  | _, _, _, j + 1, o, o', y, .cons h t d, e, hv, k => by
    obtain ⟨f', h1, h2⟩ := ownL_set (j := j) (o := o) t (by simpa using e) hv k
    refine ⟨_, .cons h h1 fun a z w => d a z (h2 a w), fun a z => ?_⟩
    rcases List.mem_append.mp z with z | z
    · exact List.mem_append_left _ z
    · exact List.mem_append_right _ (h2 a z)
/-- the slot i owns a list that owns: one of its items becomes a value -/
theorem mut_c (s : S0 K ρ σ fp F H) {os : List O} (e : ρ[i]? = some (some (.c os))) {a : Addr} {vs : List V} (hx : σ[i]? = some (some (.ref a))) (ha : H a = some (.lst vs)) {j : Nat} {o : O} (ho : os[j]? = some o) {y : V} {d : D} (h : Dp K F y d) :
    ∃ fp', S0 K (ρ.set i (some (.c (os.set j (.v d))))) σ fp' F (upd H a (.lst (vs.set j y))) ∧ Ext fp F H fp' F (upd H a (.lst (vs.set j y))) := by
  obtain ⟨fa, f, fb, ef, dj, g1, g2⟩ := s.own.split (i := i) (List.getElem?_eq_some_iff.mp e).1
  obtain ⟨y', hy, hown⟩ := g1 _ e
  rw [hx] at hy
  cases hy
  cases hown with
  | @c a vs0 os0 f0 n q t na =>
    rw [ha] at q
    cases q
    obtain ⟨f', t', sub'⟩ := ownL_set t ho (fun _ _ => trivial) (.v h)
    have ina : a ∈ fp := by subst ef; simp
    have nota : ∀ b ∈ fa ++ fb, b ≠ a := fun b z y => by subst y; exact dj _ List.mem_cons_self z
    have sub : ∀ b ∈ fa ++ fb, b ∈ fp := fun b z => by
      subst ef
      simp only [List.mem_append] at z ⊢
      rcases z with z | z
      · exact .inl (.inl z)
      · exact .inr z
    have t2 : OwnL K F (upd H a (.lst (vs.set j y))) (vs.set j y) (os.set j (.v d)) f' := t'.keep (Same.refl F) fun b z => by
      have : b ≠ a := fun w => by subst w; exact na (sub' _ z)
      exact ⟨upd_ne this, (t.there b (sub' b z)).1⟩
    have k := (g2 F (upd H a (.lst (vs.set j y))) (Same.refl F) fun b z => ⟨upd_ne (nota b z), (s.own.there b (sub b z)).1⟩).2 (.ref a) (.c (os.set j (.v d))) (a :: f') (.c n upd_same t2 fun z => na (sub' _ z)) fun b z => by
      rcases List.mem_cons.mp z with rfl | z
      · exact dj _ List.mem_cons_self
      · exact dj _ (List.mem_cons_of_mem _ (sub' b z))
    rw [set_id hx] at k
    have sub2 : ∀ b ∈ fa ++ (a :: f') ++ fb, b ∈ fp := fun b z => by
      subst ef
      simp only [List.mem_append, List.mem_cons] at z ⊢
      rcases z with (z | z | z) | z
      · exact .inl (.inl z)
      · exact .inl (.inr (.inl z))
      · exact .inl (.inr (.inr (sub' b z)))
      · exact .inr z
    refine ⟨_, ⟨fun b o z => ?_, k⟩, ⟨Same.refl F, fun b o z nb => ?_, fun b z => .inl (sub2 b z), fun b o z => .inl z, fun b z => ?_⟩⟩
    · have : b ≠ a := fun y => by subst y; rw [n] at z; cases z
      rw [upd_ne this]; exact s.same b o z
    · have : b ≠ a := fun y => by subst y; exact nb ina
      rw [upd_ne this]; exact z
    · by_cases y : b = a
      · subst y; rw [upd_same]; exact fun z => nomatch z
      · rw [upd_ne y]; exact z
theorem slot_l (s : S0 K ρ σ fp F H) {ds : List D} (e : ρ[i]? = some (some (.l ds))) (hx : σ[i]? = some (some x)) : ∃ a vs, x = .ref a ∧ H a = some (.lst vs) ∧ DpAll K F vs ds := by
  obtain ⟨y, f, hy, ho, _⟩ := s.slot e
  rw [hx] at hy
  cases hy
  cases ho with
  | l n q t => exact ⟨_, _, rfl, q, t⟩
theorem slot_c (s : S0 K ρ σ fp F H) {os : List O} (e : ρ[i]? = some (some (.c os))) (hx : σ[i]? = some (some x)) : ∃ a vs f, x = .ref a ∧ H a = some (.lst vs) ∧ OwnL K F H vs os f := by
  obtain ⟨y, f, hy, ho, _⟩ := s.slot e
  rw [hx] at hy
  cases hy
  cases ho with
  | c n q t _ => exact ⟨_, _, _, rfl, q, t⟩
end

/-! ### methods that change the list of a slot -/
/-- with an argument: what the list becomes and what comes back -/
def mutE (g : D → List D → Option (List D × D)) (fo : EF) (fe : VF) : EF := fun ρ => (fo ρ).bind fun p => match p.1 with
  | .at i => (fe p.2).bind fun q => match q.2[i]? with
    | some (some (.l ds)) => (g q.1 ds).map fun r => (.v r.2, q.2.set i (some (.l r.1)))
    | _ => none
  | _ => none
def mut0E (g : List D → Option (List D × D)) (fo : EF) : EF := fun ρ => (fo ρ).bind fun p => match p.1 with
  | .at i => match p.2[i]? with
    | some (some (.l ds)) => (g ds).map fun r => (.v r.2, p.2.set i (some (.l r.1)))
    | _ => none
  | _ => none
def Mut1 (K : PySem.W.Frag) (r : V → List V → Hp → VK → Prop) (g : D → List D → Option (List D × D)) : Prop := ∀ F H a vs ds y d ds' d' Q, Same F H → H a = some (.lst vs) → DpAll K F vs ds → Dp K F y d → g d ds = some (ds', d') →
  (∀ vs' z, DpAll K F vs' ds' → Dp K F z d' → Q z (upd H a (.lst vs'))) → r (.ref a) [y] H Q
def Mut0 (K : PySem.W.Frag) (r : V → List V → Hp → VK → Prop) (g : List D → Option (List D × D)) : Prop := ∀ F H a vs ds ds' d' Q, Same F H → H a = some (.lst vs) → DpAll K F vs ds → g ds = some (ds', d') →
  (∀ vs' z, DpAll K F vs' ds' → Dp K F z d' → Q z (upd H a (.lst vs'))) → r (.ref a) [] H Q
section
variable {X : Cx} {o e : Expr} {to te : TE} {fo : EF} {fe : VF} {apos cpos : Pos} {name : Str} {id : String} {r : V → List V → Hp → VK → Prop} {g : D → List D → Option (List D × D)} {g0 : List D → Option (List D × D)}
theorem at_of {K : PySem.W.Frag} {H0 F H : Hp} {σ : St} {fp : List Addr} {x : V} {i : Nat} (h : ROk K H0 F H σ fp x (.at i)) : σ[i]? = some (some x) := by cases h with | «at» h => exact h
theorem ty_slot {K : PySem.W.Frag} {F H : Hp} {σ : St} {ρ : Rho} {fp : List Addr} {i : Nat} {x : V} (s : S0 K ρ σ fp F H) (hx : σ[i]? = some (some x)) (h : match ρ[i]? with | some (some (.l _)) => True | some (some (.c _)) => True | _ => False) : tyV K "list" x H := by
  split at h
  · rename_i ds e
    obtain ⟨a, vs, rfl, h1, _⟩ := slot_l s e hx
    exact .inl ⟨rfl, vs, .of h1⟩
  · rename_i os e
    obtain ⟨a, vs, f, rfl, h1, _⟩ := slot_c s e hx
    exact .inl ⟨rfl, vs, .of h1⟩
  · exact h.elim
/-- a slot that owns a list keeps on owning one while an argument is reckoned (else nothing is said) -/
def lstAt (ρ : Rho) (i : Nat) : Bool := match ρ[i]? with
  | some (some (.l _)) => true
  | _ => false
def mutE' (g : D → List D → Option (List D × D)) (fo : EF) (fe : VF) : EF := fun ρ => (fo ρ).bind fun p => match p.1 with
  | .at i => if lstAt p.2 i then (fe p.2).bind fun q => match q.2[i]? with
    | some (some (.l ds)) => (g q.1 ds).map fun r => (.v r.2, q.2.set i (some (.l r.1)))
    | _ => none
    else none
  | _ => none
theorem lstAt_ok {ρ : Rho} {i : Nat} (h : lstAt ρ i = true) : match ρ[i]? with | some (some (.l _)) => True | some (some (.c _)) => True | _ => False := by
  unfold lstAt at h
  split at h
  · rename_i e
    rw [e]
    trivial
  · cases h
theorem de_mut (slot : Slot "list" name id) (hty : typeOf (.builtin id) = pure (.type "method_descriptor")) (hm : X.K = K → X.w = wd → MtR X id r) (hs : Mut1 K r g) (ho : DE K wd X o to fo) (he : DV K wd X e te fe)
    (hbase : attributeBase o name X.env (eval o X.env) = eval o X.env := by rfl)
    (hfew : ((backTo cpos (starEach [e] X.env)).all (fun x => !x.1) && (backToKw cpos (keywordEach [] X.env)).all (fun x => x.1.isSome)
      && decide ([e].length + ([] : List Keyword).length + (if ([] : List Keyword).isEmpty then 0 else 1) < 30)) = true := by rfl)
    (hline : (apos.endLine == cpos.line) = true := by rfl) (hse : starEach [e] X.env = (false, eval e X.env) :: starEach [] X.env := by rfl) (hplain : (backTo cpos (starEach [] X.env)).any (·.1) = false := by rfl) :
    DE K wd X (.Call (.Attribute o name apos) [e] [] cpos) (tBM K "list" r to (tCons te tNil)) (mutE' g fo fe) := by
  refine ⟨fun hk hw => by subst hk hw; exact pe_bm PySem.F.plainAttrs_list slot hty (hm rfl rfl) (ho.pe rfl rfl) (pa_cons (he.pe rfl rfl) pa_nil hse) hbase hfew hline hse hplain, fun ρ σ fp F H rr ρ' Q s e q => ?_⟩
  obtain ⟨⟨ra, ρ1⟩, e1, e2⟩ := Option.bind_eq_some_iff.mp e
  refine ho.dn ρ σ fp F H ra ρ1 _ s e1 fun fp1 F1 H1 x s1 x1 k1 => ?_
  dsimp only at e2
  split at e2
  · rename_i i
    split at e2
    · rename_i hl
      obtain ⟨⟨d, ρ2⟩, e3, e4⟩ := Option.bind_eq_some_iff.mp e2
      have hx := at_of k1
      refine ⟨ty_slot s1 hx (lstAt_ok hl), he.dn ρ1 σ fp1 F1 H1 d ρ2 _ s1 e3 fun fp2 F2 H2 y s2 x2 k2 => ?_⟩
      dsimp only at e4
      split at e4
      · rename_i ds hd
        obtain ⟨⟨ds', d'⟩, e5, e6⟩ := Option.map_eq_some_iff.mp e4
        cases e6
        obtain ⟨a, vs, rfl, h1, h2⟩ := slot_l s2 hd hx
        refine hs F2 H2 a vs ds y d ds' d' Q s2.same h1 h2 k2 e5 fun vs' z h3 h4 => ?_
        obtain ⟨s3, x3⟩ := mut_l s2 hd hx h1 h3
        exact q fp2 F2 _ z s3 ((x1.trans x2).trans x3) (.v h4)
      · cases e4
    · cases e2
  · cases e2
theorem de_mut0 (slot : Slot "list" name id) (hty : typeOf (.builtin id) = pure (.type "method_descriptor")) (hm : X.K = K → X.w = wd → MtR X id r) (hs : Mut0 K r g0) (ho : DE K wd X o to fo)
    (hbase : attributeBase o name X.env (eval o X.env) = eval o X.env := by rfl) (hline : (apos.endLine == cpos.line) = true := by rfl) :
    DE K wd X (.Call (.Attribute o name apos) [] [] cpos) (tBM0 K "list" r to) (mut0E g0 fo) := by
  refine ⟨fun hk hw => by subst hk hw; exact pe_bm0 PySem.F.plainAttrs_list slot hty (hm rfl rfl) (ho.pe rfl rfl) hbase hline, fun ρ σ fp F H rr ρ' Q s e q => ?_⟩
  obtain ⟨⟨ra, ρ1⟩, e1, e2⟩ := Option.bind_eq_some_iff.mp e
  refine ho.dn ρ σ fp F H ra ρ1 _ s e1 fun fp1 F1 H1 x s1 x1 k1 => ?_
  dsimp only at e2
  split at e2
  · rename_i i
    split at e2
    · rename_i ds hd
      obtain ⟨⟨ds', d'⟩, e5, e6⟩ := Option.map_eq_some_iff.mp e2
      cases e6
      have hx := at_of k1
      refine ⟨ty_slot s1 hx (by rw [hd]; trivial), ?_⟩
      obtain ⟨a, vs, rfl, h1, h2⟩ := slot_l s1 hd hx
      refine hs F1 H1 a vs ds ds' d' Q s1.same h1 h2 e5 fun vs' z h3 h4 => ?_
      obtain ⟨s3, x3⟩ := mut_l s1 hd hx h1 h3
      exact q fp1 F1 _ z s3 (x1.trans x3) (.v h4)
    · cases e2
  · cases e2
end
def appG (d : D) (ds : List D) : Option (List D × D) := if ds.length < sizeLine then some (ds ++ [d], .none) else none
def popG (ds : List D) : Option (List D × D) := ds.getLast?.map fun d => (ds.dropLast, d)
def popAtG (d : D) (ds : List D) : Option (List D × D) := match d with
  | .int i => if ds.length ≤ 16777216 then (ixN ds.length i).bind fun j => ds[j]?.map fun d => (ds.eraseIdx j, d) else none
  | _ => none
def revG (ds : List D) : Option (List D × D) := some (ds.reverse, .none)
section
variable {K : PySem.W.Frag}
theorem mut_append : Mut1 K rAppend appG := by
  intro F H a vs ds y d ds' d' Q s h1 h2 h3 e q
  unfold appG at e
  split at e
  · rename_i hz
    cases e
    exact ⟨a, vs, y, rfl, rfl, h1, by rw [da_length h2]; exact hz, q _ _ (da_append h2 (.cons h3 .nil)) .non⟩
  · cases e
theorem mut_pop : Mut0 K rPop popG := by
  intro F H a vs ds ds' d' Q s h1 h2 e q
  unfold popG at e
  obtain ⟨d, e1, e2⟩ := Option.map_eq_some_iff.mp e
  cases e2
  rw [List.getLast?_eq_getElem?] at e1
  obtain ⟨x, g1, g2⟩ := da_get h2 e1
  rw [← da_length h2] at g1
  exact ⟨a, vs, x, rfl, rfl, h1, g1, q _ _ (da_dropLast h2) g2⟩
theorem mut_popAt : Mut1 K rPopAt popAtG := by
  intro F H a vs ds y d ds' d' Q s h1 h2 h3 e q
  unfold popAtG at e
  split at e
  · rename_i i
    split at e
    · rename_i hz
      obtain ⟨j, e1, e2⟩ := Option.bind_eq_some_iff.mp e
      obtain ⟨d, e3, e4⟩ := Option.map_eq_some_iff.mp e2
      cases e4
      obtain rfl := dp_int h3
      obtain ⟨x, g1, g2⟩ := da_get h2 e3
      have hl := da_length h2
      rw [← hl] at e1
      obtain ⟨k1, k2, k3, k4⟩ := ixN_seq e1
      exact ⟨a, vs, i, j, x, rfl, rfl, h1, by omega, by omega, k1, g1, q _ _ (da_eraseIdx j h2) g2⟩
    · cases e
  · cases e
theorem mut_reverse : Mut0 K rReverse revG := by
  intro F H a vs ds ds' d' Q s h1 h2 e q
  cases e
  exact ⟨a, vs, rfl, rfl, h1, q _ _ (da_reverse h2) .non⟩
end

/-! ### xs[i] = v -/
def setG (fo fi : EF) : GF := fun d ρ => (fo ρ).bind fun p => match p.1 with
  | .at i => (fi p.2).bind fun q => match q.1, q.2[i]? with
    | .v (.int k), some (some (.l ds)) => (ixN ds.length k).map fun j => q.2.set i (some (.l (ds.set j d)))
    | .v (.int k), some (some (.c os)) => (ixN os.length k).map fun j => q.2.set i (some (.c (os.set j (.v d))))
    | _, _ => none
  | _ => none
section
variable {X : Cx} {o i : Expr} {to ti : TE} {fo fi : EF} {pos : Pos}
theorem ixN_lt {n : Nat} {k : Int} {j : Nat} (h : ixN n k = some j) : j < n := (ixN_seq h).2.1
theorem dg_sub (ho : DE K wd X o to fo) (hi : DE K wd X i ti fi) (ha : ∀ v, assign (.Subscript o i pos) X.env v = (do
      let ov ← holding [v] (eval o X.env)
      let iv ← holding [v, ov] (eval i X.env)
      standAt pos
      holding [v, ov, iv] (setItem ov iv v)
      release [v, ov, iv] []) := by intro _; rfl) : DG K wd X [] (.Subscript o i pos) (gSub to ti rSetL) (setG fo fi) := by
  refine ⟨fun hk hw => by subst hk hw; exact pg_sub (ho.pe rfl rfl) (hi.pe rfl rfl) set_list ha, fun ρ σ fp F H d x ρ' Q s hd e q => ?_⟩
  obtain ⟨⟨ra, ρ1⟩, e1, e2⟩ := Option.bind_eq_some_iff.mp e
  refine ho.dn ρ σ fp F H ra ρ1 _ s e1 fun fp1 F1 H1 a s1 x1 k1 => ?_
  dsimp only at e2
  split at e2
  · rename_i n
    obtain ⟨⟨rb, ρ2⟩, e3, e4⟩ := Option.bind_eq_some_iff.mp e2
    have hx := at_of k1
    refine hi.dn ρ1 σ fp1 F1 H1 rb ρ2 _ s1 e3 fun fp2 F2 H2 b s2 x2 k2 => ?_
    have hd2 : Dp K F2 x d := dp_mono (x1.trans x2).fF hd
    dsimp only at e4
    split at e4
    · rename_i k ds hr
      obtain ⟨j, e5, e6⟩ := Option.map_eq_some_iff.mp e4
      subst e6
      cases k2 with | v k2 =>
      obtain rfl := dp_int k2
      obtain ⟨c, vs, rfl, h1, h2⟩ := slot_l s2 hr hx
      refine ⟨c, vs, k, j, rfl, rfl, h1, by rw [da_length h2]; exact e5, ?_⟩
      obtain ⟨s3, x3⟩ := mut_l s2 hr hx h1 (da_set j h2 hd2)
      exact q σ fp2 F2 _ s3 ((x1.trans x2).trans x3) rfl fun _ _ => rfl
    · rename_i k os hr
      obtain ⟨j, e5, e6⟩ := Option.map_eq_some_iff.mp e4
      subst e6
      cases k2 with | v k2 =>
      obtain rfl := dp_int k2
      obtain ⟨c, vs, f, rfl, h1, h2⟩ := slot_c s2 hr hx
      have hj := ixN_lt e5
      refine ⟨c, vs, k, j, rfl, rfl, h1, by rw [ownL_len h2]; exact e5, ?_⟩
      obtain ⟨fp3, s3, x3⟩ := mut_c s2 hr hx h1 (List.getElem?_eq_getElem hj) hd2
      exact q σ fp3 F2 _ s3 ((x1.trans x2).trans x3) rfl fun _ _ => rfl
    · cases e4
  · cases e2
/-! ### xs.extend(ys), ys an owned list -/
def extE (fo fe : EF) : EF := fun ρ => (fo ρ).bind fun p => match p.1 with
  | .at i => if lstAt p.2 i then (fe p.2).bind fun q => match q.2[i]?, ownL q.2 q.1 with
    | some (some (.l ds)), some es => if ds.length + es.length ≤ sizeLine then some (.v .none, q.2.set i (some (.l (ds ++ es)))) else none
    | _, _ => none
    else none
  | _ => none
end
end Mm
namespace Mm
open PySem L2

/-! ### the slots one by one -/
structure Pw (K : PySem.W.Frag) (F H : Hp) (σ : St) (ρ : Rho) (φ : Nat → List Addr) : Prop where
  len : σ.length = ρ.length
  own : ∀ i o, ρ[i]? = some (some o) → ∃ x, σ[i]? = some (some x) ∧ Own K F H x o (φ i)
  dj : ∀ i j, i ≠ j → ∀ a ∈ φ i, a ∉ φ j
section
variable {K : PySem.W.Frag} {F F' H H' : Hp} {σ : St} {ρ : Rho} {fp : List Addr}
theorem pw_of (h : OwnE K F H σ ρ fp) : ∃ φ, Pw K F H σ ρ φ ∧ ∀ a, a ∈ fp ↔ ∃ i, a ∈ φ i := by
  induction h with
  | emp => exact ⟨fun _ => [], ⟨rfl, fun i o e => by simp at e, fun i j _ a z => nomatch z⟩, fun a => by simp⟩
  | @non x σ ρ fp h ih =>
    obtain ⟨φ, p, m⟩ := ih
    refine ⟨fun i => match i with | 0 => [] | i + 1 => φ i, ⟨by simp [p.len], fun i o e => ?_, fun i j hij a z => ?_⟩, fun a => ?_⟩
    · cases i with
      | zero => simp at e
      | succ i => simpa using p.own i o (by simpa using e)
    · cases i with
      | zero => cases z
      | succ i =>
        cases j with
        | zero => exact fun z => nomatch z
        | succ j => exact p.dj i j (fun e => hij (by rw [e])) a z
    · rw [m]
      constructor
      · rintro ⟨i, z⟩; exact ⟨i + 1, z⟩
      · rintro ⟨i, z⟩
        cases i with
        | zero => cases z
        | succ i => exact ⟨i, z⟩
  | @som x o σ ρ f fp ho h d ih =>
    obtain ⟨φ, p, m⟩ := ih
    refine ⟨fun i => match i with | 0 => f | i + 1 => φ i, ⟨by simp [p.len], fun i o' e => ?_, fun i j hij a z => ?_⟩, fun a => ?_⟩
    · cases i with
      | zero =>
        have : o = o' := by simpa using e
        subst this
        exact ⟨x, rfl, ho⟩
      | succ i => simpa using p.own i o' (by simpa using e)
    · cases i with
      | zero =>
        cases j with
        | zero => exact absurd rfl hij
        | succ j => exact fun w => d a z ((m a).mpr ⟨j, w⟩)
      | succ i =>
        cases j with
        | zero => exact fun w => d a w ((m a).mpr ⟨i, z⟩)
        | succ j => exact p.dj i j (fun e => hij (by rw [e])) a z
    · rw [List.mem_append, m]
      constructor
      · rintro (z | ⟨i, z⟩)
        · exact ⟨0, z⟩
        · exact ⟨i + 1, z⟩
      · rintro ⟨i, z⟩
        cases i with
        | zero => exact .inl z
        | succ i => exact .inr ⟨i, z⟩
theorem of_pw : ∀ {σ : St} {ρ : Rho} {φ : Nat → List Addr}, Pw K F H σ ρ φ → ∃ fp, OwnE K F H σ ρ fp ∧ ∀ a ∈ fp, ∃ i o, ρ[i]? = some (some o) ∧ a ∈ φ i
  | [], [], _, _ => ⟨[], .emp, fun a z => nomatch z⟩
  | [], _ :: _, _, p => by have := p.len; simp at this
  | _ :: _, [], _, p => by have := p.len; simp at this
  | y :: σ, u :: ρ, φ, p => by
    have p' : Pw K F H σ ρ fun i => φ (i + 1) := ⟨by have := p.len; simpa using this, fun i o e => by simpa using p.own (i + 1) o (by simpa using e), fun i j h => p.dj (i + 1) (j + 1) (by omega)⟩
    obtain ⟨fp, h, m⟩ := of_pw p'
    cases u with
    | none => exact ⟨fp, .non h, fun a z => by obtain ⟨i, o, e, z⟩ := m a z; exact ⟨i + 1, o, by simpa using e, z⟩⟩
    | some o =>
      obtain ⟨x, hx, ho⟩ := p.own 0 o rfl
      have hx' : y = some x := by simpa using hx
      subst hx'
      refine ⟨φ 0 ++ fp, .som ho h fun a z w => ?_, fun a z => ?_⟩
      · obtain ⟨i, o', e, w⟩ := m a w
        exact p.dj 0 (i + 1) (by omega) a z w
      · rcases List.mem_append.mp z with z | z
        · exact ⟨0, o, rfl, z⟩
        · obtain ⟨i, o', e, z⟩ := m a z; exact ⟨i + 1, o', by simpa using e, z⟩
end

/-! ### what a def promises -/
/-- a def's image: from the arguments' objects its answer and what the objects become -/
abbrev Fn := List O → Option (O × List O)
def spM (K : PySem.W.Frag) (m : Fn) : Sp := fun vs H Q _ => ∃ (F : Hp) (fp : List Addr) (os : List O) (r : O) (os' : List O), S0 K (os.map some) (vs.map some) fp F H ∧ m os = some (r, os') ∧
  ∀ fp' F' H' x f, S0 K (os'.map some) (vs.map some) fp' F' H' → Ext fp F H fp' F' H' → Own K F' H' x r f → (∀ a ∈ f, a ∉ fp' ∧ H a = none) → Q x H'
theorem spM_len {K : PySem.W.Frag} {m : Fn} {n : Nat} (hm : ∀ os r, m os = some r → os.length = n) : ∀ vs H Q E, spM K m vs H Q E → vs.length = n := by
  rintro vs H Q E ⟨F, fp, os, r, os', s, e, _⟩
  rw [← hm os _ e]
  have := s.own.len
  simpa using this

/-! ### the arguments of a call -/
/-- a value; the object of a slot, to be changed; the object of a slot, to be read -/
inductive Ar where
  | v (d : D)
  | r (i : Nat)
  | b (i : Nat)
inductive ArOk (K : PySem.W.Frag) (F : Hp) (σ : St) : List V → List Ar → Prop
  | nil : ArOk K F σ [] []
  | v {x d xs as} : Dp K F x d → ArOk K F σ xs as → ArOk K F σ (x :: xs) (.v d :: as)
  | r {x i xs as} : σ[i]? = some (some x) → ArOk K F σ xs as → ArOk K F σ (x :: xs) (.r i :: as)
  | b {x i xs as} : σ[i]? = some (some x) → ArOk K F σ xs as → ArOk K F σ (x :: xs) (.b i :: as)
abbrev CF := Rho → Option (List Ar × Rho)
structure DC (K : PySem.W.Frag) (wd : World) (X : Cx) (es : List Expr) (t : TA) (f : CF) : Prop where
  pe : X.K = K → X.w = wd → PA X es t
  dn : ∀ (ρ : Rho) (σ : St) (fp : List Addr) (F H : Hp) (as : List Ar) (ρ' : Rho) (Q : List V → Hp → Prop), S0 K ρ σ fp F H → f ρ = some (as, ρ') →
    (∀ fp' F' H' xs, S0 K ρ' σ fp' F' H' → Ext fp F H fp' F' H' → ArOk K F' σ xs as → Q xs H') → t σ H Q
def cN : CF := fun ρ => some ([], ρ)
def cV (f : VF) (g : CF) : CF := fun ρ => (f ρ).bind fun p => (g p.2).map fun q => (.v p.1 :: q.1, q.2)
/-- a name: by itself where it holds a value, else as it is told -/
def cS (k : Nat → Ar) (f : EF) (g : CF) : CF := fun ρ => (f ρ).bind fun p => match p.1 with
  | .v d => (g p.2).map fun q => (.v d :: q.1, q.2)
  | .at i => (g p.2).map fun q => (k i :: q.1, q.2)
  | .o o => (frz o).bind fun _ => none
theorem ArOk.mono {K : PySem.W.Frag} {F F' : Hp} {σ : St} (h : Same F F') : ∀ {xs : List V} {as : List Ar}, ArOk K F σ xs as → ArOk K F' σ xs as
  | _, _, .nil => .nil
  | _, _, .v a t => .v (dp_mono h a) (ArOk.mono h t)
  | _, _, .r a t => .r a (ArOk.mono h t)
  | _, _, .b a t => .b a (ArOk.mono h t)
section
variable {X : Cx} {e : Expr} {es : List Expr} {t : TE} {f : VF} {fe : EF} {ta : TA} {g : CF}
theorem dc_nil : DC K wd X [] tNil cN := ⟨fun hk hw => by subst hk hw; exact pa_nil, fun ρ σ fp F H ds ρ' Q s e q => by cases e; exact q fp F H [] s .refl .nil⟩
theorem dc_v (h : DV K wd X e t f) (k : DC K wd X es ta g) (hs : starEach (e :: es) X.env = (false, eval e X.env) :: starEach es X.env := by rfl) : DC K wd X (e :: es) (tCons t ta) (cV f g) := by
  refine ⟨fun hk hw => by subst hk hw; exact pa_cons (h.pe rfl rfl) (k.pe rfl rfl) hs, fun ρ σ fp F H ds ρ' Q s e q => ?_⟩
  obtain ⟨⟨d, ρ1⟩, e1, e2⟩ := Option.bind_eq_some_iff.mp e
  obtain ⟨⟨ds2, ρ2⟩, e3, e4⟩ := Option.map_eq_some_iff.mp e2
  cases e4
  refine h.dn ρ σ fp F H d ρ1 _ s e1 fun fp1 F1 H1 x s1 x1 k1 => ?_
  refine k.dn ρ1 σ fp1 F1 H1 ds2 ρ2 _ s1 e3 fun fp2 F2 H2 xs s2 x2 k2 => ?_
  exact q fp2 F2 H2 (x :: xs) s2 (x1.trans x2) (.v (dp_mono x2.fF k1) k2)
theorem dc_s (c : Nat → Ar) (hc : ∀ {K F σ x i xs as}, σ[i]? = some (some x) → ArOk K F σ xs as → ArOk K F σ (x :: xs) (c i :: as)) (h : DE K wd X e t fe) (k : DC K wd X es ta g) (hs : starEach (e :: es) X.env = (false, eval e X.env) :: starEach es X.env := by rfl) :
    DC K wd X (e :: es) (tCons t ta) (cS c fe g) := by
  refine ⟨fun hk hw => by subst hk hw; exact pa_cons (h.pe rfl rfl) (k.pe rfl rfl) hs, fun ρ σ fp F H ds ρ' Q s e q => ?_⟩
  obtain ⟨⟨r, ρ1⟩, e1, e2⟩ := Option.bind_eq_some_iff.mp e
  refine h.dn ρ σ fp F H r ρ1 _ s e1 fun fp1 F1 H1 x s1 x1 k1 => ?_
  dsimp only at e2
  split at e2
  · obtain ⟨⟨ds2, ρ2⟩, e3, e4⟩ := Option.map_eq_some_iff.mp e2
    cases e4
    cases k1 with | v k1 =>
    exact k.dn ρ1 σ fp1 F1 H1 ds2 ρ2 _ s1 e3 fun fp2 F2 H2 xs s2 x2 k2 => q fp2 F2 H2 (x :: xs) s2 (x1.trans x2) (.v (dp_mono x2.fF k1) k2)
  · obtain ⟨⟨ds2, ρ2⟩, e3, e4⟩ := Option.map_eq_some_iff.mp e2
    cases e4
    exact k.dn ρ1 σ fp1 F1 H1 ds2 ρ2 _ s1 e3 fun fp2 F2 H2 xs s2 x2 k2 => q fp2 F2 H2 (x :: xs) s2 (x1.trans x2) (hc (at_of k1) k2)
  · obtain ⟨_, _, z⟩ := Option.bind_eq_some_iff.mp e2
    cases z
theorem dc_r (h : DE K wd X e t fe) (k : DC K wd X es ta g) (hs : starEach (e :: es) X.env = (false, eval e X.env) :: starEach es X.env := by rfl) : DC K wd X (e :: es) (tCons t ta) (cS .r fe g) := dc_s .r (fun a b => .r a b) h k hs
theorem dc_b (h : DE K wd X e t fe) (k : DC K wd X es ta g) (hs : starEach (e :: es) X.env = (false, eval e X.env) :: starEach es X.env := by rfl) : DC K wd X (e :: es) (tCons t ta) (cS .b fe g) := dc_s .b (fun a b => .b a b) h k hs
end

/-! ### the call -/
def slotO (ρ : Rho) (i : Nat) : Option O := match ρ[i]? with
  | some (some o) => some o
  | _ => none
/-- what the callee gets -/
def giveR (ρ : Rho) : List Ar → Option (List O)
  | [] => some []
  | .v d :: as => (giveR ρ as).map fun os => .v d :: os
  | .r i :: as => (slotO ρ i).bind fun o => (giveR ρ as).map fun os => o :: os
  | .b _ :: _ => none
def giveB (ρ : Rho) : List Ar → Option (List O)
  | [] => some []
  | .v d :: as => (giveB ρ as).map fun os => .v d :: os
  | .r _ :: _ => none
  | .b i :: as => (slotO ρ i).bind fun o => (frz o).bind fun d => (giveB ρ as).map fun os => .v d :: os
/-- the slots behind the call -/
def back : List Ar → List O → Rho → Rho
  | [], _, ρ => ρ
  | _ :: _, [], ρ => ρ
  | .r i :: as, o :: os, ρ => back as os (ρ.set i (some o))
  | .v _ :: as, _ :: os, ρ => back as os ρ
  | .b _ :: as, _ :: os, ρ => back as os ρ
def idxs : List Ar → List Nat
  | [] => []
  | .v _ :: as => idxs as
  | .r i :: as => i :: idxs as
  | .b i :: as => i :: idxs as
mutual
/-- no list stands in it -/
def noL : D → Bool
  | .list _ => false
  | .dict _ => false
  | .tuple ds => noLs ds
  | _ => true
def noLs : List D → Bool
  | [] => true
  | d :: ds => noL d && noLs ds
end
def ofO : O → R
  | .v d => .v d
  | o => .o o
/-- an answer that may be taken along from a callee that was lent something -/
def takeR : O → Option R
  | .v d => if noL d then some (.v d) else none
  | .l ds => if noLs ds then some (.o (.l ds)) else none
  | _ => none
def callE (m : Fn) (f : CF) : EF := fun ρ => (f ρ).bind fun p => if (idxs p.1).Nodup then (giveR p.2 p.1).bind fun os => (m os).map fun z => (ofO z.1, back p.1 z.2 p.2) else none
def callB (m : Fn) (f : CF) : EF := fun ρ => (f ρ).bind fun p => (giveB p.2 p.1).bind fun os => (m os).bind fun z => (takeR z.1).map fun r => (r, p.2)
section
variable {K : PySem.W.Frag} {F H : Hp} {σ : St} {ρ : Rho} {φ : Nat → List Addr}
theorem slotO_eq {i : Nat} {o : O} (h : slotO ρ i = some o) : ρ[i]? = some (some o) := by
  unfold slotO at h
  split at h
  · rename_i o' e
    cases h
    exact e
  · cases h
theorem give_ok (p : Pw K F H σ ρ φ) : ∀ {xs : List V} {as : List Ar} {os : List O}, ArOk K F σ xs as → (idxs as).Nodup → giveR ρ as = some os → ∃ fpc, OwnE K F H (xs.map some) (os.map some) fpc ∧ ∀ a ∈ fpc, ∃ i ∈ idxs as, a ∈ φ i
  | _, _, _, .nil, _, e => by cases e; exact ⟨[], .emp, fun a z => nomatch z⟩
  | _, _, _, .v hd t, nd, e => by
    obtain ⟨os', e1, e2⟩ := Option.map_eq_some_iff.mp e
    subst e2
    obtain ⟨fpc, h, k⟩ := give_ok p t nd e1
    exact ⟨[] ++ fpc, .som (.v hd) h (fun a z => nomatch z), k⟩
  | _, _, _, .r (i := i) hx t, nd, e => by
    rw [giveR] at e
    obtain ⟨o, e0, e⟩ := Option.bind_eq_some_iff.mp e
    obtain ⟨os', e1, e2⟩ := Option.map_eq_some_iff.mp e
    subst e2
    rw [idxs, List.nodup_cons] at nd
    obtain ⟨fpc, h, k⟩ := give_ok p t nd.2 e1
    obtain ⟨x', hx', ho⟩ := p.own i o (slotO_eq e0)
    rw [hx] at hx'
    cases hx'
    refine ⟨_, .som ho h fun a z w => ?_, fun a z => ?_⟩
    · obtain ⟨j, hj, w⟩ := k a w
      exact p.dj i j (fun q => nd.1 (by rw [q]; exact hj)) a z w
    · rcases List.mem_append.mp z with z | z
      · exact ⟨i, List.mem_cons_self, z⟩
      · obtain ⟨j, hj, z⟩ := k a z
        exact ⟨j, List.mem_cons_of_mem _ hj, z⟩
  | _, _, _, .b _ _, _, e => by cases e
/-- which argument a slot is -/
def posOf (i : Nat) : List Ar → Option Nat
  | [] => none
  | .r j :: as => if j = i then some 0 else (posOf i as).map (· + 1)
  | .v _ :: as => (posOf i as).map (· + 1)
  | .b _ :: as => (posOf i as).map (· + 1)
theorem back_get : ∀ {as : List Ar} {os' : List O} {ρ : Rho} {i : Nat}, (∀ a ∈ as, ∀ j, a ≠ .b j) → (idxs as).Nodup → os'.length = as.length → i < ρ.length → (back as os' ρ)[i]? = match posOf i as with
    | some k => os'[k]?.map some
    | none => ρ[i]?
  | [], os', ρ, i, _, _, _, _ => rfl
  | .v d :: as, [], _, _, _, _, h, _ => by simp at h
  | .r j :: as, [], _, _, _, _, h, _ => by simp at h
  | .b j :: as, _, _, _, hb, _, _, _ => absurd rfl (hb _ List.mem_cons_self j)
  | .v d :: as, o :: os', ρ, i, hb, nd, h, hi => by
    rw [back, posOf, back_get (fun a z => hb a (List.mem_cons_of_mem _ z)) nd (by simpa using h) hi]
    cases posOf i as <;> rfl
  | .r j :: as, o :: os', ρ, i, hb, nd, h, hi => by
    rw [idxs, List.nodup_cons] at nd
    rw [back, posOf, back_get (fun a z => hb a (List.mem_cons_of_mem _ z)) nd.2 (by simpa using h) (by rw [List.length_set]; exact hi)]
    by_cases hj : j = i
    · subst hj
      have : posOf j as = none := by
        have gen : ∀ {as : List Ar}, j ∉ idxs as → (∀ a ∈ as, ∀ j, a ≠ .b j) → posOf j as = none := by
          intro as
          induction as with
          | nil => intro _ _; rfl
          | cons a as ih =>
            intro h hb
            cases a with
            | v d => rw [posOf, ih h fun a z => hb a (List.mem_cons_of_mem _ z)]; rfl
            | b k => exact absurd rfl (hb _ List.mem_cons_self k)
            | r k =>
              rw [idxs, List.mem_cons, not_or] at h
              rw [posOf, if_neg fun q => h.1 q.symm, ih h.2 fun a z => hb a (List.mem_cons_of_mem _ z)]
              rfl
        exact gen nd.1 fun a z => hb a (List.mem_cons_of_mem _ z)
      rw [this, if_pos rfl]
      show (ρ.set j (some o))[j]? = (o :: os')[0]?.map some
      rw [List.getElem?_set_self hi]
      rfl
    · rw [if_neg hj]
      cases posOf i as with
      | none => show (ρ.set j (some o))[i]? = ρ[i]?; rw [List.getElem?_set_ne hj]
      | some k => rfl
theorem back_len : ∀ {as : List Ar} {os' : List O} {ρ : Rho}, (back as os' ρ).length = ρ.length
  | [], [], _ => rfl
  | [], _ :: _, _ => rfl
  | .v _ :: _, [], _ => rfl
  | .r _ :: _, [], _ => rfl
  | .b _ :: _, [], _ => rfl
  | .v _ :: as, _ :: os', ρ => by rw [back]; exact back_len
  | .b _ :: as, _ :: os', ρ => by rw [back]; exact back_len
  | .r i :: as, o :: os', ρ => by rw [back, back_len, List.length_set]
theorem noB : ∀ {as : List Ar} {os : List O}, giveR ρ as = some os → ∀ a ∈ as, ∀ j, a ≠ .b j
  | [], _, _ => fun a z => nomatch z
  | .v d :: as, _, e => by
    obtain ⟨os', e1, e2⟩ := Option.map_eq_some_iff.mp e
    intro a z j
    rcases List.mem_cons.mp z with rfl | z
    · exact fun q => nomatch q
    · exact noB e1 a z j
  | .r i :: as, _, e => by
    rw [giveR] at e
    obtain ⟨o, e0, e⟩ := Option.bind_eq_some_iff.mp e
    obtain ⟨os', e1, e2⟩ := Option.map_eq_some_iff.mp e
    intro a z j
    rcases List.mem_cons.mp z with rfl | z
    · exact fun q => nomatch q
    · exact noB e1 a z j
  | .b j :: as, _, e => by cases e
theorem give_len : ∀ {as : List Ar} {os : List O}, giveR ρ as = some os → os.length = as.length
  | [], _, e => by cases e; rfl
  | .v d :: as, _, e => by
    obtain ⟨os', e1, e2⟩ := Option.map_eq_some_iff.mp e
    subst e2
    simp [give_len e1]
  | .r i :: as, _, e => by
    rw [giveR] at e
    obtain ⟨o, e0, e⟩ := Option.bind_eq_some_iff.mp e
    obtain ⟨os', e1, e2⟩ := Option.map_eq_some_iff.mp e
    subst e2
    simp [give_len e1]
  | .b j :: as, _, e => by cases e
theorem posOf_ok : ∀ {xs : List V} {as : List Ar} {i k : Nat}, ArOk K F σ xs as → posOf i as = some k → i ∈ idxs as ∧ ∃ x, xs[k]? = some x ∧ σ[i]? = some (some x)
  | _, _, _, _, .nil, e => by cases e
  | _, _, i, k, .v hd t, e => by
    rw [posOf] at e
    obtain ⟨k', e1, e2⟩ := Option.map_eq_some_iff.mp e
    subst e2
    obtain ⟨h1, x, h2, h3⟩ := posOf_ok t e1
    exact ⟨h1, x, by simpa using h2, h3⟩
  | _, _, i, k, .b hd t, e => by
    rw [posOf] at e
    obtain ⟨k', e1, e2⟩ := Option.map_eq_some_iff.mp e
    subst e2
    obtain ⟨h1, x, h2, h3⟩ := posOf_ok t e1
    exact ⟨List.mem_cons_of_mem _ h1, x, by simpa using h2, h3⟩
  | _, _, i, k, .r (i := j) hx t, e => by
    rw [posOf] at e
    split at e
    · rename_i hj
      cases e
      subst hj
      exact ⟨List.mem_cons_self, _, rfl, hx⟩
    · obtain ⟨k', e1, e2⟩ := Option.map_eq_some_iff.mp e
      subst e2
      obtain ⟨h1, x, h2, h3⟩ := posOf_ok t e1
      exact ⟨List.mem_cons_of_mem _ h1, x, by simpa using h2, h3⟩
theorem posOf_inj : ∀ {as : List Ar} {i j k : Nat}, posOf i as = some k → posOf j as = some k → i = j
  | [], _, _, _, e, _ => by cases e
  | .v _ :: as, i, j, k, e, e' => by
    rw [posOf] at e e'
    obtain ⟨k1, e1, e2⟩ := Option.map_eq_some_iff.mp e
    obtain ⟨k2, e3, e4⟩ := Option.map_eq_some_iff.mp e'
    have : k1 = k2 := by omega
    subst this
    exact posOf_inj e1 e3
  | .b _ :: as, i, j, k, e, e' => by
    rw [posOf] at e e'
    obtain ⟨k1, e1, e2⟩ := Option.map_eq_some_iff.mp e
    obtain ⟨k2, e3, e4⟩ := Option.map_eq_some_iff.mp e'
    have : k1 = k2 := by omega
    subst this
    exact posOf_inj e1 e3
  | .r n :: as, i, j, k, e, e' => by
    rw [posOf] at e e'
    split at e
    · rename_i h1
      cases e
      split at e'
      · rename_i h2
        omega
      · obtain ⟨k2, e3, e4⟩ := Option.map_eq_some_iff.mp e'
        omega
    · split at e'
      · obtain ⟨k2, e3, e4⟩ := Option.map_eq_some_iff.mp e
        cases e'
        omega
      · obtain ⟨k1, e1, e2⟩ := Option.map_eq_some_iff.mp e
        obtain ⟨k2, e3, e4⟩ := Option.map_eq_some_iff.mp e'
        have : k1 = k2 := by omega
        subst this
        exact posOf_inj e1 e3
def newF (φ φ' : Nat → List Addr) (as : List Ar) (ρ : Rho) (i : Nat) : List Addr := match posOf i as with
  | some k => φ' k
  | none => match ρ[i]? with
    | some (some _) => φ i
    | _ => []
theorem mem_newF {φ φ' : Nat → List Addr} {as : List Ar} {ρ : Rho} {i : Nat} {a : Addr} (h : a ∈ newF φ φ' as ρ i) : (∃ k, posOf i as = some k ∧ a ∈ φ' k) ∨ (posOf i as = none ∧ ∃ o, ρ[i]? = some (some o) ∧ a ∈ φ i) := by
  unfold newF at h
  split at h
  · rename_i k hk
    exact .inl ⟨k, hk, h⟩
  · rename_i hk
    split at h
    · rename_i o ho
      exact .inr ⟨hk, o, ho, h⟩
    · cases h
theorem newF_some {φ φ' : Nat → List Addr} {as : List Ar} {ρ : Rho} {i k : Nat} (h : posOf i as = some k) : newF φ φ' as ρ i = φ' k := by unfold newF; rw [h]
theorem newF_none {φ φ' : Nat → List Addr} {as : List Ar} {ρ : Rho} {i : Nat} {o : O} (h : posOf i as = none) (e : ρ[i]? = some (some o)) : newF φ φ' as ρ i = φ i := by unfold newF; rw [h, e]
theorem call_ref {fp : List Addr} {m : Fn} {as : List Ar} {xs : List V} {os os' : List O} {r : O} {Q : VK} {E : XK} (s : S0 K ρ σ fp F H) (ha : ArOk K F σ xs as) (nd : (idxs as).Nodup) (hg : giveR ρ as = some os) (hm : m os = some (r, os')) (hl : os'.length = os.length)
    (q : ∀ fp' F' H' x, S0 K (back as os' ρ) σ fp' F' H' → Ext fp F H fp' F' H' → ROk K H F' H' σ fp' x (ofO r) → Q x H') : spM K m xs H Q E := by
  obtain ⟨φ, p, mem⟩ := pw_of s.own
  obtain ⟨fpc, hc, sub⟩ := give_ok p ha nd hg
  refine ⟨F, fpc, os, r, os', ⟨s.same, hc⟩, hm, fun fp' F' H' x f s' x' hr hf => ?_⟩
  obtain ⟨φ', p', mem'⟩ := pw_of s'.own
  have hb := noB hg
  have hlen : os'.length = as.length := hl.trans (give_len hg)
  -- what lies apart from the arguments stands
  have stay : ∀ i, i ∉ idxs as → ∀ o, ρ[i]? = some (some o) → ∀ a ∈ φ i, H' a = H a ∧ F' a = none := fun i hi o e a z => by
    obtain ⟨x0, _, ho⟩ := p.own i o e
    obtain ⟨n, u, hu⟩ := ho.there a z
    have hn : a ∉ fpc := fun w => by
      obtain ⟨j, hj, w⟩ := sub a w
      exact p.dj i j (fun q => hi (by rw [q]; exact hj)) a z w
    refine ⟨(x'.fH a u hu hn).trans hu.symm, ?_⟩
    cases qq : F' a with
    | none => rfl
    | some w =>
      rcases x'.fN a w qq with y | y | y
      · rw [n] at y; cases y
      · rw [hu] at y; cases y
      · exact absurd y hn
  have there : ∀ i o, ρ[i]? = some (some o) → ∀ a ∈ φ i, ∃ u, H a = some u := fun i o e a z => by
    obtain ⟨x0, _, ho⟩ := p.own i o e
    exact (ho.there a z).2
  -- the new footprints
  have P : Pw K F' H' σ (back as os' ρ) (newF φ φ' as ρ) := by
    refine ⟨by rw [back_len]; exact p.len, fun i o e => ?_, fun i j hij a z w => ?_⟩
    · have hi : i < ρ.length := by
        have := (List.getElem?_eq_some_iff.mp e).1
        rwa [back_len] at this
      rw [back_get hb nd hlen hi] at e
      cases hp : posOf i as with
      | some k =>
        rw [hp] at e
        rw [newF_some hp]
        dsimp only at e
        obtain ⟨h1, y, h2, h3⟩ := posOf_ok ha hp
        have e' : (os'.map some)[k]? = some (some o) := by rw [List.getElem?_map]; exact e
        obtain ⟨y', h4, h5⟩ := p'.own k o e'
        rw [List.getElem?_map, h2] at h4
        have h4' : y = y' := by simpa using h4
        subst h4'
        exact ⟨y, h3, h5⟩
      | none =>
        rw [hp] at e
        dsimp only at e
        rw [newF_none hp e]
        obtain ⟨y, h1, h2⟩ := p.own i o e
        have hi' : i ∉ idxs as := fun z => by
          have gen : ∀ {as : List Ar}, (∀ a ∈ as, ∀ j, a ≠ .b j) → i ∈ idxs as → posOf i as ≠ none := by
            intro as
            induction as with
            | nil => intro _ z; cases z
            | cons a as ih =>
              intro hb z
              cases a with
              | v d =>
                rw [posOf]
                intro q
                exact ih (fun a z => hb a (List.mem_cons_of_mem _ z)) z (by simpa using q)
              | b k => exact absurd rfl (hb _ List.mem_cons_self k)
              | r k =>
                rw [posOf]
                split
                · exact fun q => nomatch q
                · rename_i hk
                  rcases List.mem_cons.mp z with z | z
                  · exact absurd z.symm hk
                  · intro q
                    exact ih (fun a z => hb a (List.mem_cons_of_mem _ z)) z (by simpa using q)
          exact gen hb z hp
        exact ⟨y, h1, h2.keep x'.fF (stay i hi' o e)⟩
    · have key : ∀ {i j k : Nat}, posOf i as = some k → (∀ k', posOf j as ≠ some k') → i ≠ j → a ∈ φ' k → ∀ o, ρ[j]? = some (some o) → a ∉ φ j := fun {i j k} hi hj hij z o eo w => by
        obtain ⟨u, hu⟩ := there j o eo a w
        have : a ∈ fp' := (mem' a).mpr ⟨k, z⟩
        rcases x'.fC a this with y | y
        · obtain ⟨n, hn, y⟩ := sub a y
          by_cases hnj : n = j
          · subst hnj
            have gen : ∀ {as : List Ar}, (∀ a ∈ as, ∀ j, a ≠ .b j) → n ∈ idxs as → ∃ k, posOf n as = some k := by
              intro as
              induction as with
              | nil => intro _ z; cases z
              | cons a as ih =>
                intro hb z
                cases a with
                | v d =>
                  obtain ⟨k, hk⟩ := ih (fun a z => hb a (List.mem_cons_of_mem _ z)) z
                  exact ⟨k + 1, by rw [posOf, hk]; rfl⟩
                | b k => exact absurd rfl (hb _ List.mem_cons_self k)
                | r k =>
                  rw [posOf]
                  split
                  · exact ⟨0, rfl⟩
                  · rename_i hk
                    rcases List.mem_cons.mp z with z | z
                    · exact absurd z.symm hk
                    · obtain ⟨k', hk'⟩ := ih (fun a z => hb a (List.mem_cons_of_mem _ z)) z
                      exact ⟨k' + 1, by rw [hk']; rfl⟩
            obtain ⟨k', hk'⟩ := gen hb hn
            exact hj k' hk'
          · exact p.dj n j hnj a y w
        · rw [hu] at y; cases y
      rcases mem_newF z with ⟨k, hi, z⟩ | ⟨hi, o, eo, z⟩
      · rcases mem_newF w with ⟨k', hj, w⟩ | ⟨hj, o, eo, w⟩
        · exact p'.dj k k' (fun q => hij (posOf_inj hi (by rw [q]; exact hj))) a z w
        · exact key hi (fun k' q => by rw [hj] at q; cases q) hij z o eo w
      · rcases mem_newF w with ⟨k', hj, w⟩ | ⟨hj, o', eo', w⟩
        · exact key hj (fun k' q => by rw [hi] at q; cases q) (fun q => hij q.symm) w o eo z
        · exact p.dj i j hij a z w
  obtain ⟨fp2, h2, sub2⟩ := of_pw P
  have inC : ∀ a ∈ fp2, a ∈ fp ∨ H a = none := fun a z => by
    obtain ⟨i, o, e, z⟩ := sub2 a z
    rcases mem_newF z with ⟨k, hk, z⟩ | ⟨_, o, eo, z⟩
    · rcases x'.fC a ((mem' a).mpr ⟨k, z⟩) with y | y
      · obtain ⟨j, _, y⟩ := sub a y
        exact .inl ((mem a).mpr ⟨j, y⟩)
      · exact .inr y
    · exact .inl ((mem a).mpr ⟨i, z⟩)
  have subC : ∀ a ∈ fpc, a ∈ fp := fun a z => by
    obtain ⟨j, _, y⟩ := sub a z
    exact (mem a).mpr ⟨j, y⟩
  refine q fp2 F' H' x ⟨s'.same, h2⟩ ⟨x'.fF, fun a o z n => x'.fH a o z fun y => n (subC a y), inC, fun a o z => (x'.fN a o z).imp id (Or.imp id (subC a)), x'.dom⟩ ?_
  have hf2 : ∀ a ∈ f, a ∉ fp2 ∧ H a = none := by
    intro a z
    refine ⟨fun w => ?_, (hf a z).2⟩
    obtain ⟨i, o, e, w⟩ := sub2 a w
    rcases mem_newF w with ⟨k, hk, w⟩ | ⟨_, o', eo, w⟩
    · exact (hf a z).1 ((mem' a).mpr ⟨k, w⟩)
    · obtain ⟨u, hu⟩ := there i o' eo a w
      rw [(hf a z).2] at hu; cases hu
  cases r with
  | v d => cases hr with | v h => exact .v h
  | l ds => exact .o hr hf2
  | c os => exact .o hr hf2
  | k kvs => exact .o hr hf2
  | t kvs => exact .o hr hf2
end
end Mm
namespace Mm
open PySem L2

/-! ### a callee that is lent something -/
section
variable {K : PySem.W.Frag} {F H : Hp} {σ : St} {ρ : Rho} {φ : Nat → List Addr}
/-- the addresses that are lent -/
def lentF (φ : Nat → List Addr) : List Ar → List Addr
  | [] => []
  | .b i :: as => φ i ++ lentF φ as
  | .v _ :: as => lentF φ as
  | .r _ :: as => lentF φ as
theorem lentF_fp : ∀ {as : List Ar} {a : Addr}, a ∈ lentF φ as → ∃ i, a ∈ φ i
  | .b i :: as, a, h => by
    rcases List.mem_append.mp h with h | h
    · exact ⟨i, h⟩
    · exact lentF_fp h
  | .v _ :: as, a, h => lentF_fp (as := as) h
  | .r _ :: as, a, h => lentF_fp (as := as) h
theorem lend_ok (p : Pw K F H σ ρ φ) (s : Same F H) {L : List Addr} (hL : ∀ a ∈ L, F a = none) : ∀ {xs : List V} {as : List Ar} {os : List O}, ArOk K F σ xs as → giveB ρ as = some os → (∀ a ∈ lentF φ as, a ∈ L) →
    OwnE K (icy F H L) H (xs.map some) (os.map some) []
  | _, _, _, .nil, e, _ => by cases e; exact .emp
  | _, _, _, .v hd t, e, k => by
    obtain ⟨os', e1, e2⟩ := Option.map_eq_some_iff.mp e
    subst e2
    exact .som (f := []) (.v (dp_mono (icy_same hL) hd)) (lend_ok p s hL t e1 k) (fun a z => nomatch z)
  | _, _, _, .r _ _, e, _ => by cases e
  | _, _, _, .b (i := i) hx t, e, k => by
    rw [giveB] at e
    obtain ⟨o, e0, e⟩ := Option.bind_eq_some_iff.mp e
    obtain ⟨d, e1, e⟩ := Option.bind_eq_some_iff.mp e
    obtain ⟨os', e2, e3⟩ := Option.map_eq_some_iff.mp e
    subst e3
    obtain ⟨x', hx', ho⟩ := p.own i o (slotO_eq e0)
    rw [hx] at hx'
    cases hx'
    exact .som (f := []) (.v (ho.frz s e1 (icy_same hL) fun a z => icy_in (k a (List.mem_append_left _ z)))) (lend_ok p s hL t e2 fun a z => k a (List.mem_append_right _ z)) (fun a z => nomatch z)
mutual
theorem noL_dp {F F' : Hp} {L : List Addr} (hF : ∀ a, a ∉ L → F' a = F a) (hL : ∀ a ∈ L, ∀ u, F a = some u → (∀ vs, u ≠ .tup vs) ∧ ∀ o vs, u ≠ .frz o (.tup vs)) : ∀ {d : D} {x : V}, noL d = true → Dp K F x d → Dp K F' x d
  | .none, _, _, .non => .non
  | .bool b, _, _, .bl _ => .bl b
  | .int i, _, _, .int _ => .int i
  | .str z, _, _, .str _ => .str z
  | .tuple ds, _, h, .tup (a := a) hs ha => by
    rw [noL] at h
    refine .tup ?_ (noLs_dp hF hL h ha)
    rcases hs with (hs | ⟨o, hs⟩) | hs
    · by_cases z : a ∈ L
      · exact absurd rfl ((hL a z _ hs).1 _)
      · exact .inl (.inl ((hF a z).trans hs))
    · by_cases z : a ∈ L
      · exact absurd rfl ((hL a z _ hs).2 _ _)
      · exact .inl (.inr ⟨o, (hF a z).trans hs⟩)
    · exact .inr hs
  | .list ds, _, h, _ => by rw [noL] at h; cases h
  | .dict ds, _, h, _ => by rw [noL] at h; cases h
theorem noLs_dp {F F' : Hp} {L : List Addr} (hF : ∀ a, a ∉ L → F' a = F a) (hL : ∀ a ∈ L, ∀ u, F a = some u → (∀ vs, u ≠ .tup vs) ∧ ∀ o vs, u ≠ .frz o (.tup vs)) : ∀ {ds : List D} {xs : List V}, noLs ds = true → DpAll K F xs ds → DpAll K F' xs ds
  | [], _, _, .nil => .nil
  | d :: ds, _, h, .cons h1 h2 => by
    rw [noLs, Bool.and_eq_true_iff] at h
    exact .cons (noL_dp hF hL h.1 h1) (noLs_dp hF hL h.2 h2)
end
theorem own_kind {x : V} {o : O} {f : List Addr} (h : Own K F H x o f) : ∀ a ∈ f, (∃ vs, H a = some (.lst vs)) ∨ (∃ kv, H a = some (.dK kv)) ∨ ∃ kv, H a = some (.dT kv) := by
  refine Own.rec (motive_1 := fun x o f _ => ∀ a ∈ f, (∃ vs, H a = some (.lst vs)) ∨ (∃ kv, H a = some (.dK kv)) ∨ ∃ kv, H a = some (.dT kv)) (motive_2 := fun xs os f _ => ∀ a ∈ f, (∃ vs, H a = some (.lst vs)) ∨ (∃ kv, H a = some (.dK kv)) ∨ ∃ kv, H a = some (.dT kv)) ?_ ?_ ?_ ?_ ?_ ?_ ?_ h
  · intro _ _ _ a z; cases z
  · intro a vs ds _ e _ b z; rw [List.mem_singleton] at z; subst z; exact .inl ⟨vs, e⟩
  · intro a vs os fp _ e _ _ ih b z
    rcases List.mem_cons.mp z with rfl | z
    · exact .inl ⟨vs, e⟩
    · exact ih b z
  · intro a kv kvs _ e _ b z; rw [List.mem_singleton] at z; subst z; exact .inr (.inl ⟨kv, e⟩)
  · intro a kv kvs _ e _ b z; rw [List.mem_singleton] at z; subst z; exact .inr (.inr ⟨kv, e⟩)
  · intro a z; cases z
  · intro _ _ _ _ _ _ _ _ _ ih1 ih2 a z
    rcases List.mem_append.mp z with z | z
    · exact ih1 a z
    · exact ih2 a z
theorem ownE_kind {σ : St} {ρ : Rho} {fp : List Addr} (h : OwnE K F H σ ρ fp) : ∀ a ∈ fp, (∃ vs, H a = some (.lst vs)) ∨ (∃ kv, H a = some (.dK kv)) ∨ ∃ kv, H a = some (.dT kv) := by
  induction h with
  | emp => intro a z; cases z
  | non _ ih => exact ih
  | som h1 _ _ ih =>
    intro a z
    rcases List.mem_append.mp z with z | z
    · exact own_kind h1 a z
    · exact ih a z
theorem call_lend {fp : List Addr} {m : Fn} {as : List Ar} {xs : List V} {os os' : List O} {z : O} {r : R} {Q : VK} {E : XK} (s : S0 K ρ σ fp F H) (ha : ArOk K F σ xs as) (hg : giveB ρ as = some os) (hm : m os = some (z, os')) (ht : takeR z = some r)
    (q : ∀ F' H' x, S0 K ρ σ fp F' H' → Ext fp F H fp F' H' → ROk K H F' H' σ fp x r → Q x H') : spM K m xs H Q E := by
  obtain ⟨φ, p, mem⟩ := pw_of s.own
  have inF : ∀ a ∈ lentF φ as, a ∈ fp := fun a z => (mem a).mpr (lentF_fp z)
  have hL : ∀ a ∈ lentF φ as, F a = none := fun a z => (s.own.there a (inF a z)).1
  have hc := lend_ok p s.same hL ha hg fun a z => z
  refine ⟨icy F H (lentF φ as), [], os, z, os', ⟨icy_le s.same, hc⟩, hm, fun fp' F' H' x f s' x' hr hf => ?_⟩
  have hH : ∀ a u, H a = some u → H' a = some u := fun a u e => x'.fH a u e fun z => nomatch z
  -- the callee's frozen part without what was lent
  let F2 : Hp := fun a => if a ∈ lentF φ as then none else F' a
  have f2in : ∀ {a}, a ∈ lentF φ as → F2 a = none := fun h => if_pos h
  have f2out : ∀ {a}, a ∉ lentF φ as → F2 a = F' a := fun h => if_neg h
  have sF : Same F F2 := fun a u e => by
    have hn : a ∉ lentF φ as := fun w => by rw [hL a w] at e; cases e
    rw [f2out hn]
    exact x'.fF a u (by rw [icy_out hn]; exact e)
  have s2 : Same F2 H' := fun a u e => by
    by_cases w : a ∈ lentF φ as
    · rw [f2in w] at e; cases e
    · rw [f2out w] at e; exact s'.same a u e
  have n2 : ∀ a ∈ fp, F2 a = none := fun a z => by
    by_cases w : a ∈ lentF φ as
    · exact f2in w
    · rw [f2out w]
      obtain ⟨n, u, hu⟩ := s.own.there a z
      cases qq : F' a with
      | none => rfl
      | some v =>
        rcases x'.fN a v qq with y | y | y
        · rw [icy_out w, n] at y; cases y
        · rw [hu] at y; cases y
        · cases y
  have own2 : OwnE K F2 H' σ ρ fp := s.own.keep sF fun a z => by
    obtain ⟨n, u, hu⟩ := s.own.there a z
    exact ⟨(hH a u hu).trans hu.symm, n2 a z⟩
  have hN : ∀ a u, F2 a = some u → F a = some u ∨ H a = none ∨ a ∈ fp := fun a u e => by
    by_cases w : a ∈ lentF φ as
    · rw [f2in w] at e; cases e
    · rw [f2out w] at e
      rcases x'.fN a u e with y | y | y
      · rw [icy_out w] at y; exact .inl y
      · exact .inr (.inl y)
      · cases y
  have ext : Ext fp F H fp F2 H' := ⟨sF, fun a u e _ => hH a u e, fun a z => .inl z, hN, x'.dom⟩
  have nt : ∀ a ∈ lentF φ as, ∀ u, F' a = some u → (∀ vs, u ≠ .tup vs) ∧ ∀ o vs, u ≠ .frz o (.tup vs) := fun a z u e => by
    have e1 := s'.same a u e
    obtain ⟨i, zi⟩ := lentF_fp z
    obtain ⟨_, w, hw⟩ := s.own.there a (inF a z)
    have hk : (∃ vs, H a = some (.lst vs)) ∨ (∃ kv, H a = some (.dK kv)) ∨ ∃ kv, H a = some (.dT kv) := by
      exact ownE_kind s.own a (inF a z)
    rcases hk with ⟨vs, h⟩ | ⟨kv, h⟩ | ⟨kv, h⟩
    all_goals
      rw [hH a _ h] at e1
      cases e1
      exact ⟨fun vs q => (nomatch q), fun o vs q => (nomatch q)⟩
  refine q F2 H' x ⟨s2, own2⟩ ext ?_
  cases z with
  | v d =>
    rw [takeR] at ht
    split at ht
    · rename_i hn
      cases ht
      cases hr with
      | v hd => exact .v (noL_dp (fun a w => f2out w) nt hn hd)
    · cases ht
  | l ds =>
    rw [takeR] at ht
    split at ht
    · rename_i hn
      cases ht
      cases hr with
      | @l a vs _ k1 k2 k3 =>
        have hfa := hf a (List.mem_singleton.mpr rfl)
        have hnot : a ∉ fp := fun w => by
          obtain ⟨_, u, hu⟩ := s.own.there a w
          rw [hfa.2] at hu; cases hu
        refine .o (.l ?_ k2 (noLs_dp (fun a w => f2out w) nt hn k3)) fun b w => ?_
        · by_cases w : a ∈ lentF φ as
          · exact f2in w
          · rw [f2out w]; exact k1
        · rw [List.mem_singleton] at w
          subst w
          exact ⟨hnot, hfa.2⟩
    · cases ht
  | c os => cases ht
  | k kvs => cases ht
  | t kvs => cases ht
end
end Mm
namespace Mm
open PySem L2

/-! ### a def -/
/-- what the arguments' objects are behind the body: a value stays; what is owned must be owned still -/
def outs (ρ : Rho) : List O → Nat → Option (List O)
  | [], _ => some []
  | .v d :: os, k => (outs ρ os (k + 1)).map fun os' => .v d :: os'
  | _ :: os, k => match slotO ρ k with
    | some (.v _) => none
    | some o => (outs ρ os (k + 1)).map fun os' => o :: os'
    | none => none
def isVO : O → Bool
  | .v _ => true
  | _ => false
def isC : O → Bool
  | .c _ => true
  | _ => false
/-- no owned argument's name is stored to -/
def safeW (w : List Nat) : List O → Nat → Bool
  | [], _ => true
  | o :: os, k => (isVO o || !w.contains k) && safeW w os (k + 1)
def finO (n : Nat) (os : List O) (r : R) (ρ : Rho) : Option (O × List O) := match r with
  | .v d => (outs ρ os 0).map fun os' => (.v d, os')
  | .o o => (outs ρ os 0).map fun os' => (o, os')
  | .at i => if i < n then (keep ρ (.at i)).bind fun p => (outs p.2 os 0).map fun os' => (.v p.1, os')
    else match slotO ρ i with
      | some (.v d) => (outs ρ os 0).map fun os' => (.v d, os')
      | some o => if os.all fun o => !isC o then (outs ρ os 0).map fun os' => (o, os') else none
      | none => none
def defM (n nl : Nat) (w : List Nat) (S : SF) : Fn := fun os => if os.length = n ∧ safeW w os 0 = true then (S (os.map some ++ List.replicate nl none)).bind fun fl => match fl with
  | .nx ρ => (outs ρ os 0).map fun os' => (.v .none, os')
  | .rt r ρ => finO n os r ρ
  | _ => none
  else none
theorem outs_len {ρ : Rho} : ∀ {os os' : List O} {k : Nat}, outs ρ os k = some os' → os'.length = os.length
  | [], _, _, e => by cases e; rfl
  | o :: os, os', k, e => by
    cases o with
    | v d =>
      rw [outs] at e
      obtain ⟨os1, e1, e2⟩ := Option.map_eq_some_iff.mp e
      subst e2
      simp [outs_len e1]
    | _ =>
      rw [outs] at e
      · split at e
        · cases e
        · obtain ⟨os1, e1, e2⟩ := Option.map_eq_some_iff.mp e
          subst e2
          simp [outs_len e1]
        · cases e
      · intro d z; cases z
theorem finO_len {n : Nat} {os os' : List O} {r : R} {ρ : Rho} {o : O} (e : finO n os r ρ = some (o, os')) : os'.length = os.length := by
  unfold finO at e
  split at e
  · obtain ⟨os1, e1, e2⟩ := Option.map_eq_some_iff.mp e; cases e2; exact outs_len e1
  · obtain ⟨os1, e1, e2⟩ := Option.map_eq_some_iff.mp e; cases e2; exact outs_len e1
  · split at e
    · obtain ⟨p, _, e⟩ := Option.bind_eq_some_iff.mp e
      obtain ⟨os1, e1, e2⟩ := Option.map_eq_some_iff.mp e; cases e2; exact outs_len e1
    · split at e
      · obtain ⟨os1, e1, e2⟩ := Option.map_eq_some_iff.mp e; cases e2; exact outs_len e1
      · split at e
        · obtain ⟨os1, e1, e2⟩ := Option.map_eq_some_iff.mp e; cases e2; exact outs_len e1
        · cases e
      · cases e
theorem defM_len {n nl : Nat} {w : List Nat} {S : SF} {os os' : List O} {o : O} (e : defM n nl w S os = some (o, os')) : os.length = n ∧ os'.length = os.length := by
  unfold defM at e
  split at e
  · rename_i h
    refine ⟨h.1, ?_⟩
    obtain ⟨fl, e1, e2⟩ := Option.bind_eq_some_iff.mp e
    cases fl with
    | nx ρ => obtain ⟨os1, e3, e4⟩ := Option.map_eq_some_iff.mp e2; cases e4; exact outs_len e3
    | rt r ρ => exact finO_len e2
    | bk ρ => cases e2
    | ct ρ => cases e2
  · cases e
section
variable {K : PySem.W.Frag} {F F' H H' : Hp} {σ : St} {ρ : Rho}
theorem own_app {fp : List Addr} (h : OwnE K F H σ ρ fp) (m : Nat) : OwnE K F H (σ ++ List.replicate m none) (ρ ++ List.replicate m none) fp := by
  have emp : ∀ m, OwnE K F H (List.replicate m none) (List.replicate m none) [] := by
    intro m
    induction m with
    | zero => exact .emp
    | succ m ih => exact .non ih
  induction h with
  | emp => exact emp m
  | non _ ih => exact .non ih
  | som h1 _ d ih => exact .som h1 ih d
/-- owned: the address of the value is among its own -/
theorem own_head {x : V} {o : O} {f : List Addr} (h : Own K F H x o f) (hv : isVO o = false) : ∃ a, x = .ref a ∧ a ∈ f := by
  cases h with
  | v _ => cases hv
  | l _ _ _ => exact ⟨_, rfl, List.mem_singleton.mpr rfl⟩
  | c _ _ _ _ => exact ⟨_, rfl, List.mem_cons_self⟩
  | k _ _ _ => exact ⟨_, rfl, List.mem_singleton.mpr rfl⟩
  | t _ _ _ => exact ⟨_, rfl, List.mem_singleton.mpr rfl⟩
theorem own_flat {x : V} {o : O} {f : List Addr} (h : Own K F H x o f) (hv : isC o = false) : ∀ a ∈ f, x = .ref a := by
  cases h with
  | v _ => intro a z; cases z
  | l _ _ _ => intro a z; rw [List.mem_singleton] at z; rw [z]
  | c _ _ _ _ => cases hv
  | k _ _ _ => intro a z; rw [List.mem_singleton] at z; rw [z]
  | t _ _ _ => intro a z; rw [List.mem_singleton] at z; rw [z]
theorem own_nv {x : V} {o : O} {f : List Addr} (h : Own K F H x o f) (hv : isVO o = true) : f = [] := by
  cases h with
  | v _ => rfl
  | l _ _ _ => cases hv
  | c _ _ _ _ => cases hv
  | k _ _ _ => cases hv
  | t _ _ _ => cases hv
/-- the arguments' objects behind the body. vs the arguments' values, us those ahead of k -/
theorem outs_ok {φ : Nat → List Addr} (p : Pw K F' H' σ ρ φ) (sF : Same F F') {w : List Nat} : ∀ {vs : List V} {os os' : List O} {k : Nat} {fp : List Addr}, OwnE K F H (vs.map some) (os.map some) fp → safeW w os k = true → outs ρ os k = some os' →
    (∀ j v, vs[j]? = some v → k + j ∉ w → σ[k + j]? = some (some v)) →
    ∃ fpo, OwnE K F' H' (vs.map some) (os'.map some) fpo ∧ (∀ a ∈ fpo, ∃ j o v, os[j]? = some o ∧ isVO o = false ∧ vs[j]? = some v ∧ a ∈ φ (k + j)) ∧
      ∀ j o v, os[j]? = some o → isVO o = false → vs[j]? = some v → ∃ a, v = .ref a ∧ a ∈ φ (k + j)
  | [], [], _, _, _, _, _, e, _ => by cases e; exact ⟨[], .emp, fun a z => (nomatch z), fun j o v e => by simp at e⟩
  | [], _ :: _, _, _, _, h, _, _, _ => by have := h.len; simp at this
  | _ :: _, [], _, _, _, h, _, _, _ => by have := h.len; simp at this
  | v :: vs, o :: os, os', k, fp, h, hs, e, hσ => by
    rw [List.map_cons, List.map_cons] at h
    cases h with
    | som h1 h2 d =>
      rw [safeW, Bool.and_eq_true_iff] at hs
      have rst : ∀ {os1}, outs ρ os (k + 1) = some os1 → ∃ fpo, OwnE K F' H' (vs.map some) (os1.map some) fpo ∧ (∀ a ∈ fpo, ∃ j o v, os[j]? = some o ∧ isVO o = false ∧ vs[j]? = some v ∧ a ∈ φ (k + 1 + j)) ∧
          ∀ j o v, os[j]? = some o → isVO o = false → vs[j]? = some v → ∃ a, v = .ref a ∧ a ∈ φ (k + 1 + j) := fun {os1} e1 =>
        outs_ok p sF h2 hs.2 e1 fun j v hv hw => by
          have e : k + 1 + j = k + (j + 1) := by omega
          rw [e] at hw ⊢
          exact hσ (j + 1) v (by simpa using hv) hw
      by_cases hv : isVO o = true
      · cases o with
        | v d0 =>
          rw [outs] at e
          obtain ⟨os1, e1, e2⟩ := Option.map_eq_some_iff.mp e
          subst e2
          obtain ⟨fpo, g1, g2, g3⟩ := rst e1
          cases h1 with
          | v hd =>
            refine ⟨[] ++ fpo, .som (.v (dp_mono sF hd)) g1 (fun a z => (nomatch z)), fun a z => ?_, fun j o' v' ho hn hv' => ?_⟩
            · obtain ⟨j, o', v', h3, h4, h5, h6⟩ := g2 a z
              exact ⟨j + 1, o', v', by simpa using h3, h4, by simpa using h5, by rw [show k + (j + 1) = k + 1 + j by omega]; exact h6⟩
            · cases j with
              | zero =>
                have : O.v d0 = o' := by simpa using ho
                subst this
                cases hn
              | succ j =>
                rw [show k + (j + 1) = k + 1 + j by omega]
                exact g3 j o' v' (by simpa using ho) hn (by simpa using hv')
        | _ => cases hv
      · have hv0 : isVO o = false := Bool.eq_false_iff.mpr hv
        have hkw : k ∉ w := by
          have := hs.1
          rw [hv0, Bool.false_or] at this
          intro z
          rw [List.contains_iff_mem.mpr z] at this
          cases this
        have eo : outs ρ (o :: os) k = match slotO ρ k with
            | some (.v _) => none
            | some o => (outs ρ os (k + 1)).map fun os' => o :: os'
            | none => none := by
          cases o with
          | v d => cases hv0
          | _ => rfl
        rw [eo] at e
        cases hso : slotO ρ k with
        | none => rw [hso] at e; cases e
        | some o1 =>
          rw [hso] at e
          have h1v : isVO o1 = false ∧ ∃ os1, outs ρ os (k + 1) = some os1 ∧ os' = o1 :: os1 := by
            cases o1 with
            | v d => cases e
            | _ =>
              obtain ⟨os1, e1, e2⟩ := Option.map_eq_some_iff.mp e
              exact ⟨rfl, os1, e1, e2.symm⟩
          obtain ⟨hn1, os1, e1, rfl⟩ := h1v
          obtain ⟨fpo, g1, g2, g3⟩ := rst e1
          obtain ⟨x, hx, hown⟩ := p.own k o1 (slotO_eq hso)
          have hk := hσ 0 v rfl (by simpa using hkw)
          rw [Nat.add_zero, hx] at hk
          have hk' : x = v := by simpa using hk
          subst hk'
          refine ⟨_, .som hown g1 fun a z w => ?_, fun a z => ?_, fun j o' v' ho hn hv' => ?_⟩
          · obtain ⟨j, _, _, _, _, _, w⟩ := g2 a w
            exact p.dj k (k + 1 + j) (by omega) a z w
          · rcases List.mem_append.mp z with z | z
            · exact ⟨0, o, x, rfl, hv0, rfl, by simpa using z⟩
            · obtain ⟨j, o', v', h3, h4, h5, h6⟩ := g2 a z
              exact ⟨j + 1, o', v', by simpa using h3, h4, by simpa using h5, by rw [show k + (j + 1) = k + 1 + j by omega]; exact h6⟩
          · cases j with
            | zero =>
              have : x = v' := by simpa using hv'
              subst this
              obtain ⟨a, ha, hm⟩ := own_head hown hn1
              exact ⟨a, ha, by simpa using hm⟩
            | succ j =>
              rw [show k + (j + 1) = k + 1 + j by omega]
              exact g3 j o' v' (by simpa using ho) hn (by simpa using hv')
end
end Mm
namespace Mm
open PySem L2
section
variable {K : PySem.W.Frag}
theorem own_mem {F H : Hp} {σ : St} {ρ : Rho} {fp : List Addr} (h : OwnE K F H σ ρ fp) : ∀ a ∈ fp, ∃ (j : Nat) (o : O) (v : V) (f : List Addr), ρ[j]? = some (some o) ∧ σ[j]? = some (some v) ∧ Own K F H v o f ∧ a ∈ f := by
  induction h with
  | emp => intro a z; cases z
  | non _ ih =>
    intro a z
    obtain ⟨j, o, v, f, h1, h2, h3⟩ := ih a z
    exact ⟨j + 1, o, v, f, by simpa using h1, by simpa using h2, h3⟩
  | @som x o σ ρ f fp h1 _ _ ih =>
    intro a z
    rcases List.mem_append.mp z with z | z
    · exact ⟨0, o, x, f, rfl, rfl, h1, z⟩
    · obtain ⟨j, o, v, f, h1, h2, h3⟩ := ih a z
      exact ⟨j + 1, o, v, f, by simpa using h1, by simpa using h2, h3⟩
theorem body_ok {w : List Nat} {t : TS} {S : SF} {n nl : Nat} {N : List Str} {vs : List V} {H : Hp} {Q : VK} {E : XK} (hd : DSx K w t S) (hN : N.length = n + nl) (h : spM K (defM n nl w S) vs H Q E) : t { nx := fun _ H' => Q .non H', rt := Q } (L2.start N vs) H := by
  obtain ⟨F, fp, os, r, os', s, e, q⟩ := h
  unfold defM at e
  split at e
  · rename_i hc
    obtain ⟨hlen, hs⟩ := hc
    obtain ⟨fl, e1, e2⟩ := Option.bind_eq_some_iff.mp e
    have hvs : vs.length = os.length := by
      have := s.own.len
      simpa using this
    have hst : L2.start N vs = vs.map some ++ List.replicate nl none := by
      unfold L2.start
      rw [hN, show n + nl - vs.length = nl by omega]
    have s0 : S0 K (os.map some ++ List.replicate nl none) (L2.start N vs) fp F H := by
      rw [hst]
      exact ⟨s.same, own_app s.own nl⟩
    have at0 : ∀ {σ' : St}, (∀ j, j ∉ w → σ'[j]? = (L2.start N vs)[j]?) → ∀ j v, vs[j]? = some v → 0 + j ∉ w → σ'[0 + j]? = some (some v) := fun {σ'} hw j v hv hj => by
      rw [Nat.zero_add] at hj ⊢
      rw [hw j hj, hst, List.getElem?_append_left (by rw [List.length_map]; exact (List.getElem?_eq_some_iff.mp hv).1), List.getElem?_map, hv]
      rfl
    -- the end, when the answer is known
    have fin : ∀ {ρ : Rho} {σ' : St} {fp' : List Addr} {F' H' : Hp} {x : V} {f : List Addr} {φ : Nat → List Addr}, S0 K ρ σ' fp' F' H' → Pw K F' H' σ' ρ φ → (∀ a, a ∈ fp' ↔ ∃ i, a ∈ φ i) → Ext fp F H fp' F' H' → (∀ j, j ∉ w → σ'[j]? = (L2.start N vs)[j]?) → outs ρ os 0 = some os' → Own K F' H' x r f →
        (∀ fpo, (∀ a ∈ fpo, a ∈ fp' ∧ ∃ j, j < os.length ∧ a ∈ φ j) → (∀ j o v, os[j]? = some o → isVO o = false → vs[j]? = some v → ∃ a, v = .ref a ∧ a ∈ φ j) → ∀ a ∈ f, a ∉ fpo ∧ H a = none) → Q x H' := fun {ρ σ' fp' F' H' x f φ} s' p mem x' hw ho hr hf => by
      obtain ⟨fpo, g1, g2, g3⟩ := outs_ok p x'.fF s.own hs ho (at0 hw)
      have sub : ∀ a ∈ fpo, a ∈ fp' ∧ ∃ j, j < os.length ∧ a ∈ φ j := fun a z => by
        obtain ⟨j, o, _, ho, _, _, z⟩ := g2 a z
        rw [Nat.zero_add] at z
        exact ⟨(mem a).mpr ⟨_, z⟩, j, (List.getElem?_eq_some_iff.mp ho).1, z⟩
      exact q fpo F' H' x f ⟨s'.same, g1⟩ ⟨x'.fF, x'.fH, fun a z => x'.fC a (sub a z).1, x'.fN, x'.dom⟩ hr (hf fpo sub fun j o v h1 h2 h3 => by
        have := g3 j o v h1 h2 h3
        rwa [Nat.zero_add] at this)
    have fin0 : ∀ {ρ : Rho} {σ' : St} {fp' : List Addr} {F' H' : Hp} {x : V} {f : List Addr}, S0 K ρ σ' fp' F' H' → Ext fp F H fp' F' H' → (∀ j, j ∉ w → σ'[j]? = (L2.start N vs)[j]?) → outs ρ os 0 = some os' → Own K F' H' x r f →
        (∀ a ∈ f, a ∉ fp' ∧ H a = none) → Q x H' := fun {ρ σ' fp' F' H' x f} s' x' hw ho hr hf => by
      obtain ⟨φ, p, mem⟩ := pw_of s'.own
      exact fin s' p mem x' hw ho hr fun fpo sub _ a z => ⟨fun y => (hf a z).1 (sub a y).1, (hf a z).2⟩
    refine hd _ _ fp F H fl _ s0 e1 ?_
    cases fl with
    | nx ρ =>
      intro σ' fp' F' H' s' x' hw
      obtain ⟨os1, e3, e4⟩ := Option.map_eq_some_iff.mp e2
      cases e4
      exact fin0 (f := []) s' x' hw e3 (.v .non) fun a z => nomatch z
    | bk ρ => cases e2
    | ct ρ => cases e2
    | rt r0 ρ =>
      intro σ' fp' F' H' x s' x' hw k
      have e2' : finO n os r0 ρ = some (r, os') := e2
      unfold finO at e2'
      split at e2'
      · obtain ⟨os1, e3, e4⟩ := Option.map_eq_some_iff.mp e2'
        cases e4
        cases k with
        | v kd => exact fin0 (f := []) s' x' hw e3 (.v kd) fun a z => nomatch z
      · obtain ⟨os1, e3, e4⟩ := Option.map_eq_some_iff.mp e2'
        cases e4
        cases k with
        | o ko kf => exact fin0 s' x' hw e3 ko fun a z => kf a z
      · rename_i i
        split at e2'
        · obtain ⟨⟨d, ρ2⟩, e3, e4⟩ := Option.bind_eq_some_iff.mp e2'
          obtain ⟨os1, e5, e6⟩ := Option.map_eq_some_iff.mp e4
          cases e6
          obtain ⟨F2, fp2, s2, x2, kd⟩ := keep_ok s' k x' e3
          exact fin0 (f := []) s2 x2 hw e5 (.v kd) fun a z => nomatch z
        · rename_i hi
          have hx := at_of k
          split at e2'
          · rename_i d hso
            obtain ⟨os1, e3, e4⟩ := Option.map_eq_some_iff.mp e2'
            cases e4
            obtain ⟨y, f, hy, ho, _⟩ := s'.slot (slotO_eq hso)
            rw [hx] at hy
            cases hy
            cases ho with
            | v kd => exact fin0 (f := []) s' x' hw e3 (.v kd) fun a z => nomatch z
          · rename_i o _ hso
            split at e2'
            · rename_i hflat
              obtain ⟨os1, e3, e4⟩ := Option.map_eq_some_iff.mp e2'
              cases e4
              obtain ⟨φ, p, mem⟩ := pw_of s'.own
              obtain ⟨y, hy, hown⟩ := p.own i _ (slotO_eq hso)
              rw [hx] at hy
              cases hy
              refine fin s' p mem x' hw e3 hown fun fpo sub g3 a z => ⟨fun y => ?_, ?_⟩
              · obtain ⟨_, j, hj, y⟩ := sub a y
                exact p.dj i j (by omega) a z y
              · rcases x'.fC a ((mem a).mpr ⟨i, z⟩) with y | y
                · obtain ⟨j, o2, v, f0, hj, hv, ho2, y⟩ := own_mem s.own a y
                  exfalso
                  rw [List.getElem?_map] at hj hv
                  have hj' : os[j]? = some o2 := by simpa using hj
                  have hv' : vs[j]? = some v := by simpa using hv
                  have hc2 : isC o2 = false := by
                    have := List.all_eq_true.mp hflat o2 (List.mem_of_getElem? hj')
                    simpa using this
                  have hnv : isVO o2 = false := by
                    cases h9 : isVO o2 with
                    | false => rfl
                    | true => rw [own_nv ho2 h9] at y; cases y
                  have e9 := own_flat ho2 hc2 a y
                  obtain ⟨a', e10, hm⟩ := g3 j o2 v hj' hnv hv'
                  rw [e9] at e10
                  cases e10
                  have hjl := (List.getElem?_eq_some_iff.mp hj').1
                  exact p.dj i j (by omega) a z hm
                · exact y
            · cases e2'
          · cases e2'
  · cases e
end

/-- a def of the text keeps what its image says -/
theorem def_ok {P : Program} {wd : World} {K : PySem.W.Frag} {mg : Str → Option Value} {base : Heap} {x qual : Str} {st : Stmt} {f : Addr} {fd : FuncData} {N ps : List Str} {k n nl : Nat} {w : List Nat} {S : SF} (F : Fun K x qual st f fd) (sc : FnScope N ps (defScope st)) (hn : ps.length = n) (hN : N.length = n + nl)
    (hb : ∀ (cdv : Value) (A : Around) (outer : List Env) (s : Shared) (H : Hp) (E : XK), Room k (A.deeper (PyProof.Rows.envOfC qual (defScope st) s.heap.objs.size f cdv)) → ∃ t, DSs K wd (cxOf CX0 P wd K mg base N qual (defScope st) f cdv A outer s H E).nox w (defBody st) t S) :
    FnOk P wd K mg base CX0 (k + 1) f fd ps (spM K (defM n nl w S)) := by
  refine F.ok sc (fun vs H Q E h => ?_) (fun cdv A outer s H vs Q E hr h => ?_)
  · obtain ⟨F, fp, os, r, os', s, e, _⟩ := h
    have h1 := (defM_len e).1
    have h2 := s.own.len
    simp at h2
    omega
  · obtain ⟨t, ht⟩ := hb cdv A outer s H E hr
    exact ⟨t, ht.pe rfl rfl, body_ok ht.dn hN h⟩
/-- what a caller knows of a def -/
structure Callee (P : Program) (wd : World) (K : PySem.W.Frag) (mg : Str → Option Value) (base : Heap) (k : Nat) (x : Str) (ps : List Str) (m : Fn) : Prop where
  ex : ∃ f fd, FnOk P wd K mg base CX0 k f fd ps (spM K m) ∧ Binds K fd ps [] ∧ PySem.W.keepIn K (.ref f) = true ∧ mg x = some (.ref f)
  len : ∀ os r, m os = some r → r.2.length = os.length
theorem defM_lenC {n nl : Nat} {w : List Nat} {S : SF} : ∀ os r, defM n nl w S os = some r → r.2.length = os.length := fun os r e => (defM_len (o := r.1) (os' := r.2) e).2
section
variable {X : Cx} {k : Nat} {x : Str} {ps : List Str} {m : Fn} {e : Expr} {es : List Expr} {t : TA} {f : CF} {p pos : Pos}
theorem de_call (C : Callee X.prog wd K X.mg X.base k x ps m) (hr : Room k X.A) (ha : DC K wd X (e :: es) t f) (hg : Gl X x := by rfl) (hdb : (x == ("__debug__" : Str)) = false := by decide) (he : starEach (e :: es) X.env = (false, eval e X.env) :: starEach es X.env := by rfl)
    (hpl : (backTo pos (starEach es X.env)).any (·.1) = false := by rfl) : DE K wd X (.Call (.Name x p) (e :: es) [] pos) (tCall (spM K m) [] E0 t) (callE m f) := by
  refine ⟨fun hk hw => by
    subst hk hw
    obtain ⟨fa, fd, G, hb, hk, hm⟩ := C.ex
    exact pe_call G hr hg hm hk hb .nil pass0 (ha.pe rfl rfl) hdb he hpl, fun ρ σ fp F H rr ρ' Q s ee q => ?_⟩
  obtain ⟨⟨as, ρ1⟩, e1, e2⟩ := Option.bind_eq_some_iff.mp ee
  split at e2
  · rename_i nd
    obtain ⟨os, e3, e4⟩ := Option.bind_eq_some_iff.mp e2
    obtain ⟨⟨r, os'⟩, e5, e6⟩ := Option.map_eq_some_iff.mp e4
    cases e6
    refine ha.dn ρ σ fp F H as ρ1 _ s e1 fun fp1 F1 H1 xs s1 x1 k1 => ?_
    show spM K m (xs ++ []) H1 Q E0
    rw [List.append_nil]
    exact call_ref s1 k1 nd e3 e5 (C.len os _ e5) fun fp2 F2 H2 x s2 x2 k2 => q fp2 F2 H2 x s2 (x1.trans x2) (k2.base fun c => x1.none_back)
  · cases e2
theorem de_callB (C : Callee X.prog wd K X.mg X.base k x ps m) (hr : Room k X.A) (ha : DC K wd X (e :: es) t f) (hg : Gl X x := by rfl) (hdb : (x == ("__debug__" : Str)) = false := by decide) (he : starEach (e :: es) X.env = (false, eval e X.env) :: starEach es X.env := by rfl)
    (hpl : (backTo pos (starEach es X.env)).any (·.1) = false := by rfl) : DE K wd X (.Call (.Name x p) (e :: es) [] pos) (tCall (spM K m) [] E0 t) (callB m f) := by
  refine ⟨fun hk hw => by
    subst hk hw
    obtain ⟨fa, fd, G, hb, hk, hm⟩ := C.ex
    exact pe_call G hr hg hm hk hb .nil pass0 (ha.pe rfl rfl) hdb he hpl, fun ρ σ fp F H rr ρ' Q s ee q => ?_⟩
  obtain ⟨⟨as, ρ1⟩, e1, e2⟩ := Option.bind_eq_some_iff.mp ee
  obtain ⟨os, e3, e4⟩ := Option.bind_eq_some_iff.mp e2
  obtain ⟨⟨z, os'⟩, e5, e6⟩ := Option.bind_eq_some_iff.mp e4
  obtain ⟨r, e7, e8⟩ := Option.map_eq_some_iff.mp e6
  cases e8
  refine ha.dn ρ σ fp F H as ρ1 _ s e1 fun fp1 F1 H1 xs s1 x1 k1 => ?_
  show spM K m (xs ++ []) H1 Q E0
  rw [List.append_nil]
  exact call_lend s1 k1 e3 e5 e7 fun F2 H2 x s2 x2 k2 => q fp1 F2 H2 x s2 (x1.trans x2) (k2.base fun c => x1.none_back)
end
end Mm
namespace Mm
open PySem L2

/-! ### a list display whose items may be new lists -/
abbrev NF := Rho → Option (List O × Rho)
def oN : NF := fun ρ => some ([], ρ)
def oC (f : EF) (g : NF) : NF := fun ρ => (f ρ).bind fun p => match p.1 with
  | .v d => (g p.2).map fun q => (.v d :: q.1, q.2)
  | .o o => (g p.2).map fun q => (o :: q.1, q.2)
  | .at _ => none
def lstC (g : NF) : EF := fun ρ => (g ρ).bind fun p => if decide (p.1.length ≤ sizeLine) then some (.o (.c p.1), p.2) else none
structure DN (K : PySem.W.Frag) (wd : World) (X : Cx) (es : List Expr) (t : TA) (f : NF) : Prop where
  pe : X.K = K → X.w = wd → PA X es t
  dn : ∀ (ρ : Rho) (σ : St) (fp : List Addr) (F H : Hp) (os : List O) (ρ' : Rho) (Q : List V → Hp → Prop), S0 K ρ σ fp F H → f ρ = some (os, ρ') →
    (∀ fp' F' H' xs f, S0 K ρ' σ fp' F' H' → Ext fp F H fp' F' H' → OwnL K F' H' xs os f → (∀ a ∈ f, a ∉ fp' ∧ H a = none) → Q xs H') → t σ H Q
section
variable {X : Cx} {e a : Expr} {es : List Expr} {te ta' : TE} {fe fa : EF} {ta : TA} {g : NF} {pos p2 : Pos}
theorem dn_nil : DN K wd X [] tNil oN := ⟨fun hk hw => by subst hk hw; exact pa_nil, fun ρ σ fp F H os ρ' Q s e q => by cases e; exact q fp F H [] [] s .refl .nil fun a z => nomatch z⟩
theorem dn_cons (h : DE K wd X e te fe) (k : DN K wd X es ta g) (hs : starEach (e :: es) X.env = (false, eval e X.env) :: starEach es X.env := by rfl) : DN K wd X (e :: es) (tCons te ta) (oC fe g) := by
  refine ⟨fun hk hw => by subst hk hw; exact pa_cons (h.pe rfl rfl) (k.pe rfl rfl) hs, fun ρ σ fp F H os ρ' Q s e q => ?_⟩
  obtain ⟨⟨r, ρ1⟩, e1, e2⟩ := Option.bind_eq_some_iff.mp e
  refine h.dn ρ σ fp F H r ρ1 _ s e1 fun fp1 F1 H1 x s1 x1 k1 => ?_
  have go : ∀ {o os1 ρ2 f}, g ρ1 = some (os1, ρ2) → Own K F1 H1 x o f → (∀ a ∈ f, a ∉ fp1 ∧ H a = none) → (∀ fp' F' H' xs f, S0 K ρ2 σ fp' F' H' → Ext fp F H fp' F' H' → OwnL K F' H' xs (o :: os1) f → (∀ a ∈ f, a ∉ fp' ∧ H a = none) → Q xs H') →
      ta σ H1 (fun xs H2 => Q (x :: xs) H2) := fun {o os1 ρ2 f} e3 ho hf q => by
    refine k.dn ρ1 σ fp1 F1 H1 os1 ρ2 _ s1 e3 fun fp2 F2 H2 xs f2 s2 x2 k2 hf2 => ?_
    have k1' : ROk K H F1 H1 σ fp1 x (.o o) := .o ho hf
    have fin : ∀ {f'}, Own K F2 H2 x o f' → (∀ a ∈ f', a ∉ fp2 ∧ H a = none) → (∀ a ∈ f', ∃ u, H1 a = some u) → Q (x :: xs) H2 := fun {f'} h1 h2 h3 =>
      q fp2 F2 H2 (x :: xs) _ s2 (x1.trans x2) (.cons h1 k2 fun a z w => by
        obtain ⟨u, hu⟩ := h3 a z
        rw [(hf2 a w).2] at hu; cases hu) fun a z => by
        rcases List.mem_append.mp z with z | z
        · exact h2 a z
        · exact ⟨(hf2 a z).1, x1.none_back (hf2 a z).2⟩
    have st : ∀ a ∈ f, H2 a = H1 a ∧ F2 a = none := fun a z => by
      obtain ⟨n, u, hu⟩ := ho.there a z
      refine ⟨(x2.fH a u hu (hf a z).1).trans hu.symm, ?_⟩
      cases qq : F2 a with
      | none => rfl
      | some w =>
        rcases x2.fN a w qq with y | y | y
        · rw [n] at y; cases y
        · rw [hu] at y; cases y
        · exact absurd y (hf a z).1
    refine fin (ho.keep x2.fF st) (fun a z => ⟨fun y => ?_, (hf a z).2⟩) fun a z => (ho.there a z).2
    rcases x2.fC a y with y | y
    · exact (hf a z).1 y
    · obtain ⟨_, u, hu⟩ := ho.there a z
      rw [y] at hu; cases hu
  dsimp only at e2
  split at e2
  · obtain ⟨⟨os1, ρ2⟩, e3, e4⟩ := Option.map_eq_some_iff.mp e2
    cases e4
    cases k1 with
    | v k1 => exact go (f := []) e3 (.v k1) (fun a z => nomatch z) q
  · obtain ⟨⟨os1, ρ2⟩, e3, e4⟩ := Option.map_eq_some_iff.mp e2
    cases e4
    cases k1 with
    | o k1 kf => exact go e3 k1 kf q
  · cases e2
theorem de_lstC (h : DN K wd X es ta g) : DE K wd X (.List es pos) (tLst ta) (lstC g) := by
  refine ⟨fun hk hw => by subst hk hw; exact pe_lst (h.pe rfl rfl), fun ρ σ fp F H r ρ' Q s e q => ?_⟩
  obtain ⟨⟨os, ρ1⟩, e1, e2⟩ := Option.bind_eq_some_iff.mp e
  split at e2
  · rename_i hz
    cases e2
    refine h.dn ρ σ fp F H os ρ1 _ s e1 fun fp1 F1 H1 xs f s1 x1 k1 hf => ?_
    refine ⟨by rw [ownL_len k1]; exact of_decide_eq_true hz, fun p hp => ?_⟩
    obtain ⟨s2, x2, n1, n2⟩ := alloc_own s1 hp (.lst xs)
    have hpf : p ∉ f := fun z => by
      obtain ⟨_, u, hu⟩ := k1.there p z
      rw [hp] at hu; cases hu
    have k2 : OwnL K F1 (upd H1 p (.lst xs)) xs os f := k1.keep (Same.refl F1) fun a z => by
      have : a ≠ p := fun w => by subst w; exact hpf z
      exact ⟨upd_ne this, (k1.there a z).1⟩
    refine q fp1 _ _ _ s2 (x1.trans x2) (.o (.c n1 upd_same k2 hpf) fun a z => ?_)
    rcases List.mem_cons.mp z with rfl | z
    · exact ⟨n2, x1.none_back hp⟩
    · exact hf a z
  · cases e2
def negD : D → Option D
  | .int i => some (.int (-i))
  | _ => none
theorem de_neg (ha : DE K wd X a ta' fa) : DE K wd X (.UnaryOp .USub a pos) (tUn (rU fun i => .int (-i)) ta') (o1 negD fa) := by
  refine ⟨fun hk hw => by subst hk hw; exact pe_un un_neg (ha.pe rfl rfl), fun ρ σ fp F H r ρ' Q s e q => ?_⟩
  obtain ⟨⟨ra, ρ1⟩, e1, e⟩ := Option.bind_eq_some_iff.mp e
  obtain ⟨d, e2, e⟩ := Option.bind_eq_some_iff.mp e
  obtain ⟨d', e3, e⟩ := Option.map_eq_some_iff.mp e
  cases e
  refine ha.dn ρ σ fp F H ra ρ1 _ s e1 fun fp1 F1 H1 x s1 x1 k1 => ?_
  have hd := peek_ok s1 k1 e2
  unfold negD at e3
  split at e3
  · cases e3
    exact ⟨_, dp_int hd, q fp1 F1 H1 _ s1 x1 (.v (.int _))⟩
  · cases e3
end
theorem de_p {X : Cx} {e : Expr} {t : TE} {f : VF} (h : DV K wd X e t f) : DE K wd X e t (pE f) := by
  refine ⟨h.pe, fun ρ σ fp F H r ρ' Q s e q => ?_⟩
  obtain ⟨⟨d, ρ1⟩, e1, e2⟩ := Option.map_eq_some_iff.mp e
  cases e2
  exact h.dn ρ σ fp F H d ρ1 Q s e1 fun fp1 F1 H1 x s1 x1 k1 => q fp1 F1 H1 x s1 x1 (.v k1)
theorem r65 {A : Around} {k : Nat} (hr : Room k A) : A.units + 65 < cLine := by have := hr.un; omega
theorem fn_none {P : Program} {wd : World} {K : PySem.W.Frag} {mg : Str → Option Value} {base : Heap} {f : Addr} {fd : FuncData} {ps : List Str} : FnOk P wd K mg base CX0 0 f fd ps (spM K fun _ => none) := by
  have no : ∀ vs H Q E, ¬ spM K (fun _ => none) vs H Q E := fun vs H Q E h => by
    obtain ⟨F, fp, os, r, os', s, e, _⟩ := h
    cases e
  exact ⟨fun vs H Q E h => absurd h (no vs H Q E), fun A outer s H args us vs Q E _ _ _ _ h => absurd h (no vs H Q E)⟩
/-- the script: a list of ints -/
def spLaw (K : PySem.W.Frag) : Sp := fun vs H Q _ => ∃ (a : Addr) (ns : List Int), vs = [.ref a] ∧ SqL K H a (ns.map V.int) ∧ ns.length ≤ 63 ∧ ∀ H', Q (.bl true) H'
theorem law_imp {P : Program} {wd : World} {K : PySem.W.Frag} {mg : Str → Option Value} {base : Heap} {f : Addr} {fd : FuncData} {ps : List Str} {k : Nat} {m : Fn} (hm : ∀ ns : List Int, ns.length ≤ 63 → ∃ os', m [.v (.list (ns.map .int))] = some (.v (.bool true), os'))
    (F : FnOk P wd K mg base CX0 k f fd ps (spM K m)) : FnOk P wd K mg base CX0 k f fd ps (spLaw K) := F.imp fun vs H Q E h => by
  obtain ⟨a, ns, rfl, hS, hl, q⟩ := h
  obtain ⟨os', e⟩ := hm ns hl
  refine ⟨H, [], _, _, os', ⟨Same.refl H, .som (f := []) (.v (.lst hS (da_of_ints ns))) .emp fun a z => nomatch z⟩, e, fun fp' F' H' x f s' x' hr hf => ?_⟩
  cases hr with
  | v h => rw [dp_bl h]; exact q H'
end Mm
namespace Mm
open PySem L2
/-! ### names that are not wanted any more -/
def klF (vs : List Nat) : Fl → Fl
  | .nx ρ => .nx (wipeR ρ vs)
  | .bk ρ => .bk (wipeR ρ vs)
  | .ct ρ => .ct (wipeR ρ vs)
  | .rt r ρ => .rt r ρ
/-- some names are forgotten behind a statement -/
def klE (vs : List Nat) (f : SF) : SF := fun ρ => (f ρ).map (klF vs)
/-- some names are forgotten ahead of it -/
def klS (vs : List Nat) (f : SF) : SF := fun ρ => f (wipeR ρ vs)
section
variable {K : PySem.W.Frag} {wd : World} {X : Cx} {w : List Nat} {F H : Hp} {σ : St} {ρ : Rho} {fp : List Addr}
theorem own_kill1 (h : OwnE K F H σ ρ fp) (v : Nat) : ∃ fp', OwnE K F H σ (ρ.set v none) fp' ∧ ∀ a ∈ fp', a ∈ fp := by
  by_cases hv : v < ρ.length
  · have hs : v < σ.length := by rw [h.len]; exact hv
    obtain ⟨fp', h1, h2⟩ := own_put h (v := v) (y := σ[v]) (o := none) hv fun u z => nomatch z
    rw [set_self (List.getElem?_eq_getElem hs)] at h1
    exact ⟨fp', h1, h2⟩
  · rw [List.set_eq_of_length_le (by omega)]
    exact ⟨fp, h, fun _ z => z⟩
theorem own_kill (h : OwnE K F H σ ρ fp) : ∀ vs : List Nat, ∃ fp', OwnE K F H σ (wipeR ρ vs) fp' ∧ ∀ a ∈ fp', a ∈ fp
  | [] => ⟨fp, h, fun _ z => z⟩
  | v :: vs => by
    obtain ⟨fp1, h1, k1⟩ := own_kill h vs
    obtain ⟨fp2, h2, k2⟩ := own_kill1 h1 v
    exact ⟨fp2, h2, fun a z => k1 a (k2 a z)⟩
theorem S0.kill (s : S0 K ρ σ fp F H) (vs : List Nat) : ∃ fp', S0 K (wipeR ρ vs) σ fp' F H ∧ ∀ a ∈ fp', a ∈ fp := by
  obtain ⟨fp', h, k⟩ := own_kill s.own vs
  exact ⟨fp', ⟨s.same, h⟩, k⟩
theorem Ext.less {C C' C'' : List Addr} {F F' H H' : Hp} (x : Ext C F H C' F' H') (k : ∀ a ∈ C'', a ∈ C') : Ext C F H C'' F' H' := ⟨x.fF, x.fH, fun a z => x.fC a (k a z), x.fN, x.dom⟩
theorem Ext.more {C C0 C' : List Addr} {F F' H H' : Hp} (x : Ext C F H C' F' H') (k : ∀ a ∈ C, a ∈ C0) : Ext C0 F H C' F' H' := ⟨x.fF, fun a o e n => x.fH a o e fun z => n (k a z), fun a z => (x.fC a z).imp (k a) id, fun a o e => (x.fN a o e).imp id (Or.imp id (k a)), x.dom⟩
theorem dsx_klE {t : TS} {f : SF} (vs : List Nat) (h : DSx K w t f) : DSx K w t (klE vs f) := fun ρ σ fp F H fl dn s e k => by
  obtain ⟨fl', e1, e2⟩ := Option.map_eq_some_iff.mp e
  subst e2
  refine h ρ σ fp F H fl' dn s e1 ?_
  cases fl' with
  | nx ρ' =>
    intro σ' fp' F' H' s' x' hw
    obtain ⟨fp2, s2, k2⟩ := s'.kill vs
    exact k σ' fp2 F' H' s2 (x'.less k2) hw
  | bk ρ' =>
    intro σ' fp' F' H' s' x' hw
    obtain ⟨fp2, s2, k2⟩ := s'.kill vs
    exact k σ' fp2 F' H' s2 (x'.less k2) hw
  | ct ρ' =>
    intro σ' fp' F' H' s' x' hw
    obtain ⟨fp2, s2, k2⟩ := s'.kill vs
    exact k σ' fp2 F' H' s2 (x'.less k2) hw
  | rt r ρ' => exact k
theorem Kont.less {dn : Ends} {fp1 : List Addr} (k : ∀ a ∈ fp1, a ∈ fp) : ∀ {fl : Fl}, Kont K w σ fp F H dn fl → Kont K w σ fp1 F H dn fl
  | .nx _, h => fun σ' fp' F' H' s' x' hw => h σ' fp' F' H' s' (x'.more k) hw
  | .bk _, h => fun σ' fp' F' H' s' x' hw => h σ' fp' F' H' s' (x'.more k) hw
  | .ct _, h => fun σ' fp' F' H' s' x' hw => h σ' fp' F' H' s' (x'.more k) hw
  | .rt _ _, h => fun σ' fp' F' H' x s' x' hw r => h σ' fp' F' H' x s' (x'.more k) hw r
theorem dsx_klS {t : TS} {f : SF} (vs : List Nat) (h : DSx K w t f) : DSx K w t (klS vs f) := fun ρ σ fp F H fl dn s e k => by
  obtain ⟨fp1, s1, k1⟩ := s.kill vs
  exact h _ σ fp1 F H fl dn s1 e (k.less k1)
theorem ds_klE {t : TS} {f : SF} {st : Stmt} (vs : List Nat) (h : DS K wd X w st t f) : DS K wd X w st t (klE vs f) := ⟨h.pe, dsx_klE vs h.dn⟩
theorem ds_klS {t : TS} {f : SF} {st : Stmt} (vs : List Nat) (h : DS K wd X w st t f) : DS K wd X w st t (klS vs f) := ⟨h.pe, dsx_klS vs h.dn⟩
theorem dss_klE {t : TS} {f : SF} {st : List Stmt} (vs : List Nat) (h : DSs K wd X w st t f) : DSs K wd X w st t (klE vs f) := ⟨h.pe, dsx_klE vs h.dn⟩
theorem Kont.later {dn : Ends} {fp1 : List Addr} {F1 H1 : Hp} (x1 : Ext fp F H fp1 F1 H1) : ∀ {fl : Fl}, Kont K w σ fp F H dn fl → Kont K w σ fp1 F1 H1 dn fl
  | .nx _, h => fun σ' fp' F' H' s' x' hw => h σ' fp' F' H' s' (x1.trans x') hw
  | .bk _, h => fun σ' fp' F' H' s' x' hw => h σ' fp' F' H' s' (x1.trans x') hw
  | .ct _, h => fun σ' fp' F' H' s' x' hw => h σ' fp' F' H' s' (x1.trans x') hw
  | .rt _ _, h => fun σ' fp' F' H' x s' x' hw r => h σ' fp' F' H' x s' (x1.trans x') hw (r.base fun c => x1.none_back)
/-- what a name holds is kept as it stands from now on -/
def frS (i : Nat) (f : SF) : SF := fun ρ => (keep ρ (.at i)).bind fun p => f p.2
theorem dsx_frS {t : TS} {f : SF} (i : Nat) (h : DSx K w t f) : DSx K w t (frS i f) := fun ρ σ fp F H fl dn s e k => by
  obtain ⟨⟨d, ρ1⟩, e1, e2⟩ := Option.bind_eq_some_iff.mp e
  have hs : ∃ o, ρ[i]? = some (some o) := by
    unfold keep at e1
    dsimp only at e1
    cases q : ρ[i]? with
    | none => rw [q] at e1; cases e1
    | some u => cases u with
      | none => rw [q] at e1; cases e1
      | some o => exact ⟨o, rfl⟩
  obtain ⟨o, ho⟩ := hs
  obtain ⟨x, f0, hx, _, _⟩ := s.slot ho
  obtain ⟨F', fp', s', x', _⟩ := keep_ok (H0 := H) s (.at hx) Ext.refl e1
  exact h ρ1 σ fp' F' H fl dn s' e2 (k.later x')
theorem ds_frS {t : TS} {f : SF} {st : Stmt} (i : Nat) (h : DS K wd X w st t f) : DS K wd X w st t (frS i f) := ⟨h.pe, dsx_frS i h.dn⟩
/-- what a name holds is kept as it stands behind a statement -/
def fzE (i : Nat) (f : SF) : SF := fun ρ => (f ρ).bind fun fl => match fl with
  | .nx ρ' => (keep ρ' (.at i)).map fun p => .nx p.2
  | fl => some fl
theorem dsx_fzE {t : TS} {f : SF} (i : Nat) (h : DSx K w t f) : DSx K w t (fzE i f) := fun ρ σ fp F H fl dn s e k => by
  obtain ⟨fl', e1, e2⟩ := Option.bind_eq_some_iff.mp e
  refine h ρ σ fp F H fl' dn s e1 ?_
  cases fl' with
  | nx ρ' =>
    intro σ' fp' F' H' s' x' hw
    obtain ⟨⟨d, ρ1⟩, e3, e4⟩ := Option.map_eq_some_iff.mp e2
    subst e4
    have hs : ∃ o, ρ'[i]? = some (some o) := by
      unfold keep at e3
      dsimp only at e3
      cases q : ρ'[i]? with
      | none => rw [q] at e3; cases e3
      | some u => cases u with
        | none => rw [q] at e3; cases e3
        | some o => exact ⟨o, rfl⟩
    obtain ⟨o, ho⟩ := hs
    obtain ⟨x, f0, hx, _, _⟩ := s'.slot ho
    obtain ⟨F1, fp1, s1, x1, _⟩ := keep_ok (H0 := H') s' (.at hx) Ext.refl e3
    exact k σ' fp1 F1 H' s1 (x'.trans x1) hw
  | bk ρ' => cases e2; exact k
  | ct ρ' => cases e2; exact k
  | rt r ρ' => cases e2; exact k
theorem ds_fzE {t : TS} {f : SF} {st : Stmt} (i : Nat) (h : DS K wd X w st t f) : DS K wd X w st t (fzE i f) := ⟨h.pe, dsx_fzE i h.dn⟩
/-- some names are forgotten when it is known what is gone through -/
def kI (vs : List Nat) (f : IF) : IF := fun ρ => (f ρ).map fun p => (p.1, wipeR p.2 vs)
theorem di_kI {tg it : Expr} {wi : TI} {f : IF} (vs : List Nat) (h : DI K wd X tg it wi f) : DI K wd X tg it wi (kI vs f) := by
  refine ⟨h.pe, fun ρ σ fp F H ds ρ' R s e q => ?_⟩
  obtain ⟨⟨ds1, ρ1⟩, e1, e2⟩ := Option.map_eq_some_iff.mp e
  cases e2
  refine h.dn ρ σ fp F H ds1 ρ1 R s e1 fun fp' F' H' J s' x' r => ?_
  obtain ⟨fp2, s2, k2⟩ := s'.kill vs
  exact q fp2 F' H' J s2 (x'.less k2) r
end
end Mm
/-! enumerate and zip over lists, tuples and texts -/
namespace Mm
open PySem L2 PyProof.Rows

/-- its iterator, i items on -/
inductive Kd where
  | l (a : Addr)
  | t (a : Addr)
  | s (z : Str) (tk : Tok)
def Kd.st : Kd → Nat → Addr → Heap → Prop
  | .l a, i, it, h => h.IsListIter it a i
  | .t a, i, it, h => h.IsTupleIter it a i
  | .s z tk, i, it, h => h.IsStrIter it (strIterType z) z tk i
def Kd.v : Kd → V
  | .l a => .ref a
  | .t a => .ref a
  | .s z _ => .str z
def Kd.seq (K : PySem.W.Frag) (H : Hp) (xs : List V) : Kd → Prop
  | .l a => SqL K H a xs
  | .t a => SqT K H a xs
  | .s z _ => xs = chV z
section
variable {K : PySem.W.Frag} {k : Kd} {i : Nat} {it : Addr} {h h' : Heap} {X : Cx} {pins : List (Addr × Obj)} {σ : L2.St} {H : Hp} {s : Shared} {xs : List V}
theorem Kd.objOf (q : k.st i it h) : ∃ o, h.get? it = some o ∧ ∀ c, o.data ≠ .cell c := by
  cases k <;> (obtain ⟨o, e, _, d⟩ := q; exact ⟨o, e, fun c z => by rw [d] at z; cases z⟩)
theorem Kd.stay (q : k.st i it h) (e : ∀ o, h.get? it = some o → h'.get? it = some o) : k.st i it h' := by
  cases k <;> (obtain ⟨o, e1, r⟩ := q; exact ⟨o, e o e1, r⟩)
/-- what it draws, as things stand -/
structure Kd.Dr (X : Cx) (s : Shared) (xs : List V) (k : Kd) (it : Addr) (fp : List Addr) (Pv : Nat → Value → Prop) (St : Nat → Heap → Prop) : Prop where
  dr : Draws X.prog X.w X.A.in1 it fp xs.length Pv St
  inn : it ∈ fp
  own : ∀ b ∈ fp, b = it ∨ ∃ o, s.heap.get? b = some o ∧ (o.cls = .type "list" ∨ o.cls = .type "tuple")
  to : ∀ j, k.st j it s.heap → St j s.heap
  back : ∀ j h1, St j h1 → k.st j it h1
  val : ∀ j u, Pv j u → ∃ x, xs[j]? = some x ∧ RelV x u
theorem vals_at : ∀ {xs : List V} {us : List Value} {j : Nat} {u : Value}, Vals xs us → us[j]? = some u → ∃ x, xs[j]? = some x ∧ RelV x u
  | _, _, _, _, .nil, e => by simp at e
  | _, _, 0, _, .cons r _, e => by simp at e; subst e; exact ⟨_, rfl, r⟩
  | _, _, j + 1, u, .cons _ t, e => by
    obtain ⟨x, e1, r⟩ := vals_at (j := j) t (by simpa using e)
    exact ⟨x, by simpa using e1, r⟩
theorem Kd.draws (hc : X.A.handled = none) (I : Inv X pins σ H s) (q : k.seq X.K H xs) (q0 : ∃ j, k.st j it s.heap) : ∃ fp Pv St, Kd.Dr X s xs k it fp Pv St := by
  obtain ⟨j0, q0⟩ := q0
  cases k with
  | l a =>
    obtain ⟨its, rv, p, _⟩ := I.list q
    obtain ⟨oi, ei, ci, di⟩ := q0
    obtain ⟨oa, ea, ca, n, da⟩ := p.isList
    have ne : a ≠ it := fun z => by
      rw [z] at ea
      rw [ei] at ea
      cases ea
      rw [ci] at ca; simp at ca
    have hl : xs.length = its.toArray.size := by simpa using rv.length
    refine ⟨[it, a], fun i v => its.toArray[i]? = some v, fun i h => h.IsListIter it a i ∧ h.IsList a its.toArray, by rw [hl]; exact Draws.list (A := X.A.in1) hc it a ne its.toArray, by simp, fun b hb => ?_, fun j q => ⟨q, p.isList⟩, fun j h1 q => q.1, fun j u e => vals_at rv (by simpa using e)⟩
    have hb' : b = it ∨ b = a := by simpa using hb
    rcases hb' with z | z
    · exact .inl z
    · exact .inr ⟨oa, by rw [z]; exact ea, .inl ca⟩
  | t a =>
    obtain ⟨its, rv, p, _⟩ := I.tuple q
    obtain ⟨oi, ei, ci, di⟩ := q0
    obtain ⟨oa, ea, ca, n, da⟩ := id p
    have ne : a ≠ it := fun z => by
      rw [z] at ea
      rw [ei] at ea
      cases ea
      rw [ci] at ca; simp at ca
    have hl : xs.length = its.toArray.size := by simpa using rv.length
    refine ⟨[it, a], fun i v => its.toArray[i]? = some v, fun i h => h.IsTupleIter it a i ∧ h.IsTuple a its.toArray, by rw [hl]; exact Draws.tuple (A := X.A.in1) hc it a ne its.toArray, by simp, fun b hb => ?_, fun j q => ⟨q, p⟩, fun j h1 q => q.1, fun j u e => vals_at rv (by simpa using e)⟩
    have hb' : b = it ∨ b = a := by simpa using hb
    rcases hb' with z | z
    · exact .inl z
    · exact .inr ⟨oa, by rw [z]; exact ea, .inr ca⟩
  | s z tk =>
    have hl : xs.length = z.cps.size := by rw [show xs = chV z from q]; simp [chV]
    refine ⟨_, _, _, by rw [hl]; exact Draws.text (A := X.A.in1) hc it z tk, by simp, fun b hb => .inl (by simpa using hb), fun j q => q, fun j h1 q => q, fun j u e => ?_⟩
    obtain ⟨c, t, e1, e2⟩ := e
    subst e2
    refine ⟨.str ⟨#[c]⟩, ?_, ⟨t, rfl⟩⟩
    rw [show xs = chV z from q]
    unfold chV
    rw [List.getElem?_map, Array.getElem?_toList, e1]
    rfl
theorem Kd.inj {ys : List V} (I : Inv X pins σ H s) (q : k.seq X.K H xs) (q2 : k.seq X.K H ys) : xs = ys := by
  cases k with
  | l a => exact I.list_inj q q2
  | t a => exact I.tuple_inj q q2
  | s z tk => exact (show xs = chV z from q).trans (show ys = chV z from q2).symm
end
/-- the items with their numbers, in new pairs -/
def IteG (K : PySem.W.Frag) (k : Kd) : It :=
  ⟨fun i H => ∃ (xs : List V) (x : V), k.seq K H xs ∧ xs[i]? = some x, fun i H v H' => ∃ T x, v = .ref T ∧ H T = none ∧ H' = upd H T (.tup [.int (i : Nat), x]) ∧ ∀ xs, k.seq K H xs → xs[i]? = some x, fun i H => ∃ xs : List V, k.seq K H xs ∧ xs.length = i⟩
theorem turn_enumG {P : Program} {w : World} {K : PySem.W.Frag} {elts : List Expr} {kk : Nat} {tpos : Pos} (k : Kd) (e it : Addr) :
    Turn P w K (.Tuple elts kk tpos) (IteG K k) [e, it] e (fun i h => (∃ old, IsEnum h e it ((i : Nat) : Int) old) ∧ k.st i it h ∧ e ≠ it) where
  mem := by simp
  obj := fun i h q b hb => by
    obtain ⟨⟨old, q1⟩, q2, _⟩ := q
    have hb2 : b = e ∨ b = it := by simpa using hb
    rcases hb2 with z | z
    · rw [z]; exact ⟨_, q1, fun c y => nomatch y⟩
    · rw [z]; exact Kd.objOf q2
  keep := fun i h h' q y => by
    obtain ⟨⟨old, q1⟩, q2, q3⟩ := q
    exact ⟨⟨old, y e (by simp) _ q1⟩, Kd.stay q2 fun o z => y it (by simp) o z, q3⟩
  item := by
    intro X hP hw hK hc i pins s σ H E I hf q hg
    subst hP hw hK
    obtain ⟨⟨old, q1⟩, q2, q3⟩ := q
    obtain ⟨xs, x, hq, hx⟩ := hg
    obtain ⟨fp, Pv, St, D⟩ := Kd.draws (I.ok.hd hc) I hq ⟨i, q2⟩
    have le : e < s.heap.objs.size := Heap.lt_size q1
    have li : it < s.heap.objs.size := by obtain ⟨_, y, _⟩ := Kd.objOf q2; exact Heap.lt_size y
    have nef : e ∉ fp := fun z => by
      rcases D.own e z with y | ⟨o, eo, co⟩
      · exact q3 y
      · rw [q1] at eo; cases eo; simp at co
    refine wpAny_pyNext_enum_itemD D.dr q1 (D.to i q2) (List.getElem?_eq_some_iff.mp hx).1 q3 nef fun u h1 tk hu ho hst hT hsz hk => ?_
    obtain ⟨x', ex', ru⟩ := D.val i u hu
    rw [hx] at ex'
    cases ex'
    refine ⟨_, rfl, wpAny_letOwnedTupleGo_enum (s := { s with heap := h1, toks := tk + 1 }) ho fun h2 he2 sb => ?_⟩
    have T2 : h2.get? s.heap.objs.size = some { cls := .type "tuple", data := .seq #[.int i tk, u] } := (sb.2 _ (Nat.ne_of_gt le)).trans hT
    have nw : ObjOk X.prog X.w (upd H s.heap.objs.size (.tup [.int (i : Nat), x])) h2 s.heap.objs.size (.tup [.int (i : Nat), x]) :=
      ⟨by show 2 ≤ sizeLine; decide, [.int i tk, u], .cons ⟨_, rfl⟩ (.cons ru .nil), ⟨_, T2, rfl, _, rfl⟩⟩
    have I2 : Inv X pins σ (upd H s.heap.objs.size (.tup [.int (i : Nat), x])) { s with heap := h2, toks := tk + 1 } :=
      I.turnedNew (ch := [e, it]) (fun b o hb y => (sb.2 b fun z => hb (by simp [z])).trans (hk b o (fun z => hb (by simp [z])) (fun z => hb (by simp [z])) y)) hf (Nat.le_refl _) nw
    have st2 := D.back (i + 1) h1 hst
    refine ⟨.ref s.heap.objs.size, _, I2, rfl, ⟨_, x, rfl, I.hok.fresh (Nat.le_refl _), rfl, fun ys hy => by rw [Kd.inj I hy hq]; exact hx⟩, ⟨⟨u, ?_⟩, Kd.stay st2 fun o y => (sb.2 it (Ne.symm q3)).trans y, q3⟩, fun b hb => ?_⟩
    · rw [show ((i + 1 : Nat) : Int) = (i : Int) + 1 by omega]; exact he2
    · have lb : b < s.heap.objs.size := by
        have hb2 : b = e ∨ b = it := by simpa using hb
        rcases hb2 with z | z
        · rw [z]; exact le
        · rw [z]; exact li
      rw [upd_ne (Nat.ne_of_lt lb)]
      exact (hf b hb).1
  done := by
    intro X hP hw hK hc i pins s σ H E I hf q hg
    subst hP hw hK
    obtain ⟨⟨old, q1⟩, q2, q3⟩ := q
    obtain ⟨xs, hq, hx⟩ := hg
    obtain ⟨fp, Pv, St, D⟩ := Kd.draws (I.ok.hd hc) I hq ⟨i, q2⟩
    obtain ⟨f0, f1, f2, f3, f4, f5⟩ := hf it (by simp)
    subst hx
    exact wpAny_pyNext_enum_endD D.dr q1 (D.to _ q2) fun h1 eb => ⟨rfl, I.turned (t' := s.toks) (fun b o hb y => eb b o hb y) f0 f1 f3 f4 f5⟩
  self := fun A i s Q E q y => by
    obtain ⟨⟨_, q1⟩, _⟩ := q
    exact wpAny_pyIter_enum q1 y
/-- the new cells of enumerate(v) -/
theorem enum_new {v : Value} {o : Obj} {Hb : Heap → Prop} (B : Begins v o Hb) :
    Meets (Builtin.«enumerate.__new__» ⟨[.type "enumerate", v], []⟩) (fun _ R s => Hb s.heap ∧
      R (.ok (.ret (.ref (s.heap.push o).objs.size))) { s with heap := (s.heap.push o).push { cls := .type "enumerate", data := .fields #[.none, .bool false, .ref s.heap.objs.size, rawInt 0, .none, .none] } }) :=
  .of_wp fun prog w A R s q => by
    obtain ⟨hp, gn, dd, tk, os⟩ := s
    obtain ⟨b1, q⟩ := q
    have sub := sub_enumerate
    have it1 : ∀ {A' : Around} {E' : Value → Shared → Prop} {Q : Value → Shared → Prop}, Q (.ref hp.objs.size) ⟨hp.push o, gn, dd, tk, os⟩ → wpAny (model prog w) A' (pyIter v) Q E' ⟨hp, gn, dd, tk, os⟩ :=
      fun y => B.iter prog w _ _ ⟨hp, gn, dd, tk, os⟩ _ b1 y
    wp_walk using it1
    refine wpAny_stack_any fun _ => wpAny_pure ?_
    split
    · rename_i c _ _ _ _ _
      cases (c == Value.type "enumerate") <;> (wp_walk using it1; exact ⟨_, rfl, q⟩)
    · wp_walk using it1
      exact ⟨_, rfl, q⟩
theorem call_enumG {prog : Program} {w : World} {A : Around} {E : Value → Shared → Prop} {s : Shared} {v : Value} {o : Obj} {Hb : Heap → Prop} {Q : Value → Shared → Prop} (B : Begins v o Hb) (h1 : Hb s.heap)
    (q : ∀ h', IsEnum h' (s.heap.objs.size + 1) s.heap.objs.size 0 .none → h'.get? s.heap.objs.size = some o → h'.objs.size = s.heap.objs.size + 2 →
      (∀ b x, s.heap.get? b = some x → h'.get? b = some x) → Q (.ref (s.heap.objs.size + 1)) { s with heap := h' }) :
    wpAny (model prog w) A (call (.type "enumerate") [v]) Q E s := by
  refine callType_new F.called_enumerate (by decide) (F.typeCall_enumerate_1 _) (F.newCall_enumerate_1 _) (fun obj => F.args_object_init_2 obj _) F.entry_enumerate_new (enum_new B) ⟨h1, ?_⟩
  have z1 : (s.heap.push o).objs.size = s.heap.objs.size + 1 := Heap.size_push ..
  show _ ∧ _
  rw [z1]
  have he : IsEnum ((s.heap.push o).push { cls := .type "enumerate", data := .fields #[.none, .bool false, .ref s.heap.objs.size, rawInt 0, .none, .none] }) (s.heap.objs.size + 1) s.heap.objs.size 0 .none := by
    have y := Heap.get?_push_size (s.heap.push o) (o := { cls := .type "enumerate", data := .fields #[.none, .bool false, .ref s.heap.objs.size, rawInt 0, .none, .none] }) rfl
    rw [z1] at y
    exact y
  exact ⟨⟨_, he, rfl⟩, q _ he (Heap.get?_push_of_some _ (Heap.get?_push_size _ B.free)) (by rw [Heap.size_push, z1]) fun b x y => Heap.get?_push_of_some _ (Heap.get?_push_of_some _ y)⟩
/-- a value that can be gone through, and what is wished of its way -/
def SqV (K : PySem.W.Frag) (H : Hp) (v : V) (R : Kd → Prop) : Prop := (∃ a xs, v = .ref a ∧ SqL K H a xs ∧ R (.l a)) ∨ (∃ a xs, v = .ref a ∧ SqT K H a xs ∧ R (.t a)) ∨ ∃ z, v = .str z ∧ ∀ t, R (.s z t)
theorem sqV_begins {X : Cx} {pins : List (Addr × Obj)} {σ : L2.St} {H : Hp} {s : Shared} {v : V} {u : Value} {R : Kd → Prop} (I : Inv X pins σ H s) (q : SqV X.K H v R) (r : RelV v u) :
    ∃ (k : Kd) (o : Obj) (Hb : Heap → Prop), Begins u o Hb ∧ Hb s.heap ∧ R k ∧ ∀ it h, h.get? it = some o → k.st 0 it h := by
  rcases q with ⟨a, xs, rfl, q, w⟩ | ⟨a, xs, rfl, q, w⟩ | ⟨z, rfl, w⟩
  · cases r
    obtain ⟨its, rv, p, _⟩ := I.list q
    exact ⟨.l a, _, _, begins_list a its.toArray, p.isList, w, fun it h e => ⟨_, e, rfl, rfl⟩⟩
  · cases r
    obtain ⟨its, rv, p, _⟩ := I.tuple q
    exact ⟨.t a, _, _, begins_tuple a its.toArray, p, w, fun it h e => ⟨_, e, rfl, rfl⟩⟩
  · obtain ⟨t, rfl⟩ := r
    exact ⟨.s z t, _, _, begins_text z t, trivial, w t, fun it h e => ⟨_, e, rfl, rfl⟩⟩
def iEnumG (K : PySem.W.Frag) (ta : TA) : TI := fun σ H R => ta σ H fun vs H1 => ∃ v, vs = [v] ∧ SqV K H1 v fun k => R (IteG K k) H1
theorem pi_enumG {X : Cx} {e : Expr} {ta : TA} {p pos tpos : Pos} {elts : List Expr} {kk : Nat} (hg : Gl X "enumerate") (hm : X.mg "enumerate" = none) (ha : PA X [e] ta) (hs : starEach [e] X.env = [(false, eval e X.env)] := by rfl) :
    PI X (.Tuple elts kk tpos) (.Call (.Name "enumerate" p) [e] [] pos) (iEnumG X.K ta) := by
  refine ⟨fun pins s σ H R I hw => Call_ (ld_blt I hg hm boot_enumerate (PyProof.Rows.callWith_type1 (thn (ha.run pos pins s σ H _ I hw) fun us s1 ⟨vs, H1, I1, r1, q1⟩ => ?_) hs rfl))⟩
  obtain ⟨v, ex, hq⟩ := q1
  subst ex
  cases r1 with
  | cons r rr =>
    cases rr
    obtain ⟨k, o, Hb, B, b1, ks, k0⟩ := sqV_begins I1 hq r
    refine call_enumG B b1 fun h' he ho hsz hk => wpAny_pyIter_enum he ?_
    have I2 : Inv X pins σ H1 { s1 with heap := h' } := I1.kept (t' := s1.toks) hk
    refine ⟨s1.heap.objs.size + 1, [s1.heap.objs.size + 1, s1.heap.objs.size], _, _, H1, rfl, I2, turn_enumG k (s1.heap.objs.size + 1) s1.heap.objs.size, ⟨⟨.none, he⟩, k0 _ _ ho, Nat.succ_ne_self _⟩, fun b hb => ?_, ks⟩
    have hle : s1.heap.objs.size ≤ b := by
      have hb2 : b = s1.heap.objs.size + 1 ∨ b = s1.heap.objs.size := by simpa using hb
      rcases hb2 with z | z
      · rw [z]; exact Nat.le_succ _
      · rw [z]; exact Nat.le_refl _
    exact I1.fpOk hle (I1.hok.fresh hle)
/-! ### their images -/
def enD (ds : List D) : List D := ds.zipIdx.map fun p => .tuple [.int (p.2 : Int), p.1]
def enI (f : VF) : IF := fun ρ => (f ρ).bind fun p => (itemsD p.1).map fun ds => (enD ds, p.2)
theorem Kd.seq_mono {K : PySem.W.Frag} {F H : Hp} {vs : List V} {k : Kd} (s : Same F H) (q : k.seq K F vs) : k.seq K H vs := by
  cases k with
  | l a => exact s.seq q
  | t a => exact seqT s q
  | s z t => exact q
theorem runs_enum {K : PySem.W.Frag} {F : Hp} {k : Kd} {vs : List V} {ds : List D} (h1 : k.seq K F vs) (h2 : DpAll K F vs ds) : Runs K (IteG K k) (enD ds) F := by
  have hl := da_length h2
  refine ⟨fun H => k.seq K H vs, YPair (fun i => some (.int (i : Nat))) (fun i => vs[i]?), ⟨fun i H hi q => ?_, fun H q => ⟨vs, q, ?_⟩, fun i H v H' hi q y => ?_⟩, fun F' H' s1 s2 => Kd.seq_mono s2 (Kd.seq_mono s1 h1), fun i H x H' y F' s1 s2 => ?_⟩
  · have hi2 : i < vs.length := by rw [hl]; simpa [enD] using hi
    exact ⟨vs, vs[i], q, List.getElem?_eq_getElem hi2⟩
  · simp [enD, hl]
  · obtain ⟨T, x, y1, y2, y3, y4⟩ := y
    exact ⟨T, .int (i : Nat), x, y1, y2, y3, rfl, y4 vs q⟩
  · obtain ⟨T, a, b, rfl, hn, rfl, ha, hb⟩ := y
    cases ha
    obtain ⟨d, g1, g2⟩ := da_getV h2 hb
    have hF : F' T = none := by
      cases z : F' T with
      | none => rfl
      | some o => rw [s2 T o z] at hn; cases hn
    refine ⟨.tuple [.int (i : Nat), d], ?_, upd F' T (.tup [.int (i : Nat), b]), .inr ⟨T, _, hn, rfl, rfl⟩, ?_⟩
    · unfold enD
      rw [List.getElem?_map, List.getElem?_zipIdx, g1]
      simp
    · exact .tup (.inl (.inl upd_same)) (.cons (.int _) (.cons (dp_mono (s1.trans (same_upd hF _)) g2) .nil))
section
variable {K : PySem.W.Frag} {wd : World} {X : Cx} {e : Expr} {te : TE} {f : VF} {p pos tpos : Pos} {elts : List Expr} {kk : Nat}
theorem sqV_of {F H : Hp} {x : V} {d : D} {ds : List D} {R : Kd → Prop} (s : Same F H) (h : Dp K F x d) (e : itemsD d = some ds) (q : ∀ k vs, k.seq K F vs → DpAll K F vs ds → R k) : SqV K H x R := by
  cases d with
  | list es =>
    cases e
    obtain ⟨a, vs, rfl, h1, h2⟩ := dp_lst h
    exact .inl ⟨a, vs, rfl, s.seq h1, q (.l a) vs h1 h2⟩
  | tuple es =>
    cases e
    obtain ⟨a, vs, rfl, h1, h2⟩ := dp_tup h
    exact .inr (.inl ⟨a, vs, rfl, seqT s h1, q (.t a) vs h1 h2⟩)
  | str z =>
    cases e
    exact .inr (.inr ⟨z, dp_str h, fun t => q (.s z t) (chV z) rfl (da_ch z)⟩)
  | _ => cases e
theorem di_enum (hm : X.mg "enumerate" = none) (h : DV K wd X e te f) (hg : Gl X "enumerate" := by rfl) (he : starEach [e] X.env = (false, eval e X.env) :: starEach [] X.env := by rfl) (hs : starEach [e] X.env = [(false, eval e X.env)] := by rfl) :
    DI K wd X (.Tuple elts kk tpos) (.Call (.Name "enumerate" p) [e] [] pos) (iEnumG K (tCons te tNil)) (enI f) := by
  refine ⟨fun hk hw => by subst hk hw; exact pi_enumG hg hm (pa_cons (h.pe rfl rfl) pa_nil he) hs, fun ρ σ fp F H ds ρ' R s e q => ?_⟩
  obtain ⟨⟨d, ρ1⟩, e1, e2⟩ := Option.bind_eq_some_iff.mp e
  obtain ⟨ds', e3, e4⟩ := Option.map_eq_some_iff.mp e2
  cases e4
  refine h.dn ρ σ fp F H _ ρ1 _ s e1 fun fp1 F1 H1 x s1 x1 k1 => ?_
  exact ⟨x, rfl, sqV_of s1.same k1 e3 fun k vs q1 q2 => q fp1 F1 H1 _ s1 x1 (runs_enum q1 q2)⟩
end
end Mm
/-! dicts with keys that are ints or texts, owned by one name -/
namespace Mm
open PySem L2
def keyD : D → Option Key
  | .int i => some (.inl i)
  | .str z => some (.inr z)
  | _ => none
theorem key_dp {K : PySem.W.Frag} {F : Hp} {x : V} {d : D} {k : Key} (h : Dp K F x d) (e : keyD d = some k) : x = kV k := by
  cases h <;> cases e <;> rfl
def lookD (kvs : List (Key × D)) (k : Key) : Option D := (kvs.find? fun kv => decide (kv.1 = k)).map (·.2)
def putD (kvs : List (Key × D)) (k : Key) (d : D) : List (Key × D) := if (kvs.any fun kv => decide (kv.1 = k)) = true then kvs.map (fun kv => if kv.1 = k then (kv.1, d) else kv) else kvs ++ [(k, d)]
section
variable {K : PySem.W.Frag} {F : Hp}
theorem kv_len : ∀ {kv : List (Key × V)} {kvs : List (Key × D)}, KvOk K F kv kvs → kv.length = kvs.length
  | [], [], _ => rfl
  | _ :: _, _ :: _, ⟨_, _, h⟩ => by simp [kv_len h]
theorem kv_look (k : Key) : ∀ {kv : List (Key × V)} {kvs : List (Key × D)}, KvOk K F kv kvs → (lookD kvs k = none → valV kv k = none) ∧ ∀ d, lookD kvs k = some d → ∃ v, valV kv k = some v ∧ Dp K F v d
  | [], [], _ => ⟨fun _ => rfl, fun d z => (nomatch z)⟩
  | p :: kv, q :: kvs, ⟨h1, h2, h3⟩ => by
    have ih := kv_look k h3
    by_cases e : p.1 = k
    · have e2 : q.1 = k := h1 ▸ e
      rw [valV_pos e]
      have l : lookD (q :: kvs) k = some q.2 := by simp [lookD, e2]
      rw [l]
      exact ⟨fun z => (nomatch z), fun d z => by cases z; exact ⟨_, rfl, h2⟩⟩
    · have e2 : ¬ q.1 = k := h1 ▸ e
      rw [valV_neg e]
      have l : lookD (q :: kvs) k = lookD kvs k := by simp [lookD, e2]
      rw [l]
      exact ih
theorem kv_any (k : Key) : ∀ {kv : List (Key × V)} {kvs : List (Key × D)}, KvOk K F kv kvs → (kv.any fun p => decide (p.1 = k)) = (kvs.any fun p => decide (p.1 = k))
  | [], [], _ => rfl
  | p :: kv, q :: kvs, ⟨h1, h2, h3⟩ => by rw [List.any_cons, List.any_cons, kv_any k h3, h1]
theorem kv_app {v : V} {d : D} {k : Key} (hd : Dp K F v d) : ∀ {kv : List (Key × V)} {kvs : List (Key × D)}, KvOk K F kv kvs → KvOk K F (kv ++ [(k, v)]) (kvs ++ [(k, d)])
  | [], [], _ => ⟨rfl, hd, trivial⟩
  | _ :: _, _ :: _, ⟨h1, h2, h3⟩ => ⟨h1, h2, kv_app hd h3⟩
theorem kv_map {v : V} {d : D} {k : Key} (hd : Dp K F v d) : ∀ {kv : List (Key × V)} {kvs : List (Key × D)}, KvOk K F kv kvs → KvOk K F (kv.map fun p => if p.1 = k then (p.1, v) else p) (kvs.map fun p => if p.1 = k then (p.1, d) else p)
  | [], [], _ => trivial
  | p :: _, q :: _, ⟨h1, h2, h3⟩ => by
    rw [List.map_cons, List.map_cons]
    by_cases e : p.1 = k
    · rw [if_pos e, if_pos (h1 ▸ e)]; exact ⟨h1, hd, kv_map hd h3⟩
    · rw [if_neg e, if_neg (h1 ▸ e)]; exact ⟨h1, h2, kv_map hd h3⟩
theorem kv_put {v : V} {d : D} (k : Key) (hd : Dp K F v d) {kv : List (Key × V)} {kvs : List (Key × D)} (h : KvOk K F kv kvs) : KvOk K F (putK kv k v) (putD kvs k d) := by
  unfold putK putD
  rw [kv_any k h]
  split
  · exact kv_map hd h
  · exact kv_app hd h
end
section
variable {K : PySem.W.Frag} {F H : Hp} {σ : St} {ρ : Rho} {fp : List Addr} {i : Nat} {x : V}
theorem mut_k (s : S0 K ρ σ fp F H) {kvs kvs' : List (Key × D)} (e : ρ[i]? = some (some (.k kvs))) {a : Addr} {kv' : List (Key × V)} (hx : σ[i]? = some (some (.ref a))) (h : KvOk K F kv' kvs') :
    S0 K (ρ.set i (some (.k kvs'))) σ fp F (upd H a (.dK kv')) ∧ Ext fp F H fp F (upd H a (.dK kv')) := by
  obtain ⟨fa, f, fb, ef, dj, g1, g2⟩ := s.own.split (i := i) (List.getElem?_eq_some_iff.mp e).1
  obtain ⟨y, hy, ho⟩ := g1 _ e
  rw [hx] at hy
  cases hy
  cases ho with
  | k n q t =>
    have ina : a ∈ fp := by subst ef; simp
    have nota : ∀ b ∈ fa ++ fb, b ≠ a := fun b z y => by subst y; exact dj _ (List.mem_singleton.mpr rfl) z
    have sub : ∀ b ∈ fa ++ fb, b ∈ fp := fun b z => by
      subst ef
      simp only [List.mem_append] at z ⊢
      rcases z with z | z
      · exact .inl (.inl z)
      · exact .inr z
    have kk := (g2 F (upd H a (.dK kv')) (Same.refl F) fun b z => ⟨upd_ne (nota b z), (s.own.there b (sub b z)).1⟩).2 (.ref a) (.k kvs') [a] (.k n upd_same h) fun b z => by
      rw [List.mem_singleton] at z; subst z; exact dj _ (List.mem_singleton.mpr rfl)
    rw [set_id hx, ← ef] at kk
    refine ⟨⟨fun b o z => ?_, kk⟩, ⟨Same.refl F, fun b o z nb => ?_, fun b z => .inl z, fun b o z => .inl z, fun b z => ?_⟩⟩
    · have : b ≠ a := fun y => by subst y; rw [n] at z; cases z
      rw [upd_ne this]; exact s.same b o z
    · have : b ≠ a := fun y => by subst y; exact nb ina
      rw [upd_ne this]; exact z
    · by_cases y : b = a
      · subst y; rw [upd_same]; exact fun z => nomatch z
      · rw [upd_ne y]; exact z
theorem slot_k (s : S0 K ρ σ fp F H) {kvs : List (Key × D)} (e : ρ[i]? = some (some (.k kvs))) (hx : σ[i]? = some (some x)) : ∃ a kv, x = .ref a ∧ H a = some (.dK kv) ∧ KvOk K F kv kvs := by
  obtain ⟨y, f, hy, ho, _⟩ := s.slot e
  rw [hx] at hy
  cases hy
  cases ho with
  | k n q t => exact ⟨_, _, rfl, q, t⟩
theorem kv_of (s : S0 K ρ σ fp F H) {kv : List (Key × V)} {kvs : List (Key × D)} (h : KvOk K F kv kvs) : KvOk K H kv kvs := KvOk.mono s.same h
end
/-! ### {} and {k: v} -/
def dnE : EF := fun ρ => some (.o (.k []), ρ)
theorem alloc_k {K : PySem.W.Frag} {F H : Hp} {σ : St} {ρ : Rho} {fp : List Addr} (s : S0 K ρ σ fp F H) {p : Addr} (hp : H p = none) {kv : List (Key × V)} {kvs : List (Key × D)} (h : KvOk K F kv kvs) {H0 : Hp} (h0 : H0 p = none) :
    S0 K ρ σ fp F (upd H p (.dK kv)) ∧ Ext fp F H fp F (upd H p (.dK kv)) ∧ ROk K H0 F (upd H p (.dK kv)) σ fp (.ref p) (.o (.k kvs)) := by
  obtain ⟨s2, x2, n1, n2⟩ := alloc_own s hp (.dK kv)
  exact ⟨s2, x2, .o (.k n1 upd_same h) fun c z => by rw [List.mem_singleton] at z; subst z; exact ⟨n2, h0⟩⟩
section
variable {K : PySem.W.Frag} {wd : World} {X : Cx} {e o i : Expr} {pos tpos p2 : Pos} {te to ti : TE} {fo fi : EF} {f fk : VF}
theorem de_dict0 : DE K wd X (.Dict [] [] pos) tDNewK dnE := ⟨fun hk hw => by subst hk hw; exact pe_dnewK, fun ρ σ fp F H r ρ' Q s e q => by
  cases e
  intro p hp
  obtain ⟨s2, x2, k2⟩ := alloc_k s hp (kv := []) (kvs := []) trivial hp
  exact q fp F _ _ s2 x2 k2⟩
/-- {k: v} -/
def d1E (fk fv : VF) : EF := fun ρ => (fk ρ).bind fun p => (fv p.2).bind fun q => (keyD p.1).map fun k => (.o (.k [(k, q.1)]), q.2)
theorem de_dict1 {k v : Expr} {tk tv : TE} {fk fv : VF} (hk : DV K wd X k tk fk) (hv : DV K wd X v tv fv) : DE K wd X (.Dict [some k] [v] pos) (tDisp [(tk, tv)]) (d1E fk fv) := by
  refine ⟨fun h1 h2 => by subst h1 h2; exact pe_disp (pps_cons (hk.pe rfl rfl) (hv.pe rfl rfl) pps_nil) rfl rfl (by simp) (by simp), fun ρ σ fp F H r ρ' Q s e q => ?_⟩
  obtain ⟨⟨dk, ρ1⟩, e1, e2⟩ := Option.bind_eq_some_iff.mp e
  obtain ⟨⟨dv, ρ2⟩, e3, e4⟩ := Option.bind_eq_some_iff.mp e2
  obtain ⟨kk, e5, e6⟩ := Option.map_eq_some_iff.mp e4
  cases e6
  intro p hp
  obtain ⟨s0, x0, n1, n2⟩ := alloc_own s hp (.dK [])
  refine hk.dn ρ σ fp F _ dk ρ1 _ s0 e1 fun fp1 F1 H1 x s1 x1 k1 => ?_
  refine hv.dn ρ1 σ fp1 F1 H1 dv ρ2 _ s1 e3 fun fp2 F2 H2 y s2 x2 k2 => ?_
  have hk' : Dp K F2 x dk := dp_mono x2.fF k1
  have hx := key_dp hk' e5
  have n3 : p ∉ fp1 := fun z => by
    rcases x1.fC p z with y | y
    · exact n2 y
    · rw [upd_same] at y; cases y
  have n4 : p ∉ fp2 := fun z => by
    rcases x2.fC p z with y | y
    · exact n3 y
    · exact x1.dom p (by rw [upd_same]; exact fun z => nomatch z) y
  have hp1 : H1 p = some (.dK []) := x1.fH p _ upd_same n2
  have hp2 : H2 p = some (.dK []) := x2.fH p _ hp1 n3
  have hF1 : F1 p = none := by
    cases z : F1 p with
    | none => rfl
    | some o =>
      rcases x1.fN p o z with y | y | y
      · rw [n1] at y; cases y
      · rw [upd_same] at y; cases y
      · exact absurd y n2
  have hF2 : F2 p = none := by
    cases z : F2 p with
    | none => rfl
    | some o =>
      rcases x2.fN p o z with y | y | y
      · rw [hF1] at y; cases y
      · rw [hp1] at y; cases y
      · exact absurd y n3
  refine ⟨hp2, [(kk, y)], by rw [hx]; rfl, by simp, ?_⟩
  have em : mergeK ([] : List (Key × V)) [(kk, y)] = [(kk, y)] := rfl
  rw [em]
  have nfp : ∀ b ∈ fp2, b ≠ p := fun b z y => n4 (y ▸ z)
  have s3 : S0 K _ σ fp2 F2 (upd H2 p (.dK [(kk, y)])) := ⟨fun b ob z => by
    have : b ≠ p := fun w => by subst w; rw [hF2] at z; cases z
    rw [upd_ne this]; exact s2.same b ob z, s2.own.keep (Same.refl _) fun b z => ⟨upd_ne (nfp b z), (s2.own.there b z).1⟩⟩
  refine q fp2 F2 _ _ s3 ⟨(x0.fF.trans x1.fF).trans x2.fF, fun b ob z nb => ?_, fun b z => ?_, fun b ob z => ?_, fun b z => ?_⟩ (.o (.k hF2 upd_same ⟨rfl, k2, trivial⟩) fun c z => ?_)
  · have : b ≠ p := fun w => by subst w; rw [hp] at z; cases z
    rw [upd_ne this]
    exact ((x0.trans x1).trans x2).fH b ob z nb
  · exact ((x0.trans x1).trans x2).fC b z
  · exact ((x0.trans x1).trans x2).fN b ob z
  · by_cases w : b = p
    · subst w; rw [upd_same]; exact fun z => nomatch z
    · rw [upd_ne w]; exact ((x0.trans x1).trans x2).dom b z
  · rw [List.mem_singleton] at z; subst z; exact ⟨n4, hp⟩
/-- d[k] -/
def dgE (fo : EF) (fk : VF) : EF := fun ρ => (fo ρ).bind fun p => match p.1 with
  | .at i => (fk p.2).bind fun q => match q.2[i]? with
    | some (some (.k kvs)) => (keyD q.1).bind fun k => (lookD kvs k).map fun d => (.v d, q.2)
    | _ => none
  | _ => none
theorem de_dget (ho : DE K wd X o to fo) (hi : DV K wd X i ti fk) (hu : X.A.units + 1 < cLine) (hs : NoSl i := by exact fun _ _ => rfl) : DE K wd X (.Subscript o i pos) (tDGet to ti) (dgE fo fk) := by
  refine ⟨fun h1 h2 => by subst h1 h2; exact pe_dget hu (ho.pe rfl rfl) (hi.pe rfl rfl) hs, fun ρ σ fp F H r ρ' Q s e q => ?_⟩
  obtain ⟨⟨ra, ρ1⟩, e1, e2⟩ := Option.bind_eq_some_iff.mp e
  refine ho.dn ρ σ fp F H ra ρ1 _ s e1 fun fp1 F1 H1 x s1 x1 k1 => ?_
  dsimp only at e2
  split at e2
  · rename_i j
    obtain ⟨⟨dk, ρ2⟩, e3, e4⟩ := Option.bind_eq_some_iff.mp e2
    have hx := at_of k1
    refine hi.dn ρ1 σ fp1 F1 H1 dk ρ2 _ s1 e3 fun fp2 F2 H2 y s2 x2 k2 => ?_
    dsimp only at e4
    split at e4
    · rename_i kvs hr
      obtain ⟨kk, e5, e6⟩ := Option.bind_eq_some_iff.mp e4
      obtain ⟨d, e7, e8⟩ := Option.map_eq_some_iff.mp e6
      cases e8
      obtain ⟨a, kv, rfl, h1, h2⟩ := slot_k s2 hr hx
      obtain ⟨v, h3, h4⟩ := (kv_look kk h2).2 d e7
      refine ⟨a, v, rfl, ?_, q fp2 F2 H2 v s2 (x1.trans x2) (.v h4)⟩
      rw [key_dp k2 e5, ← h3]
      exact DGet.k h1
    · cases e4
  · cases e2
/-- k in d -/
def diE (neg : Bool) (fk : VF) (fo : EF) : EF := fun ρ => (fk ρ).bind fun p => (fo p.2).bind fun q => match q.1 with
  | .at i => match q.2[i]? with
    | some (some (.k kvs)) => (keyD p.1).map fun k => (.v (.bool (if neg then !(lookD kvs k).isSome else (lookD kvs k).isSome)), q.2)
    | _ => none
  | _ => none
theorem look_some {F : Hp} {k : Key} {kv : List (Key × V)} {kvs : List (Key × D)} (h : KvOk K F kv kvs) : (valV kv k).isSome = (lookD kvs k).isSome := by
  obtain ⟨h1, h2⟩ := kv_look k h
  cases z : lookD kvs k with
  | none => rw [h1 z]; rfl
  | some d => obtain ⟨v, e, _⟩ := h2 d z; rw [e]; rfl
theorem dx_din (neg : Bool) (hi : DV K wd X i ti fk) (ho : DE K wd X o to fo) : DEx K (fun σ H Q => ti σ H fun y H1 => to σ H1 fun x H2 => ∃ a r, x = .ref a ∧ DGet H2 a y r ∧ Q (.bl (if neg then !r.isSome else r.isSome)) H2) (diE neg fk fo) := by
  intro ρ σ fp F H r ρ' Q s e q
  obtain ⟨⟨dk, ρ1⟩, e1, e2⟩ := Option.bind_eq_some_iff.mp e
  obtain ⟨⟨ra, ρ2⟩, e3, e4⟩ := Option.bind_eq_some_iff.mp e2
  refine hi.dn ρ σ fp F H dk ρ1 _ s e1 fun fp1 F1 H1 y s1 x1 k1 => ?_
  refine ho.dn ρ1 σ fp1 F1 H1 ra ρ2 _ s1 e3 fun fp2 F2 H2 x s2 x2 k2 => ?_
  dsimp only at e4
  split at e4
  · have hx := at_of k2
    split at e4
    · rename_i kvs hr
      obtain ⟨kk, e5, e6⟩ := Option.map_eq_some_iff.mp e4
      cases e6
      obtain ⟨a, kv, rfl, h1, h2⟩ := slot_k s2 hr hx
      refine ⟨a, valV kv kk, rfl, ?_, ?_⟩
      · rw [key_dp k1 e5]; exact DGet.k h1
      · rw [look_some h2]
        exact q fp2 F2 H2 _ s2 (x1.trans x2) (.v (.bl _))
    · cases e4
  · cases e4
theorem de_din (hi : DV K wd X i ti fk) (ho : DE K wd X o to fo) (hu : X.A.units + 1 < cLine) (h1 : behindInMarks .In o = false := by first | exact nobehind _ (by decide) (by decide) | rfl) : DE K wd X (.Compare i [.In] [o] pos) (tDIn ti to) (diE false fk fo) :=
  ⟨fun a b => by subst a b; exact pe_cmp (pc_din hu (hi.pe rfl rfl) (ho.pe rfl rfl)) h1, fun ρ σ fp F H r ρ' Q s e q => dx_din false hi ho ρ σ fp F H r ρ' Q s e q⟩
theorem de_dnotin (hi : DV K wd X i ti fk) (ho : DE K wd X o to fo) (hu : X.A.units + 1 < cLine) (h1 : behindInMarks .NotIn o = false := by first | exact nobehind _ (by decide) (by decide) | rfl) : DE K wd X (.Compare i [.NotIn] [o] pos) (tDNotIn ti to) (diE true fk fo) :=
  ⟨fun a b => by subst a b; exact pe_cmp (pc_dnotin hu (hi.pe rfl rfl) (ho.pe rfl rfl)) h1, fun ρ σ fp F H r ρ' Q s e q => dx_din true hi ho ρ σ fp F H r ρ' Q s e q⟩
theorem dt_of {op : CmpOp} {a b : Expr} {t : TE} {f : EF} (hp : X.K = K → X.w = wd → PC X op a b t) (hd : DEx K t f) (h1 : behindInMarks op b = false := by first | exact nobehind _ (by decide) (by decide) | rfl) : DT K wd X (.Compare a [op] [b] pos) (tB t) (tE f) := by
  refine ⟨fun h2 h3 => pt_cmp (hp h2 h3) h1, fun ρ σ fp F H c ρ' Q s e q => ?_⟩
  obtain ⟨⟨rr, ρ1⟩, e1, e2⟩ := Option.bind_eq_some_iff.mp e
  show t σ H _
  refine hd ρ σ fp F H rr ρ1 _ s e1 fun fp1 F1 H1 x s1 x1 k1 => ?_
  dsimp only at e2
  split at e2
  · rename_i b' hb'
    cases e2
    have hdd := peek_ok s1 k1 hb'
    cases hdd
    exact ⟨_, rfl, q fp1 F1 H1 s1 x1⟩
  · cases e2
theorem dt_din (hi : DV K wd X i ti fk) (ho : DE K wd X o to fo) (hu : X.A.units + 1 < cLine) (h1 : behindInMarks .In o = false := by first | exact nobehind _ (by decide) (by decide) | rfl) : DT K wd X (.Compare i [.In] [o] pos) (tB (tDIn ti to)) (tE (diE false fk fo)) :=
  dt_of (fun a b => by subst a b; exact pc_din hu (hi.pe rfl rfl) (ho.pe rfl rfl)) (fun ρ σ fp F H r ρ' Q s e q => dx_din false hi ho ρ σ fp F H r ρ' Q s e q) h1
theorem dt_dnotin (hi : DV K wd X i ti fk) (ho : DE K wd X o to fo) (hu : X.A.units + 1 < cLine) (h1 : behindInMarks .NotIn o = false := by first | exact nobehind _ (by decide) (by decide) | rfl) : DT K wd X (.Compare i [.NotIn] [o] pos) (tB (tDNotIn ti to)) (tE (diE true fk fo)) :=
  dt_of (fun a b => by subst a b; exact pc_dnotin hu (hi.pe rfl rfl) (ho.pe rfl rfl)) (fun ρ σ fp F H r ρ' Q s e q => dx_din true hi ho ρ σ fp F H r ρ' Q s e q) h1
/-- d[k] = v -/
def dpS (fo : EF) (fk fv : VF) : SF := fun ρ => (fv ρ).bind fun p => (fo p.2).bind fun q => match q.1 with
  | .at i => (fk q.2).bind fun r => match r.2[i]? with
    | some (some (.k kvs)) => (keyD r.1).bind fun k => if kvs.length < sizeLine then some (.nx (r.2.set i (some (.k (putD kvs k p.1))))) else none
    | _ => none
  | _ => none
theorem ds_dput {value : Expr} {tv : TE} {fv : VF} {pos' : Pos} (hv : DV K wd X value tv fv) (ho : DE K wd X o to fo) (hi : DV K wd X i ti fk) (hu : X.A.units + 1 < cLine) (hs : swapsWith value (some (.Subscript o i pos')) pos.line X.env = pure false := by rfl) :
    DS K wd X [] (.Assign [.Subscript o i pos'] value pos) (sDPut to ti tv) (dpS fo fk fv) := by
  refine ⟨fun h1 h2 => by subst h1 h2; exact ps_dput hu (ho.pe rfl rfl) (hi.pe rfl rfl) (hv.pe rfl rfl) hs, fun ρ σ fp F H fl dn s e q => ?_⟩
  obtain ⟨⟨dv, ρ1⟩, e1, e2⟩ := Option.bind_eq_some_iff.mp e
  obtain ⟨⟨ra, ρ2⟩, e3, e4⟩ := Option.bind_eq_some_iff.mp e2
  refine hv.dn ρ σ fp F H dv ρ1 _ s e1 fun fp1 F1 H1 v s1 x1 k1 => ?_
  refine ho.dn ρ1 σ fp1 F1 H1 ra ρ2 _ s1 e3 fun fp2 F2 H2 x s2 x2 k2 => ?_
  dsimp only at e4
  split at e4
  · rename_i j
    have hx := at_of k2
    obtain ⟨⟨dk, ρ3⟩, e5, e6⟩ := Option.bind_eq_some_iff.mp e4
    refine hi.dn ρ2 σ fp2 F2 H2 dk ρ3 _ s2 e5 fun fp3 F3 H3 y s3 x3 k3 => ?_
    dsimp only at e6
    split at e6
    · rename_i kvs hr
      obtain ⟨kk, e7, e8⟩ := Option.bind_eq_some_iff.mp e6
      split at e8
      · rename_i hz
        cases e8
        obtain ⟨a, kv, rfl, h1, h2⟩ := slot_k s3 hr hx
        have hd : Dp K F3 v dv := dp_mono (x2.fF.trans x3.fF) k1
        obtain ⟨s4, x4⟩ := mut_k s3 hr hx (kv_put kk hd h2)
        refine ⟨a, _, rfl, ?_, q σ fp3 F3 _ s4 (((x1.trans x2).trans x3).trans x4) fun _ _ => rfl⟩
        rw [key_dp k3 e7]
        exact DPut.k h1 (by rw [kv_len h2]; exact hz)
      · cases e8
    · cases e6
  · cases e4
end
end Mm
set_option maxHeartbeats 4000000
/-! tuple * int for all small counts, truth values by is, ranges from their end -/
namespace L2
open PySem PySem.Spec PyProof.Rows
theorem tuple_mulW1 (l : Addr) (items : Array Value) (n : Nat) (u : Tok) :
    Meets (Builtin.«tuple.__mul__» ⟨[.ref l, .int 1 u], []⟩) (fun _ R s => (∃ dd sl, s.heap.get? l = some { cls := .type "tuple", dict := dd, data := .seq items n, slots := sl }) ∧ R (.ok (.ret (.ref l))) s) :=
  .of_wp fun prog w A R s h => by
    obtain ⟨hp, g, d, tk, os⟩ := s
    obtain ⟨⟨dd, sl, hl⟩, h⟩ := h
    have f1 := AutoSeq1.idx_int
    wp_walk using wpAny_loadPart' hl
    repeat (first
      | (refine wpAny_ite_false (by decide) ?_; wp_walk using wpAny_loadPart' hl)
      | (refine wpAny_ite_true (by simp) ?_; wp_walk using wpAny_loadPart' hl))
    exact ⟨_, rfl, h⟩

/-- t * 1 is t -/
def rRepT1 (K : PySem.W.Frag) : R2 := fun x y H Q => ∃ l xs, x = .ref l ∧ y = .int 1 ∧ SqT K H l xs ∧ Q (.ref l) H
section
variable {X : Cx}
theorem op_repT1 : OpR X (binaryOp .Mult) (rRepT1 X.K) := by
  intro pins s σ H x y v u Q I rx ry h
  obtain ⟨l, xs, rfl, rfl, hT, q⟩ := h
  cases rx
  obtain ⟨t, rfl⟩ := ry
  obtain ⟨its, r, ⟨⟨cls, dd, data, sl⟩, ho, hc, n, hd⟩, hs⟩ := I.tuple hT
  simp only at hc hd
  subst hc hd
  refine wpAny_binaryOp_repeat_ref (T := "tuple") (U := "int") (by decide) ⟨_, ho, rfl⟩ (fun s' => typeIs_int s' 1 t) noFill_tuple_mul F.fills_int_mul F.slot_int_rmul repeat_tuple F.slot_int_index.lookup
    (call_meets F.slot_int_rmul (typeIs_int s 1 t) F.entry_int_rmul (F.args_int_rmul_2 _ _) (int_rmul_tuple 1 t l its.toArray n dd sl)
      ⟨ho, rfl, ⟨_, ho, rfl⟩, call_meets F.slot_tuple_mul ⟨_, ho, rfl⟩ F.entry_tuple_mul (F.args_tuple_mul_2 _ _) (tuple_mulW1 l its.toArray n t) ⟨⟨dd, sl, ho⟩, ?_⟩⟩)
  exact ⟨.ref l, H, I, rfl, q⟩
end
end L2
namespace Mm
open PySem L2
theorem rU {A : Around} {k : Nat} (hr : Room k A) : A.units + 1 < cLine := by have := hr.un; omega
def mulTG : G2 := fun ra rb _ => match ra, rb with
  | .v (.tuple ds), .v (.int k) => if k = 1 then some (.v (.tuple ds)) else if ds ≠ [] ∧ 2 ≤ k ∧ k ≤ 1000 ∧ ds.length ≤ 1000 then some (.v (.tuple (List.replicate k.toNat ds).flatten)) else none
  | _, _ => none
def rMulT (K : PySem.W.Frag) : R2 := fun x y H Q => rRepT1 K x y H Q ∨ rRepT K x y H Q
theorem op_mulT {X : Cx} : OpR X (binaryOp .Mult) (rMulT X.K) := op_repT1.or op_repT
theorem da_rep {K : PySem.W.Frag} {F : Hp} {vs : List V} {ds : List D} (h : DpAll K F vs ds) : ∀ n : Nat, DpAll K F (List.replicate n vs).flatten (List.replicate n ds).flatten
  | 0 => .nil
  | n + 1 => by rw [List.replicate_succ, List.replicate_succ, List.flatten_cons, List.flatten_cons]; exact da_append h (da_rep h n)
theorem sem_mulT (K : PySem.W.Frag) : Sem2 K (rMulT K) mulTG := by
  intro ρ σ fp F H H0 x y ra rb rr Q s ka kb hN e q
  unfold mulTG at e
  split at e
  · rename_i ds k
    cases ka with | v ka => cases kb with | v kb =>
    obtain ⟨a, vs, rfl, h1, h2⟩ := dp_tup ka
    obtain rfl := dp_int kb
    split at e
    · rename_i hk
      cases e
      subst hk
      exact .inl ⟨a, vs, rfl, rfl, seqT s.same h1, q fp F H _ s .refl (.v ka)⟩
    · split at e
      · rename_i hk
        cases e
        have hl := da_length h2
        refine .inr ⟨a, k, vs, rfl, rfl, seqT s.same h1, fun z => hk.1 ?_, hk.2.1, hk.2.2.1, by rw [hl]; exact hk.2.2.2, fun p hp => ?_⟩
        · subst z; cases h2; rfl
        · obtain ⟨s2, x2⟩ := alloc_frz s hp (.tup (List.replicate k.toNat vs).flatten)
          exact q fp _ _ _ s2 x2 (.v (.tup (.inl (.inl upd_same)) (da_mono x2.fF (da_rep h2 _))))
      · cases e
  · cases e
/-- is, of truth values -/
def isBD : D → D → Option D
  | .bool a, .bool b => some (.bool (decide (a = b)))
  | _, _ => none
def notBD : D → D → Option D
  | .bool a, .bool b => some (.bool (!decide (a = b)))
  | _, _ => none
theorem op2_isB (K : PySem.W.Frag) : Op2 K rIsB isBD := by
  intro x y H a b d Q ha hb e q
  unfold isBD at e
  split at e
  · cases e; exact ⟨_, _, dp_bl ha, dp_bl hb, q _ rfl⟩
  · cases e
theorem op2_notB (K : PySem.W.Frag) : Op2 K rNotB notBD := by
  intro x y H a b d Q ha hb e q
  unfold notBD at e
  split at e
  · cases e; exact ⟨_, _, dp_bl ha, dp_bl hb, q _ rfl⟩
  · cases e
/-- a range from its end -/
def rvrI (fe : EF) : IF := fun ρ => (iE fe ρ).bind fun p => if rgOk 0 p.1 = true then some ((rgD 0 p.1).reverse, p.2) else none
section
variable {K : PySem.W.Frag} {wd : World} {X : Cx} {tg e : Expr} {te : TE} {fe : EF} {p p2 pos pos2 : Pos}
theorem runs_revR {F : Hp} {b : Int} : Runs K (Itc (0 + (((b - 0).toNat : Nat) : Int) - 1) (-1) (b - 0).toNat) (rgD 0 b).reverse F := by
  have hl : (rgD 0 b).length = (b - 0).toNat := by unfold rgD; rw [List.length_map, List.length_range]
  have hw : Walk (Itc (0 + (((b - 0).toNat : Nat) : Int) - 1) (-1) (b - 0).toNat) (rgD 0 b).reverse.length (fun _ => True)
      (fun i H x H' => i < (b - 0).toNat ∧ (H' = H ∧ x = .int (0 + (((b - 0).toNat : Nat) : Int) - 1 + (i : Nat) * (-1)))) := by
    rw [List.length_reverse, hl]
    exact ⟨fun i H h _ => h, fun _ _ => Nat.le_refl _, fun i H x H' h _ y => ⟨h, y⟩⟩
  refine ⟨_, _, hw, fun _ _ _ _ => trivial, fun i H x H' y F' s1 s2 => ?_⟩
  obtain ⟨hi, rfl, rfl⟩ := y
  refine ⟨.int (0 + (((b - 0).toNat : Nat) : Int) - 1 + (i : Nat) * (-1)), ?_, F', .inl ⟨rfl, rfl⟩, .int _⟩
  rw [rev_get (by rw [hl]; exact hi), hl]
  unfold rgD
  rw [List.getElem?_map, List.getElem?_range (by omega)]
  show some (PyData.int _) = _
  congr 2
  omega
theorem di_revR (hm : X.mg "reversed" = none) (hm2 : X.mg "range" = none) (h : DE K wd X e te fe) (hg : Gl X "reversed" := by rfl) (hg2 : Gl X "range" := by rfl) (he : starEach [e] X.env = (false, eval e X.env) :: starEach [] X.env := by rfl)
    (hs : starEach [.Call (.Name "range" p2) [e] [] pos2] X.env = (false, eval (.Call (.Name "range" p2) [e] [] pos2) X.env) :: starEach [] X.env := by rfl) :
    DI K wd X tg (.Call (.Name "reversed" p) [.Call (.Name "range" p2) [e] [] pos2] [] pos) (iRevR (tRg1 te)) (rvrI fe) := by
  refine ⟨fun hk hw => by subst hk hw; exact pi_revR hg hm (prg_1 hg2 hm2 (h.pe rfl rfl) he) hs, fun ρ σ fp F H ds ρ' R s e q => ?_⟩
  obtain ⟨⟨i, ρ1⟩, e1, e2⟩ := Option.bind_eq_some_iff.mp e
  split at e2
  · rename_i hz
    cases e2
    have hz' := of_decide_eq_true hz
    refine iE_ok h.dn s e1 fun fp1 F1 H1 s1 x1 => ⟨i, rfl, by omega, by omega, by omega, by omega, q fp1 F1 H1 _ s1 x1 runs_revR⟩
  · cases e2
end
end Mm
namespace Mm
open PySem L2

/-! ### what an image gives: a calculus -/
def Wp {α : Type} (o : Option α) (Q : α → Prop) : Prop := ∃ a, o = some a ∧ Q a
section
variable {α β : Type} {o : Option α} {Q Q' : α → Prop}
theorem Wp.mono (h : Wp o Q) (k : ∀ a, Q a → Q' a) : Wp o Q' := let ⟨a, e, q⟩ := h; ⟨a, e, k a q⟩
theorem wp_some {a : α} : Wp (some a) Q = Q a := propext ⟨fun ⟨_, e, q⟩ => by cases e; exact q, fun q => ⟨a, rfl, q⟩⟩
theorem wp_none : Wp (none : Option α) Q = False := propext ⟨fun ⟨_, e, _⟩ => (nomatch e), fun h => h.elim⟩
theorem wp_bind {f : α → Option β} {Q : β → Prop} : Wp (o.bind f) Q = Wp o fun a => Wp (f a) Q := propext ⟨fun ⟨b, e, q⟩ => by
  obtain ⟨a, e1, e2⟩ := Option.bind_eq_some_iff.mp e
  exact ⟨a, e1, b, e2, q⟩, fun ⟨a, e1, b, e2, q⟩ => ⟨b, Option.bind_eq_some_iff.mpr ⟨a, e1, e2⟩, q⟩⟩
theorem wp_map {f : α → β} {Q : β → Prop} : Wp (o.map f) Q = Wp o fun a => Q (f a) := propext ⟨fun ⟨b, e, q⟩ => by
  obtain ⟨a, e1, e2⟩ := Option.map_eq_some_iff.mp e
  subst e2
  exact ⟨a, e1, q⟩, fun ⟨a, e1, q⟩ => ⟨_, Option.map_eq_some_iff.mpr ⟨a, e1, rfl⟩, q⟩⟩
theorem wp_if {c : Prop} [Decidable c] {o1 o2 : Option α} : Wp (if c then o1 else o2) Q = ((c → Wp o1 Q) ∧ (¬c → Wp o2 Q)) := by
  by_cases h : c <;> simp [h]
theorem wp_ifn {c : Prop} [Decidable c] {o1 : Option α} : Wp (if c then o1 else none) Q = (c ∧ Wp o1 Q) := by
  by_cases h : c <;> simp [h, wp_none]
/-- the rest is not looked at before its turn -/
theorem wp_congr {o o' : Option α} {Q : α → Prop} (h : o = o') : Wp o Q = Wp o' Q := by rw [h]
end
section
variable {ρ : Rho} {fa fb : EF} {fv fv2 : VF} {Q : R × Rho → Prop} {QV : D × Rho → Prop} {QT : Bool × Rho → Prop} {QS : Fl → Prop} {QA : List D × Rho → Prop} {QC : List Ar × Rho → Prop} {QG : Rho → Prop}
theorem w_nmE {i : Nat} : Wp (nmE i ρ) Q = match ρ[i]? with
    | some (some (.v d)) => Q (.v d, ρ)
    | some (some _) => Q (.at i, ρ)
    | _ => False := by
  unfold nmE
  generalize ρ[i]? = u
  rcases u with _ | _ | o
  · exact wp_none
  · exact wp_none
  · cases o <;> exact wp_some
theorem w_cE {d : D} : Wp (cE d ρ) Q = Q (.v d, ρ) := wp_some
theorem w_vE : Wp (vE fa ρ) QV = Wp (fa ρ) fun p => Wp (keep p.2 p.1) QV := wp_bind
theorem w_pE : Wp (pE fv ρ) Q = Wp (fv ρ) fun p => Q (.v p.1, p.2) := wp_map
theorem k_v {d : D} : Wp (keep ρ (.v d)) QV = QV (d, ρ) := wp_some
theorem k_o {o : O} : Wp (keep ρ (.o o)) QV = Wp (frz o) fun d => QV (d, ρ) := wp_map
theorem k_at {i : Nat} : Wp (keep ρ (.at i)) QV = match ρ[i]? with
    | some (some o) => Wp (frz o) fun d => QV (d, ρ.set i (some (.v d)))
    | _ => False := by
  show Wp (match ρ[i]? with | some (some o) => (frz o).map fun d => (d, ρ.set i (some (.v d))) | _ => none) QV = _
  generalize ρ[i]? = u
  rcases u with _ | _ | o
  · exact wp_none
  · exact wp_none
  · exact wp_map
theorem w_aN : Wp (aN ρ) QA = QA ([], ρ) := wp_some
theorem w_aC {g : AF} : Wp (aC fv g ρ) QA = Wp (fv ρ) fun p => Wp (g p.2) fun q => QA (p.1 :: q.1, q.2) := by rw [aC, wp_bind]; congr 1; funext p; rw [wp_map]
theorem w_tupE {g : AF} : Wp (tupE g ρ) Q = Wp (g ρ) fun p => sizeOk p.1 = true ∧ Q (.v (.tuple p.1), p.2) := by rw [tupE, wp_bind]; congr 1; funext p; rw [wp_ifn, wp_some]
theorem w_lstE {g : AF} : Wp (lstE g ρ) Q = Wp (g ρ) fun p => sizeOk p.1 = true ∧ Q (.o (.l p.1), p.2) := by rw [lstE, wp_bind]; congr 1; funext p; rw [wp_ifn, wp_some]
theorem w_oN {QN : List O × Rho → Prop} : Wp (oN ρ) QN = QN ([], ρ) := wp_some
theorem w_oC {g : NF} {QN : List O × Rho → Prop} : Wp (oC fa g ρ) QN = Wp (fa ρ) fun p => match p.1 with
    | .v d => Wp (g p.2) fun q => QN (.v d :: q.1, q.2)
    | .o o => Wp (g p.2) fun q => QN (o :: q.1, q.2)
    | .at _ => False := by
  rw [oC, wp_bind]; congr 1; funext p; rcases p with ⟨r, ρ1⟩; cases r <;> first | exact wp_map | exact wp_none
theorem w_lstC {g : NF} : Wp (lstC g ρ) Q = Wp (g ρ) fun p => p.1.length ≤ sizeLine ∧ Q (.o (.c p.1), p.2) := by rw [lstC, wp_bind]; congr 1; funext p; rw [wp_ifn, wp_some, decide_eq_true_eq]
theorem w_o2 {op : D → D → Option D} : Wp (o2 op fa fb ρ) Q = Wp (fa ρ) fun p => Wp (fb p.2) fun q => Wp (peek q.2 p.1) fun a => Wp (peek q.2 q.1) fun b => Wp (op a b) fun d => Q (.v d, q.2) := by simp only [o2, wp_bind, wp_map]
theorem w_o1 {op : D → Option D} : Wp (o1 op fa ρ) Q = Wp (fa ρ) fun p => Wp (peek p.2 p.1) fun a => Wp (op a) fun d => Q (.v d, p.2) := by simp only [o1, wp_bind, wp_map]
theorem w_g2 {g : G2} : Wp (g2 g fa fb ρ) Q = Wp (fa ρ) fun p => Wp (fb p.2) fun q => Wp (g p.1 q.1 q.2) fun r => Q (r, q.2) := by simp only [g2, wp_bind, wp_map]
theorem w_g1 {g : G1} : Wp (g1 g fa ρ) Q = Wp (fa ρ) fun p => Wp (g p.1 p.2) fun r => Q (r, p.2) := by simp only [g1, wp_bind, wp_map]
theorem w_tE : Wp (tE fa ρ) QT = Wp (fa ρ) fun p => Wp (peek p.2 p.1) fun d => match d with
    | .bool b => QT (b, p.2)
    | _ => False := by
  rw [tE, wp_bind]; congr 1; funext p
  cases h : peek p.2 p.1 with
  | none => simp [wp_none]
  | some d => cases d <;> simp [wp_some, wp_none]
theorem w_truT : Wp (truT fa ρ) QT = Wp (fa ρ) fun p => Wp (peek p.2 p.1) fun d => Wp (truD d) fun b => QT (b, p.2) := by simp only [truT, wp_bind, wp_map]
theorem w_andT {f g : TF} : Wp (andT f g ρ) QT = Wp (f ρ) fun p => (p.1 = true → Wp (g p.2) QT) ∧ (¬ p.1 = true → QT (false, p.2)) := by simp only [andT, wp_bind, wp_if, wp_some]
theorem w_orT {f g : TF} : Wp (orT f g ρ) QT = Wp (f ρ) fun p => (p.1 = true → QT (true, p.2)) ∧ (¬ p.1 = true → Wp (g p.2) QT) := by simp only [orT, wp_bind, wp_if, wp_some]
theorem w_notT {f : TF} : Wp (notT f ρ) QT = Wp (f ρ) fun p => QT (!p.1, p.2) := by simp only [notT, wp_map]
theorem w_yesT : Wp (yesT ρ) QT = QT (true, ρ) := wp_some
theorem w_ifE {f : TF} : Wp (ifE f fa fb ρ) Q = Wp (f ρ) fun p => (p.1 = true → Wp (fa p.2) Q) ∧ (¬ p.1 = true → Wp (fb p.2) Q) := by simp only [ifE, wp_bind, wp_if]
theorem w_ifS {f : TF} {s t : SF} : Wp (ifS f s t ρ) QS = Wp (f ρ) fun p => (p.1 = true → Wp (s p.2) QS) ∧ (¬ p.1 = true → Wp (t p.2) QS) := by simp only [ifS, wp_bind, wp_if]
theorem w_nxS : Wp (nxS ρ) QS = QS (.nx ρ) := wp_some
theorem w_bkS : Wp (bkS ρ) QS = QS (.bk ρ) := wp_some
theorem w_ctS : Wp (ctS ρ) QS = QS (.ct ρ) := wp_some
theorem w_rnS : Wp (rnS ρ) QS = QS (.rt (.v .none) ρ) := wp_some
theorem w_rtS : Wp (rtS fa ρ) QS = Wp (fa ρ) fun p => QS (.rt p.1 p.2) := wp_map
theorem w_exS : Wp (exS fa ρ) QS = Wp (fa ρ) fun p => QS (.nx p.2) := wp_map
theorem w_sqS {f g : SF} : Wp (sqS f g ρ) QS = Wp (f ρ) fun fl => match fl with
    | .nx ρ' => Wp (g ρ') QS
    | fl => QS fl := by
  rw [sqS, wp_bind]; congr 1; funext fl; cases fl <;> simp [wp_some]
theorem w_asS {i : Nat} : Wp (asS i fa ρ) QS = Wp (fa ρ) fun p => i < p.2.length ∧ Wp (put i p.1 p.2) fun r => QS (.nx r) := by simp only [asS, wp_bind, wp_ifn, wp_map]
theorem w_agS {G : GF} : Wp (agS fv G ρ) QS = Wp (fv ρ) fun p => Wp (G p.1 p.2) fun r => QS (.nx r) := by simp only [agS, wp_bind, wp_map]
theorem pu_v {i : Nat} {d : D} : Wp (put i (.v d) ρ) QG = QG (ρ.set i (some (.v d))) := wp_some
theorem pu_o {i : Nat} {o : O} : Wp (put i (.o o) ρ) QG = QG (ρ.set i (some o)) := wp_some
theorem pu_at {i j : Nat} : Wp (put i (.at j) ρ) QG = Wp (keep ρ (.at j)) fun p => QG (p.2.set i (some (.v p.1))) := wp_map
theorem w_nmG {i : Nat} {d : D} : Wp (nmG i d ρ) QG = (i < ρ.length ∧ QG (ρ.set i (some (.v d)))) := by rw [nmG, wp_ifn, wp_some]
theorem w_tupT {n : Nat} {Gs : GsF} {ds : List D} : Wp (tupG n Gs (.tuple ds) ρ) QG = (ds.length = n ∧ Wp (Gs ds ρ) QG) := by simp only [tupG, wp_ifn]
theorem w_tupL {n : Nat} {Gs : GsF} {ds : List D} : Wp (tupG n Gs (.list ds) ρ) QG = (ds.length = n ∧ Wp (Gs ds ρ) QG) := by simp only [tupG, wp_ifn]
theorem w_nilG : Wp (nilG [] ρ) QG = QG ρ := wp_some
theorem w_consG {G : GF} {Gs : GsF} {d : D} {ds : List D} : Wp (consG G Gs (d :: ds) ρ) QG = Wp (G d ρ) fun ρ1 => Wp (Gs ds ρ1) QG := wp_bind
theorem w_sqI : Wp (sqI fv ρ) QA = Wp (fv ρ) fun p => Wp (itemsD p.1) fun ds => QA (ds, p.2) := by simp only [sqI, wp_bind, wp_map]
theorem w_iE {Qi : Int × Rho → Prop} : Wp (iE fa ρ) Qi = Wp (fa ρ) fun p => match p.1 with
    | .v (.int i) => Qi (i, p.2)
    | _ => False := by
  rw [iE, wp_bind]; congr 1; funext p; rcases p with ⟨r, ρ1⟩
  rcases r with d | o | i
  · cases d <;> first | exact wp_some | exact wp_none
  · exact wp_none
  · exact wp_none
theorem w_rg1I : Wp (rg1I fa ρ) QA = Wp (iE fa ρ) fun p => rgOk 0 p.1 = true ∧ QA (rgD 0 p.1, p.2) := by simp only [rg1I, wp_bind, wp_ifn, wp_some]
theorem w_rg2I : Wp (rg2I fa fb ρ) QA = Wp (iE fa ρ) fun p => Wp (iE fb p.2) fun q => rgOk p.1 q.1 = true ∧ QA (rgD p.1 q.1, q.2) := by simp only [rg2I, wp_bind, wp_ifn, wp_some]
theorem w_lrg1 : Wp (lrg1 fa ρ) Q = Wp (iE fa ρ) fun p => rgOk 0 p.1 = true ∧ Q (.o (.l (rgD 0 p.1)), p.2) := by simp only [lrg1, wp_bind, wp_ifn, wp_some]
theorem w_forS {f : IF} {G : GF} {b : SF} : Wp (forS f G b ρ) QS = Wp (f ρ) fun p => Wp (loopS G b p.1 p.2) QS := wp_bind
theorem w_lcE {f : IF} {vs : List Nat} {G : GF} {T : TF} : Wp (lcE f vs G T fv ρ) Q = Wp (f ρ) fun p => (vs.all fun v => decide (v < p.2.length) && isV p.2[v]?) = true ∧ Wp (lcL vs G T fv p.1 [] (wipeR p.2 vs)) fun r => Q (.o (.l r.1), restR p.2 vs r.2) := by simp only [lcE, wp_bind, wp_ifn, wp_map]
theorem w_cN : Wp (cN ρ) QC = QC ([], ρ) := wp_some
theorem w_cV {g : CF} : Wp (cV fv g ρ) QC = Wp (fv ρ) fun p => Wp (g p.2) fun q => QC (.v p.1 :: q.1, q.2) := by simp only [cV, wp_bind, wp_map]
theorem w_cS {k : Nat → Ar} {g : CF} : Wp (cS k fa g ρ) QC = Wp (fa ρ) fun p => match p.1 with
    | .v d => Wp (g p.2) fun q => QC (.v d :: q.1, q.2)
    | .at i => Wp (g p.2) fun q => QC (k i :: q.1, q.2)
    | .o o => False := by
  rw [cS, wp_bind]; congr 1; funext p
  rcases p with ⟨r, ρ1⟩
  cases r with
  | v d => exact wp_map
  | «at» i => exact wp_map
  | o o =>
    refine wp_bind.trans (propext ⟨fun ⟨_, _, h⟩ => ?_, fun h => h.elim⟩)
    rw [wp_none] at h
    exact h
theorem w_callE {m : Fn} {f : CF} : Wp (callE m f ρ) Q = Wp (f ρ) fun p => (idxs p.1).Nodup ∧ Wp (giveR p.2 p.1) fun os => Wp (m os) fun z => Q (ofO z.1, back p.1 z.2 p.2) := by simp only [callE, wp_bind, wp_ifn, wp_map]
theorem w_callB {m : Fn} {f : CF} : Wp (callB m f ρ) Q = Wp (f ρ) fun p => Wp (giveB p.2 p.1) fun os => Wp (m os) fun z => Wp (takeR z.1) fun r => Q (r, p.2) := by simp only [callB, wp_bind, wp_map]
theorem w_mutE {g : D → List D → Option (List D × D)} : Wp (mutE' g fa fv ρ) Q = Wp (fa ρ) fun p => match p.1 with
    | .at i => lstAt p.2 i = true ∧ Wp (fv p.2) fun q => match q.2[i]? with
      | some (some (.l ds)) => Wp (g q.1 ds) fun r => Q (.v r.2, q.2.set i (some (.l r.1)))
      | _ => False
    | _ => False := by
  rw [mutE', wp_bind]; congr 1; funext p
  rcases p with ⟨r, ρ1⟩
  rcases r with d | o | i
  · exact wp_none
  · exact wp_none
  · dsimp only
    rw [wp_ifn, wp_bind]
    congr 2
    funext q
    generalize q.2[i]? = u
    rcases u with _ | _ | o
    · exact wp_none
    · exact wp_none
    · cases o <;> first | exact wp_map | exact wp_none
theorem w_mut0E {g : List D → Option (List D × D)} : Wp (mut0E g fa ρ) Q = Wp (fa ρ) fun p => match p.1 with
    | .at i => match p.2[i]? with
      | some (some (.l ds)) => Wp (g ds) fun r => Q (.v r.2, p.2.set i (some (.l r.1)))
      | _ => False
    | _ => False := by
  rw [mut0E, wp_bind]; congr 1; funext p
  rcases p with ⟨r, ρ1⟩
  rcases r with d | o | i
  · exact wp_none
  · exact wp_none
  · dsimp only
    generalize ρ1[i]? = u
    rcases u with _ | _ | o
    · exact wp_none
    · exact wp_none
    · cases o <;> first | exact wp_map | exact wp_none
theorem w_setG {fo fi : EF} {d : D} : Wp (setG fo fi d ρ) QG = Wp (fo ρ) fun p => match p.1 with
    | .at i => Wp (fi p.2) fun q => match q.1, q.2[i]? with
      | .v (.int k), some (some (.l ds)) => Wp (ixN ds.length k) fun j => QG (q.2.set i (some (.l (ds.set j d))))
      | .v (.int k), some (some (.c os)) => Wp (ixN os.length k) fun j => QG (q.2.set i (some (.c (os.set j (.v d)))))
      | _, _ => False
    | _ => False := by
  rw [setG, wp_bind]; congr 1; funext p
  rcases p with ⟨r, ρ1⟩
  rcases r with d' | o | i
  · exact wp_none
  · exact wp_none
  · dsimp only
    rw [wp_bind]
    congr 1
    funext q
    rcases q with ⟨r, ρ2⟩
    dsimp only
    generalize ρ2[i]? = u
    rcases r with k | o | i
    · cases k with
      | int k =>
        rcases u with _ | _ | o
        · exact wp_none
        · exact wp_none
        · cases o <;> first | exact wp_map | exact wp_none
      | _ => exact wp_none
    · exact wp_none
    · exact wp_none
theorem w_strE {g : G2} : Wp (strE g fa fb ρ) Q = Wp (fa ρ) fun p => match p.1 with
    | .v (.str z) => Wp (fb p.2) fun q => Wp (g (.v (.str z)) q.1 q.2) fun r => Q (r, q.2)
    | _ => False := by
  rw [strE, wp_bind]; congr 1; funext p; rcases p with ⟨r, ρ1⟩
  rcases r with d | o | i
  · cases d <;> first | exact wp_none | (simp only [wp_bind, wp_map]; done)
  · exact wp_none
  · exact wp_none
theorem w_lmE {g : G2} : Wp (lmE g fa fb ρ) Q = Wp (fa ρ) fun p => Wp (lstM p.2 p.1) fun _ => Wp (fb p.2) fun q => Wp (g p.1 q.1 q.2) fun r => Q (r, q.2) := by simp only [lmE, wp_bind, wp_map]
theorem w_pN {Qo : Option Int × Rho → Prop} : Wp (pN ρ) Qo = Qo (none, ρ) := wp_some
theorem w_pS {Qo : Option Int × Rho → Prop} : Wp (pS fa ρ) Qo = Wp (fa ρ) fun p => match p.1 with
    | .v (.int i) => Qo (some i, p.2)
    | _ => False := by
  rw [pS, wp_bind]; congr 1; funext p; rcases p with ⟨r, ρ1⟩
  rcases r with d | o | i
  · cases d <;> first | exact wp_some | exact wp_none
  · exact wp_none
  · exact wp_none
theorem w_slE {fl fh : Rho → Option (Option Int × Rho)} : Wp (slE fa fl fh ρ) Q = Wp (fa ρ) fun p => Wp (fl p.2) fun l => Wp (fh l.2) fun h => Wp (slG l.1 h.1 p.1 h.2) fun r => Q (r, h.2) := by simp only [slE, wp_bind, wp_map]
theorem w_defM {n nl : Nat} {w : List Nat} {S : SF} {os : List O} {QF : O × List O → Prop} : Wp (defM n nl w S os) QF = ((os.length = n ∧ safeW w os 0 = true) ∧ Wp (S (os.map some ++ List.replicate nl none)) fun fl => match fl with
    | .nx ρ => Wp (outs ρ os 0) fun os' => QF (.v .none, os')
    | .rt r ρ => Wp (finO n os r ρ) QF
    | _ => False) := by
  rw [defM, wp_ifn, wp_bind]; congr 2; funext fl; cases fl <;> simp [wp_map, wp_none]
-- what operators give
theorem sizeOk_iff {ds : List D} : (sizeOk ds = true) = (ds.length ≤ 16777216) := by rw [sizeOk, decide_eq_true_eq, sizeLine_eq]
theorem p_v {d : D} {Qd : D → Prop} : Wp (peek ρ (.v d)) Qd = Qd d := wp_some
theorem p_o {o : O} {Qd : D → Prop} : Wp (peek ρ (.o o)) Qd = Wp (frz o) Qd := rfl
theorem p_at {i : Nat} {Qd : D → Prop} : Wp (peek ρ (.at i)) Qd = match ρ[i]? with
    | some (some o) => Wp (frz o) Qd
    | _ => False := by
  show Wp (match ρ[i]? with | some (some o) => frz o | _ => none) Qd = _
  generalize ρ[i]? = u
  rcases u with _ | _ | o
  · exact wp_none
  · exact wp_none
  · rfl
theorem f_v {d : D} {Qd : D → Prop} : Wp (frz (.v d)) Qd = Qd d := by rw [frz, wp_some]
theorem f_l {ds : List D} {Qd : D → Prop} : Wp (frz (.l ds)) Qd = Qd (.list ds) := by rw [frz, wp_some]
end
/-! ### the calculus for simp: the rest of the run is hidden till its turn -/
class Post (α : Type) where
  p : α → Prop
def WpI {α : Type} (o : Option α) [q : Post α] : Prop := Wp o q.p
theorem wi {α : Type} {o : Option α} {Q : α → Prop} (h : Wp o Q) : @WpI _ o ⟨Q⟩ := h
theorem iw {α : Type} {o : Option α} {Q : α → Prop} (h : @WpI _ o ⟨Q⟩) : Wp o Q := h
@[simp ↓] theorem wp_in {α : Type} {o : Option α} {Q : α → Prop} : Wp o Q = @WpI _ o ⟨Q⟩ := rfl
section
variable {α β : Type} {o : Option α} {Q Q' : α → Prop}
@[simp ↓] theorem i_some {a : α} : @WpI _ (some a) ⟨Q⟩ = Q a := wp_some
@[simp ↓] theorem i_none : @WpI _ (none : Option α) ⟨Q⟩ = False := wp_none
@[simp ↓] theorem i_bind {f : α → Option β} {Q : β → Prop} : @WpI _ (o.bind f) ⟨Q⟩ = Wp o fun a => Wp (f a) Q := wp_bind
@[simp ↓] theorem i_map {f : α → β} {Q : β → Prop} : @WpI _ (o.map f) ⟨Q⟩ = Wp o fun a => Q (f a) := wp_map
@[simp ↓] theorem i_if {c : Prop} [Decidable c] {o1 o2 : Option α} : @WpI _ (if c then o1 else o2) ⟨Q⟩ = ((c → Wp o1 Q) ∧ (¬c → Wp o2 Q)) := wp_if
end
section
variable {ρ : Rho} {fa fb : EF} {fv fv2 : VF} {Q : R × Rho → Prop} {QV : D × Rho → Prop} {QT : Bool × Rho → Prop} {QS : Fl → Prop} {QA : List D × Rho → Prop} {QC : List Ar × Rho → Prop} {QG : Rho → Prop}
@[simp ↓] theorem i_w_nmE {i : Nat} : @WpI _ (nmE i ρ) ⟨Q⟩ = match ρ[i]? with
    | some (some (.v d)) => Q (.v d, ρ)
    | some (some _) => Q (.at i, ρ)
    | _ => False := w_nmE
@[simp ↓] theorem i_w_cE {d : D} : @WpI _ (cE d ρ) ⟨Q⟩ = Q (.v d, ρ) := w_cE
@[simp ↓] theorem i_w_vE : @WpI _ (vE fa ρ) ⟨QV⟩ = Wp (fa ρ) fun p => Wp (keep p.2 p.1) QV := w_vE
@[simp ↓] theorem i_w_pE : @WpI _ (pE fv ρ) ⟨Q⟩ = Wp (fv ρ) fun p => Q (.v p.1, p.2) := w_pE
@[simp ↓] theorem i_k_v {d : D} : @WpI _ (keep ρ (.v d)) ⟨QV⟩ = QV (d, ρ) := k_v
@[simp ↓] theorem i_k_o {o : O} : @WpI _ (keep ρ (.o o)) ⟨QV⟩ = Wp (frz o) fun d => QV (d, ρ) := k_o
@[simp ↓] theorem i_k_at {i : Nat} : @WpI _ (keep ρ (.at i)) ⟨QV⟩ = match ρ[i]? with
    | some (some o) => Wp (frz o) fun d => QV (d, ρ.set i (some (.v d)))
    | _ => False := k_at
@[simp ↓] theorem i_w_aN : @WpI _ (aN ρ) ⟨QA⟩ = QA ([], ρ) := w_aN
@[simp ↓] theorem i_w_aC {g : AF} : @WpI _ (aC fv g ρ) ⟨QA⟩ = Wp (fv ρ) fun p => Wp (g p.2) fun q => QA (p.1 :: q.1, q.2) := w_aC
@[simp ↓] theorem i_w_tupE {g : AF} : @WpI _ (tupE g ρ) ⟨Q⟩ = Wp (g ρ) fun p => sizeOk p.1 = true ∧ Q (.v (.tuple p.1), p.2) := w_tupE
@[simp ↓] theorem i_w_lstE {g : AF} : @WpI _ (lstE g ρ) ⟨Q⟩ = Wp (g ρ) fun p => sizeOk p.1 = true ∧ Q (.o (.l p.1), p.2) := w_lstE
@[simp ↓] theorem i_w_oN {QN : List O × Rho → Prop} : @WpI _ (oN ρ) ⟨QN⟩ = QN ([], ρ) := w_oN
@[simp ↓] theorem i_w_oC {g : NF} {QN : List O × Rho → Prop} : @WpI _ (oC fa g ρ) ⟨QN⟩ = Wp (fa ρ) fun p => match p.1 with
    | .v d => Wp (g p.2) fun q => QN (.v d :: q.1, q.2)
    | .o o => Wp (g p.2) fun q => QN (o :: q.1, q.2)
    | .at _ => False := w_oC
@[simp ↓] theorem i_w_lstC {g : NF} : @WpI _ (lstC g ρ) ⟨Q⟩ = Wp (g ρ) fun p => p.1.length ≤ sizeLine ∧ Q (.o (.c p.1), p.2) := w_lstC
@[simp ↓] theorem i_w_o2 {op : D → D → Option D} : @WpI _ (o2 op fa fb ρ) ⟨Q⟩ = Wp (fa ρ) fun p => Wp (fb p.2) fun q => Wp (peek q.2 p.1) fun a => Wp (peek q.2 q.1) fun b => Wp (op a b) fun d => Q (.v d, q.2) := w_o2
@[simp ↓] theorem i_w_o1 {op : D → Option D} : @WpI _ (o1 op fa ρ) ⟨Q⟩ = Wp (fa ρ) fun p => Wp (peek p.2 p.1) fun a => Wp (op a) fun d => Q (.v d, p.2) := w_o1
@[simp ↓] theorem i_w_g2 {g : G2} : @WpI _ (g2 g fa fb ρ) ⟨Q⟩ = Wp (fa ρ) fun p => Wp (fb p.2) fun q => Wp (g p.1 q.1 q.2) fun r => Q (r, q.2) := w_g2
@[simp ↓] theorem i_w_g1 {g : G1} : @WpI _ (g1 g fa ρ) ⟨Q⟩ = Wp (fa ρ) fun p => Wp (g p.1 p.2) fun r => Q (r, p.2) := w_g1
@[simp ↓] theorem i_w_tE : @WpI _ (tE fa ρ) ⟨QT⟩ = Wp (fa ρ) fun p => Wp (peek p.2 p.1) fun d => match d with
    | .bool b => QT (b, p.2)
    | _ => False := w_tE
@[simp ↓] theorem i_w_truT : @WpI _ (truT fa ρ) ⟨QT⟩ = Wp (fa ρ) fun p => Wp (peek p.2 p.1) fun d => Wp (truD d) fun b => QT (b, p.2) := w_truT
@[simp ↓] theorem i_w_andT {f g : TF} : @WpI _ (andT f g ρ) ⟨QT⟩ = Wp (f ρ) fun p => (p.1 = true → Wp (g p.2) QT) ∧ (¬ p.1 = true → QT (false, p.2)) := w_andT
@[simp ↓] theorem i_w_orT {f g : TF} : @WpI _ (orT f g ρ) ⟨QT⟩ = Wp (f ρ) fun p => (p.1 = true → QT (true, p.2)) ∧ (¬ p.1 = true → Wp (g p.2) QT) := w_orT
@[simp ↓] theorem i_w_notT {f : TF} : @WpI _ (notT f ρ) ⟨QT⟩ = Wp (f ρ) fun p => QT (!p.1, p.2) := w_notT
@[simp ↓] theorem i_w_yesT : @WpI _ (yesT ρ) ⟨QT⟩ = QT (true, ρ) := w_yesT
@[simp ↓] theorem i_w_ifE {f : TF} : @WpI _ (ifE f fa fb ρ) ⟨Q⟩ = Wp (f ρ) fun p => (p.1 = true → Wp (fa p.2) Q) ∧ (¬ p.1 = true → Wp (fb p.2) Q) := w_ifE
theorem i_w_ifS {f : TF} {s t : SF} : @WpI _ (ifS f s t ρ) ⟨QS⟩ = Wp (f ρ) fun p => (p.1 = true → Wp (s p.2) QS) ∧ (¬ p.1 = true → Wp (t p.2) QS) := w_ifS
@[simp ↓] theorem i_w_nxS : @WpI _ (nxS ρ) ⟨QS⟩ = QS (.nx ρ) := w_nxS
@[simp ↓] theorem i_w_bkS : @WpI _ (bkS ρ) ⟨QS⟩ = QS (.bk ρ) := w_bkS
@[simp ↓] theorem i_w_ctS : @WpI _ (ctS ρ) ⟨QS⟩ = QS (.ct ρ) := w_ctS
@[simp ↓] theorem i_w_rnS : @WpI _ (rnS ρ) ⟨QS⟩ = QS (.rt (.v .none) ρ) := w_rnS
@[simp ↓] theorem i_w_rtS : @WpI _ (rtS fa ρ) ⟨QS⟩ = Wp (fa ρ) fun p => QS (.rt p.1 p.2) := w_rtS
@[simp ↓] theorem i_w_exS : @WpI _ (exS fa ρ) ⟨QS⟩ = Wp (fa ρ) fun p => QS (.nx p.2) := w_exS
@[simp ↓] theorem i_w_sqS {f g : SF} : @WpI _ (sqS f g ρ) ⟨QS⟩ = Wp (f ρ) fun fl => match fl with
    | .nx ρ' => Wp (g ρ') QS
    | fl => QS fl := w_sqS
@[simp ↓] theorem i_w_asS {i : Nat} : @WpI _ (asS i fa ρ) ⟨QS⟩ = Wp (fa ρ) fun p => i < p.2.length ∧ Wp (put i p.1 p.2) fun r => QS (.nx r) := w_asS
@[simp ↓] theorem i_w_agS {G : GF} : @WpI _ (agS fv G ρ) ⟨QS⟩ = Wp (fv ρ) fun p => Wp (G p.1 p.2) fun r => QS (.nx r) := w_agS
@[simp ↓] theorem i_pu_v {i : Nat} {d : D} : @WpI _ (put i (.v d) ρ) ⟨QG⟩ = QG (ρ.set i (some (.v d))) := pu_v
@[simp ↓] theorem i_pu_o {i : Nat} {o : O} : @WpI _ (put i (.o o) ρ) ⟨QG⟩ = QG (ρ.set i (some o)) := pu_o
@[simp ↓] theorem i_pu_at {i j : Nat} : @WpI _ (put i (.at j) ρ) ⟨QG⟩ = Wp (keep ρ (.at j)) fun p => QG (p.2.set i (some (.v p.1))) := pu_at
@[simp ↓] theorem i_w_nmG {i : Nat} {d : D} : @WpI _ (nmG i d ρ) ⟨QG⟩ = (i < ρ.length ∧ QG (ρ.set i (some (.v d)))) := w_nmG
@[simp ↓] theorem i_w_tupT {n : Nat} {Gs : GsF} {ds : List D} : @WpI _ (tupG n Gs (.tuple ds) ρ) ⟨QG⟩ = (ds.length = n ∧ Wp (Gs ds ρ) QG) := w_tupT
@[simp ↓] theorem i_w_tupL {n : Nat} {Gs : GsF} {ds : List D} : @WpI _ (tupG n Gs (.list ds) ρ) ⟨QG⟩ = (ds.length = n ∧ Wp (Gs ds ρ) QG) := w_tupL
@[simp ↓] theorem i_w_nilG : @WpI _ (nilG [] ρ) ⟨QG⟩ = QG ρ := w_nilG
@[simp ↓] theorem i_w_consG {G : GF} {Gs : GsF} {d : D} {ds : List D} : @WpI _ (consG G Gs (d :: ds) ρ) ⟨QG⟩ = Wp (G d ρ) fun ρ1 => Wp (Gs ds ρ1) QG := w_consG
@[simp ↓] theorem i_w_sqI : @WpI _ (sqI fv ρ) ⟨QA⟩ = Wp (fv ρ) fun p => Wp (itemsD p.1) fun ds => QA (ds, p.2) := w_sqI
@[simp ↓] theorem i_w_iE {Qi : Int × Rho → Prop} : @WpI _ (iE fa ρ) ⟨Qi⟩ = Wp (fa ρ) fun p => match p.1 with
    | .v (.int i) => Qi (i, p.2)
    | _ => False := w_iE
@[simp ↓] theorem i_w_rg1I : @WpI _ (rg1I fa ρ) ⟨QA⟩ = Wp (iE fa ρ) fun p => rgOk 0 p.1 = true ∧ QA (rgD 0 p.1, p.2) := w_rg1I
@[simp ↓] theorem i_w_rg2I : @WpI _ (rg2I fa fb ρ) ⟨QA⟩ = Wp (iE fa ρ) fun p => Wp (iE fb p.2) fun q => rgOk p.1 q.1 = true ∧ QA (rgD p.1 q.1, q.2) := w_rg2I
@[simp ↓] theorem i_w_lrg1 : @WpI _ (lrg1 fa ρ) ⟨Q⟩ = Wp (iE fa ρ) fun p => rgOk 0 p.1 = true ∧ Q (.o (.l (rgD 0 p.1)), p.2) := w_lrg1
@[simp ↓] theorem i_w_forS {f : IF} {G : GF} {b : SF} : @WpI _ (forS f G b ρ) ⟨QS⟩ = Wp (f ρ) fun p => Wp (loopS G b p.1 p.2) QS := w_forS
@[simp ↓] theorem i_w_lcE {f : IF} {vs : List Nat} {G : GF} {T : TF} : @WpI _ (lcE f vs G T fv ρ) ⟨Q⟩ = Wp (f ρ) fun p => (vs.all fun v => decide (v < p.2.length) && isV p.2[v]?) = true ∧ Wp (lcL vs G T fv p.1 [] (wipeR p.2 vs)) fun r => Q (.o (.l r.1), restR p.2 vs r.2) := w_lcE
@[simp ↓] theorem i_w_cN : @WpI _ (cN ρ) ⟨QC⟩ = QC ([], ρ) := w_cN
@[simp ↓] theorem i_w_cV {g : CF} : @WpI _ (cV fv g ρ) ⟨QC⟩ = Wp (fv ρ) fun p => Wp (g p.2) fun q => QC (.v p.1 :: q.1, q.2) := w_cV
@[simp ↓] theorem i_w_cS {k : Nat → Ar} {g : CF} : @WpI _ (cS k fa g ρ) ⟨QC⟩ = Wp (fa ρ) fun p => match p.1 with
    | .v d => Wp (g p.2) fun q => QC (.v d :: q.1, q.2)
    | .at i => Wp (g p.2) fun q => QC (k i :: q.1, q.2)
    | .o o => False := w_cS
@[simp ↓] theorem i_w_callE {m : Fn} {f : CF} : @WpI _ (callE m f ρ) ⟨Q⟩ = Wp (f ρ) fun p => (idxs p.1).Nodup ∧ Wp (giveR p.2 p.1) fun os => Wp (m os) fun z => Q (ofO z.1, back p.1 z.2 p.2) := w_callE
@[simp ↓] theorem i_w_callB {m : Fn} {f : CF} : @WpI _ (callB m f ρ) ⟨Q⟩ = Wp (f ρ) fun p => Wp (giveB p.2 p.1) fun os => Wp (m os) fun z => Wp (takeR z.1) fun r => Q (r, p.2) := w_callB
@[simp ↓] theorem i_w_mutE {g : D → List D → Option (List D × D)} : @WpI _ (mutE' g fa fv ρ) ⟨Q⟩ = Wp (fa ρ) fun p => match p.1 with
    | .at i => lstAt p.2 i = true ∧ Wp (fv p.2) fun q => match q.2[i]? with
      | some (some (.l ds)) => Wp (g q.1 ds) fun r => Q (.v r.2, q.2.set i (some (.l r.1)))
      | _ => False
    | _ => False := w_mutE
@[simp ↓] theorem i_w_mut0E {g : List D → Option (List D × D)} : @WpI _ (mut0E g fa ρ) ⟨Q⟩ = Wp (fa ρ) fun p => match p.1 with
    | .at i => match p.2[i]? with
      | some (some (.l ds)) => Wp (g ds) fun r => Q (.v r.2, p.2.set i (some (.l r.1)))
      | _ => False
    | _ => False := w_mut0E
@[simp ↓] theorem i_w_setG {fo fi : EF} {d : D} : @WpI _ (setG fo fi d ρ) ⟨QG⟩ = Wp (fo ρ) fun p => match p.1 with
    | .at i => Wp (fi p.2) fun q => match q.1, q.2[i]? with
      | .v (.int k), some (some (.l ds)) => Wp (ixN ds.length k) fun j => QG (q.2.set i (some (.l (ds.set j d))))
      | .v (.int k), some (some (.c os)) => Wp (ixN os.length k) fun j => QG (q.2.set i (some (.c (os.set j (.v d)))))
      | _, _ => False
    | _ => False := w_setG
@[simp ↓] theorem i_w_strE {g : G2} : @WpI _ (strE g fa fb ρ) ⟨Q⟩ = Wp (fa ρ) fun p => match p.1 with
    | .v (.str z) => Wp (fb p.2) fun q => Wp (g (.v (.str z)) q.1 q.2) fun r => Q (r, q.2)
    | _ => False := w_strE
@[simp ↓] theorem i_w_lmE {g : G2} : @WpI _ (lmE g fa fb ρ) ⟨Q⟩ = Wp (fa ρ) fun p => Wp (lstM p.2 p.1) fun _ => Wp (fb p.2) fun q => Wp (g p.1 q.1 q.2) fun r => Q (r, q.2) := w_lmE
@[simp ↓] theorem i_w_pN {Qo : Option Int × Rho → Prop} : @WpI _ (pN ρ) ⟨Qo⟩ = Qo (none, ρ) := w_pN
@[simp ↓] theorem i_w_pS {Qo : Option Int × Rho → Prop} : @WpI _ (pS fa ρ) ⟨Qo⟩ = Wp (fa ρ) fun p => match p.1 with
    | .v (.int i) => Qo (some i, p.2)
    | _ => False := w_pS
@[simp ↓] theorem i_w_slE {fl fh : Rho → Option (Option Int × Rho)} : @WpI _ (slE fa fl fh ρ) ⟨Q⟩ = Wp (fa ρ) fun p => Wp (fl p.2) fun l => Wp (fh l.2) fun h => Wp (slG l.1 h.1 p.1 h.2) fun r => Q (r, h.2) := w_slE
@[simp ↓] theorem i_w_defM {n nl : Nat} {w : List Nat} {S : SF} {os : List O} {QF : O × List O → Prop} : @WpI _ (defM n nl w S os) ⟨QF⟩ = ((os.length = n ∧ safeW w os 0 = true) ∧ Wp (S (os.map some ++ List.replicate nl none)) fun fl => match fl with
    | .nx ρ => Wp (outs ρ os 0) fun os' => QF (.v .none, os')
    | .rt r ρ => Wp (finO n os r ρ) QF
    | _ => False) := w_defM
@[simp ↓] theorem i_p_v {d : D} {Qd : D → Prop} : @WpI _ (peek ρ (.v d)) ⟨Qd⟩ = Qd d := p_v
@[simp ↓] theorem i_p_o {o : O} {Qd : D → Prop} : @WpI _ (peek ρ (.o o)) ⟨Qd⟩ = Wp (frz o) Qd := p_o
@[simp ↓] theorem i_p_at {i : Nat} {Qd : D → Prop} : @WpI _ (peek ρ (.at i)) ⟨Qd⟩ = match ρ[i]? with
    | some (some o) => Wp (frz o) Qd
    | _ => False := p_at
@[simp ↓] theorem i_f_v {d : D} {Qd : D → Prop} : @WpI _ (frz (.v d)) ⟨Qd⟩ = Qd d := f_v
@[simp ↓] theorem i_f_l {ds : List D} {Qd : D → Prop} : @WpI _ (frz (.l ds)) ⟨Qd⟩ = Qd (.list ds) := f_l
end
/-! ### where ways meet again -/
theorem cut {f : SF} {ρ : Rho} {Q : Fl → Prop} (P : Rho → Prop) (h : Wp (f ρ) fun fl => match fl with
    | .nx ρ' => P ρ'
    | fl => Q fl) (k : ∀ ρ', P ρ' → Q (.nx ρ')) : Wp (f ρ) Q := h.mono fun fl h => by
  cases fl with
  | nx ρ' => exact k ρ' h
  | _ => exact h
/-! ### loops -/
theorem loop_wp {G : GF} {b : SF} {Q : Fl → Prop} (I : List D → Rho → Prop) : ∀ {ds : List D} {ρ : Rho}, I ds ρ →
    (∀ d ds ρ, I (d :: ds) ρ → Wp (G d ρ) fun ρ1 => Wp (b ρ1) fun fl => match fl with
      | .nx ρ' => I ds ρ'
      | .ct ρ' => I ds ρ'
      | .bk ρ' => Q (.nx ρ')
      | .rt r ρ' => Q (.rt r ρ')) → (∀ ρ, I [] ρ → Q (.nx ρ)) → Wp (loopS G b ds ρ) Q
  | [], ρ, h, _, q => by rw [loopS, wp_some]; exact q ρ h
  | d :: ds, ρ, h, k, q => by
    rw [loopS, wp_bind]
    refine (k d ds ρ h).mono fun ρ1 h1 => ?_
    rw [wp_bind]
    refine h1.mono fun fl h2 => ?_
    cases fl with
    | nx ρ' => exact loop_wp I h2 k q
    | ct ρ' => exact loop_wp I h2 k q
    | bk ρ' => dsimp only; rw [wp_some]; exact h2
    | rt r ρ' => dsimp only; rw [wp_some]; exact h2
theorem lc_wp {vs : List Nat} {G : GF} {T : TF} {e : VF} {Q : List D × Rho → Prop} (I : List D → List D → Rho → Prop) : ∀ {ds acc : List D} {ρ : Rho}, I ds acc ρ →
    (∀ d ds acc ρ, I (d :: ds) acc ρ → Wp (G d ρ) fun ρ1 => Wp (T ρ1) fun t => (t.1 = true → Wp (e t.2) fun y => acc.length < 16777216 ∧ I ds (acc ++ [y.1]) (wipeR y.2 vs)) ∧ (¬ t.1 = true → I ds acc (wipeR t.2 vs))) →
    (∀ acc ρ, I [] acc ρ → Q (acc, ρ)) → Wp (lcL vs G T e ds acc ρ) Q
  | [], acc, ρ, h, _, q => by rw [lcL, wp_some]; exact q acc ρ h
  | d :: ds, acc, ρ, h, k, q => by
    rw [lcL, wp_bind]
    refine (k d ds acc ρ h).mono fun ρ1 h1 => ?_
    rw [wp_bind]
    refine h1.mono fun t h2 => ?_
    rw [wp_if]
    refine ⟨fun ht => ?_, fun ht => ?_⟩
    · rw [wp_bind]
      refine (h2.1 ht).mono fun y h3 => ?_
      rw [wp_ifn, sizeLine_eq]
      exact ⟨h3.1, lc_wp I h3.2 k q⟩
    · exact lc_wp I (h2.2 ht) k q
end Mm
namespace Mm
open PySem L2
section
variable {ρ : Rho} {i : Nat} {ds : List D} {d : D} {z : Str} {j : Int}
@[simp] theorem ownL_o : ownL ρ (.o (.l ds)) = some ds := rfl
@[simp] theorem ownL_v : ownL ρ (.v d) = none := rfl
@[simp] theorem ownL_at : ownL ρ (.at i) = match ρ[i]? with
    | some (some (.l ds)) => some ds
    | _ => none := rfl
@[simp] theorem seqOf_o : seqOf ρ (.o (.l ds)) = some (true, ds) := rfl
@[simp] theorem seqOf_l : seqOf ρ (.v (.list ds)) = some (true, ds) := rfl
@[simp] theorem seqOf_t : seqOf ρ (.v (.tuple ds)) = some (false, ds) := rfl
@[simp] theorem seqOf_s : seqOf ρ (.v (.str z)) = none := rfl
@[simp] theorem seqOf_at : seqOf ρ (.at i) = match ρ[i]? with
    | some (some (.l ds)) => some (true, ds)
    | _ => none := by
  unfold seqOf
  rw [ownL_at]
  generalize ρ[i]? = u
  rcases u with _ | _ | o
  · rfl
  · rfl
  · cases o <;> rfl
@[simp] theorem lstM_o : lstM ρ (.o (.l ds)) = some ds := rfl
@[simp] theorem lstM_l : lstM ρ (.v (.list ds)) = some ds := rfl
@[simp] theorem lstM_at : lstM ρ (.at i) = match ρ[i]? with
    | some (some (.l ds)) => some ds
    | _ => none := by
  unfold lstM
  rw [seqOf_at]
  generalize ρ[i]? = u
  rcases u with _ | _ | o
  · rfl
  · rfl
  · cases o <;> rfl
@[simp] theorem len_o : lenG (.o (.l ds)) ρ = some (.v (.int ds.length)) := rfl
@[simp] theorem len_l : lenG (.v (.list ds)) ρ = some (.v (.int ds.length)) := rfl
@[simp] theorem len_t : lenG (.v (.tuple ds)) ρ = some (.v (.int ds.length)) := rfl
@[simp] theorem len_s : lenG (.v (.str z)) ρ = if z.length ≤ sizeLine then some (.v (.int z.length)) else none := rfl
@[simp] theorem len_at : lenG (.at i) ρ = match ρ[i]? with
    | some (some (.l ds)) => some (.v (.int ds.length))
    | some (some (.c os)) => some (.v (.int os.length))
    | _ => none := by
  unfold lenG
  rw [seqOf_at]
  dsimp only
  generalize ρ[i]? = u
  rcases u with _ | _ | o
  · rfl
  · rfl
  · cases o <;> rfl
@[simp] theorem ix_o : ixG (.o (.l ds)) (.v (.int j)) ρ = (atI ds j).map .v := rfl
@[simp] theorem ix_l : ixG (.v (.list ds)) (.v (.int j)) ρ = (atI ds j).map .v := rfl
@[simp] theorem ix_t : ixG (.v (.tuple ds)) (.v (.int j)) ρ = (atI ds j).map .v := rfl
@[simp] theorem ix_s : ixG (.v (.str z)) (.v (.int j)) ρ = if z.length ≤ sizeLine then (atI z.cps.toList j).map fun c => .v (.str ⟨#[c]⟩) else none := rfl
@[simp] theorem ix_at : ixG (.at i) (.v (.int j)) ρ = match ρ[i]? with
    | some (some (.l ds)) => (atI ds j).map R.v
    | some (some (.c os)) => (atI os j).bind fun o => match o with
          | .v d => some (R.v d)
          | _ => none
    | _ => none := by
  unfold ixG
  dsimp only
  rw [seqOf_at]
  generalize ρ[i]? = u
  rcases u with _ | _ | o
  · rfl
  · rfl
  · cases o <;> rfl
@[simp] theorem int_i : intG (.v (.int j)) ρ = some (.v (.int j)) := rfl
@[simp] theorem int_b {b : Bool} : intG (.v (.bool b)) ρ = some (.v (.int (if b then 1 else 0))) := rfl
@[simp] theorem tuple_o : tupleG (.o (.l ds)) ρ = some (.v (.tuple ds)) := rfl
@[simp] theorem tuple_l : tupleG (.v (.list ds)) ρ = some (.v (.tuple ds)) := rfl
@[simp] theorem tuple_t : tupleG (.v (.tuple ds)) ρ = some (.v (.tuple ds)) := rfl
@[simp] theorem tuple_at : tupleG (.at i) ρ = match ρ[i]? with
    | some (some (.l ds)) => some (.v (.tuple ds))
    | _ => none := by
  unfold tupleG
  rw [seqOf_at]
  generalize ρ[i]? = u
  rcases u with _ | _ | o
  · rfl
  · rfl
  · cases o <;> rfl
@[simp] theorem list_o : listAG (.o (.l ds)) ρ = some (.o (.l ds)) := rfl
@[simp] theorem list_l : listAG (.v (.list ds)) ρ = some (.o (.l ds)) := rfl
@[simp] theorem list_t : listAG (.v (.tuple ds)) ρ = some (.o (.l ds)) := rfl
@[simp] theorem list_s : listAG (.v (.str z)) ρ = if z.length ≤ sizeLine then some (.o (.l (chD z))) else none := rfl
@[simp] theorem list_at : listAG (.at i) ρ = match ρ[i]? with
    | some (some (.l ds)) => some (.o (.l ds))
    | _ => none := by
  show listG (.at i) ρ = _
  unfold listG
  rw [seqOf_at]
  generalize ρ[i]? = u
  rcases u with _ | _ | o
  · rfl
  · rfl
  · cases o <;> rfl
@[simp] theorem add_i {a b : Int} : addG (.v (.int a)) (.v (.int b)) ρ = some (.v (.int (a + b))) := rfl
@[simp] theorem add_oo {xs ys : List D} : addG (.o (.l xs)) (.o (.l ys)) ρ = if sizeOk (xs ++ ys) then some (.o (.l (xs ++ ys))) else none := rfl
@[simp] theorem add_tt {xs ys : List D} : addG (.v (.tuple xs)) (.v (.tuple ys)) ρ = if sizeOk (xs ++ ys) then some (.v (.tuple (xs ++ ys))) else none := rfl
@[simp] theorem add_ao {ys : List D} : addG (.at i) (.o (.l ys)) ρ = match ρ[i]? with
    | some (some (.l xs)) => if sizeOk (xs ++ ys) then some (.o (.l (xs ++ ys))) else none
    | _ => none := by
  unfold addG
  rw [ownL_at]
  generalize ρ[i]? = u
  rcases u with _ | _ | o
  · rfl
  · rfl
  · cases o <;> rfl
@[simp] theorem sub_i {a b : Int} : subD (.int a) (.int b) = some (.int (a - b)) := rfl
@[simp] theorem mod_i {a b : Int} : modD (.int a) (.int b) = if b ≠ 0 then some (.int (a.fmod b)) else none := rfl
@[simp] theorem div_i {a b : Int} : divD (.int a) (.int b) = if b ≠ 0 ∧ b.natAbs < 1073741824 then some (.int (a.fdiv b)) else none := rfl
@[simp] theorem mul_i {a b : Int} : mulD (.int a) (.int b) = if (-(2 ^ 64) < a ∧ a < 2 ^ 64) ∨ (-(2 ^ 64) < b ∧ b < 2 ^ 64) then some (.int (a * b)) else none := rfl
@[simp] theorem cmp_i {p : Int → Int → Bool} {a b : Int} : cmpD p (.int a) (.int b) = some (.bool (p a b)) := rfl
@[simp] theorem eq_i {a b : Int} : eqD (.int a) (.int b) = some (.bool (decide (a = b))) := by simp [eqD, eqOk, scalD, PyData.eqv, BEq.beq]
@[simp] theorem ne_i {a b : Int} : neD (.int a) (.int b) = some (.bool (!decide (a = b))) := by simp [neD, eqOk, scalD, PyData.eqv, BEq.beq]
@[simp] theorem eq_b {a b : Bool} : eqD (.bool a) (.bool b) = some (.bool (decide (a = b))) := by cases a <;> cases b <;> rfl
@[simp] theorem ne_b {a b : Bool} : neD (.bool a) (.bool b) = some (.bool (!decide (a = b))) := by cases a <;> cases b <;> rfl
@[simp] theorem eq_s {a b : Str} : eqD (.str a) (.str b) = some (.bool (decide (a = b))) := by simp [eqD, eqOk, scalD, PyData.eqv, BEq.beq]
@[simp] theorem ne_s {a b : Str} : neD (.str a) (.str b) = some (.bool (!decide (a = b))) := by simp [neD, eqOk, scalD, PyData.eqv, BEq.beq]
@[simp] theorem eq_ni {a : Int} : eqD .none (.int a) = some (.bool false) := rfl
@[simp] theorem eq_in {a : Int} : eqD (.int a) .none = some (.bool false) := rfl
@[simp] theorem isN_n : isND .none .none = some (.bool true) := rfl
@[simp] theorem isN_i {a : Int} : isND (.int a) .none = some (.bool false) := rfl
@[simp] theorem isN_b {a : Bool} : isND (.bool a) .none = some (.bool false) := rfl
@[simp] theorem isN_s {a : Str} : isND (.str a) .none = some (.bool false) := rfl
@[simp] theorem isN_l : isND (.list ds) .none = some (.bool false) := rfl
@[simp] theorem isN_t : isND (.tuple ds) .none = some (.bool false) := rfl
@[simp] theorem notN_n : notND .none .none = some (.bool false) := rfl
@[simp] theorem notN_i {a : Int} : notND (.int a) .none = some (.bool true) := rfl
@[simp] theorem val2 {op : D → D → Option D} {ra rb : R} : valG2 op ra rb ρ = (peek ρ ra).bind fun a => (peek ρ rb).bind fun b => (op a b).map .v := rfl
@[simp] theorem max2_i {a b : Int} : max2D (.int a) (.int b) = some (.int (max a b)) := by
  show some (PyData.int (if b > a then b else a)) = _
  congr 2; split <;> omega
@[simp] theorem min2_i {a b : Int} : min2D (.int a) (.int b) = some (.int (min a b)) := by
  show some (PyData.int (if b < a then b else a)) = _
  congr 2; split <;> omega
@[simp] theorem app_d : appG d ds = if ds.length < sizeLine then some (ds ++ [d], .none) else none := rfl
@[simp] theorem pop_d : popG ds = ds.getLast?.map fun d => (ds.dropLast, d) := rfl
@[simp] theorem rev_d : revG ds = some (ds.reverse, .none) := rfl
@[simp] theorem popAt_d : popAtG (.int j) ds = if ds.length ≤ 16777216 then (ixN ds.length j).bind fun k => ds[k]?.map fun d => (ds.eraseIdx k, d) else none := rfl
@[simp] theorem items_l : itemsD (.list ds) = some ds := rfl
@[simp] theorem items_t : itemsD (.tuple ds) = some ds := rfl
@[simp] theorem items_s : itemsD (.str z) = some (chD z) := rfl
@[simp] theorem tru_b {b : Bool} : truD (.bool b) = some b := rfl
@[simp] theorem lidx_o {rb : R} : lidxG (.o (.l ds)) rb ρ = (peek ρ rb).bind fun d => if inOk d ds || inDeep d ds then (findD d ds).map fun j => .v (.int (j : Nat)) else none := rfl
@[simp] theorem lidx_l {rb : R} : lidxG (.v (.list ds)) rb ρ = (peek ρ rb).bind fun d => if inOk d ds || inDeep d ds then (findD d ds).map fun j => .v (.int (j : Nat)) else none := rfl
@[simp] theorem lidx_at {rb : R} : lidxG (.at i) rb ρ = match ρ[i]? with
    | some (some (.l ds)) => (peek ρ rb).bind fun d => if inOk d ds || inDeep d ds then (findD d ds).map fun j => .v (.int (j : Nat)) else none
    | _ => none := by
  unfold lidxG
  rw [lstM_at]
  generalize ρ[i]? = u
  rcases u with _ | _ | o
  · rfl
  · rfl
  · cases o <;> rfl
@[simp] theorem in_l {neg : Bool} {a : Int} : inD neg (.int a) (.list ds) = if inOk (.int a) ds || inDeep (.int a) ds then some (.bool (if neg then !(ds.any fun z => PyData.eqv z (.int a)) else ds.any fun z => PyData.eqv z (.int a))) else none := rfl
@[simp] theorem in_t {neg : Bool} {a : Int} : inD neg (.int a) (.tuple ds) = if inOk (.int a) ds then some (.bool (if neg then !(ds.any fun z => PyData.eqv z (.int a)) else ds.any fun z => PyData.eqv z (.int a))) else none := rfl
@[simp] theorem ofO_v : ofO (.v d) = .v d := rfl
@[simp] theorem ofO_l : ofO (.l ds) = .o (.l ds) := rfl
@[simp] theorem ofO_c {os : List O} : ofO (.c os) = .o (.c os) := rfl
@[simp] theorem take_v : takeR (.v d) = if noL d then some (.v d) else none := rfl
@[simp] theorem take_l : takeR (.l ds) = if noLs ds then some (.o (.l ds)) else none := rfl
@[simp] theorem gR_n : giveR ρ [] = some [] := rfl
@[simp] theorem gR_v {as : List Ar} : giveR ρ (.v d :: as) = (giveR ρ as).map fun os => .v d :: os := rfl
@[simp] theorem gR_r {as : List Ar} : giveR ρ (.r i :: as) = match ρ[i]? with
    | some (some o) => (giveR ρ as).map fun os => o :: os
    | _ => none := by
  rw [giveR]
  unfold slotO
  generalize ρ[i]? = u
  rcases u with _ | _ | o <;> rfl
@[simp] theorem gB_n : giveB ρ [] = some [] := rfl
@[simp] theorem gB_v {as : List Ar} : giveB ρ (.v d :: as) = (giveB ρ as).map fun os => .v d :: os := rfl
@[simp] theorem gB_b {as : List Ar} : giveB ρ (.b i :: as) = match ρ[i]? with
    | some (some o) => (frz o).bind fun d => (giveB ρ as).map fun os => .v d :: os
    | _ => none := by
  rw [giveB]
  unfold slotO
  generalize ρ[i]? = u
  rcases u with _ | _ | o <;> rfl
@[simp] theorem back_n {os : List O} : back [] os ρ = ρ := rfl
@[simp] theorem back_v {as : List Ar} {o : O} {os : List O} : back (.v d :: as) (o :: os) ρ = back as os ρ := rfl
@[simp] theorem back_r {as : List Ar} {o : O} {os : List O} : back (.r i :: as) (o :: os) ρ = back as os (ρ.set i (some o)) := rfl
@[simp] theorem back_b {as : List Ar} {o : O} {os : List O} : back (.b i :: as) (o :: os) ρ = back as os ρ := rfl
@[simp] theorem idxs_n : idxs [] = [] := rfl
@[simp] theorem idxs_v {as : List Ar} : idxs (.v d :: as) = idxs as := rfl
@[simp] theorem idxs_r {as : List Ar} : idxs (.r i :: as) = i :: idxs as := rfl
@[simp] theorem idxs_b {as : List Ar} : idxs (.b i :: as) = i :: idxs as := rfl
@[simp] theorem safe_n {w : List Nat} {k : Nat} : safeW w [] k = true := rfl
@[simp] theorem safe_v {w : List Nat} {os : List O} {k : Nat} : safeW w (.v d :: os) k = safeW w os (k + 1) := by simp [safeW, isVO]
@[simp] theorem safe_l {w : List Nat} {os : List O} {k : Nat} : safeW w (.l ds :: os) k = (!w.contains k && safeW w os (k + 1)) := by simp [safeW, isVO]
@[simp] theorem safe_c {w : List Nat} {os os' : List O} {k : Nat} : safeW w (.c os' :: os) k = (!w.contains k && safeW w os (k + 1)) := by simp [safeW, isVO]
@[simp] theorem outs_n {k : Nat} : outs ρ [] k = some [] := rfl
@[simp] theorem outs_v {os : List O} {k : Nat} : outs ρ (.v d :: os) k = (outs ρ os (k + 1)).map fun os' => .v d :: os' := rfl
@[simp] theorem outs_l {os : List O} {k : Nat} : outs ρ (.l ds :: os) k = match ρ[k]? with
    | some (some (.v _)) => none
    | some (some o) => (outs ρ os (k + 1)).map fun os' => o :: os'
    | _ => none := by
  show (match slotO ρ k with
    | some (.v _) => none
    | some o => (outs ρ os (k + 1)).map fun os' => o :: os'
    | none => none) = _
  unfold slotO
  generalize ρ[k]? = u
  rcases u with _ | _ | o
  · rfl
  · rfl
  · cases o <;> rfl
@[simp] theorem outs_c {os os1 : List O} {k : Nat} : outs ρ (.c os1 :: os) k = match ρ[k]? with
    | some (some (.v _)) => none
    | some (some o) => (outs ρ os (k + 1)).map fun os' => o :: os'
    | _ => none := by
  show (match slotO ρ k with
    | some (.v _) => none
    | some o => (outs ρ os (k + 1)).map fun os' => o :: os'
    | none => none) = _
  unfold slotO
  generalize ρ[k]? = u
  rcases u with _ | _ | o
  · rfl
  · rfl
  · cases o <;> rfl
@[simp] theorem fin_v {n : Nat} {os : List O} : finO n os (.v d) ρ = (outs ρ os 0).map fun os' => (.v d, os') := rfl
@[simp] theorem fin_o {n : Nat} {os : List O} {o : O} : finO n os (.o o) ρ = (outs ρ os 0).map fun os' => (o, os') := rfl
@[simp] theorem fin_at {n : Nat} {os : List O} : finO n os (.at i) ρ = if i < n then (keep ρ (.at i)).bind fun p => (outs p.2 os 0).map fun os' => (.v p.1, os')
    else match ρ[i]? with
      | some (some (.v d)) => (outs ρ os 0).map fun os' => (.v d, os')
      | some (some o) => if os.all fun o => !isC o then (outs ρ os 0).map fun os' => (o, os') else none
      | _ => none := by
  show (if i < n then (keep ρ (.at i)).bind fun p => (outs p.2 os 0).map fun os' => (.v p.1, os')
    else match slotO ρ i with
      | some (.v d) => (outs ρ os 0).map fun os' => (.v d, os')
      | some o => if os.all fun o => !isC o then (outs ρ os 0).map fun os' => (o, os') else none
      | none => none) = _
  unfold slotO
  congr 1
  generalize ρ[i]? = u
  rcases u with _ | _ | o
  · rfl
  · rfl
  · cases o <;> rfl
@[simp] theorem isC_l : isC (.l ds) = false := rfl
@[simp] theorem isC_v : isC (.v d) = false := rfl
@[simp] theorem isC_c {os : List O} : isC (.c os) = true := rfl
@[simp] theorem wipe_n : wipeR ρ [] = ρ := rfl
@[simp] theorem wipe_c {v : Nat} {vs : List Nat} : wipeR ρ (v :: vs) = (wipeR ρ vs).set v none := rfl
@[simp] theorem rest_n {ρ0 : Rho} : restR ρ0 [] ρ = ρ := rfl
@[simp] theorem rest_c {ρ0 : Rho} {v : Nat} {vs : List Nat} : restR ρ0 (v :: vs) ρ = restR ρ0 vs (ρ.set v (ρ0[v]?.getD none)) := rfl
@[simp] theorem isV_v : isV (some (some (.v d))) = true := rfl
@[simp] theorem isV_n : isV (some none) = true := rfl
@[simp] theorem isV_nn : isV none = true := rfl
@[simp] theorem lstAt_eq : lstAt ρ i = match ρ[i]? with
    | some (some (.l _)) => true
    | _ => false := rfl
@[simp] theorem sizeOk_eq : sizeOk ds = decide (ds.length ≤ 16777216) := by rw [sizeOk, sizeLine_eq]
theorem atI_nat {α : Type} {xs : List α} {k : Nat} {x : α} (h : xs[k]? = some x) : atI xs (k : Int) = some x := by
  have hk : k < xs.length := (List.getElem?_eq_some_iff.mp h).1
  unfold atI ixN
  rw [if_pos (by omega), if_pos (by omega)]
  simpa using h
theorem atI_some {α : Type} {xs : List α} {j : Int} (h0 : 0 ≤ j) (h1 : j < xs.length) : ∃ x, atI xs j = some x ∧ x ∈ xs := by
  obtain ⟨k, rfl⟩ := Int.eq_ofNat_of_zero_le h0
  have hk : k < xs.length := by omega
  exact ⟨xs[k], atI_nat (List.getElem?_eq_getElem hk), List.getElem_mem hk⟩
@[simp] theorem atI_0 {α : Type} {x : α} {xs : List α} : atI (x :: xs) 0 = some x := atI_nat (k := 0) rfl
@[simp] theorem atI_1 {α : Type} {x y : α} {xs : List α} : atI (x :: y :: xs) 1 = some y := atI_nat (k := 1) rfl
@[simp] theorem atI_2 {α : Type} {x y z : α} {xs : List α} : atI (x :: y :: z :: xs) 2 = some z := atI_nat (k := 2) rfl
@[simp] theorem atI_3 {α : Type} {x y z u : α} {xs : List α} : atI (x :: y :: z :: u :: xs) 3 = some u := atI_nat (k := 3) rfl
end
/-- ints as data -/
def I (ns : List Int) : List D := ns.map .int
@[simp] theorem I_len (ns : List Int) : (I ns).length = ns.length := List.length_map ..
@[simp] theorem I_nil : I [] = [] := rfl
theorem I_cons (n : Int) (ns : List Int) : I (n :: ns) = .int n :: I ns := rfl
theorem I_app (a b : List Int) : I (a ++ b) = I a ++ I b := List.map_append
theorem I_rev (a : List Int) : (I a).reverse = I a.reverse := (List.map_reverse).symm
theorem I_last (a : List Int) : (I a).getLast? = a.getLast?.map .int := by unfold I; rw [List.getLast?_map]
theorem I_drop (a : List Int) : (I a).dropLast = I a.dropLast := by unfold I; rw [List.map_dropLast]
theorem I_get (a : List Int) (k : Nat) : (I a)[k]? = a[k]?.map .int := by unfold I; rw [List.getElem?_map]
theorem I_flat (a : List Int) : (I a).all flatD = true := by
  unfold I
  rw [List.all_map]
  exact List.all_eq_true.mpr fun _ _ => rfl
@[simp] theorem inOk_I {j : Int} (a : List Int) : inOk (.int j) (I a) = true := by rw [inOk, I_flat]; rfl
theorem any_I {j : Int} (a : List Int) : ((I a).any fun z => PyData.eqv z (.int j)) = decide (j ∈ a) := by
  unfold I
  induction a with
  | nil => rfl
  | cons b a ih =>
    rw [List.map_cons, List.any_cons, ih]
    simp only [PyData.eqv, List.mem_cons]
    by_cases h : b = j
    · simp [h]
    · have : ¬ j = b := fun w => h w.symm
      simp [h, this]
@[simp] theorem ints_I (a : List Int) : intsD (I a) = some a := by
  unfold I
  induction a with
  | nil => rfl
  | cons b a ih => rw [List.map_cons, intsD, ih]; rfl
end Mm
namespace Mm
open PySem L2
/-! ### comprehensions whose environment stays -/
theorem lc_flt {vs : List Nat} {G : GF} {T : TF} {e : VF} {Q : List D × Rho → Prop} {ρ0 : Rho} (p : D → Bool) (f : D → D) : ∀ {ds acc : List D}, acc.length + ds.length ≤ 16777216 →
    (∀ d ∈ ds, Wp (G d ρ0) fun ρ1 => Wp (T ρ1) fun t => t.1 = p d ∧ (p d = true → Wp (e t.2) fun y => y.1 = f d ∧ wipeR y.2 vs = ρ0) ∧ (p d = false → wipeR t.2 vs = ρ0)) →
    Q (acc ++ (ds.filter p).map f, ρ0) → Wp (lcL vs G T e ds acc ρ0) Q
  | [], acc, _, _, q => by rw [lcL, wp_some]; simpa using q
  | d :: ds, acc, hl, k, q => by
    rw [List.length_cons] at hl
    rw [lcL, wp_bind]
    refine (k d List.mem_cons_self).mono fun ρ1 h1 => ?_
    rw [wp_bind]
    refine h1.mono fun t h2 => ?_
    obtain ⟨e1, h3, h4⟩ := h2
    rw [wp_if, e1]
    refine ⟨fun ht => ?_, fun ht => ?_⟩
    · rw [wp_bind]
      refine (h3 ht).mono fun y h5 => ?_
      rw [wp_ifn, sizeLine_eq, h5.1, h5.2]
      refine ⟨by omega, lc_flt p f (by simp; omega) (fun d' hd => k d' (List.mem_cons_of_mem _ hd)) ?_⟩
      rw [List.filter_cons_of_pos ht] at q
      simpa using q
    · rw [h4 (by simpa using ht)]
      refine lc_flt p f (by omega) (fun d' hd => k d' (List.mem_cons_of_mem _ hd)) ?_
      rw [List.filter_cons_of_neg ht] at q
      exact q
theorem lc_map {vs : List Nat} {G : GF} {e : VF} {Q : List D × Rho → Prop} {ρ0 : Rho} (f : D → D) {ds : List D} (hl : ds.length ≤ 16777216)
    (k : ∀ d ∈ ds, Wp (G d ρ0) fun ρ1 => Wp (e ρ1) fun y => y.1 = f d ∧ wipeR y.2 vs = ρ0) (q : Q (ds.map f, ρ0)) : Wp (lcL vs G yesT e ds [] ρ0) Q :=
  lc_flt (fun _ => true) f (by simpa using hl) (fun d hd => (k d hd).mono fun ρ1 h => by rw [w_yesT]; exact ⟨rfl, fun _ => h, fun z => nomatch z⟩) (by rw [List.filter_eq_self.mpr fun _ _ => rfl]; simpa using q)
theorem lc_all {vs : List Nat} {G : GF} {T : TF} {e : VF} {Q : List D × Rho → Prop} {ρ0 : Rho} (P : D → Prop) : ∀ {ds acc : List D}, acc.length + ds.length ≤ 16777216 → (∀ y ∈ acc, P y) →
    (∀ d ∈ ds, Wp (G d ρ0) fun ρ1 => Wp (T ρ1) fun t => (t.1 = true → Wp (e t.2) fun y => P y.1 ∧ wipeR y.2 vs = ρ0) ∧ (¬ t.1 = true → wipeR t.2 vs = ρ0)) →
    (∀ acc', (∀ y ∈ acc', P y) → acc'.length ≤ acc.length + ds.length → Q (acc', ρ0)) → Wp (lcL vs G T e ds acc ρ0) Q
  | [], acc, _, ha, _, q => by rw [lcL, wp_some]; exact q acc ha (by simp)
  | d :: ds, acc, hl, ha, k, q => by
    rw [List.length_cons] at hl
    rw [lcL, wp_bind]
    refine (k d List.mem_cons_self).mono fun ρ1 h1 => ?_
    rw [wp_bind]
    refine h1.mono fun t h2 => ?_
    rw [wp_if]
    refine ⟨fun ht => ?_, fun ht => ?_⟩
    · rw [wp_bind]
      refine (h2.1 ht).mono fun y h3 => ?_
      rw [wp_ifn, sizeLine_eq, h3.2]
      refine ⟨by omega, lc_all P (by simp; omega) (fun z hz => ?_) (fun d' hd => k d' (List.mem_cons_of_mem _ hd)) fun acc' h4 h5 => q acc' h4 (by simp at h5 ⊢; omega)⟩
      rcases List.mem_append.mp hz with hz | hz
      · exact ha z hz
      · rw [List.mem_singleton] at hz; subst hz; exact h3.1
    · rw [h2.2 ht]
      exact lc_all P (by omega) ha (fun d' hd => k d' (List.mem_cons_of_mem _ hd)) fun acc' h4 h5 => q acc' h4 (by simp at h5 ⊢; omega)
theorem lc_env {τ : Type} {vs : List Nat} {G : GF} {T : TF} {e : VF} {Q : List D × Rho → Prop} (E : τ → Rho) (P : D → Prop) : ∀ {ds acc : List D} {t : τ}, acc.length + ds.length ≤ 16777216 → (∀ y ∈ acc, P y) →
    (∀ d ∈ ds, ∀ t, Wp (G d (E t)) fun ρ1 => Wp (T ρ1) fun b => (b.1 = true → Wp (e b.2) fun y => P y.1 ∧ ∃ t', wipeR y.2 vs = E t') ∧ (¬ b.1 = true → ∃ t', wipeR b.2 vs = E t')) →
    (∀ acc' t', (∀ y ∈ acc', P y) → acc'.length ≤ acc.length + ds.length → Q (acc', E t')) → Wp (lcL vs G T e ds acc (E t)) Q
  | [], acc, t, _, ha, _, q => by rw [lcL, wp_some]; exact q acc t ha (by simp)
  | d :: ds, acc, t, hl, ha, k, q => by
    rw [List.length_cons] at hl
    rw [lcL, wp_bind]
    refine (k d List.mem_cons_self t).mono fun ρ1 h1 => ?_
    rw [wp_bind]
    refine h1.mono fun b h2 => ?_
    rw [wp_if]
    refine ⟨fun ht => ?_, fun ht => ?_⟩
    · rw [wp_bind]
      refine (h2.1 ht).mono fun y h3 => ?_
      obtain ⟨h3, t', h4⟩ := h3
      rw [wp_ifn, sizeLine_eq, h4]
      refine ⟨by omega, lc_env E P (by simp; omega) (fun z hz => ?_) (fun d' hd => k d' (List.mem_cons_of_mem _ hd)) fun acc' t2 h4 h5 => q acc' t2 h4 (by simp at h5 ⊢; omega)⟩
      rcases List.mem_append.mp hz with hz | hz
      · exact ha z hz
      · rw [List.mem_singleton] at hz; subst hz; exact h3
    · obtain ⟨t', h4⟩ := h2.2 ht
      rw [h4]
      exact lc_env E P (by omega) ha (fun d' hd => k d' (List.mem_cons_of_mem _ hd)) fun acc' t2 h4 h5 => q acc' t2 h4 (by simp at h5 ⊢; omega)
theorem lc_envy {τ : Type} {vs : List Nat} {G : GF} {e : VF} {Q : List D × Rho → Prop} (E : τ → Rho) (P : D → Prop) : ∀ {ds acc : List D} {t : τ}, acc.length + ds.length ≤ 16777216 → (∀ y ∈ acc, P y) →
    (∀ d ∈ ds, ∀ t, Wp (G d (E t)) fun ρ1 => Wp (e ρ1) fun y => P y.1 ∧ ∃ t', wipeR y.2 vs = E t') →
    (∀ acc' t', (∀ y ∈ acc', P y) → acc'.length = acc.length + ds.length → Q (acc', E t')) → Wp (lcL vs G yesT e ds acc (E t)) Q
  | [], acc, t, _, ha, _, q => by rw [lcL, wp_some]; exact q acc t ha (by simp)
  | d :: ds, acc, t, hl, ha, k, q => by
    rw [List.length_cons] at hl
    rw [lcL, wp_bind]
    refine (k d List.mem_cons_self t).mono fun ρ1 h1 => ?_
    rw [wp_bind, w_yesT, if_pos rfl, wp_bind]
    refine h1.mono fun y h3 => ?_
    obtain ⟨h3, t', h4⟩ := h3
    rw [wp_ifn, sizeLine_eq, h4]
    refine ⟨by omega, lc_envy E P (by simp; omega) (fun z hz => ?_) (fun d' hd => k d' (List.mem_cons_of_mem _ hd)) fun acc' t2 h4 h5 => q acc' t2 h4 (by simp at h5 ⊢; omega)⟩
    rcases List.mem_append.mp hz with hz | hz
    · exact ha z hz
    · rw [List.mem_singleton] at hz; subst hz; exact h3
@[simp ↓ high] theorem i_ifn {α : Type} {Q : α → Prop} {c : Prop} [Decidable c] {o1 : Option α} : @WpI _ (if c then o1 else none) ⟨Q⟩ = (c ∧ Wp o1 Q) := wp_ifn
@[simp] theorem sizeLine_n : sizeLine = 16777216 := sizeLine_eq
theorem I_of1 (a : Int) : [PyData.int a] = I [a] := rfl
theorem I_snoc (a : Int) (ns : List Int) : I ns ++ [PyData.int a] = I (ns ++ [a]) := by rw [I_app]; rfl
theorem ixN_nat {n : Nat} {j : Int} (h0 : 0 ≤ j) (h1 : j < n) : ixN n j = some j.toNat := by
  unfold ixN
  rw [if_pos h0, if_pos h1]
theorem I_set (ns : List Int) (k : Nat) (x : Int) : (I ns).set k (.int x) = I (ns.set k x) := by unfold I; rw [List.map_set]
theorem mem_I {d : D} {ns : List Int} (h : d ∈ I ns) : ∃ n ∈ ns, d = .int n := by
  unfold I at h
  obtain ⟨n, h1, h2⟩ := List.mem_map.mp h
  exact ⟨n, h1, h2.symm⟩
theorem ints_of {ds : List D} (h : ∀ d ∈ ds, ∃ n, d = .int n) : ∃ ns, ds = I ns := by
  induction ds with
  | nil => exact ⟨[], rfl⟩
  | cons d ds ih =>
    obtain ⟨n, rfl⟩ := h d List.mem_cons_self
    obtain ⟨ns, rfl⟩ := ih fun d hd => h d (List.mem_cons_of_mem _ hd)
    exact ⟨n :: ns, rfl⟩
def upto (k : Int) : List Int := (List.range k.toNat).map Int.ofNat
theorem rgD_eq (k : Int) : rgD 0 k = I (upto k) := by
  unfold rgD I upto
  rw [List.map_map, Int.sub_zero]
  congr 1
  funext i
  simp
theorem upto_mem {k n : Int} : n ∈ upto k ↔ 0 ≤ n ∧ n < k := by
  unfold upto
  simp only [List.mem_map, List.mem_range]
  constructor
  · rintro ⟨i, h, rfl⟩
    constructor
    · simp
    · simp; omega
  · rintro ⟨h0, h1⟩
    exact ⟨n.toNat, by omega, by simp; omega⟩
@[simp] theorem upto_len (k : Int) : (upto k).length = k.toNat := by simp [upto]
theorem atI_I {ns : List Int} {j : Int} (h0 : 0 ≤ j) (h1 : j < ns.length) : ∃ x, atI (I ns) j = some (.int x) ∧ x ∈ ns := by
  obtain ⟨x, e, h⟩ := atI_some (xs := I ns) h0 (by simpa using h1)
  obtain ⟨m, hm, rfl⟩ := mem_I h
  exact ⟨m, e, hm⟩
theorem cutD_I (ns : List Int) (lo hi : Option Int) : ∃ ms, cutD (I ns) lo hi = I ms ∧ ms.length ≤ ns.length := by
  unfold cutD I
  refine ⟨_, by rw [← List.map_drop, ← List.map_take], ?_⟩
  simp
  omega
@[simp] theorem sl_l {lo hi : Option Int} {ds : List D} {ρ : Rho} : slG lo hi (.v (.list ds)) ρ = some (.o (.l (cutD ds lo hi))) := rfl
@[simp] theorem sl_t {lo hi : Option Int} {ds : List D} {ρ : Rho} : slG lo hi (.v (.tuple ds)) ρ = some (.v (.tuple (cutD ds lo hi))) := rfl
@[simp] theorem sl_s {lo hi : Option Int} {z : Str} {ρ : Rho} : slG lo hi (.v (.str z)) ρ = if z.length ≤ sizeLine then some (.v (.str (cutS z lo hi))) else none := rfl
@[simp] theorem sorted_o {ns : List Int} {ρ : Rho} : sortedG (.o (.l (I ns))) ρ = some (.o (.l (I (isort ns)))) := by simp [sortedG, onInts]; rfl
@[simp] theorem sum_o {ns : List Int} {ρ : Rho} : sumG (.o (.l (I ns))) ρ = some (.v (.int ns.sum)) := by simp [sumG, onInts]
@[simp] theorem sset_o {ns : List Int} {ρ : Rho} : sortedSetG (.o (.l (I ns))) ρ = if ns.length + 1 < 4096 ∧ (setSort ns).length < 64 then some (.o (.l (I (setSort ns)))) else none := by simp [sortedSetG, onInts, I]; rfl
@[simp] theorem sset_at {i : Nat} {ρ : Rho} : sortedSetG (.at i) ρ = match ρ[i]? with
    | some (some (.l ds)) => sortedSetG (.o (.l ds)) ρ
    | _ => none := by
  unfold sortedSetG onInts
  rw [seqOf_at]
  generalize ρ[i]? = u
  rcases u with _ | _ | o
  · rfl
  · rfl
  · cases o <;> rfl
@[simp] theorem sorted_l {ns : List Int} {ρ : Rho} : sortedG (.v (.list (I ns))) ρ = some (.o (.l (I (isort ns)))) := by simp [sortedG, onInts]; rfl
/-! ### texts -/
@[simp] theorem join_o {a : Str} {ds : List D} {ρ : Rho} : joinG (.v (.str a)) (.o (.l ds)) ρ = (strsD ds).bind fun ys => if (ys.map (·.length)).sum + ys.length * a.length ≤ 16777216 then some (.v (.str (Txt.join a ys))) else none := rfl
/-- a text of these letters -/
def T1 (cs : List Nat) : List D := cs.map fun c => .str ⟨#[c]⟩
@[simp] theorem T1_len (cs : List Nat) : (T1 cs).length = cs.length := by simp [T1]
theorem strs_T1 (cs : List Nat) : strsD (T1 cs) = some (cs.map fun c => ⟨#[c]⟩) := by
  induction cs with
  | nil => rfl
  | cons c cs ih => rw [T1, List.map_cons, strsD, ← T1, ih]; rfl
theorem chD_T1 (z : Str) : chD z = T1 z.cps.toList := rfl
theorem T1_of {ds : List D} {P : Nat → Prop} (h : ∀ d ∈ ds, ∃ c, P c ∧ d = .str ⟨#[c]⟩) : ∃ cs, ds = T1 cs ∧ ∀ c ∈ cs, P c := by
  induction ds with
  | nil => exact ⟨[], rfl, fun c z => nomatch z⟩
  | cons d ds ih =>
    obtain ⟨c, hc, rfl⟩ := h d List.mem_cons_self
    obtain ⟨cs, rfl, hcs⟩ := ih fun d hd => h d (List.mem_cons_of_mem _ hd)
    refine ⟨c :: cs, rfl, fun x hx => ?_⟩
    rcases List.mem_cons.mp hx with rfl | hx
    · exact hc
    · exact hcs x hx
theorem mem_T1 {d : D} {cs : List Nat} (h : d ∈ T1 cs) : ∃ c ∈ cs, d = .str ⟨#[c]⟩ := by
  obtain ⟨c, h1, h2⟩ := List.mem_map.mp h
  exact ⟨c, h1, h2.symm⟩
theorem join_cs : ∀ cs : List Nat, (Txt.join "" (cs.map fun c => (⟨#[c]⟩ : Str))).cps.toList = cs := by
  intro cs
  show (Builtin.Str.glued (PySem.Str.ofString "") _).cps.toList = cs
  rw [StrLaws.glued_eq_join]
  induction cs with
  | nil => rfl
  | cons c cs ih =>
    cases cs with
    | nil => rfl
    | cons c2 cs =>
      have e : ((PySem.Str.ofString "").join (List.map (fun c => (⟨#[c]⟩ : Str)) (c :: c2 :: cs))) = ⟨#[c]⟩ ++ PySem.Str.ofString "" ++ (PySem.Str.ofString "").join (List.map (fun c => (⟨#[c]⟩ : Str)) (c2 :: cs)) := rfl
      rw [e, PySem.W.KT.app_list, PySem.W.KT.app_list, ih]
      rfl
theorem join_len (cs : List Nat) : (Txt.join "" (cs.map fun c => (⟨#[c]⟩ : Str))).length = cs.length := by
  have := congrArg List.length (join_cs cs)
  rw [Array.length_toList] at this
  exact this
theorem ones_sum (cs : List Nat) : ((cs.map fun c => (⟨#[c]⟩ : Str)).map (·.length)).sum = cs.length := by
  induction cs with
  | nil => rfl
  | cons c cs ih => rw [List.map_cons, List.map_cons, List.sum_cons, ih, List.length_cons]; show 1 + cs.length = _; omega
theorem join_T1 {cs : List Nat} {ρ : Rho} (h : cs.length ≤ 16777216) : joinG (.v (.str "")) (.o (.l (T1 cs))) ρ = some (.v (.str (Txt.join "" (cs.map fun c => (⟨#[c]⟩ : Str))))) := by
  rw [join_o, strs_T1, Option.bind_some, ones_sum]
  exact if_pos (by show cs.length + _ * 0 ≤ _; omega)
theorem sidx_ok {z : Str} {c : Nat} (h : c ∈ z.cps.toList) : ∃ i : Nat, i < z.length ∧ sidxD (.str z) (.str ⟨#[c]⟩) = some (.int i) := by
  obtain ⟨k, hk, e⟩ := List.mem_iff_getElem.mp h
  have h1 : z.cps.toList[k]? = some c := by rw [List.getElem?_eq_getElem hk, e]
  rcases StrLaws.occ_head z ⟨#[c]⟩ 1 (Nat.le_refl 1) with ⟨_, h2⟩ | ⟨i, r, h2, h3, _⟩
  · exact absurd ((StrLaws.subAt_one z c k).mpr h1) (h2 k)
  · refine ⟨i, ?_, by unfold sidxD; dsimp only; rw [h2]⟩
    have := (StrLaws.subAt_one z c i).mp h3
    have h4 := (List.getElem?_eq_some_iff.mp this).1
    rwa [Array.length_toList] at h4
end Mm
namespace Mm
open PySem L2
theorem w_klE {vs : List Nat} {f : SF} {ρ : Rho} {QS : Fl → Prop} : Wp (klE vs f ρ) QS = Wp (f ρ) fun fl => QS (klF vs fl) := wp_map
theorem w_klS {vs : List Nat} {f : SF} {ρ : Rho} {QS : Fl → Prop} : Wp (klS vs f ρ) QS = Wp (f (wipeR ρ vs)) QS := rfl
@[simp ↓] theorem i_w_klE {vs : List Nat} {f : SF} {ρ : Rho} {QS : Fl → Prop} : @WpI _ (klE vs f ρ) ⟨QS⟩ = Wp (f ρ) fun fl => QS (klF vs fl) := w_klE
@[simp ↓] theorem i_w_klS {vs : List Nat} {f : SF} {ρ : Rho} {QS : Fl → Prop} : @WpI _ (klS vs f ρ) ⟨QS⟩ = Wp (f (wipeR ρ vs)) QS := w_klS
theorem w_frS {i : Nat} {f : SF} {ρ : Rho} {QS : Fl → Prop} : Wp (frS i f ρ) QS = Wp (keep ρ (.at i)) fun p => Wp (f p.2) QS := wp_bind
@[simp ↓] theorem i_w_frS {i : Nat} {f : SF} {ρ : Rho} {QS : Fl → Prop} : @WpI _ (frS i f ρ) ⟨QS⟩ = Wp (keep ρ (.at i)) fun p => Wp (f p.2) QS := w_frS
theorem w_fzE {i : Nat} {f : SF} {ρ : Rho} {QS : Fl → Prop} : Wp (fzE i f ρ) QS = Wp (f ρ) fun fl => match fl with
    | .nx ρ' => Wp (keep ρ' (.at i)) fun p => QS (.nx p.2)
    | fl => QS fl := by
  rw [fzE, wp_bind]; congr 1; funext fl; cases fl <;> simp [wp_some, wp_map]
@[simp ↓] theorem i_w_fzE {i : Nat} {f : SF} {ρ : Rho} {QS : Fl → Prop} : @WpI _ (fzE i f ρ) ⟨QS⟩ = Wp (f ρ) fun fl => match fl with
    | .nx ρ' => Wp (keep ρ' (.at i)) fun p => QS (.nx p.2)
    | fl => QS fl := w_fzE
theorem w_kI {vs : List Nat} {f : IF} {ρ : Rho} {QA : List D × Rho → Prop} : Wp (kI vs f ρ) QA = Wp (f ρ) fun p => QA (p.1, wipeR p.2 vs) := wp_map
@[simp ↓] theorem i_w_kI {vs : List Nat} {f : IF} {ρ : Rho} {QA : List D × Rho → Prop} : @WpI _ (kI vs f ρ) ⟨QA⟩ = Wp (f ρ) fun p => QA (p.1, wipeR p.2 vs) := w_kI
@[simp] theorem klF_nx {vs : List Nat} {ρ : Rho} : klF vs (.nx ρ) = .nx (wipeR ρ vs) := rfl
@[simp] theorem klF_bk {vs : List Nat} {ρ : Rho} : klF vs (.bk ρ) = .bk (wipeR ρ vs) := rfl
@[simp] theorem klF_ct {vs : List Nat} {ρ : Rho} : klF vs (.ct ρ) = .ct (wipeR ρ vs) := rfl
@[simp] theorem klF_rt {vs : List Nat} {r : R} {ρ : Rho} : klF vs (.rt r ρ) = .rt r ρ := rfl

@[simp] theorem frz_v {d : D} : frz (.v d) = some d := by rw [frz]
@[simp] theorem frz_l {ds : List D} : frz (.l ds) = some (.list ds) := by rw [frz]
@[simp] theorem frz_c {os : List O} : frz (.c os) = (frzL os).map .list := by rw [frz]
@[simp] theorem frzL_n : frzL [] = some [] := by rw [frzL]
@[simp] theorem frzL_c {o : O} {os : List O} : frzL (o :: os) = (frz o).bind fun d => (frzL os).map fun ds => d :: ds := by rw [frzL]
/-! ### kinds of data -/
def N (ns : List Nat) : List D := ns.map fun (k : Nat) => PyData.int (k : Int)
theorem N_I (ns : List Nat) : N ns = I (ns.map Int.ofNat) := by unfold N I; rw [List.map_map]; rfl
@[simp] theorem N_len (ns : List Nat) : (N ns).length = ns.length := List.length_map ..
@[simp] theorem N_nil : N [] = [] := rfl
theorem N_cons (n : Nat) (ns : List Nat) : N (n :: ns) = .int n :: N ns := rfl
theorem N_app (a b : List Nat) : N (a ++ b) = N a ++ N b := List.map_append
theorem N_snoc (a : Nat) (ns : List Nat) : N ns ++ [PyData.int (a : Nat)] = N (ns ++ [a]) := by rw [N_app]; rfl
theorem N_get (a : List Nat) (k : Nat) : (N a)[k]? = a[k]?.map fun (k : Nat) => PyData.int (k : Int) := by unfold N; rw [List.getElem?_map]
/-- a letter as a text -/
def ch (c : Nat) : Str := ⟨#[c]⟩
theorem ofString_inj {a b : String} : (Str.ofString a = Str.ofString b) = (a = b) := by
  refine propext ⟨fun h => ?_, fun h => by rw [h]⟩
  rw [Str.ofString_eq_toList, Str.ofString_eq_toList] at h
  have h1 : (a.toList.map (·.toNat)).toArray = (b.toList.map (·.toNat)).toArray := by injection h
  have h2 : a.toList.map (·.toNat) = b.toList.map (·.toNat) := by simpa using h1
  have h3 : a.toList = b.toList := by
    have inj : ∀ x y : Char, x.toNat = y.toNat → x = y := fun x y h => Char.ext (UInt32.toNat_inj.mp h)
    exact List.map_inj_right (f := fun c : Char => c.toNat) (fun {x y} h => inj x y h) |>.mp h2
  exact String.ext h3
/-! ### equality of data -/
mutual
/-- no truth values within, nor dicts -/
def nb : D → Bool
  | .none => true
  | .bool _ => false
  | .int _ => true
  | .str _ => true
  | .list xs => nbs xs
  | .tuple xs => nbs xs
  | .dict _ => false
def nbs : List D → Bool
  | [] => true
  | x :: xs => nb x && nbs xs
end
noncomputable instance : DecidableEq D := fun a b => Classical.propDecidable (a = b)
mutual
theorem eqv_nb : ∀ {a b : D}, nb a = true → nb b = true → PyData.eqv a b = decide (a = b)
  | .none, b, _, h => by cases b <;> simp [PyData.eqv, nb] at h ⊢
  | .int i, b, _, h => by cases b <;> simp [PyData.eqv, nb, BEq.beq] at h ⊢
  | .str i, b, _, h => by cases b <;> simp [PyData.eqv, nb, BEq.beq] at h ⊢
  | .list xs, b, h1, h => by
    cases b with
    | list ys => rw [PyData.eqv, eqvAll_nb h1 h]; simp
    | _ => simp [PyData.eqv, nb] at h ⊢
  | .tuple xs, b, h1, h => by
    cases b with
    | tuple ys => rw [PyData.eqv, eqvAll_nb h1 h]; simp
    | _ => simp [PyData.eqv, nb] at h ⊢
  | .bool _, _, h, _ => by cases h
  | .dict _, _, h, _ => by cases h
theorem eqvAll_nb : ∀ {as bs : List D}, nbs as = true → nbs bs = true → PyData.eqvAll as bs = decide (as = bs)
  | [], [], _, _ => by simp [PyData.eqvAll]
  | a :: as, [], _, _ => by simp [PyData.eqvAll]
  | [], b :: bs, _, _ => by simp [PyData.eqvAll]
  | a :: as, b :: bs, h1, h2 => by
    rw [nbs, Bool.and_eq_true_iff] at h1 h2
    rw [PyData.eqvAll, eqv_nb h1.1 h2.1, eqvAll_nb h1.2 h2.2]
    simp
end
theorem nbs_all : ∀ {ds : List D}, nbs ds = true ↔ ∀ d ∈ ds, nb d = true
  | [] => by simp [nbs]
  | d :: ds => by rw [nbs, Bool.and_eq_true_iff, nbs_all]; simp
theorem canL_all : ∀ {ds : List D}, PyData.canLayAll0 ds = true ↔ ∀ d ∈ ds, PyData.canLay0 d = true
  | [] => by simp [PyData.canLayAll0]
  | d :: ds => by rw [PyData.canLayAll0, Bool.and_eq_true_iff, canL_all]; simp
theorem depthAll_le : ∀ {ds : List D} {k : Nat}, PyData.depthAll ds ≤ k ↔ ∀ d ∈ ds, d.depth ≤ k
  | [], k => by simp [PyData.depthAll]
  | d :: ds, k => by rw [PyData.depthAll, Nat.max_le, depthAll_le]; simp
/-- data that can be compared: no truth values, laid, not deeper than k -/
def Pl (k : Nat) (d : D) : Prop := nb d = true ∧ PyData.canLay0 d = true ∧ d.depth ≤ k
theorem Pl.mono {k m : Nat} {d : D} (h : Pl k d) (e : k ≤ m) : Pl m d := ⟨h.1, h.2.1, by have := h.2.2; omega⟩
theorem pl_int (i : Int) : Pl 0 (.int i) := ⟨rfl, rfl, Nat.le_refl _⟩
theorem pl_none : Pl 0 .none := ⟨rfl, rfl, Nat.le_refl _⟩
theorem pl_tuple {k : Nat} {ds : List D} (h : ∀ d ∈ ds, Pl k d) : Pl (k + 1) (.tuple ds) := ⟨by rw [nb, nbs_all]; exact fun d z => (h d z).1, by rw [PyData.canLay0, canL_all]; exact fun d z => (h d z).2.1, by
  rw [PyData.depth]; exact Nat.succ_le_succ (depthAll_le.mpr fun d z => (h d z).2.2)⟩
theorem pl_list {k : Nat} {ds : List D} (h : ∀ d ∈ ds, Pl k d) : Pl (k + 1) (.list ds) := ⟨by rw [nb, nbs_all]; exact fun d z => (h d z).1, by rw [PyData.canLay0, canL_all]; exact fun d z => (h d z).2.1, by
  rw [PyData.depth]; exact Nat.succ_le_succ (depthAll_le.mpr fun d z => (h d z).2.2)⟩
theorem pl_I (ns : List Int) : ∀ d ∈ I ns, Pl 0 d := fun d z => by obtain ⟨n, _, rfl⟩ := mem_I z; exact pl_int n
theorem pl_N (ns : List Nat) : ∀ d ∈ N ns, Pl 0 d := fun d z => by obtain ⟨n, _, rfl⟩ := List.mem_map.mp z; exact pl_int n
theorem pl_str {z : Str} (h : ∀ c ∈ z.cps.toList, c < 0x110000) : Pl 0 (.str z) := ⟨rfl, by
  rw [PyData.canLay0]; show PyData.strOk z = true; unfold PyData.strOk; rw [← Array.all_toList, List.all_eq_true]; exact fun c hc => decide_eq_true (h c hc), Nat.le_refl _⟩
theorem pl_shaped {k : Nat} {d : D} (h : Pl k d) (hk : k ≤ 64) : SeqAt.shaped d = true := by
  unfold SeqAt.shaped
  rw [h.2.1, Bool.true_and]
  exact decide_eq_true (by have := h.2.2; omega)
theorem pl_eqv {k m : Nat} {a b : D} (h : Pl k a) (h2 : Pl m b) : PyData.eqv a b = decide (a = b) := eqv_nb h.1 h2.1
theorem eqD_pl {k m : Nat} {a b : D} (h : Pl k a) (h2 : Pl m b) (hk : k ≤ 64) (hm : m ≤ 64) : eqD a b = some (.bool (decide (a = b))) := by
  unfold eqD eqOk
  rw [pl_shaped h hk, pl_shaped h2 hm, pl_eqv h h2]
  simp
theorem neD_pl {k m : Nat} {a b : D} (h : Pl k a) (h2 : Pl m b) (hk : k ≤ 64) (hm : m ≤ 64) : neD a b = some (.bool (!decide (a = b))) := by
  unfold neD eqOk
  rw [pl_shaped h hk, pl_shaped h2 hm, pl_eqv h h2]
  simp
--X
theorem any_pl {k : Nat} {a : D} {ds : List D} (h : Pl k a) (h2 : ∀ d ∈ ds, Pl k d) : (ds.any fun z => PyData.eqv z a) = decide (a ∈ ds) := by
  induction ds with
  | nil => rfl
  | cons d ds ih =>
    rw [List.any_cons, pl_eqv (h2 d List.mem_cons_self) h, ih fun d z => h2 d (List.mem_cons_of_mem _ z)]
    simp only [List.mem_cons]
    by_cases e : d = a
    · simp [e]
    · have : ¬ a = d := fun w => e w.symm
      simp [e, this]
theorem inDeep_pl {k : Nat} {a : D} {ds : List D} (h : Pl k a) (h2 : ∀ d ∈ ds, Pl k d) (hk : k < 64) : inDeep a ds = true := by
  unfold inDeep
  rw [pl_shaped h (by omega), pl_shaped (pl_list h2) (by omega)]
  rfl
theorem inL_pl {k : Nat} {neg : Bool} {a : D} {ds : List D} (h : Pl k a) (h2 : ∀ d ∈ ds, Pl k d) (hk : k < 64) : inD neg a (.list ds) = some (.bool (if neg then !decide (a ∈ ds) else decide (a ∈ ds))) := by
  have e : inD neg a (.list ds) = if inOk a ds || inDeep a ds then some (.bool (if neg then !(ds.any fun z => PyData.eqv z a) else ds.any fun z => PyData.eqv z a)) else none := by cases a <;> rfl
  rw [e, inDeep_pl h h2 hk, any_pl h h2]
  simp
theorem findD_pl {k : Nat} {a : D} : ∀ {ds : List D}, Pl k a → (∀ d ∈ ds, Pl k d) → findD a ds = ds.findIdx? fun d => decide (d = a)
  | [], _, _ => rfl
  | d :: ds, h, h2 => by
    rw [findD, pl_eqv (h2 d List.mem_cons_self) h, findD_pl h fun d z => h2 d (List.mem_cons_of_mem _ z), List.findIdx?_cons]
end Mm
namespace Mm
open PySem L2
theorem fuel {n c : Nat} (h : c + 1 ≤ n) : ∃ m, n = m + 1 ∧ c ≤ m := ⟨n - 1, by omega, by omega⟩
/-- the environment is one of these -/
def At {τ : Type} (E : τ → Rho) (R : τ → Prop) (ρ : Rho) : Prop := ∃ t, ρ = E t ∧ R t
/-- a result is one of these -/
def Res {β : Type} (eo : β → D) (P : β → Prop) (d : D) : Prop := ∃ z, d = eo z ∧ P z
/-- where ways meet again -/
theorem cut_at {τ : Type} {f : SF} {ρ : Rho} {Q : Fl → Prop} (E : τ → Rho) (R : τ → Prop) (h : Wp (f ρ) fun fl => match fl with
    | .nx ρ' => At E R ρ'
    | fl => Q fl) (k : ∀ t, R t → Q (.nx (E t))) : Wp (f ρ) Q := cut _ h fun ρ' ⟨t, e, r⟩ => by subst e; exact k t r
/-! ### loops over typed items -/
theorem loop_inv {α τ : Type} {G : GF} {b : SF} {Q : Fl → Prop} (e : α → D) (E : τ → Rho) (Inv : List α → τ → Prop) : ∀ {xs : List α} {t : τ}, Inv xs t →
    (∀ x xs t, Inv (x :: xs) t → Wp (G (e x) (E t)) fun ρ1 => Wp (b ρ1) fun fl => match fl with
      | .nx ρ' => At E (Inv xs) ρ'
      | .ct ρ' => At E (Inv xs) ρ'
      | .bk ρ' => Q (.nx ρ')
      | .rt r ρ' => Q (.rt r ρ')) → (∀ t, Inv [] t → Q (.nx (E t))) → Wp (loopS G b (xs.map e) (E t)) Q := fun {xs t} h k q =>
  loop_wp (fun ds ρ => ∃ xs t, ds = List.map e xs ∧ ρ = E t ∧ Inv xs t) ⟨xs, t, rfl, rfl, h⟩ (by
    rintro d ds ρ ⟨xs, t, e1, rfl, h⟩
    cases xs with
    | nil => cases e1
    | cons x xs =>
      cases e1
      refine (k x xs t h).mono fun ρ1 h1 => h1.mono fun fl h2 => ?_
      cases fl with
      | nx ρ' => obtain ⟨t', e2, h3⟩ := h2; exact ⟨xs, t', rfl, e2, h3⟩
      | ct ρ' => obtain ⟨t', e2, h3⟩ := h2; exact ⟨xs, t', rfl, e2, h3⟩
      | bk ρ' => exact h2
      | rt r ρ' => exact h2) (by
    rintro ρ ⟨xs, t, e1, rfl, h⟩
    cases xs with
    | nil => exact q t h
    | cons x xs => cases e1)
/-- a loop that goes on with a function of what it has -/
theorem loop_fold {α τ : Type} {G : GF} {b : SF} {Q : Fl → Prop} (e : α → D) (E : τ → Rho) (f : τ → α → τ) (J : List α → τ → Prop) {xs : List α} {t : τ} (h : J xs t)
    (k : ∀ x xs t, J (x :: xs) t → Wp (G (e x) (E t)) fun ρ1 => Wp (b ρ1) fun fl => (fl = .nx (E (f t x)) ∨ fl = .ct (E (f t x))) ∧ J xs (f t x)) (q : J [] (xs.foldl f t) → Q (.nx (E (xs.foldl f t)))) : Wp (loopS G b (xs.map e) (E t)) Q := by
  refine loop_inv e E (fun ys s => J ys s ∧ ys.foldl f s = xs.foldl f t) ⟨h, rfl⟩ (fun x ys s hs => ?_) fun s hs => ?_
  · refine (k x ys s hs.1).mono fun ρ1 h1 => h1.mono fun fl h2 => ?_
    rcases h2 with ⟨rfl | rfl, h3⟩
    · exact ⟨_, rfl, h3, hs.2⟩
    · exact ⟨_, rfl, h3, hs.2⟩
  · have e1 : s = xs.foldl f t := hs.2
    subst e1
    exact q hs.1
theorem loop_foldE {α τ : Type} {G : GF} {b : SF} {Q : Fl → Prop} (e : α → D) (E : τ → Rho) (f : τ → α → τ) (J : List α → τ → Prop) {xs : List α} {t : τ} {ds : List D} {ρ : Rho} (hd : ds = xs.map e) (hρ : ρ = E t) (h : J xs t)
    (k : ∀ x xs t, J (x :: xs) t → Wp (G (e x) (E t)) fun ρ1 => Wp (b ρ1) fun fl => (fl = .nx (E (f t x)) ∨ fl = .ct (E (f t x))) ∧ J xs (f t x)) (q : J [] (xs.foldl f t) → Q (.nx (E (xs.foldl f t)))) : Wp (loopS G b ds ρ) Q := by subst hd hρ; exact loop_fold e E f J h k q
theorem loop_invE {α τ : Type} {G : GF} {b : SF} {Q : Fl → Prop} (e : α → D) (E : τ → Rho) (Inv : List α → τ → Prop) {xs : List α} {t : τ} {ds : List D} {ρ : Rho} (hd : ds = xs.map e) (hρ : ρ = E t) (h : Inv xs t)
    (k : ∀ x xs t, Inv (x :: xs) t → Wp (G (e x) (E t)) fun ρ1 => Wp (b ρ1) fun fl => match fl with
      | .nx ρ' => At E (Inv xs) ρ'
      | .ct ρ' => At E (Inv xs) ρ'
      | .bk ρ' => Q (.nx ρ')
      | .rt r ρ' => Q (.rt r ρ')) (q : ∀ t, Inv [] t → Q (.nx (E t))) : Wp (loopS G b ds ρ) Q := by subst hd hρ; exact loop_inv e E Inv h k q
/-- a loop that may be broken off: behind it R holds on either way -/
theorem loop_brk {α τ : Type} {G : GF} {b : SF} {Q : Fl → Prop} (e : α → D) (E : τ → Rho) (Inv : List α → τ → Prop) (R : τ → Prop) {xs : List α} {t : τ} {ds : List D} {ρ : Rho} (hd : ds = xs.map e) (hρ : ρ = E t) (h : Inv xs t)
    (k : ∀ x xs t, Inv (x :: xs) t → Wp (G (e x) (E t)) fun ρ1 => Wp (b ρ1) fun fl => match fl with
      | .nx ρ' => At E (Inv xs) ρ'
      | .ct ρ' => At E (Inv xs) ρ'
      | .bk ρ' => At E R ρ'
      | .rt r ρ' => Q (.rt r ρ')) (z : ∀ t, Inv [] t → R t) (q : ∀ t, R t → Q (.nx (E t))) : Wp (loopS G b ds ρ) Q := by
  refine loop_invE e E Inv hd hρ h (fun x xs t hx => (k x xs t hx).mono fun ρ1 h1 => h1.mono fun fl h2 => ?_) fun t ht => q t (z t ht)
  cases fl with
  | bk ρ' => obtain ⟨t', e1, h3⟩ := h2; subst e1; exact q t' h3
  | _ => exact h2
/-! ### comprehensions over typed items, whose environment stays -/
theorem lc_t {α β : Type} {vs : List Nat} {G : GF} {T : TF} {e : VF} {Q : List D × Rho → Prop} {ρ0 : Rho} (ei : α → D) (eo : β → D) (p : α → Bool) (f : α → β) {xs : List α} (hl : xs.length ≤ 16777216)
    (k : ∀ x ∈ xs, Wp (G (ei x) ρ0) fun ρ1 => Wp (T ρ1) fun t => t.1 = p x ∧ (p x = true → Wp (e t.2) fun y => y.1 = eo (f x) ∧ wipeR y.2 vs = ρ0) ∧ (p x = false → wipeR t.2 vs = ρ0)) (q : Q (((xs.filter p).map f).map eo, ρ0)) :
    Wp (lcL vs G T e (xs.map ei) [] ρ0) Q := by
  suffices h : ∀ (xs : List α) (acc : List D), (∀ x ∈ xs, Wp (G (ei x) ρ0) fun ρ1 => Wp (T ρ1) fun t => t.1 = p x ∧ (p x = true → Wp (e t.2) fun y => y.1 = eo (f x) ∧ wipeR y.2 vs = ρ0) ∧ (p x = false → wipeR t.2 vs = ρ0)) →
      acc.length + xs.length ≤ 16777216 → Q (acc ++ ((xs.filter p).map f).map eo, ρ0) → Wp (lcL vs G T e (xs.map ei) acc ρ0) Q from h xs [] k (by simpa using hl) q
  intro xs
  induction xs with
  | nil => intro acc _ _ q; rw [List.map_nil, lcL, wp_some]; simpa using q
  | cons x xs ih =>
    intro acc k hl q
    rw [List.length_cons] at hl
    rw [List.map_cons, lcL, wp_bind]
    refine (k x List.mem_cons_self).mono fun ρ1 h1 => ?_
    rw [wp_bind]
    refine h1.mono fun t h2 => ?_
    obtain ⟨e1, h3, h4⟩ := h2
    rw [wp_if, e1]
    refine ⟨fun ht => ?_, fun ht => ?_⟩
    · rw [wp_bind]
      refine (h3 ht).mono fun y h5 => ?_
      rw [wp_ifn, sizeLine_eq, h5.1, h5.2]
      refine ⟨by omega, ih _ (fun x' hx => k x' (List.mem_cons_of_mem _ hx)) (by simp; omega) ?_⟩
      rw [List.filter_cons_of_pos ht] at q
      simpa using q
    · rw [h4 (by simpa using ht)]
      refine ih _ (fun x' hx => k x' (List.mem_cons_of_mem _ hx)) (by omega) ?_
      rw [List.filter_cons_of_neg ht] at q
      exact q
theorem lc_m {α β : Type} {vs : List Nat} {G : GF} {e : VF} {Q : List D × Rho → Prop} {ρ0 : Rho} (ei : α → D) (eo : β → D) (f : α → β) {xs : List α} (hl : xs.length ≤ 16777216)
    (k : ∀ x ∈ xs, Wp (G (ei x) ρ0) fun ρ1 => Wp (e ρ1) fun y => y.1 = eo (f x) ∧ wipeR y.2 vs = ρ0) (q : Q ((xs.map f).map eo, ρ0)) :
    Wp (lcL vs G yesT e (xs.map ei) [] ρ0) Q :=
  lc_t ei eo (fun _ => true) f hl (fun x hx => (k x hx).mono fun ρ1 h => by rw [w_yesT]; exact ⟨rfl, fun _ => h, fun z => nomatch z⟩) (by rw [List.filter_eq_self.mpr fun _ _ => rfl]; exact q)
/-- the items are drawn: the draws change, the results keep P -/
theorem lc_d {α β τ : Type} {vs : List Nat} {G : GF} {T : TF} {e : VF} {Q : List D × Rho → Prop} (E : τ → Rho) (R : τ → Prop) (ei : α → D) (eo : β → D) (P : β → Prop) {xs : List α} {t : τ} (hl : xs.length ≤ 16777216) (hR : R t)
    (k : ∀ x ∈ xs, ∀ t, R t → Wp (G (ei x) (E t)) fun ρ1 => Wp (T ρ1) fun b => (b.1 = true → Wp (e b.2) fun y => Res eo P y.1 ∧ At E R (wipeR y.2 vs)) ∧ (¬ b.1 = true → At E R (wipeR b.2 vs)))
    (q : ∀ (ys : List β) t', (∀ y ∈ ys, P y) → R t' → ys.length ≤ xs.length → Q (ys.map eo, E t')) : Wp (lcL vs G T e (xs.map ei) [] (E t)) Q := by
  refine lc_env (τ := { t // R t }) (fun t => E t.1) (fun d => ∃ z, d = eo z ∧ P z) (t := ⟨t, hR⟩) (by simpa using hl) (fun _ z => nomatch z) (fun d hd t => ?_) fun acc t' h1 h2 => ?_
  · obtain ⟨x, hx, rfl⟩ := List.mem_map.mp hd
    refine (k x hx t.1 t.2).mono fun ρ1 h1 => h1.mono fun b h2 => ⟨fun hb => (h2.1 hb).mono fun y ⟨h3, t', h4, h5⟩ => ⟨h3, ⟨t', h5⟩, h4⟩, fun hb => ?_⟩
    obtain ⟨t', h4, h5⟩ := h2.2 hb
    exact ⟨⟨t', h5⟩, h4⟩
  · have : ∃ ys : List β, acc = ys.map eo ∧ ∀ y ∈ ys, P y := by
      clear h2 q
      induction acc with
      | nil => exact ⟨[], rfl, fun _ z => nomatch z⟩
      | cons d acc ih =>
        obtain ⟨ys, e1, h3⟩ := ih fun y hy => h1 y (List.mem_cons_of_mem _ hy)
        obtain ⟨z, e2, h4⟩ := h1 d List.mem_cons_self
        refine ⟨z :: ys, by rw [e1, e2]; rfl, fun y hy => ?_⟩
        rcases List.mem_cons.mp hy with rfl | hy
        · exact h4
        · exact h3 y hy
    obtain ⟨ys, rfl, h3⟩ := this
    exact q ys t'.1 h3 t'.2 (by simpa using h2)
/-- the same where no item is left out -/
theorem lc_dy {α β τ : Type} {vs : List Nat} {G : GF} {e : VF} {Q : List D × Rho → Prop} (E : τ → Rho) (R : τ → Prop) (ei : α → D) (eo : β → D) (P : β → Prop) {xs : List α} {t : τ} (hl : xs.length ≤ 16777216) (hR : R t)
    (k : ∀ x ∈ xs, ∀ t, R t → Wp (G (ei x) (E t)) fun ρ1 => Wp (e ρ1) fun y => Res eo P y.1 ∧ At E R (wipeR y.2 vs))
    (q : ∀ (ys : List β) t', (∀ y ∈ ys, P y) → R t' → ys.length = xs.length → Q (ys.map eo, E t')) : Wp (lcL vs G yesT e (xs.map ei) [] (E t)) Q := by
  refine lc_envy (τ := { t // R t }) (fun t => E t.1) (fun d => ∃ z, d = eo z ∧ P z) (t := ⟨t, hR⟩) (by simpa using hl) (fun _ z => nomatch z) (fun d hd t => ?_) fun acc t' h1 h2 => ?_
  · obtain ⟨x, hx, rfl⟩ := List.mem_map.mp hd
    exact (k x hx t.1 t.2).mono fun ρ1 h1 => h1.mono fun y ⟨h3, t', h4, h5⟩ => ⟨h3, ⟨t', h5⟩, h4⟩
  · have : ∃ ys : List β, acc = ys.map eo ∧ ∀ y ∈ ys, P y := by
      clear h2 q
      induction acc with
      | nil => exact ⟨[], rfl, fun _ z => nomatch z⟩
      | cons d acc ih =>
        obtain ⟨ys, e1, h3⟩ := ih fun y hy => h1 y (List.mem_cons_of_mem _ hy)
        obtain ⟨z, e2, h4⟩ := h1 d List.mem_cons_self
        refine ⟨z :: ys, by rw [e1, e2]; rfl, fun y hy => ?_⟩
        rcases List.mem_cons.mp hy with rfl | hy
        · exact h4
        · exact h3 y hy
    obtain ⟨ys, rfl, h3⟩ := this
    exact q ys t'.1 h3 t'.2 (by simpa using h2)
/-- some items, as drawn -/
theorem lc_s {α τ : Type} {vs : List Nat} {G : GF} {T : TF} {e : VF} {Q : List D × Rho → Prop} (E : τ → Rho) (R : τ → Prop) (ei eo : α → D) {xs : List α} {t : τ} (hl : xs.length ≤ 16777216) (hR : R t)
    (k : ∀ x ∈ xs, ∀ t, R t → Wp (G (ei x) (E t)) fun ρ1 => Wp (T ρ1) fun b => (b.1 = true → Wp (e b.2) fun y => y.1 = eo x ∧ At E R (wipeR y.2 vs)) ∧ (¬ b.1 = true → At E R (wipeR b.2 vs)))
    (q : ∀ (ys : List α) t', ys.Sublist xs → R t' → Q (ys.map eo, E t')) : Wp (lcL vs G T e (xs.map ei) [] (E t)) Q := by
  suffices h : ∀ (xs ac : List α) (t : τ), R t → (∀ x ∈ xs, ∀ t, R t → Wp (G (ei x) (E t)) fun ρ1 => Wp (T ρ1) fun b => (b.1 = true → Wp (e b.2) fun y => y.1 = eo x ∧ At E R (wipeR y.2 vs)) ∧ (¬ b.1 = true → At E R (wipeR b.2 vs))) →
      ac.length + xs.length ≤ 16777216 → (∀ (ys : List α) t', ys.Sublist xs → R t' → Q ((ac ++ ys).map eo, E t')) → Wp (lcL vs G T e (xs.map ei) (ac.map eo) (E t)) Q from h xs [] t hR k (by simpa using hl) (by simpa using q)
  intro xs
  induction xs with
  | nil => intro ac t hR _ _ q; rw [List.map_nil, lcL, wp_some]; simpa using q [] t (List.Sublist.refl _) hR
  | cons x xs ih =>
    intro ac t hR k hl q
    rw [List.length_cons] at hl
    rw [List.map_cons, lcL, wp_bind]
    refine (k x List.mem_cons_self t hR).mono fun ρ1 h1 => ?_
    rw [wp_bind]
    refine h1.mono fun b h2 => ?_
    rw [wp_if]
    refine ⟨fun ht => ?_, fun ht => ?_⟩
    · rw [wp_bind]
      refine (h2.1 ht).mono fun y ⟨h3, t', h4, h5⟩ => ?_
      rw [wp_ifn, sizeLine_eq, h3, h4]
      refine ⟨by rw [List.length_map]; omega, ?_⟩
      have e1 : ac.map eo ++ [eo x] = (ac ++ [x]).map eo := by simp
      rw [e1]
      refine ih (ac ++ [x]) t' h5 (fun x' hx => k x' (List.mem_cons_of_mem _ hx)) (by simp; omega) fun ys t2 hs h6 => ?_
      have := q (x :: ys) t2 (hs.cons_cons x) h6
      simpa using this
    · obtain ⟨t', h4, h5⟩ := h2.2 ht
      rw [h4]
      exact ih ac t' h5 (fun x' hx => k x' (List.mem_cons_of_mem _ hx)) (by omega) fun ys t2 hs h6 => q ys t2 (hs.cons x) h6
/-- a comprehension whose items change what is there -/
def mapAcc {α β τ : Type} (f : τ → α → β × τ) : List α → τ → List β × τ
  | [], t => ([], t)
  | x :: xs, t => let r := f t x; let q := mapAcc f xs r.2; (r.1 :: q.1, q.2)
theorem lc_acc {α β τ : Type} {vs : List Nat} {G : GF} {e : VF} {Q : List D × Rho → Prop} (E : τ → Rho) (ei : α → D) (eo : β → D) (f : τ → α → β × τ) (J : List α → τ → Prop) {xs : List α} {t : τ} {ds : List D} {ρ : Rho} (hd : ds = xs.map ei) (hρ : ρ = E t) (hl : xs.length ≤ 16777216) (hJ : J xs t)
    (k : ∀ x xs t, J (x :: xs) t → Wp (G (ei x) (E t)) fun ρ1 => Wp (e ρ1) fun y => y.1 = eo (f t x).1 ∧ wipeR y.2 vs = E (f t x).2 ∧ J xs (f t x).2)
    (q : J [] (mapAcc f xs t).2 → Q ((mapAcc f xs t).1.map eo, E (mapAcc f xs t).2)) : Wp (lcL vs G yesT e ds [] ρ) Q := by
  subst hd hρ
  suffices h : ∀ (xs : List α) (ac : List D) (t : τ), J xs t → ac.length + xs.length ≤ 16777216 → (J [] (mapAcc f xs t).2 → Q (ac ++ (mapAcc f xs t).1.map eo, E (mapAcc f xs t).2)) → Wp (lcL vs G yesT e (xs.map ei) ac (E t)) Q from h xs [] t hJ (by simpa using hl) (by simpa using q)
  clear hl hJ q t xs
  intro xs
  induction xs with
  | nil => intro ac t hJ _ q; rw [List.map_nil, lcL, wp_some]; simpa [mapAcc] using q (by simpa [mapAcc] using hJ)
  | cons x xs ih =>
    intro ac t hJ hl q
    rw [List.length_cons] at hl
    rw [List.map_cons, lcL, wp_bind]
    refine (k x xs t hJ).mono fun ρ1 h1 => ?_
    rw [wp_bind, w_yesT, if_pos rfl, wp_bind]
    refine h1.mono fun y ⟨h2, h3, h4⟩ => ?_
    rw [wp_ifn, sizeLine_eq, h2, h3]
    refine ⟨by omega, ih _ _ h4 (by simp; omega) fun h5 => ?_⟩
    have := q h5
    simpa [mapAcc] using this
def upN (k : Nat) : List Nat := List.range k
theorem rgD_N (k : Nat) : rgD 0 (k : Int) = N (List.range k) := by
  unfold rgD N
  rw [Int.sub_zero, Int.toNat_natCast]
  congr 1
  funext i
  simp
theorem chD_eq (z : Str) : chD z = z.cps.toList.map fun c => PyData.str ⟨#[c]⟩ := rfl
theorem rgOk_N {k : Nat} (h : k ≤ 1000000) : rgOk 0 (k : Int) = true := by unfold rgOk; exact decide_eq_true (by omega)
@[simp] theorem atI_n {α : Type} {xs : List α} {k : Nat} : atI xs (k : Int) = xs[k]? := by
  unfold atI ixN
  rw [if_pos (by omega)]
  by_cases h : k < xs.length
  · rw [if_pos (by omega)]; simp
  · rw [if_neg (by omega), List.getElem?_eq_none (by omega)]; rfl

theorem lc_tN {α : Type} {vs : List Nat} {G : GF} {T : TF} {e : VF} {Q : List D × Rho → Prop} {ρ0 : Rho} (ei : α → D) (p : α → Bool) (f : α → Nat) {xs : List α} (hl : xs.length ≤ 16777216)
    (k : ∀ x ∈ xs, Wp (G (ei x) ρ0) fun ρ1 => Wp (T ρ1) fun t => t.1 = p x ∧ (p x = true → Wp (e t.2) fun y => y.1 = .int (f x : Int) ∧ wipeR y.2 vs = ρ0) ∧ (p x = false → wipeR t.2 vs = ρ0)) (q : Q (N ((xs.filter p).map f), ρ0)) :
    Wp (lcL vs G T e (xs.map ei) [] ρ0) Q := lc_t ei (fun k : Nat => PyData.int (k : Int)) p f hl k q
theorem lc_mI {α : Type} {vs : List Nat} {G : GF} {e : VF} {Q : List D × Rho → Prop} {ρ0 : Rho} (ei : α → D) (f : α → Int) {xs : List α} (hl : xs.length ≤ 16777216)
    (k : ∀ x ∈ xs, Wp (G (ei x) ρ0) fun ρ1 => Wp (e ρ1) fun y => y.1 = .int (f x) ∧ wipeR y.2 vs = ρ0) (q : Q (I (xs.map f), ρ0)) : Wp (lcL vs G yesT e (xs.map ei) [] ρ0) Q := lc_m ei PyData.int f hl k q
theorem lc_mN {α : Type} {vs : List Nat} {G : GF} {e : VF} {Q : List D × Rho → Prop} {ρ0 : Rho} (ei : α → D) (f : α → Nat) {xs : List α} (hl : xs.length ≤ 16777216)
    (k : ∀ x ∈ xs, Wp (G (ei x) ρ0) fun ρ1 => Wp (e ρ1) fun y => y.1 = .int (f x : Int) ∧ wipeR y.2 vs = ρ0) (q : Q (N (xs.map f), ρ0)) : Wp (lcL vs G yesT e (xs.map ei) [] ρ0) Q := lc_m ei (fun k : Nat => PyData.int (k : Int)) f hl k q
@[simp] theorem noL_t {ds : List D} : noL (.tuple ds) = noLs ds := by rw [noL]
@[simp] theorem noLs_N (ns : List Nat) : noLs (N ns) = true := by
  unfold N
  induction ns with
  | nil => rfl
  | cons a ns ih => rw [List.map_cons, noLs, ih]; rfl
@[simp] theorem noLs_I (ns : List Int) : noLs (I ns) = true := by
  unfold I
  induction ns with
  | nil => rfl
  | cons a ns ih => rw [List.map_cons, noLs, ih]; rfl
@[simp] theorem map_int (ns : List Int) : List.map PyData.int ns = I ns := rfl
@[simp] theorem map_nat (ns : List Nat) : List.map (fun k : Nat => PyData.int (k : Int)) ns = N ns := rfl
@[simp] theorem I_inj {a b : List Int} : (I a = I b) = (a = b) := propext ⟨fun h => List.map_inj_right (f := PyData.int) (fun {x y} e => by injection e) |>.mp h, fun h => by rw [h]⟩
@[simp] theorem N_inj {a b : List Nat} : (N a = N b) = (a = b) := propext ⟨fun h => List.map_inj_right (f := fun k : Nat => PyData.int (k : Int)) (fun {x y} e => by injection e with e; exact Int.ofNat.inj e) |>.mp h, fun h => by rw [h]⟩
@[simp] theorem atI_z0 {α : Type} {xs : List α} : atI xs 0 = xs[0]? := atI_n (k := 0)
@[simp] theorem atI_z1 {α : Type} {xs : List α} : atI xs 1 = xs[1]? := atI_n (k := 1)
@[simp] theorem atI_z2 {α : Type} {xs : List α} : atI xs 2 = xs[2]? := atI_n (k := 2)
@[simp] theorem atI_z3 {α : Type} {xs : List α} : atI xs 3 = xs[3]? := atI_n (k := 3)
/-! ### data that tell their things apart -/
structure Enc {α : Type} (e : α → D) (k : Nat) : Prop where
  inj : ∀ a b, e a = e b → a = b
  pl : ∀ a, Pl k (e a)
section
variable {α : Type} [DecidableEq α] [BEq α] [LawfulBEq α] {e : α → D} {k : Nat} {a : α} {xs : List α} {neg : Bool}
theorem Enc.mem (h : Enc e k) : (e a ∈ xs.map e) = (a ∈ xs) := propext ⟨fun z => by
  obtain ⟨b, hb, q⟩ := List.mem_map.mp z
  rwa [← h.inj _ _ q], fun z => List.mem_map_of_mem z⟩
theorem Enc.all (h : Enc e k) : ∀ d ∈ xs.map e, Pl k d := fun d z => by obtain ⟨b, _, rfl⟩ := List.mem_map.mp z; exact h.pl b
theorem Enc.inL (h : Enc e k) (hk : k < 64) : inD neg (e a) (.list (xs.map e)) = some (.bool (if neg then !decide (a ∈ xs) else decide (a ∈ xs))) := by
  rw [inL_pl (h.pl a) h.all hk]
  simp only [h.mem]
theorem Enc.deep (h : Enc e k) (hk : k < 64) : inDeep (e a) (xs.map e) = true := inDeep_pl (h.pl a) h.all hk
theorem Enc.find (h : Enc e k) : ∀ {xs : List α}, a ∈ xs → findD (e a) (xs.map e) = some (xs.idxOf a)
  | [], z => (nomatch z)
  | t :: xs, z => by
    rw [List.map_cons, findD, pl_eqv (h.pl t) (h.pl a)]
    have he : (e t = e a) = (t = a) := propext ⟨h.inj _ _, fun q => by rw [q]⟩
    simp only [he, decide_eq_true_eq]
    by_cases q : t = a
    · rw [if_pos q, q, List.idxOf_cons_self]
    · rw [if_neg q, Enc.find h (by rcases List.mem_cons.mp z with y | y; exact absurd y.symm q; exact y), List.idxOf_cons, beq_false_of_ne q]
      rfl
theorem Enc.listinj (h : Enc e k) : ∀ {xs ys : List α}, (xs.map e = ys.map e) = (xs = ys) := fun {xs ys} => propext ⟨fun q => List.map_inj_right (f := e) (fun {x y} w => h.inj x y w) |>.mp q, fun q => by rw [q]⟩
theorem Enc.list (h : Enc e k) : Enc (fun xs : List α => PyData.list (xs.map e)) (k + 1) := ⟨fun a b q => by injection q with q; rwa [h.listinj] at q, fun a => pl_list h.all⟩
theorem Enc.tuple (h : Enc e k) : Enc (fun xs : List α => PyData.tuple (xs.map e)) (k + 1) := ⟨fun a b q => by injection q with q; rwa [h.listinj] at q, fun a => pl_tuple h.all⟩
theorem Enc.eq {b : α} (h : Enc e k) (hk : k ≤ 64) : eqD (e a) (e b) = some (.bool (decide (a = b))) := by
  rw [eqD_pl (h.pl a) (h.pl b) hk hk]
  have he : (e a = e b) = (a = b) := propext ⟨h.inj _ _, fun q => by rw [q]⟩
  simp only [he]
theorem Enc.ne {b : α} (h : Enc e k) (hk : k ≤ 64) : neD (e a) (e b) = some (.bool (!decide (a = b))) := by
  rw [neD_pl (h.pl a) (h.pl b) hk hk]
  have he : (e a = e b) = (a = b) := propext ⟨h.inj _ _, fun q => by rw [q]⟩
  simp only [he]
end
theorem enc_nat : Enc (fun k : Nat => PyData.int (k : Int)) 0 := ⟨fun a b q => by injection q with q; exact Int.ofNat.inj q, fun a => pl_int _⟩
theorem enc_int : Enc PyData.int 0 := ⟨fun a b q => by injection q, fun a => pl_int _⟩
@[simp] theorem eq_Nl {a b : List Nat} : eqD (.list (N a)) (.list (N b)) = some (.bool (decide (a = b))) := (Enc.list enc_nat).eq (by decide)
@[simp] theorem eq_Nt {a b : List Nat} : eqD (.tuple (N a)) (.tuple (N b)) = some (.bool (decide (a = b))) := (Enc.tuple enc_nat).eq (by decide)
@[simp] theorem eq_Il {a b : List Int} : eqD (.list (I a)) (.list (I b)) = some (.bool (decide (a = b))) := (Enc.list enc_int).eq (by decide)
@[simp] theorem mul_s {x : Str} {n : Int} : mulD (.str x) (.int n) = if n < 2 ^ 32 ∧ -(2 ^ 32) < n ∧ x.length * n.toNat ≤ 65536 then some (.str (Txt.mul x n)) else none := rfl
/-! ### patterns -/
inductive P where
  | non
  | emp
  | set (cs : List Nat)
  | row (ps : List P)
  | either (ps : List P)
  | times (p : P) (lo : Nat) (hi : Option Nat) (most : Bool)
  | group (p : P)
  | beg
  | fin
  | ahead (p : P)
  | nahead (p : P)
  | again (n : Int)
  | both (ps : List P)
  | nt (p : P)
def St (cs : List Nat) : Str := ⟨cs.toArray⟩
@[simp] theorem St_cps (cs : List Nat) : (St cs).cps.toList = cs := rfl
@[simp] theorem St_len (cs : List Nat) : (St cs).length = cs.length := by simp [St, Str.length]
def oNat (o : Option Nat) : D := match o with
  | none => .none
  | some n => .int (n : Int)
theorem enc_oNat : Enc oNat 0 := ⟨fun a b q => by
  cases a <;> cases b <;> simp [oNat] at q ⊢
  exact Int.ofNat.inj q, fun a => by cases a; exact pl_none; exact pl_int _⟩
mutual
def P.d : P → D
  | .non => .tuple [.str "none"]
  | .emp => .tuple [.str "empty"]
  | .set cs => .tuple [.str "set", .str (St cs)]
  | .row ps => .tuple [.str "row", .tuple (P.ds ps)]
  | .either ps => .tuple [.str "either", .tuple (P.ds ps)]
  | .times p lo hi m => .tuple [.str "times", P.d p, .int (lo : Int), oNat hi, .str (if m then "most" else "least")]
  | .group p => .tuple [.str "group", P.d p]
  | .beg => .tuple [.str "begin"]
  | .fin => .tuple [.str "end"]
  | .ahead p => .tuple [.str "ahead", P.d p]
  | .nahead p => .tuple [.str "not ahead", P.d p]
  | .again n => .tuple [.str "again", .int n]
  | .both ps => .tuple [.str "both", .tuple (P.ds ps)]
  | .nt p => .tuple [.str "not", P.d p]
def P.ds : List P → List D
  | [] => []
  | p :: ps => P.d p :: P.ds ps
end
theorem ds_map : ∀ ps : List P, P.ds ps = ps.map P.d
  | [] => rfl
  | p :: ps => by rw [P.ds, ds_map, List.map_cons]
end Mm
namespace Mm
open PySem L2
section
variable {ρ : Rho} {fa fb fo : EF} {fv fv2 fk : VF} {Q : R × Rho → Prop} {QS : Fl → Prop} {QA : List D × Rho → Prop}
@[simp ↓] theorem i_w_enI : @WpI _ (enI fv ρ) ⟨QA⟩ = Wp (fv ρ) fun p => Wp (itemsD p.1) fun ds => QA (enD ds, p.2) := by show Wp (enI fv ρ) QA = _; simp only [enI, wp_bind, wp_map]
@[simp ↓] theorem i_w_rvrI : @WpI _ (rvrI fa ρ) ⟨QA⟩ = Wp (iE fa ρ) fun p => rgOk 0 p.1 = true ∧ QA ((rgD 0 p.1).reverse, p.2) := by show Wp (rvrI fa ρ) QA = _; simp only [rvrI, wp_bind, wp_ifn, wp_some]
@[simp ↓] theorem i_w_dnE : @WpI _ (dnE ρ) ⟨Q⟩ = Q (.o (.k []), ρ) := wp_some
@[simp ↓] theorem i_w_d1E : @WpI _ (d1E fk fv ρ) ⟨Q⟩ = Wp (fk ρ) fun p => Wp (fv p.2) fun q => Wp (keyD p.1) fun k => Q (.o (.k [(k, q.1)]), q.2) := by show Wp (d1E fk fv ρ) Q = _; simp only [d1E, wp_bind, wp_map]
@[simp] theorem keyD_i {i : Int} : keyD (.int i) = some (.inl i) := rfl
@[simp] theorem keyD_s {i : Str} : keyD (.str i) = some (.inr i) := rfl
@[simp ↓] theorem i_w_dgE : @WpI _ (dgE fo fk ρ) ⟨Q⟩ = Wp (fo ρ) fun p => match p.1 with
    | .at i => Wp (fk p.2) fun q => match q.2[i]? with
      | some (some (.k kvs)) => Wp (keyD q.1) fun k => Wp (lookD kvs k) fun d => Q (.v d, q.2)
      | _ => False
    | _ => False := by
  show Wp (dgE fo fk ρ) Q = _
  rw [dgE, wp_bind]; congr 1; funext p
  rcases p with ⟨r, ρ1⟩
  rcases r with d' | o | i
  · exact wp_none
  · exact wp_none
  · dsimp only
    rw [wp_bind]
    congr 1
    funext q
    rcases q with ⟨r, ρ2⟩
    dsimp only
    generalize ρ2[i]? = u
    rcases u with _ | _ | o
    · exact wp_none
    · exact wp_none
    · cases o <;> first | (simp only [wp_bind, wp_map]; done) | exact wp_none
@[simp ↓] theorem i_w_diE {neg : Bool} : @WpI _ (diE neg fk fo ρ) ⟨Q⟩ = Wp (fk ρ) fun p => Wp (fo p.2) fun q => match q.1 with
    | .at i => match q.2[i]? with
      | some (some (.k kvs)) => Wp (keyD p.1) fun k => Q (.v (.bool (if neg then !(lookD kvs k).isSome else (lookD kvs k).isSome)), q.2)
      | _ => False
    | _ => False := by
  show Wp (diE neg fk fo ρ) Q = _
  rw [diE, wp_bind]; congr 1; funext p
  rw [wp_bind]; congr 1; funext q
  rcases q with ⟨r, ρ1⟩
  rcases r with d' | o | i
  · exact wp_none
  · exact wp_none
  · dsimp only
    generalize ρ1[i]? = u
    rcases u with _ | _ | o
    · exact wp_none
    · exact wp_none
    · cases o <;> first | (simp only [wp_bind, wp_map]; done) | exact wp_none
@[simp ↓] theorem i_w_dpS : @WpI _ (dpS fo fk fv ρ) ⟨QS⟩ = Wp (fv ρ) fun p => Wp (fo p.2) fun q => match q.1 with
    | .at i => Wp (fk q.2) fun r => match r.2[i]? with
      | some (some (.k kvs)) => Wp (keyD r.1) fun k => kvs.length < sizeLine ∧ QS (.nx (r.2.set i (some (.k (putD kvs k p.1)))))
      | _ => False
    | _ => False := by
  show Wp (dpS fo fk fv ρ) QS = _
  rw [dpS, wp_bind]; congr 1; funext p
  rw [wp_bind]; congr 1; funext q
  rcases q with ⟨r, ρ1⟩
  rcases r with d' | o | i
  · exact wp_none
  · exact wp_none
  · dsimp only
    rw [wp_bind]; congr 1; funext w
    rcases w with ⟨r, ρ2⟩
    dsimp only
    generalize ρ2[i]? = u
    rcases u with _ | _ | o
    · exact wp_none
    · exact wp_none
    · cases o <;> first | (simp only [wp_bind, wp_ifn, wp_some]; done) | exact wp_none
theorem mulT_w {ds : List D} {k : Int} {Q : R → Prop} (h1 : 1 ≤ k) (h2 : k ≤ 1000) (h3 : ds ≠ []) (h4 : ds.length ≤ 1000) (q : Q (.v (.tuple (List.replicate k.toNat ds).flatten))) : Wp (mulTG (.v (.tuple ds)) (.v (.int k)) ρ) Q := by
  unfold mulTG
  by_cases e : k = 1
  · subst e
    simp only [if_pos]
    rw [wp_some]
    have : (List.replicate (1 : Int).toNat ds).flatten = ds := by simp
    rwa [this] at q
  · dsimp only
    rw [if_neg e, if_pos ⟨h3, by omega, h2, h4⟩, wp_some]
    exact q
@[simp] theorem isBD_b {a b : Bool} : isBD (.bool a) (.bool b) = some (.bool (decide (a = b))) := rfl
@[simp] theorem notBD_b {a b : Bool} : notBD (.bool a) (.bool b) = some (.bool (!decide (a = b))) := rfl
end
end Mm
namespace Mm
open PySem L2
def wayM : Fn := fun os => match os with
  | [.c [.l ways, .v n], .v p, .v l, .v t] => if ways.length < sizeLine then some (.v .none, [.c [.l (ways ++ [.list [p, l, t]]), .v n], .v p, .v l, .v t]) else none
  | _ => none
def b_law_way (G : Nat → Fn) : Fn := wayM
theorem lenW {G : Nat → Fn} : ∀ os r, b_law_way G os = some r → r.2.length = os.length := by
  intro os r e
  unfold b_law_way wayM at e
  split at e
  · split at e
    · cases e; rfl
    · cases e
  · cases e
abbrev iled_from : Nat := 0
abbrev istate_behind : Nat := 1
abbrev itable_fits : Nat := 2
abbrev ipumped : Nat := 3
abbrev i_law_draws : Nat := 4
abbrev i_law_take : Nat := 5
abbrev i_law_pick : Nat := 6
abbrev i_law_same : Nat := 7
abbrev i_law_shuffled : Nat := 8
abbrev i_law_letters : Nat := 9
abbrev i_law_leaf : Nat := 10
abbrev i_law_drawn : Nat := 11
abbrev i_law_size : Nat := 12
abbrev i_law_sets : Nat := 13
abbrev i_law_plain : Nat := 14
abbrev i_law_new_place : Nat := 15
abbrev i_law_way : Nat := 16
abbrev i_law_lay : Nat := 17
abbrev i_law_spread : Nat := 18
abbrev i_law_machine : Nat := 19
abbrev i_law_least_machine : Nat := 20
abbrev i_law_least : Nat := 21
abbrev i_law_table_of : Nat := 22
abbrev i_law_table : Nat := 23
abbrev i_law_either_table : Nat := 24
abbrev i_law_behind : Nat := 25
abbrev i_law_left_counts : Nat := 26
abbrev i_law_nth : Nat := 27
abbrev i_law_wheel : Nat := 28
abbrev i_law_blown : Nat := 29
abbrev i_law_small_table : Nat := 30
abbrev i_law_pumped : Nat := 31
abbrev i_law_fitting_texts : Nat := 32
abbrev ilaw : Nat := 33
def kled_from_1 (G : Nat → Fn) : SF := (klE [6] (asS 1 (g2 ixG (g2 ixG (nmE 4) (nmE 1)) (strE (valG2 sidxD) (nmE 3) (nmE 6)))))
def bled_from (G : Nat → Fn) : Fn := defM 3 4 [3, 4, 5, 6, 1]
    (sqS (agS (vE (nmE 0)) (tupG 3 (consG (nmG 3) (consG (nmG 4) (consG (nmG 5) nilG)))))
    (sqS (forS (kI [5] (sqI (vE (nmE 2)))) (nmG 6) (kled_from_1 G))
    (rtS (nmE 1))))
def bstate_behind (G : Nat → Fn) : Fn := defM 2 0 []
    (rtS (callE (G iled_from) (cV (vE (nmE 0)) (cV (vE (cE (.int 0))) (cV (vE (nmE 1)) cN)))))
def btable_fits (G : Nat → Fn) : Fn := defM 2 0 []
    (rtS (o2 (inD false) (callE (G istate_behind) (cV (vE (nmE 0)) (cV (vE (nmE 1)) cN))) (g2 ixG (nmE 0) (cE (.int 2)))))
def kpumped_1 (G : Nat → Fn) : SF := (klE [4, 5] (sqS (fzE 2 (asS 2 (callE (G iled_from) (cV (vE (nmE 0)) (cV (vE (nmE 2)) (cV (vE (nmE 5)) cN))))))
    (sqS (ifS (tE (diE false (vE (nmE 2)) (nmE 3))) (rtS (tupE (aC (vE (slE (nmE 1) pN (pS (dgE (nmE 3) (vE (nmE 2)))))) (aC (vE (slE (nmE 1) (pS (dgE (nmE 3) (vE (nmE 2)))) (pS (g2 addG (nmE 4) (cE (.int 1)))))) (aC (vE (slE (nmE 1) (pS (g2 addG (nmE 4) (cE (.int 1)))) pN)) aN))))) nxS)
    (dpS (nmE 3) (vE (nmE 2)) (vE (g2 addG (nmE 4) (cE (.int 1))))))))
def bpumped (G : Nat → Fn) : Fn := defM 2 4 [2, 3, 4, 5, 2]
    (sqS (asS 2 (cE (.int 0)))
    (sqS (asS 3 (d1E (vE (cE (.int 0))) (vE (cE (.int 0)))))
    (sqS (klE [2] (forS (enI (vE (nmE 1))) (tupG 2 (consG (nmG 4) (consG (nmG 5) nilG))) (kpumped_1 G)))
    (rtS (cE .none)))))
def k_law_draws_1 (G : Nat → Fn) : SF := (klE [5, 6, 7] (sqS (asS 6 (o2 modD (g1 intG (nmE 5)) (g1 lenG (nmE 2))))
    (klE [7] (ifS (andT (tE (o2 geD (g2 ixG (nmE 2) (nmE 6)) (o2 powD (cE (.int 10)) (cE (.int 18))))) (tE (o2 gtD (g2 ixG (nmE 3) (nmE 6)) (cE (.int 0))))) (sqS (exS (mutE' appG (nmE 4) (vE (o2 modD (g1 intG (g2 ixG (nmE 3) (nmE 6))) (cE (.int 1000))))))
    (agS (vE (o2 divD (g2 ixG (nmE 3) (nmE 6)) (cE (.int 1000)))) (setG (nmE 3) (nmE 6)))) (sqS (asS 7 (o2 modD (g1 intG (g2 addG (g2 addG (o2 mulD (g2 ixG (nmE 2) (nmE 6)) (cE (.int 48271))) (o2 mulD (nmE 5) (cE (.int 69621)))) (cE (.int 11)))) (cE (.int 2147483647))))
    (exS (mutE' appG (nmE 4) (vE (o2 modD (g1 intG (g2 addG (g2 addG (o2 mulD (nmE 7) (nmE 7)) (o2 mulD (cE (.int 3)) (nmE 7))) (nmE 5))) (cE (.int 1000003)))))))))))
def b_law_draws (G : Nat → Fn) : Fn := defM 2 7 [2, 3, 4, 5, 6, 7]
    (sqS (asS 2 (lcE (sqI (vE (slE (nmE 0) pN (pS (cE (.int 63)))))) [8] (nmG 8) yesT (vE (o2 modD (g1 intG (nmE 8)) (o2 shlD (cE (.int 1)) (cE (.int 7200)))))))
    (sqS (ifS (tE (o2 eqD (g1 lenG (nmE 2)) (cE (.int 0)))) (exS (mutE' appG (nmE 2) (vE (cE (.int 0))))) nxS)
    (sqS (asS 3 (g1 listAG (nmE 2)))
    (sqS (asS 4 (lstE aN))
    (sqS (forS (rg1I (nmE 1)) (nmG 5) (k_law_draws_1 G))
    (sqS (exS (mut0E revG (nmE 4)))
    (rtS (nmE 4))))))))
def b_law_take (G : Nat → Fn) : Fn := defM 2 0 []
    (sqS (ifS (tE (o2 eqD (g1 lenG (nmE 0)) (cE (.int 0)))) (rtS (cE (.int 0))) nxS)
    (rtS (o2 modD (g1 intG (mut0E popG (nmE 0))) (nmE 1))))
def b_law_pick (G : Nat → Fn) : Fn := defM 2 0 []
    (rtS (g2 ixG (nmE 1) (callE (G i_law_take) (cS .r (nmE 0) (cV (vE (g1 lenG (nmE 1))) cN)))))
def b_law_same (G : Nat → Fn) : Fn := defM 2 1 []
    (sqS (ifS (truT (g1 (isi2G "tuple" "list") (nmE 1))) (sqS (ifS (orT (tE (o2 neD (g1 (isiG "tuple") (nmE 0)) (g1 (isiG "tuple") (nmE 1)))) (tE (o2 neD (g1 (isiG "list") (nmE 0)) (g1 (isiG "list") (nmE 1))))) (rtS (cE (.bool false))) nxS)
    (sqS (ifS (tE (o2 neD (g1 lenG (nmE 0)) (g1 lenG (nmE 1)))) (rtS (cE (.bool false))) nxS)
    (rtS (o2 (inD true) (cE (.bool false)) (lcE (rg1I (g1 lenG (nmE 1))) [2] (nmG 2) yesT (vE (callE (G i_law_same) (cV (vE (g2 ixG (nmE 0) (nmE 2))) (cV (vE (g2 ixG (nmE 1) (nmE 2))) cN))))))))) nxS)
    (sqS (ifS (orT (tE (o2 neD (g1 (isiG "bool") (nmE 0)) (g1 (isiG "bool") (nmE 1)))) (tE (o2 neD (g1 (isiG "int") (nmE 0)) (g1 (isiG "int") (nmE 1))))) (rtS (cE (.bool false))) nxS)
    (sqS (ifS (orT (tE (o2 neD (g1 (isiG "str") (nmE 0)) (g1 (isiG "str") (nmE 1)))) (tE (o2 neD (o2 isND (nmE 0) (cE .none)) (o2 isND (nmE 1) (cE .none))))) (rtS (cE (.bool false))) nxS)
    (rtS (o2 eqD (nmE 0) (nmE 1))))))
def k_law_shuffled_1 (G : Nat → Fn) : SF := (klE [4] (exS (mutE' appG (nmE 3) (vE (mutE' popAtG (nmE 2) (vE (callE (G i_law_take) (cS .r (nmE 0) (cV (vE (g1 lenG (nmE 2))) cN)))))))))
def b_law_shuffled (G : Nat → Fn) : Fn := defM 2 3 [2, 3, 4]
    (sqS (asS 2 (g1 listAG (nmE 1)))
    (sqS (asS 3 (lstE aN))
    (sqS (forS (rg1I (g1 lenG (nmE 2))) (nmG 4) (k_law_shuffled_1 G))
    (rtS (nmE 3)))))
def b_law_letters (G : Nat → Fn) : Fn := defM 2 1 [2, 2]
    (sqS (asS 2 (g2 addG (cE (.int 1)) (callE (G i_law_take) (cS .r (nmE 0) (cV (vE (nmE 1)) cN)))))
    (sqS (ifS (andT (tE (o2 eqD (nmE 2) (cE (.int 1)))) (tE (o2 gtD (callE (G i_law_take) (cS .r (nmE 0) (cV (vE (cE (.int 3))) cN))) (cE (.int 0))))) (asS 2 (g2 (valG2 min2D) (cE (.int 2)) (nmE 1))) nxS)
    (rtS (slE (callE (G i_law_pick) (cS .r (nmE 0) (cV (vE (lstE (aC (vE (cE (.str "abcd"))) (aC (vE (cE (.str "abcd"))) (aC (vE (cE (.str "bdxz"))) (aC (vE (cE (.str "aghz"))) aN)))))) cN))) pN (pS (nmE 2))))))
def b_law_leaf (G : Nat → Fn) : Fn := defM 2 3 [2, 3]
    (sqS (asS 2 (callE (G i_law_take) (cS .r (nmE 0) (cV (vE (cE (.int 14))) cN))))
    (sqS (ifS (tE (o2 eqD (nmE 2) (cE (.int 0)))) (rtS (tupE (aC (vE (cE (.str "none"))) aN))) nxS)
    (sqS (ifS (tE (o2 ltD (nmE 2) (cE (.int 3)))) (rtS (tupE (aC (vE (cE (.str "empty"))) aN))) nxS)
    (sqS (asS 3 (strE joinG (cE (.str "")) (lcE (sqI (vE (nmE 1))) [4] (nmG 4) (tE (o2 eqD (callE (G i_law_take) (cS .r (nmE 0) (cV (vE (cE (.int 2))) cN))) (cE (.int 0)))) (vE (nmE 4)))))
    (sqS (ifS (andT (tE (o2 ltD (nmE 2) (cE (.int 6)))) (tE (o2 neD (nmE 3) (cE (.str ""))))) (rtS (tupE (aC (vE (cE (.str "set"))) (aC (vE (nmE 3)) aN)))) nxS)
    (rtS (tupE (aC (vE (cE (.str "set"))) (aC (vE (callE (G i_law_pick) (cS .r (nmE 0) (cV (vE (nmE 1)) cN)))) aN)))))))))
def b_law_drawn (G : Nat → Fn) : Fn := defM 3 6 [3, 4, 5, 6, 7]
    (sqS (asS 3 (callE (G i_law_take) (cS .r (nmE 0) (cV (vE (cE (.int 10))) cN))))
    (sqS (ifS (orT (tE (o2 eqD (nmE 2) (cE (.int 0)))) (tE (o2 eqD (nmE 3) (cE (.int 0))))) (rtS (callE (G i_law_leaf) (cS .r (nmE 0) (cV (vE (nmE 1)) cN)))) nxS)
    (sqS (klE [4, 5] (ifS (tE (o2 ltD (nmE 3) (cE (.int 6)))) (sqS (asS 4 (g2 addG (cE (.int 2)) (callE (G i_law_take) (cS .r (nmE 0) (cV (vE (cE (.int 2))) cN)))))
    (sqS (asS 5 (g1 tupleG (lcE (rg1I (nmE 4)) [8] (nmG 8) yesT (vE (callE (G i_law_drawn) (cS .r (nmE 0) (cV (vE (nmE 1)) (cV (vE (o2 subD (nmE 2) (cE (.int 1)))) cN))))))))
    (rtS (tupE (aC (vE (callE (G i_law_pick) (cS .r (nmE 0) (cV (vE (lstE (aC (vE (cE (.str "row"))) (aC (vE (cE (.str "row"))) (aC (vE (cE (.str "either"))) aN))))) cN)))) (aC (vE (nmE 5)) aN)))))) nxS))
    (sqS (asS 6 (callE (G i_law_pick) (cS .r (nmE 0) (cV (vE (lstE (aC (vE (cE (.int 0))) (aC (vE (cE (.int 0))) (aC (vE (cE (.int 0))) (aC (vE (cE (.int 1))) (aC (vE (cE (.int 1))) (aC (vE (cE (.int 2))) aN)))))))) cN))))
    (sqS (asS 7 (callE (G i_law_pick) (cS .r (nmE 0) (cV (vE (lstE (aC (vE (cE .none)) (aC (vE (cE .none)) (aC (vE (cE .none)) (aC (vE (g2 (valG2 max2D) (nmE 6) (cE (.int 1)))) (aC (vE (g2 addG (nmE 6) (cE (.int 1)))) aN))))))) cN))))
    (rtS (tupE (aC (vE (cE (.str "times"))) (aC (vE (callE (G i_law_drawn) (cS .r (nmE 0) (cV (vE (nmE 1)) (cV (vE (o2 subD (nmE 2) (cE (.int 1)))) cN))))) (aC (vE (nmE 6)) (aC (vE (nmE 7)) (aC (vE (callE (G i_law_pick) (cS .r (nmE 0) (cV (vE (lstE (aC (vE (cE (.str "most"))) (aC (vE (cE (.str "least"))) aN)))) cN)))) aN))))))))))))
def b_law_size (G : Nat → Fn) : Fn := defM 1 2 [1, 1]
    (sqS (ifS (orT (tE (o2 eqD (g2 ixG (nmE 0) (cE (.int 0))) (cE (.str "row")))) (tE (o2 eqD (g2 ixG (nmE 0) (cE (.int 0))) (cE (.str "either"))))) (rtS (g2 addG (cE (.int 1)) (g1 sumG (lcE (sqI (vE (g2 ixG (nmE 0) (cE (.int 1))))) [2] (nmG 2) yesT (vE (callE (G i_law_size) (cV (vE (nmE 2)) cN))))))) nxS)
    (sqS (klE [1] (ifS (tE (o2 eqD (g2 ixG (nmE 0) (cE (.int 0))) (cE (.str "times")))) (sqS (asS 1 (g2 addG (g2 ixG (nmE 0) (cE (.int 2))) (cE (.int 1))))
    (sqS (ifS (tE (o2 notND (g2 ixG (nmE 0) (cE (.int 3))) (cE .none))) (asS 1 (g2 ixG (nmE 0) (cE (.int 3)))) nxS)
    (rtS (g2 addG (g2 addG (o2 mulD (cE (.int 2)) (nmE 1)) (cE (.int 1))) (o2 mulD (nmE 1) (callE (G i_law_size) (cV (vE (g2 ixG (nmE 0) (cE (.int 1)))) cN))))))) nxS))
    (rtS (cE (.int 1)))))
def b_law_sets (G : Nat → Fn) : Fn := defM 1 2 [1, 1]
    (sqS (ifS (orT (tE (o2 eqD (g2 ixG (nmE 0) (cE (.int 0))) (cE (.str "row")))) (tE (o2 eqD (g2 ixG (nmE 0) (cE (.int 0))) (cE (.str "either"))))) (rtS (g1 sumG (lcE (sqI (vE (g2 ixG (nmE 0) (cE (.int 1))))) [2] (nmG 2) yesT (vE (callE (G i_law_sets) (cV (vE (nmE 2)) cN)))))) nxS)
    (sqS (klE [1] (ifS (tE (o2 eqD (g2 ixG (nmE 0) (cE (.int 0))) (cE (.str "times")))) (sqS (asS 1 (g2 addG (g2 ixG (nmE 0) (cE (.int 2))) (cE (.int 1))))
    (sqS (ifS (tE (o2 notND (g2 ixG (nmE 0) (cE (.int 3))) (cE .none))) (asS 1 (g2 ixG (nmE 0) (cE (.int 3)))) nxS)
    (rtS (o2 mulD (nmE 1) (callE (G i_law_sets) (cV (vE (g2 ixG (nmE 0) (cE (.int 1)))) cN)))))) nxS))
    (rtS (g1 intG (o2 eqD (g2 ixG (nmE 0) (cE (.int 0))) (cE (.str "set")))))))
def k_law_plain_1 (G : Nat → Fn) : SF := (klE [3, 4] (sqS (asS 4 (callE (G i_law_drawn) (cS .r (nmE 0) (cV (vE (nmE 1)) (cV (vE (nmE 3)) cN)))))
    (ifS (andT (tE (o2 ltD (cE (.int 0)) (callE (G i_law_sets) (cV (vE (nmE 4)) cN)))) (andT (tE (o2 leD (callE (G i_law_sets) (cV (vE (nmE 4)) cN)) (nmE 2))) (tE (o2 leD (callE (G i_law_size) (cV (vE (nmE 4)) cN)) (cE (.int 60)))))) (rtS (nmE 4)) nxS)))
def b_law_plain (G : Nat → Fn) : Fn := defM 3 2 [3, 4]
    (sqS (forS (sqI (vE (lstE (aC (vE (cE (.int 3))) (aC (vE (cE (.int 3))) (aC (vE (cE (.int 3))) (aC (vE (cE (.int 2))) (aC (vE (cE (.int 2))) (aC (vE (cE (.int 2))) (aC (vE (cE (.int 1))) (aC (vE (cE (.int 1))) aN))))))))))) (nmG 3) (k_law_plain_1 G))
    (rtS (callE (G i_law_pick) (cS .r (nmE 0) (cV (vE (lstE (aC (vE (tupE (aC (vE (cE (.str "times"))) (aC (vE (tupE (aC (vE (cE (.str "set"))) (aC (vE (g2 ixG (nmE 1) (cE (.int 0)))) aN)))) (aC (vE (cE (.int 0))) (aC (vE (cE .none)) (aC (vE (cE (.str "most"))) aN))))))) (aC (vE (tupE (aC (vE (cE (.str "set"))) (aC (vE (nmE 1)) aN)))) aN)))) cN)))))
def b_law_new_place (G : Nat → Fn) : Fn := defM 1 0 []
    (sqS (agS (vE (g2 addG (g2 ixG (nmE 0) (cE (.int 1))) (cE (.int 1)))) (setG (nmE 0) (cE (.int 1))))
    (rtS (o2 subD (g2 ixG (nmE 0) (cE (.int 1))) (cE (.int 1)))))
def k_law_lay_1 (G : Nat → Fn) : SF := (klE [5] (sqS (asS 2 (callE (G i_law_lay) (cV (vE (g2 ixG (nmE 0) (cE (.int 1)))) (cS .r (nmE 1) (cV (vE (nmE 2)) cN)))))
    (exS (callE (G i_law_way) (cS .r (nmE 1) (cV (vE (nmE 2)) (cV (vE (cE (.str ""))) (cV (vE (nmE 6)) cN))))))))
def k_law_lay_2 (G : Nat → Fn) : SF := (klE [4] (exS (callE (G i_law_way) (cS .r (nmE 1) (cV (vE (callE (G i_law_lay) (cV (vE (nmE 4)) (cS .r (nmE 1) (cV (vE (nmE 2)) cN))))) (cV (vE (cE (.str ""))) (cV (vE (nmE 6)) cN)))))))
def k_law_lay_3 (G : Nat → Fn) : SF := (klE [5] (asS 2 (callE (G i_law_lay) (cV (vE (g2 ixG (nmE 0) (cE (.int 1)))) (cS .r (nmE 1) (cV (vE (nmE 2)) cN))))))
def k_law_lay_4 (G : Nat → Fn) : SF := (klE [4] (asS 2 (callE (G i_law_lay) (cV (vE (nmE 4)) (cS .r (nmE 1) (cV (vE (nmE 2)) cN))))))
def b_law_lay (G : Nat → Fn) : Fn := defM 3 4 [3, 4, 2, 5, 2, 6, 4, 5, 2]
    (sqS (asS 3 (g2 ixG (nmE 0) (cE (.int 0))))
    (sqS (ifS (tE (o2 eqD (nmE 3) (cE (.str "empty")))) (rtS (nmE 2)) nxS)
    (sqS (klE [4] (ifS (tE (o2 eqD (nmE 3) (cE (.str "row")))) (sqS (forS (kI [3] (sqI (vE (g2 ixG (nmE 0) (cE (.int 1)))))) (nmG 4) (k_law_lay_4 G))
    (rtS (nmE 2))) nxS))
    (sqS (klE [5] (ifS (tE (o2 eqD (nmE 3) (cE (.str "times")))) (forS (kI [4] (rg1I (g2 ixG (nmE 0) (cE (.int 2))))) (nmG 5) (k_law_lay_3 G)) nxS))
    (sqS (asS 6 (callE (G i_law_new_place) (cS .r (nmE 1) cN)))
    (sqS (ifS (tE (o2 eqD (nmE 3) (cE (.str "set")))) (exS (callE (G i_law_way) (cS .r (nmE 1) (cV (vE (nmE 2)) (cV (vE (g2 ixG (nmE 0) (cE (.int 1)))) (cV (vE (nmE 6)) cN)))))) nxS)
    (sqS (klE [4] (ifS (tE (o2 eqD (nmE 3) (cE (.str "either")))) (forS (kI [4, 5] (sqI (vE (g2 ixG (nmE 0) (cE (.int 1)))))) (nmG 4) (k_law_lay_2 G)) nxS))
    (sqS (klE [5] (ifS (tE (o2 eqD (nmE 3) (cE (.str "times")))) (sqS (exS (callE (G i_law_way) (cS .r (nmE 1) (cV (vE (nmE 2)) (cV (vE (cE (.str ""))) (cV (vE (nmE 6)) cN))))))
    (klE [5] (ifS (tE (o2 isND (g2 ixG (nmE 0) (cE (.int 3))) (cE .none))) (exS (callE (G i_law_way) (cS .r (nmE 1) (cV (vE (callE (G i_law_lay) (cV (vE (g2 ixG (nmE 0) (cE (.int 1)))) (cS .r (nmE 1) (cV (vE (nmE 6)) cN))))) (cV (vE (cE (.str ""))) (cV (vE (nmE 6)) cN)))))) (forS (kI [3, 4, 5] (rg1I (o2 subD (g2 ixG (nmE 0) (cE (.int 3))) (g2 ixG (nmE 0) (cE (.int 2)))))) (nmG 5) (k_law_lay_1 G))))) nxS))
    (rtS (nmE 6))))))))))
def k_law_spread_1 (G : Nat → Fn) : SF := (klE [3, 4] (sqS (fzE 4 (asS 4 (lcE (sqI (vE (g2 ixG (nmE 0) (cE (.int 0))))) [5] (nmG 5) (andT (tE (o2 eqD (g2 ixG (nmE 5) (cE (.int 1))) (cE (.str "")))) (andT (tE (o2 (inD false) (g2 ixG (nmE 5) (cE (.int 0))) (nmE 2))) (tE (o2 (inD true) (g2 ixG (nmE 5) (cE (.int 2))) (nmE 2))))) (vE (g2 ixG (nmE 5) (cE (.int 2)))))))
    (sqS (ifS (tE (o2 eqD (g1 lenG (nmE 4)) (cE (.int 0)))) bkS nxS)
    (asS 2 (g2 addG (nmE 2) (g1 sortedSetG (nmE 4)))))))
def b_law_spread (G : Nat → Fn) : Fn := defM 2 4 [2, 3, 4, 2]
    (sqS (asS 2 (g1 listAG (nmE 1)))
    (sqS (forS (rg1I (g2 ixG (nmE 0) (cE (.int 1)))) (nmG 3) (k_law_spread_1 G))
    (rtS (g1 tupleG (g1 sortedSetG (nmE 2))))))
def k_law_machine_1 (G : Nat → Fn) : SF := (klE [8, 9, 10] (sqS (fzE 9 (asS 9 (lcE (sqI (vE (g2 ixG (nmE 2) (cE (.int 0))))) [13] (nmG 13) (andT (tE (o2 (inD false) (nmE 8) (g2 ixG (nmE 13) (cE (.int 1))))) (tE (o2 (inD false) (g2 ixG (nmE 13) (cE (.int 0))) (g2 ixG (nmE 4) (nmE 6))))) (vE (g2 ixG (nmE 13) (cE (.int 2)))))))
    (sqS (fzE 10 (asS 10 (callB (G i_law_spread) (cS .b (nmE 2) (cV (vE (nmE 9)) cN)))))
    (sqS (ifS (tE (o2 (inD true) (nmE 10) (nmE 4))) (exS (mutE' appG (nmE 4) (vE (nmE 10)))) nxS)
    (exS (mutE' appG (nmE 7) (vE (lmE lidxG (nmE 4) (nmE 10)))))))))
def k_law_machine_2 (G : Nat → Fn) : SF := (klE [6, 7, 8, 9, 10] (sqS (ifS (tE (o2 geD (nmE 6) (g1 lenG (nmE 4)))) bkS nxS)
    (sqS (asS 7 (lstE aN))
    (sqS (forS (kI [8, 9, 10] (sqI (vE (nmE 1)))) (nmG 8) (k_law_machine_1 G))
    (exS (mutE' appG (nmE 5) (vE (g1 tupleG (nmE 7)))))))))
def b_law_machine (G : Nat → Fn) : Fn := defM 2 13 [2, 3, 4, 5, 6, 7, 8, 9, 10, 11]
    (sqS (asS 2 (lstC (oC (lstE aN) (oC (g1 lenG (nmE 0)) oN))))
    (sqS (fzE 3 (asS 3 (lcE (rg1I (g1 lenG (nmE 0))) [12] (nmG 12) yesT (vE (callE (G i_law_lay) (cV (vE (g2 ixG (nmE 0) (nmE 12))) (cS .r (nmE 2) (cV (vE (nmE 12)) cN))))))))
    (sqS (frS 2 (asS 4 (lstE (aC (vE (callB (G i_law_spread) (cS .b (nmE 2) (cV (vE (lrg1 (g1 lenG (nmE 0)))) cN)))) aN))))
    (sqS (asS 5 (lstE aN))
    (sqS (forS (rg1I (cE (.int 200000))) (nmG 6) (k_law_machine_2 G))
    (sqS (fzE 11 (asS 11 (lcE (sqI (vE (nmE 4))) [14] (nmG 14) yesT (vE (g2 ixG (g2 addG (lcE (rg1I (g1 lenG (nmE 3))) [12] (nmG 12) (tE (o2 (inD false) (g2 ixG (nmE 3) (nmE 12)) (nmE 14))) (vE (nmE 12))) (lstE (aC (vE (cE .none)) aN))) (cE (.int 0)))))))
    (rtS (lstE (aC (vE (g1 tupleG (nmE 5))) (aC (vE (nmE 11)) aN))))))))))
def k_law_least_machine_1 (G : Nat → Fn) : SF := (klE [7] (ifS (tE (o2 (inD true) (g2 ixG (nmE 2) (nmE 7)) (nmE 6))) (exS (mutE' appG (nmE 6) (vE (g2 ixG (nmE 2) (nmE 7))))) nxS))
def k_law_least_machine_2 (G : Nat → Fn) : SF := (klE [3, 7] (sqS (ifS (tE (o2 geD (nmE 3) (g1 lenG (nmE 6)))) bkS nxS)
    (forS (kI [3, 4, 5, 7] (sqI (vE (g2 ixG (nmE 0) (g2 ixG (nmE 6) (nmE 3)))))) (nmG 7) (k_law_least_machine_1 G))))
def k_law_least_machine_3 (G : Nat → Fn) : SF := (klE [3, 4, 5, 7] (sqS (fzE 4 (asS 4 (lcE (rg1I (g1 lenG (nmE 0))) [10] (nmG 10) yesT (vE (tupE (aC (vE (g2 ixG (nmE 2) (nmE 10))) (aC (vE (g1 tupleG (lcE (sqI (vE (g2 ixG (nmE 0) (nmE 10)))) [7] (nmG 7) yesT (vE (g2 ixG (nmE 2) (nmE 7)))))) aN)))))))
    (sqS (fzE 5 (asS 5 (lcE (sqI (vE (nmE 4))) [11] (nmG 11) yesT (vE (lmE lidxG (nmE 4) (nmE 11))))))
    (sqS (ifS (tE (o2 eqD (nmE 5) (nmE 2))) bkS nxS)
    (fzE 2 (asS 2 (nmE 5)))))))
def b_law_least_machine (G : Nat → Fn) : Fn := defM 2 10 [2, 3, 4, 5, 2, 6, 3, 7, 8]
    (sqS (fzE 2 (asS 2 (lcE (sqI (vE (nmE 1))) [9] (nmG 9) yesT (vE (lmE lidxG (nmE 1) (nmE 9))))))
    (sqS (forS (rg1I (g1 lenG (nmE 0))) (nmG 3) (k_law_least_machine_3 G))
    (sqS (asS 6 (lstE (aC (vE (g2 ixG (nmE 2) (cE (.int 0)))) aN)))
    (sqS (forS (kI [3, 4, 5, 7] (rg1I (g1 lenG (nmE 0)))) (nmG 3) (k_law_least_machine_2 G))
    (sqS (fzE 8 (asS 8 (lcE (sqI (vE (nmE 6))) [10] (nmG 10) yesT (vE (g1 tupleG (lcE (sqI (vE (g2 ixG (nmE 0) (nmE 10)))) [7] (nmG 7) yesT (vE (lmE lidxG (nmE 6) (g2 ixG (nmE 2) (nmE 7))))))))))
    (rtS (lstE (aC (vE (g1 tupleG (nmE 8))) (aC (vE (lcE (sqI (vE (nmE 6))) [10] (nmG 10) yesT (vE (g2 ixG (nmE 1) (nmE 10))))) aN)))))))))
def b_law_least (G : Nat → Fn) : Fn := defM 1 3 [1, 2]
    (sqS (agS (vE (callE (G i_law_least_machine) (cV (vE (g2 ixG (nmE 0) (cE (.int 1)))) (cV (vE (lcE (rg1I (g1 lenG (g2 ixG (nmE 0) (cE (.int 1))))) [3] (nmG 3) yesT (vE (g1 intG (o2 (inD false) (nmE 3) (g2 ixG (nmE 0) (cE (.int 2)))))))) cN)))) (tupG 2 (consG (nmG 1) (consG (nmG 2) nilG))))
    (rtS (tupE (aC (vE (g2 ixG (nmE 0) (cE (.int 0)))) (aC (vE (nmE 1)) (aC (vE (g1 tupleG (lcE (rg1I (g1 lenG (nmE 1))) [3] (nmG 3) (tE (o2 eqD (g2 ixG (nmE 2) (nmE 3)) (cE (.int 1)))) (vE (nmE 3))))) aN))))))
def b_law_table_of (G : Nat → Fn) : Fn := defM 2 3 [2, 3]
    (sqS (agS (vE (callE (G i_law_machine) (cV (vE (lstE (aC (vE (nmE 0)) aN))) (cV (vE (nmE 1)) cN)))) (tupG 2 (consG (nmG 2) (consG (nmG 3) nilG))))
    (rtS (callE (G i_law_least) (cV (vE (tupE (aC (vE (nmE 1)) (aC (vE (nmE 2)) (aC (vE (g1 tupleG (lcE (rg1I (g1 lenG (nmE 2))) [4] (nmG 4) (tE (o2 eqD (g2 ixG (nmE 3) (nmE 4)) (cE (.int 0)))) (vE (nmE 4))))) aN))))) cN))))
def b_law_table (G : Nat → Fn) : Fn := defM 3 6 [3, 4, 5, 6, 6]
    (sqS (asS 3 (g2 addG (cE (.int 1)) (callE (G i_law_take) (cS .r (nmE 0) (cV (vE (nmE 2)) cN)))))
    (sqS (asS 4 (g1 tupleG (lcE (rg1I (nmE 3)) [7] (nmG 7) yesT (vE (g1 tupleG (lcE (sqI (vE (nmE 1))) [8] (nmG 8) yesT (vE (callE (G i_law_take) (cS .r (nmE 0) (cV (vE (nmE 3)) cN))))))))))
    (sqS (asS 5 (callE (G i_law_pick) (cS .r (nmE 0) (cV (vE (lstE (aC (vE (cE (.int 2))) (aC (vE (cE (.int 2))) (aC (vE (cE (.int 3))) (aC (vE (cE (.int 3))) (aC (vE (cE (.int 5))) aN))))))) cN))))
    (sqS (asS 6 (g1 tupleG (lcE (rg1I (nmE 3)) [7] (nmG 7) (tE (o2 eqD (callE (G i_law_take) (cS .r (nmE 0) (cV (vE (nmE 5)) cN))) (cE (.int 0)))) (vE (nmE 7)))))
    (sqS (ifS (andT (tE (o2 eqD (g1 lenG (nmE 6)) (cE (.int 0)))) (tE (o2 gtD (callE (G i_law_take) (cS .r (nmE 0) (cV (vE (cE (.int 4))) cN))) (cE (.int 0))))) (asS 6 (tupE (aC (vE (o2 subD (nmE 3) (cE (.int 1)))) aN))) nxS)
    (rtS (tupE (aC (vE (nmE 1)) (aC (vE (nmE 4)) (aC (vE (nmE 6)) aN))))))))))
def b_law_either_table (G : Nat → Fn) : Fn := defM 3 1 [3]
    (sqS (ifS (tE (o2 eqD (callE (G i_law_take) (cS .r (nmE 0) (cV (vE (cE (.int 2))) cN))) (cE (.int 0)))) (rtS (callE (G i_law_table) (cS .r (nmE 0) (cV (vE (nmE 1)) (cV (vE (nmE 2)) cN))))) nxS)
    (sqS (asS 3 (callE (G i_law_table_of) (cV (vE (callE (G i_law_plain) (cS .r (nmE 0) (cV (vE (nmE 1)) (cV (vE (cE (.int 5))) cN))))) (cV (vE (nmE 1)) cN))))
    (sqS (ifS (tE (o2 gtD (g1 lenG (g2 ixG (nmE 3) (cE (.int 1)))) (nmE 2))) (rtS (callE (G i_law_table) (cS .r (nmE 0) (cV (vE (nmE 1)) (cV (vE (nmE 2)) cN))))) nxS)
    (rtS (nmE 3)))))
def k_law_behind_1 (G : Nat → Fn) : SF := (klE [3] (asS 1 (g2 ixG (g2 ixG (g2 ixG (nmE 0) (cE (.int 1))) (nmE 1)) (strE (valG2 sidxD) (g2 ixG (nmE 0) (cE (.int 0))) (nmE 3)))))
def b_law_behind (G : Nat → Fn) : Fn := defM 3 1 [3, 1]
    (sqS (forS (sqI (vE (nmE 2))) (nmG 3) (k_law_behind_1 G))
    (rtS (nmE 1)))
def k_law_left_counts_1 (G : Nat → Fn) : SF := (klE [3] (exS (mutE' appG (nmE 2) (vE (lcE (sqI (vE (g2 ixG (nmE 0) (cE (.int 1))))) [5] (nmG 5) yesT (vE (g1 sumG (lcE (sqI (vE (nmE 5))) [6] (nmG 6) yesT (vE (g2 ixG (g2 ixG (nmE 2) (nmE 3)) (nmE 6)))))))))))
def b_law_left_counts (G : Nat → Fn) : Fn := defM 2 5 [2, 3]
    (sqS (asS 2 (lstE (aC (vE (lcE (rg1I (g1 lenG (g2 ixG (nmE 0) (cE (.int 1))))) [4] (nmG 4) yesT (vE (g1 intG (o2 (inD false) (nmE 4) (g2 ixG (nmE 0) (cE (.int 2)))))))) aN)))
    (sqS (forS (rg1I (nmE 1)) (nmG 3) (k_law_left_counts_1 G))
    (rtS (nmE 2))))
def k_law_nth_1 (G : Nat → Fn) : SF := (sqS (asS 8 (g2 ixG (g2 ixG (g2 ixG (nmE 0) (cE (.int 1))) (nmE 4)) (nmE 7)))
    (sqS (ifS (tE (o2 ltD (nmE 2) (g2 ixG (g2 ixG (nmE 1) (nmE 6)) (nmE 8)))) bkS nxS)
    (asS 2 (o2 subD (nmE 2) (g2 ixG (g2 ixG (nmE 1) (nmE 6)) (nmE 8))))))
def k_law_nth_2 (G : Nat → Fn) : SF := (klE [6] (sqS (forS (kI [3] (rg1I (g1 lenG (g2 ixG (nmE 0) (cE (.int 0)))))) (nmG 7) (k_law_nth_1 G))
    (sqS (asS 5 (g2 addG (nmE 5) (g2 ixG (g2 ixG (nmE 0) (cE (.int 0))) (nmE 7))))
    (fzE 4 (asS 4 (nmE 8))))))
def k_law_nth_3 (G : Nat → Fn) : SF := (klE [3, 4, 5, 6] (sqS (klE [4, 5, 6] (ifS (tE (o2 ltD (nmE 2) (g2 ixG (g2 ixG (nmE 1) (nmE 3)) (cE (.int 0))))) (sqS (asS 4 (cE (.int 0)))
    (sqS (asS 5 (cE (.str "")))
    (sqS (klE [4, 7, 8] (forS (kI [3, 6] (rvrI (nmE 3))) (nmG 6) (k_law_nth_2 G)))
    (rtS (nmE 5))))) nxS))
    (asS 2 (o2 subD (nmE 2) (g2 ixG (g2 ixG (nmE 1) (nmE 3)) (cE (.int 0)))))))
def b_law_nth (G : Nat → Fn) : Fn := defM 3 6 [3, 4, 5, 6, 7, 8, 2, 5, 4, 2]
    (sqS (klE [7, 8] (forS (rg1I (g1 lenG (nmE 1))) (nmG 3) (k_law_nth_3 G)))
    (rtS (cE .none)))
def k_law_wheel_1 (G : Nat → Fn) : SF := (klE [6] (exS (mutE' appG (nmE 5) (vE (g1 tupleG (lcE (sqI (vE (nmE 4))) [11] (nmG 11) yesT (vE (o2 modD (g1 intG (g2 addG (o2 mulD (g2 ixG (nmE 11) (cE (.int 0))) (nmE 6)) (g2 ixG (nmE 11) (cE (.int 1))))) (nmE 3)))))))))
def b_law_wheel (G : Nat → Fn) : Fn := defM 3 9 [3, 3, 4, 5, 6, 7, 8, 9]
    (sqS (asS 3 (g2 addG (cE (.int 1)) (callE (G i_law_take) (cS .r (nmE 0) (cV (vE (nmE 2)) cN)))))
    (sqS (ifS (tE (o2 eqD (callE (G i_law_take) (cS .r (nmE 0) (cV (vE (cE (.int 3))) cN))) (cE (.int 0)))) (fzE 3 (asS 3 (nmE 2))) nxS)
    (sqS (fzE 4 (asS 4 (lcE (sqI (vE (nmE 1))) [10] (nmG 10) yesT (vE (lstE (aC (vE (callE (G i_law_pick) (cS .r (nmE 0) (cV (vE (lstE (aC (vE (cE (.int 1))) (aC (vE (cE (.int 1))) (aC (vE (cE (.int 1))) (aC (vE (cE (.int 0))) (aC (vE (cE (.int 2))) (aC (vE (callE (G i_law_take) (cS .r (nmE 0) (cV (vE (nmE 3)) cN)))) aN)))))))) cN)))) (aC (vE (callE (G i_law_take) (cS .r (nmE 0) (cV (vE (nmE 3)) cN)))) aN)))))))
    (sqS (asS 5 (lstE aN))
    (sqS (forS (rg1I (nmE 3)) (nmG 6) (k_law_wheel_1 G))
    (sqS (asS 7 (g2 addG (cE (.int 1)) (callE (G i_law_take) (cS .r (nmE 0) (cV (vE (cE (.int 7))) cN)))))
    (sqS (asS 8 (callE (G i_law_take) (cS .r (nmE 0) (cV (vE (nmE 3)) cN))))
    (sqS (asS 9 (g1 tupleG (lcE (rg1I (nmE 3)) [6] (nmG 6) (orT (tE (o2 eqD (nmE 6) (nmE 8))) (tE (o2 eqD (o2 modD (g1 intG (g2 addG (nmE 6) (nmE 8))) (g2 addG (nmE 7) (cE (.int 1)))) (nmE 7)))) (vE (nmE 6)))))
    (rtS (tupE (aC (vE (nmE 1)) (aC (vE (g1 tupleG (nmE 5))) (aC (vE (nmE 9)) aN)))))))))))))
def k_law_blown_1 (G : Nat → Fn) : SF := (klE [4, 10] (exS (mutE' appG (nmE 9) (vE (callE (G i_law_pick) (cS .r (nmE 0) (cV (vE (lcE (rg1I (g1 lenG (nmE 6))) [4] (nmG 4) (tE (o2 eqD (g2 ixG (nmE 6) (nmE 4)) (nmE 10))) (vE (nmE 4)))) cN)))))))
def k_law_blown_2 (G : Nat → Fn) : SF := (klE [4, 8, 9, 10] (sqS (asS 9 (lstE aN))
    (sqS (forS (kI [3, 4, 5, 8, 10] (sqI (vE (g2 ixG (g2 ixG (nmE 1) (cE (.int 1))) (nmE 8))))) (nmG 10) (k_law_blown_1 G))
    (exS (mutE' appG (nmE 7) (vE (g1 tupleG (nmE 9))))))))
def k_law_blown_3 (G : Nat → Fn) : SF := (klE [4] (exS (mutE' appG (nmE 3) (vE (callE (G i_law_take) (cS .r (nmE 0) (cV (vE (g1 lenG (g2 ixG (nmE 1) (cE (.int 1))))) cN)))))))
def b_law_blown (G : Nat → Fn) : Fn := defM 3 8 [3, 4, 5, 6, 7, 8, 9, 10]
    (sqS (asS 3 (lrg1 (g1 lenG (g2 ixG (nmE 1) (cE (.int 1))))))
    (sqS (forS (rg1I (callE (G i_law_take) (cS .r (nmE 0) (cV (vE (g2 (valG2 max2D) (cE (.int 1)) (o2 subD (g2 addG (nmE 2) (cE (.int 1))) (g1 lenG (nmE 3))))) cN)))) (nmG 4) (k_law_blown_3 G))
    (sqS (fzE 5 (asS 5 (g2 addG (lstE (aC (vE (cE (.int 0))) aN)) (lcE (sqI (vE (callE (G i_law_shuffled) (cS .r (nmE 0) (cV (vE (lrg1 (o2 subD (g1 lenG (nmE 3)) (cE (.int 1))))) cN))))) [4] (nmG 4) yesT (vE (g2 addG (nmE 4) (cE (.int 1))))))))
    (sqS (fzE 6 (asS 6 (lcE (sqI (vE (nmE 5))) [4] (nmG 4) yesT (vE (g2 ixG (nmE 3) (nmE 4))))))
    (sqS (asS 7 (lstE aN))
    (sqS (forS (kI [3, 4, 5] (sqI (vE (nmE 6)))) (nmG 8) (k_law_blown_2 G))
    (rtS (tupE (aC (vE (g2 ixG (nmE 1) (cE (.int 0)))) (aC (vE (g1 tupleG (nmE 7))) (aC (vE (g1 tupleG (lcE (rg1I (g1 lenG (nmE 6))) [4] (nmG 4) (tE (o2 (inD false) (g2 ixG (nmE 6) (nmE 4)) (g2 ixG (nmE 1) (cE (.int 2))))) (vE (nmE 4))))) aN)))))))))))
def b_law_small_table (G : Nat → Fn) : Fn := defM 3 1 [3]
    (sqS (asS 3 (callE (G i_law_either_table) (cS .r (nmE 0) (cV (vE (nmE 1)) (cV (vE (nmE 2)) cN)))))
    (sqS (ifS (tE (o2 eqD (callE (G i_law_take) (cS .r (nmE 0) (cV (vE (cE (.int 4))) cN))) (cE (.int 0)))) (rtS (callE (G i_law_blown) (cS .r (nmE 0) (cV (vE (nmE 3)) (cV (vE (g2 addG (nmE 2) (cE (.int 5)))) cN))))) nxS)
    (rtS (nmE 3))))
def k_law_pumped_1 (G : Nat → Fn) : SF := (klE [3, 4, 5] (sqS (fzE 4 (asS 4 (callE (G i_law_behind) (cV (vE (nmE 0)) (cV (vE (g2 ixG (nmE 2) (nmE 3))) (cV (vE (g2 ixG (nmE 1) (nmE 3))) cN))))))
    (sqS (klE [5] (ifS (tE (o2 (inD false) (nmE 4) (nmE 2))) (sqS (asS 5 (lmE lidxG (nmE 2) (nmE 4)))
    (rtS (tupE (aC (vE (slE (nmE 1) pN (pS (nmE 5)))) (aC (vE (slE (nmE 1) (pS (nmE 5)) (pS (g2 addG (nmE 3) (cE (.int 1)))))) (aC (vE (slE (nmE 1) (pS (g2 addG (nmE 3) (cE (.int 1)))) pN)) aN)))))) nxS))
    (exS (mutE' appG (nmE 2) (vE (nmE 4)))))))
def b_law_pumped (G : Nat → Fn) : Fn := defM 2 4 [2, 3, 4, 5]
    (sqS (asS 2 (lstE (aC (vE (cE (.int 0))) aN)))
    (sqS (forS (rg1I (g1 lenG (nmE 1))) (nmG 3) (k_law_pumped_1 G))
    (rtS (cE .none))))
def k_law_fitting_texts_1 (G : Nat → Fn) : SF := (klE [6, 7, 8] (sqS (asS 7 (g1 sumG (lcE (sqI (vE (slE (nmE 3) pN (pS (nmE 6))))) [9] (nmG 9) yesT (vE (g2 ixG (nmE 9) (cE (.int 0)))))))
    (sqS (asS 8 (o2 modD (g1 intG (g2 addG (o2 mulD (callE (G i_law_take) (cS .r (nmE 0) (cV (vE (cE (.int 1000003))) cN))) (cE (.int 1000003))) (callE (G i_law_take) (cS .r (nmE 0) (cV (vE (cE (.int 1000003))) cN))))) (g2 ixG (g2 ixG (nmE 3) (nmE 6)) (cE (.int 0)))))
    (exS (mutE' appG (nmE 5) (vE (callE (G i_law_nth) (cV (vE (nmE 1)) (cV (vE (nmE 3)) (cV (vE (g2 addG (nmE 7) (nmE 8))) cN))))))))))
def b_law_fitting_texts (G : Nat → Fn) : Fn := defM 3 7 [3, 4, 5, 6, 7, 8]
    (sqS (fzE 3 (asS 3 (callE (G i_law_left_counts) (cV (vE (nmE 1)) (cV (vE (nmE 2)) cN)))))
    (sqS (fzE 4 (asS 4 (lcE (rg2I (g1 lenG (g2 ixG (nmE 1) (cE (.int 1)))) (g2 addG (nmE 2) (cE (.int 1)))) [6] (nmG 6) (tE (o2 gtD (g2 ixG (g2 ixG (nmE 3) (nmE 6)) (cE (.int 0))) (cE (.int 0)))) (vE (nmE 6)))))
    (sqS (asS 5 (lstE aN))
    (sqS (klE [6, 7, 8] (ifS (tE (o2 gtD (g1 lenG (nmE 4)) (cE (.int 0)))) (forS (kI [4, 6] (sqI (vE (lstE (aC (vE (g2 ixG (nmE 4) (cE (.int 0)))) (aC (vE (callE (G i_law_pick) (cS .r (nmE 0) (cV (vE (nmE 4)) cN)))) (aC (vE (g2 ixG (nmE 4) (o1 negD (cE (.int 1))))) aN))))))) (nmG 6) (k_law_fitting_texts_1 G)) nxS))
    (rtS (nmE 5))))))
def klaw_1 (G : Nat → Fn) : SF := (klE [7] (ifS (tE (o2 notBD (callE (G itable_fits) (cV (vE (nmE 4)) (cV (vE (g2 addG (g2 addG (g2 ixG (nmE 6) (cE (.int 0))) (o2 mulD (g2 ixG (nmE 6) (cE (.int 1))) (nmE 7))) (g2 ixG (nmE 6) (cE (.int 2))))) cN))) (cE (.bool true)))) (rtS (cE (.bool false))) nxS))
def klaw_2 (G : Nat → Fn) : SF := (klE [5, 6, 7] (sqS (asS 6 (callE (G i_law_pumped) (cV (vE (nmE 4)) (cV (vE (nmE 5)) cN))))
    (sqS (ifS (notT (truT (callE (G i_law_same) (cV (vE (callE (G ipumped) (cV (vE (nmE 4)) (cV (vE (nmE 5)) cN)))) (cV (vE (nmE 6)) cN))))) (rtS (cE (.bool false))) nxS)
    (forS (kI [2, 3, 5, 7] (sqI (vE (lstE (aC (vE (cE (.int 0))) (aC (vE (cE (.int 2))) (aC (vE (g2 addG (cE (.int 3)) (callE (G i_law_take) (cS .r (nmE 1) (cV (vE (cE (.int 4))) cN))))) aN))))))) (nmG 7) (klaw_1 G)))))
def klaw_3 (G : Nat → Fn) : SF := (klE [4, 5, 6, 7] (forS (kI [2, 3, 5, 6, 7] (sqI (vE (callE (G i_law_fitting_texts) (cS .r (nmE 1) (cV (vE (nmE 4)) (cV (vE (cE (.int 40))) cN))))))) (nmG 5) (klaw_2 G)))
def blaw (G : Nat → Fn) : Fn := defM 1 8 [1, 2, 3, 4, 5, 6, 7]
    (sqS (asS 1 (callE (G i_law_draws) (cV (vE (nmE 0)) (cV (vE (cE (.int 700))) cN))))
    (sqS (asS 2 (callE (G i_law_letters) (cS .r (nmE 1) (cV (vE (cE (.int 4))) cN))))
    (sqS (asS 3 (g2 addG (lcE (rg1I (cE (.int 2))) [8] (nmG 8) yesT (vE (callE (G i_law_small_table) (cS .r (nmE 1) (cV (vE (nmE 2)) (cV (vE (cE (.int 6))) cN)))))) (lstE (aC (vE (callE (G i_law_wheel) (cS .r (nmE 1) (cV (vE (nmE 2)) (cV (vE (cE (.int 40))) cN))))) aN))))
    (sqS (exS (mutE' appG (nmE 3) (vE (tupE (aC (vE (nmE 2)) (aC (vE (tupE (aC (vE (g2 mulTG (tupE (aC (vE (cE (.int 0))) aN)) (g1 lenG (nmE 2)))) aN))) (aC (vE (tupE (aC (vE (cE (.int 0))) aN))) aN)))))))
    (sqS (forS (kI [2, 3] (sqI (vE (nmE 3)))) (nmG 4) (klaw_3 G))
    (rtS (cE (.bool true))))))))
def bodies (G : Nat → Fn) : Nat → Fn
  | 0 => bled_from G
  | 1 => bstate_behind G
  | 2 => btable_fits G
  | 3 => bpumped G
  | 4 => b_law_draws G
  | 5 => b_law_take G
  | 6 => b_law_pick G
  | 7 => b_law_same G
  | 8 => b_law_shuffled G
  | 9 => b_law_letters G
  | 10 => b_law_leaf G
  | 11 => b_law_drawn G
  | 12 => b_law_size G
  | 13 => b_law_sets G
  | 14 => b_law_plain G
  | 15 => b_law_new_place G
  | 16 => b_law_way G
  | 17 => b_law_lay G
  | 18 => b_law_spread G
  | 19 => b_law_machine G
  | 20 => b_law_least_machine G
  | 21 => b_law_least G
  | 22 => b_law_table_of G
  | 23 => b_law_table G
  | 24 => b_law_either_table G
  | 25 => b_law_behind G
  | 26 => b_law_left_counts G
  | 27 => b_law_nth G
  | 28 => b_law_wheel G
  | 29 => b_law_blown G
  | 30 => b_law_small_table G
  | 31 => b_law_pumped G
  | 32 => b_law_fitting_texts G
  | 33 => blaw G
  | _ => fun _ => none
def mir : Nat → Nat → Fn
  | 0 => fun _ _ => none
  | n + 1 => bodies (mir n)
theorem mirled_from (n : Nat) : mir (n + 1) iled_from = bled_from (mir n) := rfl
theorem mirstate_behind (n : Nat) : mir (n + 1) istate_behind = bstate_behind (mir n) := rfl
theorem mirtable_fits (n : Nat) : mir (n + 1) itable_fits = btable_fits (mir n) := rfl
theorem mirpumped (n : Nat) : mir (n + 1) ipumped = bpumped (mir n) := rfl
theorem mir_law_draws (n : Nat) : mir (n + 1) i_law_draws = b_law_draws (mir n) := rfl
theorem mir_law_take (n : Nat) : mir (n + 1) i_law_take = b_law_take (mir n) := rfl
theorem mir_law_pick (n : Nat) : mir (n + 1) i_law_pick = b_law_pick (mir n) := rfl
theorem mir_law_same (n : Nat) : mir (n + 1) i_law_same = b_law_same (mir n) := rfl
theorem mir_law_shuffled (n : Nat) : mir (n + 1) i_law_shuffled = b_law_shuffled (mir n) := rfl
theorem mir_law_letters (n : Nat) : mir (n + 1) i_law_letters = b_law_letters (mir n) := rfl
theorem mir_law_leaf (n : Nat) : mir (n + 1) i_law_leaf = b_law_leaf (mir n) := rfl
theorem mir_law_drawn (n : Nat) : mir (n + 1) i_law_drawn = b_law_drawn (mir n) := rfl
theorem mir_law_size (n : Nat) : mir (n + 1) i_law_size = b_law_size (mir n) := rfl
theorem mir_law_sets (n : Nat) : mir (n + 1) i_law_sets = b_law_sets (mir n) := rfl
theorem mir_law_plain (n : Nat) : mir (n + 1) i_law_plain = b_law_plain (mir n) := rfl
theorem mir_law_new_place (n : Nat) : mir (n + 1) i_law_new_place = b_law_new_place (mir n) := rfl
theorem mir_law_way (n : Nat) : mir (n + 1) i_law_way = b_law_way (mir n) := rfl
theorem mir_law_lay (n : Nat) : mir (n + 1) i_law_lay = b_law_lay (mir n) := rfl
theorem mir_law_spread (n : Nat) : mir (n + 1) i_law_spread = b_law_spread (mir n) := rfl
theorem mir_law_machine (n : Nat) : mir (n + 1) i_law_machine = b_law_machine (mir n) := rfl
theorem mir_law_least_machine (n : Nat) : mir (n + 1) i_law_least_machine = b_law_least_machine (mir n) := rfl
theorem mir_law_least (n : Nat) : mir (n + 1) i_law_least = b_law_least (mir n) := rfl
theorem mir_law_table_of (n : Nat) : mir (n + 1) i_law_table_of = b_law_table_of (mir n) := rfl
theorem mir_law_table (n : Nat) : mir (n + 1) i_law_table = b_law_table (mir n) := rfl
theorem mir_law_either_table (n : Nat) : mir (n + 1) i_law_either_table = b_law_either_table (mir n) := rfl
theorem mir_law_behind (n : Nat) : mir (n + 1) i_law_behind = b_law_behind (mir n) := rfl
theorem mir_law_left_counts (n : Nat) : mir (n + 1) i_law_left_counts = b_law_left_counts (mir n) := rfl
theorem mir_law_nth (n : Nat) : mir (n + 1) i_law_nth = b_law_nth (mir n) := rfl
theorem mir_law_wheel (n : Nat) : mir (n + 1) i_law_wheel = b_law_wheel (mir n) := rfl
theorem mir_law_blown (n : Nat) : mir (n + 1) i_law_blown = b_law_blown (mir n) := rfl
theorem mir_law_small_table (n : Nat) : mir (n + 1) i_law_small_table = b_law_small_table (mir n) := rfl
theorem mir_law_pumped (n : Nat) : mir (n + 1) i_law_pumped = b_law_pumped (mir n) := rfl
theorem mir_law_fitting_texts (n : Nat) : mir (n + 1) i_law_fitting_texts = b_law_fitting_texts (mir n) := rfl
theorem mirlaw (n : Nat) : mir (n + 1) ilaw = blaw (mir n) := rfl
end Mm
namespace Mm
open PySem L2
theorem fmod_lt {a m : Int} (h : 0 < m) : 0 ≤ a.fmod m ∧ a.fmod m < m := ⟨Int.fmod_nonneg_of_pos a h, Int.fmod_lt_of_pos a h⟩
theorem fmod_nat {a m : Int} (h : 0 < m) : ∃ j : Nat, a.fmod m = (j : Int) ∧ (j : Int) < m := ⟨(a.fmod m).toNat, by have := fmod_lt (a := a) h; omega, by have := fmod_lt (a := a) h; omega⟩
theorem take_t {n : Nat} (hn : 1 ≤ n) {ds : List Int} {m : Int} {Q : O × List O → Prop} (hm : 0 < m) (q : ∀ (j : Nat) ds', (j : Int) < m → Q (.v (.int (j : Int)), [.l (I ds'), .v (.int m)])) :
    Wp (mir n i_law_take [.l (I ds), .v (.int m)]) Q := by
  obtain ⟨n, rfl, hn⟩ := fuel hn
  rw [mir_law_take, b_law_take]
  rcases List.eq_nil_or_concat ds with rfl | ⟨ds, d, rfl⟩
  · simp [↓i_w_ifS]
    exact q 0 [] (by omega)
  · simp [I_app, I_cons, ↓i_w_ifS]
    refine ⟨by omega, fun _ => ⟨by omega, fun _ => ?_⟩⟩
    obtain ⟨j, e, h⟩ := fmod_nat (a := d) hm
    rw [e]
    exact q j ds h
theorem get_some {α : Type} {xs : List α} {k : Nat} (h : k < xs.length) : ∃ x, xs[k]? = some x ∧ x ∈ xs := ⟨xs[k], List.getElem?_eq_getElem h, List.getElem_mem h⟩
theorem pick_g {n : Nat} (hn : 2 ≤ n) {ds : List Int} {xs : List D} {d : D} (hd : d = .list xs ∨ d = .tuple xs) {Q : O × List O → Prop} (hx : xs ≠ []) (q : ∀ x ds', x ∈ xs → Q (.v x, [.l (I ds'), .v d])) :
    Wp (mir n i_law_pick [.l (I ds), .v d]) Q := by
  obtain ⟨n, rfl, hn⟩ := fuel hn
  rw [mir_law_pick, b_law_pick]
  have hl : 0 < (xs.length : Int) := by cases xs <;> simp at hx ⊢ <;> omega
  rcases hd with rfl | rfl
  all_goals
    simp
    refine take_t (by omega) hl fun j ds' h1 => ?_
    obtain ⟨x, e, hx⟩ := get_some (xs := xs) (k := j) (by omega)
    simp [e]
    exact q x ds' hx
theorem pick_l {n : Nat} (hn : 2 ≤ n) {ds : List Int} {xs : List D} {Q : O × List O → Prop} (hx : xs ≠ []) (q : ∀ x ds', x ∈ xs → Q (.v x, [.l (I ds'), .v (.list xs)])) :
    Wp (mir n i_law_pick [.l (I ds), .v (.list xs)]) Q := pick_g hn (.inl rfl) hx q
theorem pick_s {n : Nat} (hn : 2 ≤ n) {ds : List Int} {z : Str} {Q : O × List O → Prop} (hz : 0 < z.length) (hz2 : z.length ≤ 100) (q : ∀ c ds', c ∈ z.cps.toList → Q (.v (.str (ch c)), [.l (I ds'), .v (.str z)])) :
    Wp (mir n i_law_pick [.l (I ds), .v (.str z)]) Q := by
  obtain ⟨n, rfl, hn⟩ := fuel hn
  rw [mir_law_pick, b_law_pick]
  have h2 : z.length ≤ 16777216 := by omega
  simp [h2]
  refine take_t (by omega) (by omega) fun j ds' h1 => ?_
  obtain ⟨x, e, hx⟩ := get_some (xs := z.cps.toList) (k := j) (by have : z.cps.toList.length = z.length := Array.length_toList; omega)
  rw [Array.getElem?_toList] at e
  simp [e, h2]
  exact q x ds' hx
theorem draws_loop {G : Nat → Fn} {s : D} {c : List Int} {m : Int} {Q : Fl → Prop} (hc0 : c ≠ []) (hm : m ≤ 1000000) (q : ∀ left draws, Q (.nx [some (.v s), some (.v (.int m)), some (.l (I c)), some (.l (I left)), some (.l (I draws)), none, none, none, none])) :
    Wp (loopS (nmG 5) (k_law_draws_1 G) (rgD 0 m) [some (.v s), some (.v (.int m)), some (.l (I c)), some (.l (I c)), some (.l []), none, none, none, none]) Q := by
  have hcp : 0 < (c.length : Int) := by cases c <;> simp at hc0 ⊢ <;> omega
  rw [rgD_eq]
  refine loop_inv PyData.int (fun t : List Int × List Int => [some (.v s), some (.v (.int m)), some (.l (I c)), some (.l (I t.1)), some (.l (I t.2)), none, none, none, none])
    (fun xs t => t.1.length = c.length ∧ t.2.length + xs.length ≤ 1000000) (t := (c, [])) ⟨rfl, by simp [upto]; omega⟩ (fun i xs t ht => ?_) fun t _ => q _ _
  obtain ⟨left, draws⟩ := t
  obtain ⟨hle, hdr⟩ := ht
  simp at hle hdr
  obtain ⟨j, ej, hj⟩ := fmod_nat (a := i) hcp
  obtain ⟨x, ex, _⟩ := get_some (xs := c) (k := j) (by omega)
  obtain ⟨y, ey, _⟩ := get_some (xs := left) (k := j) (by omega)
  have hix := ixN_nat (n := left.length) (j := j) (by omega) (by omega)
  have hd1 : draws.length < 16777216 := by omega
  have hm := fmod_lt (a := (x * 48271 + i * 69621 + 11)) (m := 2147483647) (by decide)
  have hm1 : -18446744073709551616 < (x * 48271 + i * 69621 + 11).fmod 2147483647 := by omega
  have hm2 : (x * 48271 + i * 69621 + 11).fmod 2147483647 < 18446744073709551616 := by omega
  simp [I_get, ej, ex, ey, powD, hix, I_snoc, I_set, k_law_draws_1, ↓i_w_ifS, hc0, hd1, hm1, hm2]
  refine ⟨fun _ => ⟨fun _ => ⟨(_, _), rfl, ?_, ?_⟩, fun _ => ⟨(_, _), rfl, ?_, ?_⟩⟩, fun _ => ⟨(_, _), rfl, ?_, ?_⟩⟩ <;> (simp; omega)
theorem draws_t {n : Nat} (hn : 1 ≤ n) {ns : List Int} {m : Int} {Q : O × List O → Prop} (hl : ns.length ≤ 63) (h0 : 0 ≤ m) (hm : m ≤ 1000000) (q : ∀ ds, Q (.l (I ds), [.v (.list (I ns)), .v (.int m)])) :
    Wp (mir n i_law_draws [.v (.list (I ns)), .v (.int m)]) Q := by
  obtain ⟨n, rfl, hn⟩ := fuel hn
  rw [mir_law_draws, b_law_draws]
  simp
  obtain ⟨ms, e, hms⟩ := cutD_I ns none (some 63)
  rw [e]
  refine wi (lc_all (fun d => ∃ i, d = .int i) (by simp; omega) (by simp) (fun d hd => ?_) fun acc h1 h2 => ?_)
  · obtain ⟨i, _, rfl⟩ := mem_I hd
    simp [shlD]
    intro hh
    have : (0:Int) < 2 ^ 7200 := Int.pow_pos (by decide)
    omega
  obtain ⟨cells, rfl⟩ := ints_of h1
  simp at h2
  have hz : cells.length < 16777216 := by omega
  have hr : rgOk 0 m = true := by unfold rgOk; exact decide_eq_true (by omega)
  simp [hz, hr, ↓i_w_ifS]
  refine ⟨fun hc => ?_, fun hc => ?_⟩
  · subst hc
    refine wi (draws_loop (c := [0]) (by simp) hm fun left draws => ?_)
    simp [I_rev]
    exact q _
  · refine wi (draws_loop hc hm fun left draws => ?_)
    simp [I_rev]
    exact q _
end Mm
namespace Mm
open PySem L2
/-- letters: at least one, in order -/
def Lets (cs : List Nat) : Prop := cs ≠ [] ∧ cs.Pairwise (· < ·) ∧ (∀ c ∈ cs, 97 ≤ c ∧ c ≤ 122) ∧ cs.length ≤ 4
instance (cs : List Nat) : Decidable (Lets cs) := inferInstanceAs (Decidable (_ ∧ _ ∧ _ ∧ _))
theorem letters_t {n : Nat} (hn : 3 ≤ n) {ds : List Int} {m : Int} {Q : O × List O → Prop} (h0 : 0 < m) (h4 : m ≤ 4) (q : ∀ cs ds', Lets cs → (cs.length : Int) ≤ m → Q (.v (.str (St cs)), [.l (I ds'), .v (.int m)])) :
    Wp (mir n i_law_letters [.l (I ds), .v (.int m)]) Q := by
  have fin : ∀ {n : Nat} {k : Int} {ds : List Int}, 2 ≤ n → 1 ≤ k → k ≤ m → Wp (mir n i_law_pick [.l (I ds), .v (.list [.str "abcd", .str "abcd", .str "bdxz", .str "aghz"])]) fun a => ∃ z l, a = (.v (.str z), [.l (I l), .v (.list [.str "abcd", .str "abcd", .str "bdxz", .str "aghz"])]) ∧ z.length ≤ 16777216 ∧ Q (.v (.str (cutS z none (some k))), [.l (I l), .v (.int m)]) := fun {n k ds} hn2 h1 h2 => by
    refine pick_l hn2 (by simp) fun x ds' hx => ?_
    have hz : ∃ z, x = .str z ∧ z.length ≤ 16777216 ∧ ∃ cs, cutS z none (some k) = St cs ∧ Lets cs ∧ (cs.length : Int) = k := by
      have hk : k = 1 ∨ k = 2 ∨ k = 3 ∨ k = 4 := by omega
      simp only [List.mem_cons, List.not_mem_nil, or_false] at hx
      rcases hx with rfl | rfl | rfl | rfl
      · rcases hk with rfl | rfl | rfl | rfl
        · exact ⟨_, rfl, by decide, [97], by decide, by decide, rfl⟩
        · exact ⟨_, rfl, by decide, [97, 98], by decide, by decide, rfl⟩
        · exact ⟨_, rfl, by decide, [97, 98, 99], by decide, by decide, rfl⟩
        · exact ⟨_, rfl, by decide, [97, 98, 99, 100], by decide, by decide, rfl⟩
      · rcases hk with rfl | rfl | rfl | rfl
        · exact ⟨_, rfl, by decide, [97], by decide, by decide, rfl⟩
        · exact ⟨_, rfl, by decide, [97, 98], by decide, by decide, rfl⟩
        · exact ⟨_, rfl, by decide, [97, 98, 99], by decide, by decide, rfl⟩
        · exact ⟨_, rfl, by decide, [97, 98, 99, 100], by decide, by decide, rfl⟩
      · rcases hk with rfl | rfl | rfl | rfl
        · exact ⟨_, rfl, by decide, [98], by decide, by decide, rfl⟩
        · exact ⟨_, rfl, by decide, [98, 100], by decide, by decide, rfl⟩
        · exact ⟨_, rfl, by decide, [98, 100, 120], by decide, by decide, rfl⟩
        · exact ⟨_, rfl, by decide, [98, 100, 120, 122], by decide, by decide, rfl⟩
      · rcases hk with rfl | rfl | rfl | rfl
        · exact ⟨_, rfl, by decide, [97], by decide, by decide, rfl⟩
        · exact ⟨_, rfl, by decide, [97, 103], by decide, by decide, rfl⟩
        · exact ⟨_, rfl, by decide, [97, 103, 104], by decide, by decide, rfl⟩
        · exact ⟨_, rfl, by decide, [97, 103, 104, 122], by decide, by decide, rfl⟩
    obtain ⟨z, rfl, hz, cs, e, hl, he⟩ := hz
    exact ⟨z, ds', rfl, hz, by rw [e]; exact q cs ds' hl (by omega)⟩
  obtain ⟨n, rfl, hn⟩ := fuel hn
  rw [mir_law_letters, b_law_letters]
  simp
  refine take_t (by omega) h0 fun j ds' h1 => ?_
  simp
  refine cut_at (fun t : Int × List Int => [some (.l (I t.2)), some (.v (.int m)), some (.v (.int t.1))]) (fun t => 1 ≤ t.1 ∧ t.1 ≤ m) ?_ fun t ht => ?_
  · simp [↓i_w_ifS]
    refine ⟨fun hj => ?_, fun hj => ?_⟩
    · have hj0 : j = 0 := by omega
      subst hj0
      refine take_t (by omega) (by decide) fun j2 ds' h1 => ?_
      simp
      refine ⟨fun _ => ⟨(_, _), rfl, ?_, ?_⟩, fun _ => ⟨(1, ds'), by simp, by simp, by simp; omega⟩⟩ <;> (simp; omega)
    · exact ⟨(1 + (j : Int), ds'), rfl, by dsimp only; omega, by dsimp only; omega⟩
  · obtain ⟨k, ds'⟩ := t
    simp
    refine (fin (by omega) ht.1 ht.2).mono fun a ⟨z, l, e, hz, q⟩ => ?_
    subst e
    simp [hz]
    exact q
end Mm
namespace Mm
open PySem L2
theorem join_ch (cs : List Nat) {ρ : Rho} (h : cs.length ≤ 16777216) : joinG (.v (.str "")) (.o (.l (cs.map fun c => PyData.str (ch c)))) ρ = some (.v (.str (St cs))) := by
  show joinG (.v (.str "")) (.o (.l (T1 cs))) ρ = _
  rw [join_T1 h]
  have h2 := join_cs cs
  have h3 : ∀ {z : Str}, z.cps.toList = cs → z = St cs := fun {z} h => by subst h; rfl
  rw [h3 h2]
mutual
/-- good plain patterns over these letters -/
def P.ok (L : List Nat) : P → Prop
  | .non => True
  | .emp => True
  | .set cs => cs ≠ [] ∧ cs.Sublist L
  | .row ps => 2 ≤ ps.length ∧ ps.length ≤ 60 ∧ P.oks L ps
  | .either ps => 2 ≤ ps.length ∧ ps.length ≤ 60 ∧ P.oks L ps
  | .times p lo hi _ => P.ok L p ∧ lo ≤ 12 ∧ ∀ h, hi = some h → 1 ≤ h ∧ lo ≤ h ∧ h ≤ 13
  | _ => False
def P.oks (L : List Nat) : List P → Prop
  | [] => True
  | p :: ps => P.ok L p ∧ P.oks L ps
end
mutual
def P.depth : P → Nat
  | .row ps => P.depths ps + 1
  | .either ps => P.depths ps + 1
  | .both ps => P.depths ps + 1
  | .times p _ _ _ => P.depth p + 1
  | .group p => P.depth p + 1
  | .ahead p => P.depth p + 1
  | .nahead p => P.depth p + 1
  | .nt p => P.depth p + 1
  | _ => 1
def P.depths : List P → Nat
  | [] => 0
  | p :: ps => max (P.depth p) (P.depths ps)
end
theorem oks_all {L : List Nat} : ∀ {ps : List P}, P.oks L ps ↔ ∀ p ∈ ps, P.ok L p
  | [] => by simp [P.oks]
  | p :: ps => by rw [P.oks, oks_all]; simp
theorem depths_le : ∀ {ps : List P} {k : Nat}, P.depths ps ≤ k ↔ ∀ p ∈ ps, P.depth p ≤ k
  | [], k => by simp [P.depths]
  | p :: ps, k => by rw [P.depths, Nat.max_le, depths_le]; simp
@[simp] theorem St_nil : (St [] = (Str.ofString "")) = True := by
  rw [Str.ofString_eq_toList]; simp [St]
theorem St_inj {a b : List Nat} : (St a = St b) = (a = b) := propext ⟨fun h => by injection h with h; exact (List.toArray_inj h), fun h => by rw [h]⟩
@[simp] theorem St_emp {a : List Nat} : (St a = (Str.ofString "")) = (a = []) := by
  rw [Str.ofString_eq_toList]; show (St a = St []) = _; rw [St_inj]
theorem leaf_t {n : Nat} (hn : 3 ≤ n) {ds : List Int} {cs : List Nat} {Q : O × List O → Prop} (hc : Lets cs) (q : ∀ p ds', P.ok cs p → p.depth = 1 → Q (.v p.d, [.l (I ds'), .v (.str (St cs))])) :
    Wp (mir n i_law_leaf [.l (I ds), .v (.str (St cs))]) Q := by
  obtain ⟨n, rfl, hn⟩ := fuel hn
  rw [mir_law_leaf, b_law_leaf]
  simp
  refine take_t (by omega) (by decide) fun j ds' h1 => ?_
  simp [↓i_w_ifS]
  refine ⟨fun h => ?_, fun h => ⟨fun h2 => ?_, fun h2 => ?_⟩⟩
  · exact q .non ds' trivial rfl
  · exact q .emp ds' trivial rfl
  · rw [chD_eq]
    refine wi (lc_s (fun t : List Int => [some (.l (I t)), some (.v (.str (St cs))), some (.v (.int (j : Int))), none, none]) (fun _ => True) (fun c => PyData.str (ch c)) (fun c => PyData.str (ch c)) (xs := cs) (t := ds') (by have := hc.2.2.2; omega) trivial (fun c hx t _ => ?_) fun ys t hs _ => ?_)
    · simp
      refine take_t (by omega) (by decide) fun j2 ds' h1 => ?_
      simp
      exact ⟨_, rfl, trivial⟩
    · rw [join_ch ys (by have := hs.length_le; have := hc.2.2.2; omega)]
      have hl : ∀ z : Nat, z ∈ cs → [z].Sublist cs := fun z hz => List.singleton_sublist.mpr hz
      simp [↓i_w_ifS]
      refine ⟨fun _ => ⟨fun hy => ?_, fun _ => ?_⟩, fun _ => ?_⟩
      · exact q (.set ys) t ⟨hy, hs⟩ rfl
      all_goals
        refine pick_s (by omega) (by rw [St_len]; exact List.length_pos_iff.mpr hc.1) (by rw [St_len]; have := hc.2.2.2; omega) fun c ds' h => ?_
        simp
        exact q (.set [c]) ds' ⟨by simp, hl c h⟩ rfl
theorem P.lay0 {p : P} : ∃ ds, p.d = .tuple ds := by cases p <;> exact ⟨_, rfl⟩
theorem fuel4 {n c : Nat} (h : c + 1 ≤ n) : ∃ m, n = m + 1 := ⟨n - 1, by omega⟩
theorem drawn_t : ∀ {k n : Nat} (hn : 4 + k ≤ n) {ds : List Int} {cs : List Nat} {Q : O × List O → Prop} (hc : Lets cs) (q : ∀ p ds', P.ok cs p → p.depth ≤ k + 1 → Q (.v p.d, [.l (I ds'), .v (.str (St cs)), .v (.int (k : Int))])),
    Wp (mir n i_law_drawn [.l (I ds), .v (.str (St cs)), .v (.int (k : Int))]) Q := by
  intro k
  induction k with
  | zero =>
    intro n hn ds cs Q hc q
    obtain ⟨n, rfl⟩ := fuel4 (n := n) (c := 0) (by omega)
    rw [mir_law_drawn, b_law_drawn]
    simp
    refine take_t (by omega) (by decide) fun j ds' h1 => ?_
    simp [↓i_w_ifS]
    refine leaf_t (by omega) hc fun p ds' hp hd => ?_
    simp
    exact q p ds' hp (by omega)
  | succ k ih =>
    intro n hn ds cs Q hc q
    obtain ⟨n, rfl⟩ := fuel4 (n := n) (c := 0) (by omega)
    rw [mir_law_drawn, b_law_drawn]
    simp
    refine take_t (by omega) (by decide) fun j ds' h1 => ?_
    simp [↓i_w_ifS]
    refine ⟨fun _ => ?_, fun _ => ⟨fun _ => ?_, fun _ => ?_⟩⟩
    · omega
    · refine leaf_t (by omega) hc fun p ds' hp hd => ?_
      simp
      exact q p ds' hp (by omega)
    refine ⟨fun _ => ?_, fun _ => ?_⟩
    · refine take_t (by omega) (by decide) fun j2 ds' h2 => ?_
      obtain ⟨m, hm⟩ : ∃ m : Nat, 2 + (j2 : Int) = m := ⟨2 + j2, by omega⟩
      simp [hm, rgOk_N (k := m) (by omega), rgD_N]
      refine wi (lc_dy (fun t : List Int => [some (.l (I t)), some (.v (.str (St cs))), some (.v (.int ((k : Int) + 1))), some (.v (.int (j : Int))), some (.v (.int (m : Int))), none, none, none, none]) (fun _ => True) (fun (i : Nat) => PyData.int (i : Int)) P.d (fun p => P.ok cs p ∧ p.depth ≤ k + 1) (t := ds') (by simp; omega) trivial (fun i _ t _ => ?_) fun ps t hw _ hl => ?_)
      · simp
        refine ih (by omega) hc fun p ds' hp hd => ?_
        simp
        exact ⟨⟨p, rfl, hp, hd⟩, _, rfl, trivial⟩
      · simp at hl
        have hok : P.oks cs ps := oks_all.mpr fun p hp => (hw p hp).1
        have hde : P.depths ps ≤ k + 1 := depths_le.mpr fun p hp => (hw p hp).2
        simp
        refine pick_l (by omega) (by simp) fun x ds' hx => ?_
        simp at hx
        simp [← ds_map]
        rcases hx with rfl | rfl
        · refine q (.row ps) ds' ⟨by omega, by omega, hok⟩ (by rw [P.depth]; omega)
        · refine q (.either ps) ds' ⟨by omega, by omega, hok⟩ (by rw [P.depth]; omega)
    · refine pick_l (by omega) (by simp) fun x ds' hx => ?_
      have hlo : ∃ lo : Nat, x = .int (lo : Int) ∧ lo ≤ 2 := by
        simp at hx
        rcases hx with rfl | rfl | rfl
        · exact ⟨0, rfl, by omega⟩
        · exact ⟨1, rfl, by omega⟩
        · exact ⟨2, rfl, by omega⟩
      obtain ⟨lo, rfl, hlo⟩ := hlo
      simp
      refine pick_l (by omega) (by simp) fun x ds' hx => ?_
      have hhi : ∃ hi : Option Nat, x = oNat hi ∧ ∀ h, hi = some h → 1 ≤ h ∧ lo ≤ h ∧ h ≤ 13 := by
        simp at hx
        rcases hx with rfl | rfl | rfl
        · exact ⟨none, rfl, fun h e => by cases e⟩
        · exact ⟨some (max lo 1), by simp [oNat]; omega, fun h e => by cases e; omega⟩
        · exact ⟨some (lo + 1), by simp [oNat], fun h e => by cases e; omega⟩
      obtain ⟨hi, rfl, hhi⟩ := hhi
      simp
      refine ih (by omega) hc fun p ds' hp hd => ?_
      simp
      refine pick_l (by omega) (by simp) fun x ds' hx => ?_
      simp at hx
      simp
      rcases hx with rfl | rfl
      · exact q (.times p lo hi true) ds' ⟨hp, by omega, hhi⟩ (by rw [P.depth]; omega)
      · exact q (.times p lo hi false) ds' ⟨hp, by omega, hhi⟩ (by rw [P.depth]; omega)
end Mm
namespace Mm
open PySem L2
def manyOf (lo : Nat) (hi : Option Nat) : Nat := match hi with
  | none => lo + 1
  | some h => h
mutual
/-- parts of a plain pattern, written out -/
def P.size : P → Nat
  | .row ps => 1 + P.sizes ps
  | .either ps => 1 + P.sizes ps
  | .times p lo hi _ => 2 * manyOf lo hi + 1 + manyOf lo hi * P.size p
  | _ => 1
def P.sizes : List P → Nat
  | [] => 0
  | p :: ps => P.size p + P.sizes ps
end
mutual
/-- sets of a plain pattern, written out -/
def P.nsets : P → Nat
  | .row ps => P.nsetss ps
  | .either ps => P.nsetss ps
  | .times p lo hi _ => manyOf lo hi * P.nsets p
  | .set _ => 1
  | _ => 0
def P.nsetss : List P → Nat
  | [] => 0
  | p :: ps => P.nsets p + P.nsetss ps
end
theorem sizes_sum : ∀ ps : List P, (ps.map fun p => (p.size : Int)).sum = (P.sizes ps : Nat)
  | [] => rfl
  | p :: ps => by rw [List.map_cons, List.sum_cons, sizes_sum, P.sizes]; omega
theorem nsetss_sum : ∀ ps : List P, (ps.map fun p => (p.nsets : Int)).sum = (P.nsetss ps : Nat)
  | [] => rfl
  | p :: ps => by rw [List.map_cons, List.sum_cons, nsetss_sum, P.nsetss]; omega
theorem manyOf_le {lo : Nat} {hi : Option Nat} (h : lo ≤ 12) (h2 : ∀ h, hi = some h → 1 ≤ h ∧ lo ≤ h ∧ h ≤ 13) : manyOf lo hi ≤ 13 := by
  cases hi with
  | none => show lo + 1 ≤ 13; omega
  | some k => exact (h2 k rfl).2.2
theorem size_t {L : List Nat} : ∀ {k n : Nat} {p : P} (hn : k ≤ n) (hk : p.depth ≤ k) (hp : p.ok L) {Q : O × List O → Prop} (q : Q (.v (.int (p.size : Int)), [.v p.d])), Wp (mir n i_law_size [.v p.d]) Q := by
  intro k
  induction k with
  | zero => intro n p hn hk; cases p <;> simp [P.depth] at hk
  | succ k ih =>
    intro n p hn hk hp Q q
    obtain ⟨n, rfl, hn⟩ := fuel (n := n) (c := k) (by omega)
    rw [mir_law_size, b_law_size]
    cases p with
    | non => simp [P.d, ofString_inj, ↓i_w_ifS]; exact q
    | emp => simp [P.d, ofString_inj, ↓i_w_ifS]; exact q
    | set cs => simp [P.d, ofString_inj, ↓i_w_ifS]; exact q
    | row ps =>
      rw [P.depth] at hk
      simp [P.d, ofString_inj, ↓i_w_ifS, ds_map]
      refine wi (lc_mI P.d (fun p => (p.size : Int)) (by have := hp.2.1; omega) (fun p hx => ?_) ?_)
      · simp
        refine ih (by omega) (depths_le.mp (by omega) p hx) (oks_all.mp hp.2.2 p hx) ?_
        simp
      · have e := sizes_sum ps
        simp [← ds_map, e]
        have e2 : (1 : Int) + (P.sizes ps : Nat) = ((P.row ps).size : Nat) := by rw [P.size]; omega
        rw [e2]
        exact q
    | either ps =>
      rw [P.depth] at hk
      simp [P.d, ofString_inj, ↓i_w_ifS, ds_map]
      refine wi (lc_mI P.d (fun p => (p.size : Int)) (by have := hp.2.1; omega) (fun p hx => ?_) ?_)
      · simp
        refine ih (by omega) (depths_le.mp (by omega) p hx) (oks_all.mp hp.2.2 p hx) ?_
        simp
      · have e := sizes_sum ps
        simp [← ds_map, e]
        have e2 : (1 : Int) + (P.sizes ps : Nat) = ((P.either ps).size : Nat) := by rw [P.size]; omega
        rw [e2]
        exact q
    | times p lo hi m =>
      rw [P.depth] at hk
      have hm := manyOf_le hp.2.1 hp.2.2
      have e : (2 : Int) * (manyOf lo hi : Nat) + 1 + (manyOf lo hi : Nat) * (p.size : Int) = ((P.times p lo hi m).size : Nat) := by rw [P.size]; simp
      cases hi with
      | none =>
        simp [P.d, oNat, ofString_inj, ↓i_w_ifS]
        refine ih (by omega) (by omega) hp.1 ?_
        simp [manyOf] at e hm
        simp [e]
        exact ⟨.inl ⟨by omega, by omega⟩, q⟩
      | some h =>
        simp [P.d, oNat, ofString_inj, ↓i_w_ifS]
        refine ih (by omega) (by omega) hp.1 ?_
        simp [manyOf] at e hm
        simp [e]
        exact ⟨.inl ⟨by omega, by omega⟩, q⟩
    | _ => exact absurd hp (by simp [P.ok])
theorem sets_t {L : List Nat} : ∀ {k n : Nat} {p : P} (hn : k ≤ n) (hk : p.depth ≤ k) (hp : p.ok L) {Q : O × List O → Prop} (q : Q (.v (.int (p.nsets : Int)), [.v p.d])), Wp (mir n i_law_sets [.v p.d]) Q := by
  intro k
  induction k with
  | zero => intro n p hn hk; cases p <;> simp [P.depth] at hk
  | succ k ih =>
    intro n p hn hk hp Q q
    obtain ⟨n, rfl, hn⟩ := fuel (n := n) (c := k) (by omega)
    rw [mir_law_sets, b_law_sets]
    cases p with
    | non => simp [P.d, ofString_inj, ↓i_w_ifS]; exact q
    | emp => simp [P.d, ofString_inj, ↓i_w_ifS]; exact q
    | set cs => simp [P.d, ofString_inj, ↓i_w_ifS]; exact q
    | row ps =>
      rw [P.depth] at hk
      simp [P.d, ofString_inj, ↓i_w_ifS, ds_map]
      refine wi (lc_mI P.d (fun p => (p.nsets : Int)) (by have := hp.2.1; omega) (fun p hx => ?_) ?_)
      · simp
        refine ih (by omega) (depths_le.mp (by omega) p hx) (oks_all.mp hp.2.2 p hx) ?_
        simp
      · have e := nsetss_sum ps
        simp [← ds_map, e]
        exact q
    | either ps =>
      rw [P.depth] at hk
      simp [P.d, ofString_inj, ↓i_w_ifS, ds_map]
      refine wi (lc_mI P.d (fun p => (p.nsets : Int)) (by have := hp.2.1; omega) (fun p hx => ?_) ?_)
      · simp
        refine ih (by omega) (depths_le.mp (by omega) p hx) (oks_all.mp hp.2.2 p hx) ?_
        simp
      · have e := nsetss_sum ps
        simp [← ds_map, e]
        exact q
    | times p lo hi m =>
      rw [P.depth] at hk
      have hm := manyOf_le hp.2.1 hp.2.2
      have e : (manyOf lo hi : Nat) * (p.nsets : Int) = ((P.times p lo hi m).nsets : Nat) := by rw [P.nsets]; simp
      cases hi with
      | none =>
        simp [P.d, oNat, ofString_inj, ↓i_w_ifS]
        refine ih (by omega) (by omega) hp.1 ?_
        simp [manyOf] at e hm
        simp [e]
        exact ⟨.inl ⟨by omega, by omega⟩, q⟩
      | some h =>
        simp [P.d, oNat, ofString_inj, ↓i_w_ifS]
        refine ih (by omega) (by omega) hp.1 ?_
        simp [manyOf] at e hm
        simp [e]
        exact ⟨.inl ⟨by omega, by omega⟩, q⟩
    | _ => exact absurd hp (by simp [P.ok])
theorem plain_t {n : Nat} (hn : 8 ≤ n) {ds : List Int} {cs : List Nat} {m : Nat} {Q : O × List O → Prop} (hc : Lets cs) (hm : 1 ≤ m)
    (q : ∀ p ds', P.ok cs p → p.depth ≤ 4 → 0 < p.nsets → p.nsets ≤ m → p.size ≤ 60 → Q (.v p.d, [.l (I ds'), .v (.str (St cs)), .v (.int (m : Int))])) :
    Wp (mir n i_law_plain [.l (I ds), .v (.str (St cs)), .v (.int (m : Int))]) Q := by
  obtain ⟨n, rfl, hn⟩ := fuel hn
  rw [mir_law_plain, b_law_plain]
  simp
  refine wi (loop_inv (fun k : Nat => PyData.int (k : Int)) (fun t : List Int => [some (.l (I t)), some (.v (.str (St cs))), some (.v (.int (m : Int))), none, none]) (fun ks _ => ∀ k ∈ ks, k ≤ 3) (xs := [3, 3, 3, 2, 2, 2, 1, 1]) (t := ds) (by decide) (fun k ks t hk => ?_) fun t _ => ?_)
  · have h3 := hk k List.mem_cons_self
    simp [k_law_plain_1, ↓i_w_ifS]
    refine drawn_t (by omega) hc fun p ds' hp hd => ?_
    simp [↓i_w_ifS]
    refine sets_t (by omega) hd hp ?_
    simp
    have again : At (fun t : List Int => [some (.l (I t)), some (.v (.str (St cs))), some (.v (.int (m : Int))), none, none]) (fun _ => ∀ k ∈ ks, k ≤ 3) [some (.l (I ds')), some (.v (.str (St cs))), some (.v (.int (m : Int))), none, none] := ⟨ds', rfl, fun k z => hk k (List.mem_cons_of_mem _ z)⟩
    refine ⟨fun h1 => ?_, fun _ => again⟩
    refine sets_t (by omega) hd hp ?_
    simp
    refine ⟨fun h2 => ?_, fun _ => again⟩
    refine size_t (by omega) hd hp ?_
    simp
    refine ⟨fun h4 => ?_, fun _ => again⟩
    exact q p ds' hp (by omega) h1 (by omega) (by omega)
  · simp [itemsD, ch]
    obtain ⟨c, cs', rfl⟩ : ∃ c cs', cs = c :: cs' := by
      cases cs with
      | nil => exact absurd rfl hc.1
      | cons c cs => exact ⟨c, cs, rfl⟩
    refine ⟨by have := hc.2.2.2; omega, ?_⟩
    simp
    refine pick_l (by omega) (by simp) fun x ds' hx => ?_
    simp at hx
    simp
    rcases hx with rfl | rfl
    · exact q (.times (.set [c]) 0 none true) ds' ⟨⟨by simp, by simp⟩, by omega, fun h e => by cases e⟩ (by simp [P.depth, P.depths]) (by simp [P.nsets, manyOf]) (by simp [P.nsets, manyOf]; omega) (by simp [P.size, manyOf])
    · exact q (.set (c :: cs')) ds' ⟨by simp, List.Sublist.refl _⟩ (by simp [P.depth, P.depths]) (by simp [P.nsets]) (by simp [P.nsets]; omega) (by simp [P.size])
end Mm
namespace Mm
open PySem L2
abbrev Way := Nat × Str × Nat
abbrev eps : Str := Str.ofString ""
def wayD (w : Way) : D := .list [.int (w.1 : Int), .str w.2.1, .int (w.2.2 : Int)]
abbrev LayF := List Way → Nat → Nat → Nat × List Way × Nat
def layN (f : LayF) : Nat → LayF
  | 0, W, m, b => (b, W, m)
  | k + 1, W, m, b => let r := f W m b; layN f k r.2.1 r.2.2 r.1
def layM (f : LayF) (e : Nat) : Nat → LayF
  | 0, W, m, b => (b, W, m)
  | k + 1, W, m, b => let r := f W m b; layM f e k (r.2.1 ++ [(r.1, eps, e)]) r.2.2 r.1
mutual
/-- lays a plain pattern: the place behind it, the ways, how many places -/
def lay : P → LayF
  | .emp => fun W m b => (b, W, m)
  | .row ps => fun W m b => layR ps W m b
  | .set cs => fun W m b => (m, W ++ [(b, St cs, m)], m + 1)
  | .either ps => fun W m b => let r := layE ps b m W (m + 1); (m, r.1, r.2)
  | .times p lo hi _ => fun W m b =>
    let r := layN (lay p) lo W m b
    let e := r.2.2
    let W1 := r.2.1 ++ [(r.1, eps, e)]
    match hi with
    | none => let r2 := lay p W1 (e + 1) e; (e, r2.2.1 ++ [(r2.1, eps, e)], r2.2.2)
    | some h => let r2 := layM (lay p) e (h - lo) W1 (e + 1) r.1; (e, r2.2.1, r2.2.2)
  | _ => fun W m b => (m, W, m + 1)
def layR : List P → LayF
  | [] => fun W m b => (b, W, m)
  | p :: ps => fun W m b => let r := lay p W m b; layR ps r.2.1 r.2.2 r.1
def layE : List P → Nat → Nat → List Way → Nat → List Way × Nat
  | [] => fun b e W m => (W, m)
  | p :: ps => fun b e W m => let r := lay p W m b; layE ps b e (r.2.1 ++ [(r.1, eps, e)]) r.2.2
end
theorem layN_len {f : LayF} {s : Nat} (h : ∀ W m b, (f W m b).2.1.length + 1 ≤ W.length + 2 * s) : ∀ k W m b, (layN f k W m b).2.1.length + k ≤ W.length + 2 * (k * s)
  | 0, W, m, b => by simp [layN]
  | k + 1, W, m, b => by
    have h1 := h W m b
    have h2 := layN_len h k (f W m b).2.1 (f W m b).2.2 (f W m b).1
    rw [layN, Nat.add_mul]
    omega
theorem layM_len {f : LayF} {s e : Nat} (h : ∀ W m b, (f W m b).2.1.length + 1 ≤ W.length + 2 * s) : ∀ k W m b, (layM f e k W m b).2.1.length ≤ W.length + 2 * (k * s)
  | 0, W, m, b => by simp [layM]
  | k + 1, W, m, b => by
    have h1 := h W m b
    have h2 := layM_len (e := e) h k ((f W m b).2.1 ++ [((f W m b).1, eps, e)]) (f W m b).2.2 (f W m b).1
    rw [layM, Nat.add_mul]
    simp at h2
    omega
mutual
theorem lay_len {L : List Nat} : ∀ (p : P) (W : List Way) (m b : Nat), p.ok L → (lay p W m b).2.1.length + 1 ≤ W.length + 2 * p.size
  | .emp, W, m, b, _ => by rw [lay]; simp [P.size]
  | .row ps, W, m, b, ok => by rw [lay, P.size]; have := layR_len ps W m b ok.2.2; dsimp only; omega
  | .set cs, W, m, b, _ => by rw [lay]; simp [P.size]
  | .either ps, W, m, b, ok => by rw [lay, P.size]; have := layE_len ps b m W (m + 1) ok.2.2; dsimp only; omega
  | .times p lo hi mo, W, m, b, ok => by
    have h := fun W m b => lay_len p W m b ok.1
    have h1 := layN_len h lo W m b
    cases hi with
    | none =>
      rw [lay, P.size, manyOf]
      dsimp only
      have h2 := h ((layN (lay p) lo W m b).2.1 ++ [((layN (lay p) lo W m b).1, eps, (layN (lay p) lo W m b).2.2)]) ((layN (lay p) lo W m b).2.2 + 1) (layN (lay p) lo W m b).2.2
      rw [List.length_append, List.length_singleton] at h2 ⊢
      rw [Nat.add_mul]
      omega
    | some hh =>
      rw [lay, P.size, manyOf]
      dsimp only
      have h2 := layM_len (e := (layN (lay p) lo W m b).2.2) h (hh - lo) ((layN (lay p) lo W m b).2.1 ++ [((layN (lay p) lo W m b).1, eps, (layN (lay p) lo W m b).2.2)]) ((layN (lay p) lo W m b).2.2 + 1) (layN (lay p) lo W m b).1
      rw [List.length_append, List.length_singleton] at h2
      have h3 : hh * p.size = lo * p.size + (hh - lo) * p.size := by
        have := (ok.2.2 hh rfl).2.1
        rw [← Nat.add_mul, show lo + (hh - lo) = hh by omega]
      omega
  | .non, W, m, b, _ => by rw [lay] <;> simp [P.size]
theorem layR_len {L : List Nat} : ∀ (ps : List P) (W : List Way) (m b : Nat), P.oks L ps → (layR ps W m b).2.1.length ≤ W.length + 2 * P.sizes ps
  | [], W, m, b, _ => by rw [layR]; simp
  | p :: ps, W, m, b, ok => by
    rw [layR, P.sizes]
    have h1 := lay_len p W m b ok.1
    have h2 := layR_len ps (lay p W m b).2.1 (lay p W m b).2.2 (lay p W m b).1 ok.2
    dsimp only
    omega
theorem layE_len {L : List Nat} : ∀ (ps : List P) (b e : Nat) (W : List Way) (m : Nat), P.oks L ps → (layE ps b e W m).1.length ≤ W.length + 2 * P.sizes ps
  | [], b, e, W, m, _ => by rw [layE]; simp
  | p :: ps, b, e, W, m, ok => by
    rw [layE, P.sizes]
    have h1 := lay_len p W m b ok.1
    have h2 := layE_len ps b e ((lay p W m b).2.1 ++ [((lay p W m b).1, eps, e)]) (lay p W m b).2.2 ok.2
    rw [List.length_append, List.length_singleton] at h2
    dsimp only
    omega
end
theorem way_t {n : Nat} {W : List Way} {x : D} {a b : Nat} {z : Str} {Q : O × List O → Prop} (hn : 1 ≤ n) (hW : W.length < 16777216)
    (q : Q (.v .none, [.c [.l ((W ++ [(a, z, b)]).map wayD), .v x], .v (.int (a : Int)), .v (.str z), .v (.int (b : Int))])) :
    Wp (mir n i_law_way [.c [.l (W.map wayD), .v x], .v (.int (a : Int)), .v (.str z), .v (.int (b : Int))]) Q := by
  obtain ⟨n, rfl, hn⟩ := fuel hn
  rw [mir_law_way, b_law_way, wayM]
  simp [hW]
  simpa [wayD] using q
theorem new_t {n : Nat} {W : List D} {m : Nat} {Q : O × List O → Prop} (hn : 1 ≤ n)
    (q : Q (.v (.int (m : Int)), [.c [.l W, .v (.int ((m + 1 : Nat) : Int))]])) :
    Wp (mir n i_law_new_place [.c [.l W, .v (.int (m : Int))]]) Q := by
  obtain ⟨n, rfl, hn⟩ := fuel hn
  rw [mir_law_new_place, b_law_new_place]
  simp [ixN]
  exact q
theorem lay_t {L : List Nat} : ∀ {k n : Nat} {p : P} {W : List Way} {m b : Nat} (hn : k + 1 ≤ n) (hk : p.depth ≤ k) (hp : p.ok L) (hW : W.length + 2 * p.size ≤ 1000000) {Q : O × List O → Prop}
    (q : Q (.v (.int ((lay p W m b).1 : Int)), [.v p.d, .c [.l ((lay p W m b).2.1.map wayD), .v (.int ((lay p W m b).2.2 : Int))], .v (.int (b : Int))])),
    Wp (mir n i_law_lay [.v p.d, .c [.l (W.map wayD), .v (.int (m : Int))], .v (.int (b : Int))]) Q := by
  intro k
  induction k with
  | zero => intro n p W m b hn hk; cases p <;> simp [P.depth] at hk
  | succ k ih =>
    intro n p W m b hn hk hp hW Q q
    obtain ⟨n, rfl, hn⟩ := fuel (n := n) (c := k) (by omega)
    rw [mir_law_lay, b_law_lay]
    cases p with
    | emp => simp [P.d, ofString_inj, ↓i_w_ifS]; exact q
    | non =>
      simp [P.d, ofString_inj, ↓i_w_ifS]
      refine new_t (by omega) ?_
      simp [P.d, ofString_inj, ↓i_w_ifS]
      exact q
    | set cs =>
      simp [P.d, ofString_inj, ↓i_w_ifS]
      refine new_t (by omega) ?_
      simp [P.d, ofString_inj, ↓i_w_ifS]
      refine way_t (by omega) (by omega) ?_
      simp [P.d, ofString_inj, ↓i_w_ifS]
      simp [lay] at q
      exact q
    | row ps =>
      rw [P.depth] at hk
      rw [P.size] at hW
      simp [P.d, ofString_inj, ↓i_w_ifS]
      refine wi (loop_foldE P.d (fun t : Nat × List Way × Nat => [some (.v (P.row ps).d), some (.c [.l (t.2.1.map wayD), .v (.int (t.2.2 : Int))]), some (.v (.int (t.1 : Int))), none, none, none, none]) (fun t p => lay p t.2.1 t.2.2 t.1) (fun qs t => t.2.1.length + 2 * P.sizes qs ≤ 1000000 ∧ (∀ q ∈ qs, q ∈ ps)) (xs := ps) (t := (b, W, m)) (ds_map ps) rfl ⟨by dsimp only; omega, fun _ z => z⟩ (fun p qs t ht => ?_) fun ht => ?_)
      · obtain ⟨b1, W1, m1⟩ := t
        have hp1 := oks_all.mp hp.2.2 p (ht.2 p List.mem_cons_self)
        have hd1 := depths_le.mp (Nat.le_refl _) p (ht.2 p List.mem_cons_self)
        have hl := lay_len p W1 m1 b1 hp1
        have h1 := ht.1
        rw [P.sizes] at h1
        dsimp only at h1
        simp [k_law_lay_4]
        refine ih (by omega) (by omega) hp1 (by omega) ?_
        simp
        exact ⟨by omega, fun q hq => ht.2 q (List.mem_cons_of_mem _ hq)⟩
      · have e : ∀ (ps : List P) (t : Nat × List Way × Nat), List.foldl (fun t p => lay p t.2.1 t.2.2 t.1) t ps = layR ps t.2.1 t.2.2 t.1 := by
          intro ps
          induction ps with
          | nil => intro t; rfl
          | cons p ps ih => intro t; rw [List.foldl_cons, ih]; rw [layR]
        rw [e]
        simp
        exact q
    | either ps =>
      rw [P.depth] at hk
      rw [P.size] at hW
      simp [P.d, ofString_inj, ↓i_w_ifS]
      refine new_t (by omega) ?_
      simp [ofString_inj, ↓i_w_ifS]
      refine wi (loop_foldE P.d (fun t : List Way × Nat => [some (.v (P.either ps).d), some (.c [.l (t.1.map wayD), .v (.int (t.2 : Int))]), some (.v (.int (b : Int))), some (.v (.str "either")), none, none, some (.v (.int (m : Int)))]) (fun t p => ((lay p t.1 t.2 b).2.1 ++ [((lay p t.1 t.2 b).1, eps, m)], (lay p t.1 t.2 b).2.2)) (fun qs t => t.1.length + 2 * P.sizes qs ≤ 1000000 ∧ (∀ q ∈ qs, q ∈ ps)) (xs := ps) (t := (W, m + 1)) (ds_map ps) rfl ⟨by dsimp only; omega, fun _ z => z⟩ (fun p qs t ht => ?_) fun ht => ?_)
      · obtain ⟨W1, m1⟩ := t
        have hp1 := oks_all.mp hp.2.2 p (ht.2 p List.mem_cons_self)
        have hd1 := depths_le.mp (Nat.le_refl _) p (ht.2 p List.mem_cons_self)
        have hl := lay_len p W1 m1 b hp1
        have h1 := ht.1
        rw [P.sizes] at h1
        dsimp only at h1
        simp [k_law_lay_2]
        refine ih (by omega) (by omega) hp1 (by omega) ?_
        simp
        refine way_t (by omega) (by omega) ?_
        simp
        exact ⟨by omega, fun q hq => ht.2 q (List.mem_cons_of_mem _ hq)⟩
      · have e : ∀ (ps : List P) (t : List Way × Nat), List.foldl (fun t p => ((lay p t.1 t.2 b).2.1 ++ [((lay p t.1 t.2 b).1, eps, m)], (lay p t.1 t.2 b).2.2)) t ps = layE ps b m t.1 t.2 := by
          intro ps
          induction ps with
          | nil => intro t; rfl
          | cons p ps ih => intro t; rw [List.foldl_cons, ih]; rw [layE]
        rw [e]
        simp [ofString_inj, ↓i_w_ifS]
        simp [lay] at q
        exact q
    | times p lo hi mo =>
      rw [P.depth] at hk
      rw [P.size] at hW
      have hm := manyOf_le hp.2.1 hp.2.2
      have hlen := layN_len (fun W m b => lay_len p W m b hp.1) lo W m b
      have hlm : lo ≤ manyOf lo hi := by
        cases hi with
        | none => exact Nat.le_succ _
        | some h => exact (hp.2.2 h rfl).2.1
      have hls : lo * p.size ≤ manyOf lo hi * p.size := Nat.mul_le_mul_right _ hlm
      simp [P.d, ofString_inj, ↓i_w_ifS, rgOk_N (k := lo) (by omega), rgD_N]
      refine wi (loop_foldE (fun i : Nat => PyData.int (i : Int)) (fun t : Nat × List Way × Nat => [some (.v (P.times p lo hi mo).d), some (.c [.l (t.2.1.map wayD), .v (.int (t.2.2 : Int))]), some (.v (.int (t.1 : Int))), some (.v (.str "times")), none, none, none]) (fun t _ => lay p t.2.1 t.2.2 t.1) (fun qs t => t.2.1.length + 2 * (qs.length * p.size) ≤ W.length + 2 * (lo * p.size)) (xs := List.range lo) (t := (b, W, m)) rfl rfl (by simp) (fun i qs t ht => ?_) fun ht => ?_)
      · obtain ⟨b1, W1, m1⟩ := t
        have hl := lay_len p W1 m1 b1 hp.1
        rw [List.length_cons, Nat.succ_mul qs.length] at ht
        dsimp only at ht
        simp [k_law_lay_3, P.d]
        refine ih (by omega) (by omega) hp.1 (by omega) ?_
        simp [P.d]
        omega
      · have e : ∀ (xs : List Nat) (t : Nat × List Way × Nat), List.foldl (fun t _ => lay p t.2.1 t.2.2 t.1) t xs = layN (lay p) xs.length t.2.1 t.2.2 t.1 := by
          intro xs
          induction xs with
          | nil => intro t; rfl
          | cons p ps ih => intro t; rw [List.foldl_cons, ih]; rfl
        rw [e, List.length_range]
        clear ht e
        generalize hr : layN (lay p) lo W m b = r at hlen ⊢
        obtain ⟨b1, W1, e⟩ := r
        simp [ofString_inj, ↓i_w_ifS]
        refine new_t (by omega) ?_
        simp [ofString_inj, ↓i_w_ifS]
        dsimp only at hlen
        refine way_t (by omega) (by omega) ?_
        cases hi with
        | none =>
          rw [manyOf, Nat.add_mul] at hW
          simp [P.d, ofString_inj, ↓i_w_ifS, oNat]
          have hl := lay_len p (W1 ++ [(b1, eps, e)]) (e + 1) e hp.1
          rw [List.length_append, List.length_singleton] at hl
          have q' := ih (n := n) (p := p) (W := W1 ++ [(b1, eps, e)]) (m := e + 1) (b := e) (by omega) (by omega) hp.1 (by rw [List.length_append, List.length_singleton]; omega) (Q := fun z => z = (.v (.int ((lay p (W1 ++ [(b1, eps, e)]) (e + 1) e).1 : Int)), [.v p.d, .c [.l ((lay p (W1 ++ [(b1, eps, e)]) (e + 1) e).2.1.map wayD), .v (.int ((lay p (W1 ++ [(b1, eps, e)]) (e + 1) e).2.2 : Int))], .v (.int (e : Int))])) rfl
          simp only [List.map_append, List.map_cons, List.map_nil] at q'
          refine wi (q'.mono fun z hz => ?_)
          subst hz
          simp
          refine way_t (by omega) (by omega) ?_
          simp [lay, hr] at q
          simpa using q
        | some h =>
          obtain ⟨d, hd⟩ : ∃ d : Nat, (h : Int) - lo = d := ⟨h - lo, by have := (hp.2.2 h rfl).2.1; omega⟩
          simp [P.d, ofString_inj, ↓i_w_ifS, oNat, hd, rgOk_N (k := d) (by have := (hp.2.2 h rfl).2.2; omega), rgD_N]
          rw [manyOf] at hW hls
          have hdd : d = h - lo := by have := (hp.2.2 h rfl).2.1; omega
          have hlh := (hp.2.2 h rfl).2.1
          have hmul : h * p.size = lo * p.size + d * p.size := by rw [← Nat.add_mul, hdd, show lo + (h - lo) = h by omega]
          have hm13 := (hp.2.2 h rfl).2.2
          refine wi (loop_foldE (fun i : Nat => PyData.int (i : Int)) (fun t : Nat × List Way × Nat => [some (.v (P.times p lo (some h) mo).d), some (.c [.l (t.2.1.map wayD), .v (.int (t.2.2 : Int))]), some (.v (.int (t.1 : Int))), none, none, none, some (.v (.int (e : Int)))]) (fun t _ => ((lay p t.2.1 t.2.2 t.1).1, (lay p t.2.1 t.2.2 t.1).2.1 ++ [((lay p t.2.1 t.2.2 t.1).1, eps, e)], (lay p t.2.1 t.2.2 t.1).2.2)) (fun qs t => t.2.1.length + 2 * (qs.length * p.size) ≤ W1.length + 1 + 2 * (d * p.size)) (xs := List.range d) (t := (b1, W1 ++ [(b1, eps, e)], e + 1)) rfl (by simp [P.d, oNat]) (by simp) (fun i qs t ht => ?_) fun ht => ?_)
          · obtain ⟨b2, W2, m2⟩ := t
            have hl := lay_len p W2 m2 b2 hp.1
            rw [List.length_cons, Nat.succ_mul qs.length] at ht
            dsimp only at ht
            simp [k_law_lay_1, P.d, oNat]
            refine ih (by omega) (by omega) hp.1 (by omega) ?_
            simp [P.d]
            refine way_t (by omega) (by omega) ?_
            simp [P.d, oNat]
            omega
          · have e : ∀ (xs : List Nat) (t : Nat × List Way × Nat), List.foldl (fun t _ => ((lay p t.2.1 t.2.2 t.1).1, (lay p t.2.1 t.2.2 t.1).2.1 ++ [((lay p t.2.1 t.2.2 t.1).1, eps, e)], (lay p t.2.1 t.2.2 t.1).2.2)) t xs = layM (lay p) e xs.length t.2.1 t.2.2 t.1 := by
              intro xs
              induction xs with
              | nil => intro t; rfl
              | cons p ps ih => intro t; rw [List.foldl_cons, ih]; rfl
            rw [e, List.length_range]
            simp
            simp [lay, hr, ← hdd] at q
            exact q
    | _ => exact absurd hp (by simp [P.ok])
end Mm
namespace Mm
open PySem L2
/-- all ways lead within the places -/
def NetOk (W : List Way) (m : Nat) : Prop := ∀ w ∈ W, w.1 < m ∧ w.2.2 < m
def isSet (w : Way) : Bool := decide (w.2.1 ≠ eps)
def setsIn (W : List Way) : Nat := (W.filter isSet).length
theorem NetOk.mono {W : List Way} {m k : Nat} (h : NetOk W m) (hk : m ≤ k) : NetOk W k := fun w z => by have := h w z; omega
theorem NetOk.snoc {W : List Way} {m a b : Nat} {z : Str} (h : NetOk W m) (ha : a < m) (hb : b < m) : NetOk (W ++ [(a, z, b)]) m := fun w q => by
  rcases List.mem_append.mp q with q | q
  · exact h w q
  · rw [List.mem_singleton] at q; subst q; exact ⟨ha, hb⟩
theorem setsIn_eps (W : List Way) (a b : Nat) : setsIn (W ++ [(a, eps, b)]) = setsIn W := by unfold setsIn; rw [List.filter_append]; simp [isSet]
theorem setsIn_set (W : List Way) (a b : Nat) {cs : List Nat} (h : cs ≠ []) : setsIn (W ++ [(a, St cs, b)]) = setsIn W + 1 := by unfold setsIn; rw [List.filter_append]; simp [isSet, h]
/-- a laid piece: from b to r.1, with s sets and at most z places more -/
structure Laid (s z : Nat) (W : List Way) (m : Nat) (e : Nat) (W' : List Way) (m' : Nat) : Prop where
  net : NetOk W' m'
  he : e < m'
  hm : m ≤ m'
  hz : m' ≤ m + z
  hs : setsIn W' = setsIn W + s
theorem Laid.step {s s2 z z2 m m1 m2 e e2 : Nat} {W W1 W2 : List Way} (h : Laid s z W m e W1 m1) (k : Laid s2 z2 W1 m1 e2 W2 m2) : Laid (s + s2) (z + z2) W m e2 W2 m2 :=
  ⟨k.net, k.he, Nat.le_trans h.hm k.hm, by have := h.hz; have := k.hz; omega, by rw [k.hs, h.hs]; omega⟩
theorem Laid.z {s z z2 m m1 e : Nat} {W W1 : List Way} (h : Laid s z W m e W1 m1) (hz : z ≤ z2) : Laid s z2 W m e W1 m1 := ⟨h.net, h.he, h.hm, by have := h.hz; omega, h.hs⟩
theorem Laid.way {s z m m1 e x : Nat} {W W1 : List Way} (h : Laid s z W m e W1 m1) (hx : x < m1) : Laid s z W m e (W1 ++ [(e, eps, x)]) m1 := ⟨h.net.snoc h.he hx, h.he, h.hm, h.hz, by rw [setsIn_eps, h.hs]⟩
theorem layN_laid {f : LayF} {s z : Nat} (h : ∀ W m b, NetOk W m → b < m → Laid s z W m (f W m b).1 (f W m b).2.1 (f W m b).2.2) : ∀ k W m b, NetOk W m → b < m → Laid (k * s) (k * z) W m (layN f k W m b).1 (layN f k W m b).2.1 (layN f k W m b).2.2
  | 0, W, m, b, hW, hb => by rw [layN]; exact ⟨hW, hb, Nat.le_refl _, by simp, by simp⟩
  | k + 1, W, m, b, hW, hb => by
    have h1 := h W m b hW hb
    have h2 := layN_laid h k _ _ _ h1.net h1.he
    rw [layN, Nat.add_mul, Nat.add_mul, Nat.add_comm (k * s), Nat.add_comm (k * z), Nat.one_mul, Nat.one_mul]
    exact h1.step h2
theorem layM_laid {f : LayF} {s z e : Nat} (h : ∀ W m b, NetOk W m → b < m → Laid s z W m (f W m b).1 (f W m b).2.1 (f W m b).2.2) : ∀ k W m b, NetOk W m → b < m → e < m → Laid (k * s) (k * z) W m (layM f e k W m b).1 (layM f e k W m b).2.1 (layM f e k W m b).2.2
  | 0, W, m, b, hW, hb, he => by rw [layM]; exact ⟨hW, hb, Nat.le_refl _, by simp, by simp⟩
  | k + 1, W, m, b, hW, hb, he => by
    have h1 := (h W m b hW hb).way (x := e) (by have := (h W m b hW hb).hm; omega)
    have h2 := layM_laid (e := e) h k _ _ _ h1.net h1.he (by have := h1.hm; omega)
    rw [layM, Nat.add_mul, Nat.add_mul, Nat.add_comm (k * s), Nat.add_comm (k * z), Nat.one_mul, Nat.one_mul]
    exact h1.step h2
mutual
theorem lay_laid {L : List Nat} : ∀ (p : P) (W : List Way) (m b : Nat), p.ok L → NetOk W m → b < m → Laid p.nsets p.size W m (lay p W m b).1 (lay p W m b).2.1 (lay p W m b).2.2
  | .emp, W, m, b, _, hW, hb => by rw [lay]; exact ⟨hW, hb, Nat.le_refl _, by simp [P.size], by simp [P.nsets]⟩
  | .non, W, m, b, _, hW, hb => by
    show Laid (P.nsets .non) (P.size .non) W m m W (m + 1)
    exact ⟨hW.mono (Nat.le_succ _), Nat.lt_succ_self _, Nat.le_succ _, by simp [P.size], by simp [P.nsets]⟩
  | .set cs, W, m, b, ok, hW, hb => by
    rw [lay]
    exact ⟨(hW.mono (Nat.le_succ _)).snoc (by omega) (by omega), Nat.lt_succ_self _, Nat.le_succ _, by simp [P.size], by rw [setsIn_set _ _ _ ok.1, P.nsets]⟩
  | .row ps, W, m, b, ok, hW, hb => by rw [lay, P.size, P.nsets]; exact (layR_laid ps W m b ok.2.2 hW hb).z (by omega)
  | .either ps, W, m, b, ok, hW, hb => by
    rw [lay, P.size, P.nsets]
    have h := layE_laid ps b m W (m + 1) ok.2.2 (hW.mono (Nat.le_succ _)) (by omega) (Nat.lt_succ_self _)
    exact ⟨h.net, by have := h.hm; dsimp only; omega, by have := h.hm; dsimp only; omega, by have := h.hz; dsimp only; omega, h.hs⟩
  | .times p lo hi mo, W, m, b, ok, hW, hb => by
    have h := fun W m b => lay_laid p W m b ok.1
    have h1 := layN_laid h lo W m b hW hb
    cases hi with
    | none =>
      rw [lay]
      dsimp only
      generalize layN (lay p) lo W m b = r at h1 ⊢
      obtain ⟨b1, W1, e⟩ := r
      dsimp only at h1 ⊢
      have h2 : Laid (lo * p.nsets) (lo * p.size + 1) W m e (W1 ++ [(b1, eps, e)]) (e + 1) := ⟨(h1.net.mono (Nat.le_succ _)).snoc (by have := h1.he; omega) (by omega), Nat.lt_succ_self _, by have := h1.hm; omega, by have := h1.hz; omega, by rw [setsIn_eps, h1.hs]⟩
      have h3 := ((h _ _ _ h2.net h2.he).way (x := e) (by have := (h _ _ _ h2.net h2.he).hm; omega))
      have h4 := h2.step h3
      rw [P.nsets, P.size, manyOf, Nat.add_mul, Nat.add_mul, Nat.one_mul, Nat.one_mul]
      exact ⟨h4.net, by have := h3.hm; omega, h4.hm, by have := h4.hz; omega, h4.hs⟩
    | some hh =>
      rw [lay]
      dsimp only
      generalize layN (lay p) lo W m b = r at h1 ⊢
      obtain ⟨b1, W1, e⟩ := r
      dsimp only at h1 ⊢
      have h2 : Laid (lo * p.nsets) (lo * p.size + 1) W m e (W1 ++ [(b1, eps, e)]) (e + 1) := ⟨(h1.net.mono (Nat.le_succ _)).snoc (by have := h1.he; omega) (by omega), Nat.lt_succ_self _, by have := h1.hm; omega, by have := h1.hz; omega, by rw [setsIn_eps, h1.hs]⟩
      have h3 := layM_laid (e := e) h (hh - lo) (W1 ++ [(b1, eps, e)]) (e + 1) b1 h2.net (by have := h1.he; omega) (by omega)
      have h4 := h2.step h3
      have hl := (ok.2.2 hh rfl).2.1
      have e1 : hh * p.nsets = lo * p.nsets + (hh - lo) * p.nsets := by rw [← Nat.add_mul, show lo + (hh - lo) = hh by omega]
      have e2 : hh * p.size = lo * p.size + (hh - lo) * p.size := by rw [← Nat.add_mul, show lo + (hh - lo) = hh by omega]
      rw [P.nsets, P.size, manyOf, e1, e2]
      exact ⟨h4.net, by have := h3.hm; omega, h4.hm, by have := h4.hz; omega, h4.hs⟩
theorem layR_laid {L : List Nat} : ∀ (ps : List P) (W : List Way) (m b : Nat), P.oks L ps → NetOk W m → b < m → Laid (P.nsetss ps) (P.sizes ps) W m (layR ps W m b).1 (layR ps W m b).2.1 (layR ps W m b).2.2
  | [], W, m, b, _, hW, hb => by rw [layR, P.nsetss, P.sizes]; exact ⟨hW, hb, Nat.le_refl _, by simp, by simp⟩
  | p :: ps, W, m, b, ok, hW, hb => by
    rw [layR, P.nsetss, P.sizes]
    have h1 := lay_laid p W m b ok.1 hW hb
    exact h1.step (layR_laid ps _ _ _ ok.2 h1.net h1.he)
theorem layE_laid {L : List Nat} : ∀ (ps : List P) (b e : Nat) (W : List Way) (m : Nat), P.oks L ps → NetOk W m → b < m → e < m → Laid (P.nsetss ps) (P.sizes ps) W m e (layE ps b e W m).1 (layE ps b e W m).2
  | [], b, e, W, m, _, hW, hb, he => by rw [layE, P.nsetss, P.sizes]; exact ⟨hW, he, Nat.le_refl _, by simp, by simp⟩
  | p :: ps, b, e, W, m, ok, hW, hb, he => by
    rw [layE, P.nsetss, P.sizes]
    have h1 := (lay_laid p W m b ok.1 hW hb).way (x := e) (by have := (lay_laid p W m b ok.1 hW hb).hm; omega)
    exact h1.step (layE_laid ps b e _ _ ok.2 h1.net (by have := h1.hm; omega) (by have := h1.hm; omega))
end
end Mm
namespace Mm
open PySem L2
theorem occ_one (z : Str) (c : Nat) : (Builtin.Str.occurrences z ⟨#[c]⟩ 0 z.length 1).isEmpty = !decide (c ∈ z.cps.toList) := by
  rcases StrLaws.occ_head z ⟨#[c]⟩ 1 (Nat.le_refl 1) with ⟨h1, h2⟩ | ⟨i, r, h1, h2, _⟩
  · rw [h1]
    have : ¬ c ∈ z.cps.toList := fun h => by
      obtain ⟨k, hk, e⟩ := List.mem_iff_getElem.mp h
      exact h2 k ((StrLaws.subAt_one z c k).mpr (by rw [List.getElem?_eq_getElem hk, e]))
    simp only [List.isEmpty_nil, this, decide_false, Bool.not_false]
  · rw [h1]
    have : c ∈ z.cps.toList := List.mem_of_getElem? ((StrLaws.subAt_one z c i).mp h2)
    simp only [List.isEmpty_cons, this, decide_true, Bool.not_true]
def hasC (c : Nat) (z : Str) : Bool := decide (c ∈ z.cps.toList)
@[simp high] theorem in_ch {neg : Bool} {c : Nat} {z : Str} : inD neg (.str (ch c)) (.str z) = some (.bool (if neg then !hasC c z else hasC c z)) := by
  show some (PyData.bool (if neg then !(!(Builtin.Str.occurrences z ⟨#[c]⟩ 0 z.length 1).isEmpty) else !(Builtin.Str.occurrences z ⟨#[c]⟩ 0 z.length 1).isEmpty)) = _
  rw [occ_one]
  simp [hasC]
def setN (ns : List Nat) : List Nat := (setSort (ns.map Int.ofNat)).map Int.toNat
theorem setN_I (ns : List Nat) : I (setSort (ns.map Int.ofNat)) = N (setN ns) := by
  unfold I N setN
  rw [List.map_map]
  refine List.map_congr_left fun i hi => ?_
  rw [setSort_mem] at hi
  obtain ⟨k, _, rfl⟩ := List.mem_map.mp hi
  rfl
theorem setN_mem {ns : List Nat} {k : Nat} : k ∈ setN ns ↔ k ∈ ns := by
  unfold setN
  rw [List.mem_map]
  constructor
  · rintro ⟨i, hi, rfl⟩
    rw [setSort_mem] at hi
    obtain ⟨j, hj, rfl⟩ := List.mem_map.mp hi
    exact hj
  · intro h
    exact ⟨(k : Int), setSort_mem.mpr (List.mem_map_of_mem h), rfl⟩
theorem setN_lt (ns : List Nat) : (setN ns).Pairwise (· < ·) := by
  unfold setN
  rw [List.pairwise_map]
  refine (setSort_lt _).imp_of_mem fun {a b} ha hb h => ?_
  rw [setSort_mem] at ha hb
  obtain ⟨j, _, rfl⟩ := List.mem_map.mp ha
  obtain ⟨k, _, rfl⟩ := List.mem_map.mp hb
  show j < k
  exact Int.ofNat_lt.mp h
theorem lt_len {m : Nat} : ∀ {ns : List Nat}, ns.Pairwise (· < ·) → (∀ k ∈ ns, k < m) → ns.length ≤ m := by
  suffices h : ∀ (ns : List Nat) (b : Nat), ns.Pairwise (· < ·) → (∀ k ∈ ns, b ≤ k ∧ k < m) → b ≤ m → ns.length + b ≤ m from fun {ns} h1 h2 => h ns 0 h1 (fun k z => ⟨Nat.zero_le _, h2 k z⟩) (Nat.zero_le _)
  intro ns
  induction ns with
  | nil => intro b _ _ hb; simpa using hb
  | cons a ns ih =>
    intro b h1 h2 hb
    have ha := h2 a List.mem_cons_self
    have := ih (a + 1) (List.pairwise_cons.mp h1).2 (fun k z => ⟨(List.pairwise_cons.mp h1).1 k z, (h2 k (List.mem_cons_of_mem _ z)).2⟩) ha.2
    rw [List.length_cons]
    omega
@[simp high] theorem sset_N {ns : List Nat} {ρ : Rho} : sortedSetG (.o (.l (N ns))) ρ = if ns.length + 1 < 4096 ∧ (setN ns).length < 64 then some (.o (.l (N (setN ns)))) else none := by
  rw [N_I, sset_o, setN_I]
  simp [setN]
@[simp high] theorem sset_Nl {ns : List Nat} {ρ : Rho} : sortedSetG (.v (.list (N ns))) ρ = if ns.length + 1 < 4096 ∧ (setN ns).length < 64 then some (.o (.l (N (setN ns)))) else none := by rw [← sset_N (ρ := ρ)]; rfl
theorem any_N {a : Nat} {f : List Nat} : ((N f).any fun z => PyData.eqv z (.int (a : Int))) = decide (a ∈ f) := by
  rw [N_I, any_I]
  congr 1
  simp
  refine ⟨fun ⟨b, h1, h2⟩ => ?_, fun h => ⟨a, h, rfl⟩⟩
  have e : b = a := by omega
  rwa [e] at h1
@[simp] theorem inOk_N {a : Int} {f : List Nat} : inOk (.int a) (N f) = true := by rw [N_I]; exact inOk_I _
@[simp high] theorem inN_l {neg : Bool} {a : Nat} {f : List Nat} : inD neg (.int (a : Int)) (.list (N f)) = some (.bool (if neg then !decide (a ∈ f) else decide (a ∈ f))) := by
  rw [in_l, inOk_N, any_N]; simp
@[simp high] theorem inN_t {neg : Bool} {a : Nat} {f : List Nat} : inD neg (.int (a : Int)) (.tuple (N f)) = some (.bool (if neg then !decide (a ∈ f) else decide (a ∈ f))) := by
  rw [in_t, inOk_N, any_N]; simp
def freshOf (W : List Way) (f : List Nat) : List Nat := (W.filter fun w => decide (w.2.1 = eps) && (decide (w.1 ∈ f) && !decide (w.2.2 ∈ f))).map (·.2.2)
def spreadL (W : List Way) : Nat → List Nat → List Nat
  | 0, f => f
  | k + 1, f => if freshOf W f = [] then f else spreadL W k (f ++ setN (freshOf W f))
def spread (W : List Way) (m : Nat) (ps : List Nat) : List Nat := setN (spreadL W m ps)
abbrev netD (W : List Way) (m : Nat) : D := .list [.list (W.map wayD), .int (m : Int)]
theorem fresh_lt {W : List Way} {m : Nat} {f : List Nat} (h : NetOk W m) : ∀ k ∈ freshOf W f, k < m := fun k hk => by
  unfold freshOf at hk
  obtain ⟨w, hw, rfl⟩ := List.mem_map.mp hk
  exact (h w (List.mem_filter.mp hw).1).2
theorem spreadL_lt {W : List Way} {m : Nat} (h : NetOk W m) : ∀ (k : Nat) (f : List Nat), (∀ x ∈ f, x < m) → ∀ x ∈ spreadL W k f, x < m
  | 0, f, hf => hf
  | k + 1, f, hf => by
    rw [spreadL]
    split
    · exact hf
    · refine spreadL_lt h k _ fun x hx => ?_
      rcases List.mem_append.mp hx with hx | hx
      · exact hf x hx
      · exact fresh_lt h x (setN_mem.mp hx)
theorem spread_t {n : Nat} {W : List Way} {m : Nat} {ps : List Nat} {Q : O × List O → Prop} (hn : 1 ≤ n) (hm : m ≤ 62) (hW : W.length ≤ 4000) (hN : NetOk W m) (hp : ps.length ≤ 200) (hpm : ∀ p ∈ ps, p < m)
    (q : Q (.v (.tuple (N (spread W m ps))), [.v (netD W m), .v (.list (N ps))])) : Wp (mir n i_law_spread [.v (netD W m), .v (.list (N ps))]) Q := by
  obtain ⟨n, rfl, hn⟩ := fuel hn
  have setlt : ∀ f : List Nat, (∀ x ∈ f, x < m) → (setN f).length ≤ m := fun f hf => lt_len (setN_lt f) fun k hk => hf k (setN_mem.mp hk)
  rw [mir_law_spread, b_law_spread]
  simp [rgOk_N (k := m) (by omega), rgD_N]
  refine wi (loop_invE (fun i : Nat => PyData.int (i : Int)) (fun f : List Nat => [some (.v (netD W m)), some (.v (.list (N ps))), some (.l (N f)), none, none, none])
    (fun xs f => spreadL W xs.length f = spreadL W m ps ∧ f.length + 62 * xs.length ≤ 200 + 62 * m ∧ ∀ x ∈ f, x < m) (xs := List.range m) (t := ps) rfl rfl ⟨by simp, by simp; omega, hpm⟩ (fun i xs f hf => ?_) fun f hf => ?_)
  · obtain ⟨h1, h2, h3⟩ := hf
    rw [List.length_cons] at h1 h2
    rw [spreadL] at h1
    simp [k_law_spread_1]
    refine wi (lc_tN wayD (fun w => decide (w.2.1 = eps) && (decide (w.1 ∈ f) && !decide (w.2.2 ∈ f))) (fun w => w.2.2) (by omega) (fun w hw => ?_) ?_)
    · simp [wayD]
      by_cases a : w.2.1 = Str.ofString "" <;> by_cases b : w.1 ∈ f <;> simp [a, b]
    · rw [← freshOf]
      have hfl : (freshOf W f).length ≤ 4000 := by unfold freshOf; rw [List.length_map]; exact Nat.le_trans (List.length_filter_le _ _) hW
      have hfs := setlt _ (fresh_lt (f := f) hN)
      simp [↓i_w_ifS]
      refine ⟨fun h => ?_, fun h => ?_⟩
      · rw [if_pos h] at h1
        subst h1
        have := setlt _ (spreadL_lt hN m ps hpm)
        exact ⟨⟨by omega, by omega⟩, q⟩
      · rw [if_neg h] at h1
        refine ⟨⟨by omega, by omega⟩, ?_⟩
        refine ⟨by omega, f ++ setN (freshOf W f), by simp [N_app], h1, by rw [List.length_append]; omega, fun x hx => ?_⟩
        rcases List.mem_append.mp hx with hx | hx
        · exact h3 x hx
        · exact fresh_lt hN x (setN_mem.mp hx)
  · obtain ⟨h1, h2, h3⟩ := hf
    simp at h1 h2
    rw [spreadL] at h1
    subst h1
    have := setlt _ (spreadL_lt hN m ps hpm)
    simp
    exact ⟨⟨by omega, by omega⟩, q⟩
end Mm
namespace Mm
open PySem L2
/-! ### tuples of indexes in lists -/
def tN (s : List Nat) : D := .tuple (N s)
theorem tN_inj {a b : List Nat} : (tN a = tN b) = (a = b) := propext ⟨fun h => by injection h with h; rwa [N_inj] at h, fun h => by rw [h]⟩
theorem pl_tN (s : List Nat) : Pl 1 (tN s) := pl_tuple (pl_N s)
theorem pl_tNs (ss : List (List Nat)) : ∀ d ∈ ss.map tN, Pl 1 d := fun d z => by obtain ⟨s, _, rfl⟩ := List.mem_map.mp z; exact pl_tN s
theorem mem_tN {s : List Nat} {ss : List (List Nat)} : (tN s ∈ ss.map tN) = (s ∈ ss) := propext ⟨fun h => by
  obtain ⟨t, ht, e⟩ := List.mem_map.mp h
  rw [tN_inj] at e
  rwa [← e], fun h => List.mem_map_of_mem h⟩
@[simp high] theorem inT_l {neg : Bool} {s : List Nat} {ss : List (List Nat)} : inD neg (.tuple (N s)) (.list (ss.map tN)) = some (.bool (if neg then !decide (s ∈ ss) else decide (s ∈ ss))) := by
  show inD neg (tN s) _ = _
  rw [inL_pl (pl_tN s) (pl_tNs ss) (by decide)]
  simp only [mem_tN]
theorem find_tN {s : List Nat} : ∀ {ss : List (List Nat)}, s ∈ ss → findD (.tuple (N s)) (ss.map tN) = some (ss.idxOf s)
  | [], h => (nomatch h)
  | t :: ss, h => by
    rw [List.map_cons, findD, show PyData.eqv (tN t) (.tuple (N s)) = decide (tN t = tN s) from pl_eqv (pl_tN t) (pl_tN s)]
    simp only [tN_inj, decide_eq_true_eq]
    by_cases e : t = s
    · rw [if_pos e, e, List.idxOf_cons_self]
    · rw [if_neg e, find_tN (by rcases List.mem_cons.mp h with z | z; exact absurd z.symm e; exact z), List.idxOf_cons]
      rw [beq_false_of_ne e]
      rfl
@[simp] theorem deep_tN {s : List Nat} {ss : List (List Nat)} : inDeep (.tuple (N s)) (ss.map tN) = true := inDeep_pl (pl_tN s) (pl_tNs ss) (by decide)
/-! ### the machine -/
def ledOf (W : List Way) (c : Nat) (st : List Nat) : List Nat := (W.filter fun w => hasC c w.2.1 && decide (w.1 ∈ st)).map (·.2.2)
def stepM (W : List Way) (m : Nat) (st : List Nat) (t : List (List Nat) × List Nat) (c : Nat) : List (List Nat) × List Nat :=
  let fu := spread W m (ledOf W c st)
  let sts := if fu ∈ t.1 then t.1 else t.1 ++ [fu]
  (sts, t.2 ++ [sts.idxOf fu])
/-- the states so far, and the rows so far -/
def machL (W : List Way) (m : Nat) (cs : List Nat) : Nat → List (List Nat) × List (List Nat) → List (List Nat) × List (List Nat)
  | 0, t => t
  | k + 1, t => match t.1[t.2.length]? with
    | none => t
    | some st => let r := cs.foldl (stepM W m st) (t.1, []); machL W m cs k (r.1, t.2 ++ [r.2])
theorem led_lt {W : List Way} {m : Nat} {c : Nat} {st : List Nat} (h : NetOk W m) : ∀ k ∈ ledOf W c st, k < m := fun k hk => by
  unfold ledOf at hk
  obtain ⟨w, hw, rfl⟩ := List.mem_map.mp hk
  exact (h w (List.mem_filter.mp hw).1).2
theorem led_len {W : List Way} {c : Nat} {st : List Nat} : (ledOf W c st).length ≤ setsIn W := by
  unfold ledOf setsIn
  rw [List.length_map]
  rw [← List.countP_eq_length_filter, ← List.countP_eq_length_filter]
  refine List.countP_mono_left fun w _ h => ?_
  rw [Bool.and_eq_true] at h
  refine decide_eq_true fun e => ?_
  have h1 := h.1
  rw [e] at h1
  have e2 : (Str.ofString "").cps.toList = [] := by decide
  simp [hasC, e2] at h1
theorem spread_lt {W : List Way} {m : Nat} (h : NetOk W m) {f : List Nat} (hf : ∀ x ∈ f, x < m) : ∀ x ∈ spread W m f, x < m := fun x hx => spreadL_lt h m f hf x (setN_mem.mp hx)
/-- one turn of the letters -/
theorem mach1_t {n : Nat} {p0 ends : Option O} {W : List Way} {m : Nat} {cs : List Nat} {sts rows : List (List Nat)} {k : Nat} {st : List Nat} {Q : Fl → Prop} (hn : 1 ≤ n) (hc : Lets cs) (hm : m ≤ 62) (hW : W.length ≤ 4000) (hN : NetOk W m) (hS : setsIn W ≤ 200) (hk : sts[k]? = some st) (hsl : sts.length ≤ 300000) 
    (q : Q (.nx [p0, some (.v (.str (St cs))), some (.v (netD W m)), ends, some (.l ((cs.foldl (stepM W m st) (sts, [])).1.map tN)), some (.l (rows.map tN)), some (.v (.int (k : Int))), some (.l (N (cs.foldl (stepM W m st) (sts, [])).2)), none, none, none, none, none, none, none])) :
    Wp (loopS (nmG 8) (k_law_machine_1 (mir n)) (chD (St cs)) [p0, some (.v (.str (St cs))), some (.v (netD W m)), ends, some (.l (sts.map tN)), some (.l (rows.map tN)), some (.v (.int (k : Int))), some (.l []), none, none, none, none, none, none, none]) Q := by
  refine loop_foldE (fun c => PyData.str (ch c)) (fun t : List (List Nat) × List Nat => [p0, some (.v (.str (St cs))), some (.v (netD W m)), ends, some (.l (t.1.map tN)), some (.l (rows.map tN)), some (.v (.int (k : Int))), some (.l (N t.2)), none, none, none, none, none, none, none]) (stepM W m st)
    (fun xs t => t.2.length + xs.length ≤ 4 ∧ t.1.length + xs.length ≤ 300004 ∧ t.1[k]? = some st) (xs := cs) (t := (sts, [])) (chD_eq _) rfl ⟨by have := hc.2.2.2; simp; omega, by have := hc.2.2.2; dsimp only; omega, hk⟩ (fun c xs t ht => ?_) fun _ => q
  obtain ⟨sts1, row⟩ := t
  obtain ⟨h1, h2, h3⟩ := ht
  simp at h1 h2 h3
  simp [k_law_machine_1]
  refine wi (lc_tN wayD (fun w => hasC c w.2.1 && decide (w.1 ∈ st)) (fun w => w.2.2) (by omega) (fun w hw => ?_) ?_)
  · simp [wayD, h3, tN]
    by_cases a : hasC c w.2.1 = true <;> simp [a]
  · rw [← ledOf]
    simp
    have hl := led_len (W := W) (c := c) (st := st)
    refine spread_t (by omega) hm hW hN (by omega) (led_lt hN) ?_
    simp
    have hst : stepM W m st (sts1, row) c = (if spread W m (ledOf W c st) ∈ sts1 then sts1 else sts1 ++ [spread W m (ledOf W c st)], row ++ [(if spread W m (ledOf W c st) ∈ sts1 then sts1 else sts1 ++ [spread W m (ledOf W c st)]).idxOf (spread W m (ledOf W c st))]) := rfl
    generalize spread W m (ledOf W c st) = fu at hst
    have hln : ∀ x : Nat, N row ++ [PyData.int (x : Int)] = N (row ++ [x]) := fun x => N_snoc x row
    by_cases hfu : fu ∈ sts1
    · rw [if_pos hfu] at hst
      simp [↓i_w_ifS, hfu, find_tN hfu, hln, hst]
      exact ⟨by omega, by omega, by omega, h3⟩
    · rw [if_neg hfu] at hst
      have hm2 : fu ∈ sts1 ++ [fu] := by simp
      have e : List.map tN sts1 ++ [PyData.tuple (N fu)] = List.map tN (sts1 ++ [fu]) := by simp [tN]
      simp [↓i_w_ifS, hfu, e, -List.map_append, find_tN hm2, hln, hst]
      exact ⟨by omega, by omega, by omega, by omega, by rw [List.getElem?_append_left (List.getElem?_eq_some_iff.mp h3).1]; exact h3⟩
/-! ### what the machine comes to -/
/-- the sublists -/
def subs {α : Type} : List α → List (List α)
  | [] => [[]]
  | x :: xs => subs xs ++ (subs xs).map (x :: ·)
theorem subs_len {α : Type} : ∀ xs : List α, (subs xs).length = 2 ^ xs.length
  | [] => rfl
  | x :: xs => by rw [subs, List.length_append, List.length_map, subs_len, List.length_cons, Nat.pow_succ]; omega
theorem mem_subs {α : Type} : ∀ {ys xs : List α}, ys.Sublist xs → ys ∈ subs xs
  | _, _, .slnil => by simp [subs]
  | _, _, .cons x h => by rw [subs]; exact List.mem_append_left _ (mem_subs h)
  | _, _, .cons_cons x h => by rw [subs]; exact List.mem_append_right _ (List.mem_map_of_mem (mem_subs h))
theorem nodup_le {α : Type} [DecidableEq α] : ∀ {xs ys : List α}, xs.Nodup → (∀ x ∈ xs, x ∈ ys) → xs.length ≤ ys.length
  | [], _, _, _ => Nat.zero_le _
  | x :: xs, ys, h, k => by
    have h1 := List.nodup_cons.mp h
    have h2 : ∀ y ∈ xs, y ∈ ys.erase x := fun y hy => (List.mem_erase_of_ne (fun e => by subst e; exact h1.1 hy)).mpr (k y (List.mem_cons_of_mem _ hy))
    have h3 := nodup_le h1.2 h2
    have h4 := List.length_erase_of_mem (k x List.mem_cons_self)
    have h5 : 0 < ys.length := List.length_pos_of_mem (k x List.mem_cons_self)
    rw [List.length_cons]
    omega
/-- what may be come to by a letter -/
def cand (W : List Way) (m : Nat) : List (List Nat) := (subs (W.filter isSet)).map fun ws => spread W m (ws.map (·.2.2))
theorem mem_cand (W : List Way) (m c : Nat) (st : List Nat) : spread W m (ledOf W c st) ∈ cand W m := by
  refine List.mem_map.mpr ⟨W.filter fun w => hasC c w.2.1 && decide (w.1 ∈ st), mem_subs ?_, rfl⟩
  have e : (W.filter fun w => hasC c w.2.1 && decide (w.1 ∈ st)) = (W.filter isSet).filter fun w => hasC c w.2.1 && decide (w.1 ∈ st) := by
    rw [List.filter_filter]
    refine List.filter_congr fun w _ => ?_
    cases h : (hasC c w.2.1 && decide (w.1 ∈ st)) with
    | false => rfl
    | true =>
      rw [Bool.and_eq_true] at h
      have : isSet w = true := decide_eq_true fun e => by
        have h1 := h.1
        rw [e] at h1
        have e2 : (Str.ofString "").cps.toList = [] := by decide
        simp [hasC, e2] at h1
      rw [this]; rfl
  rw [e]
  exact List.filter_sublist
structure MInv (W : List Way) (m : Nat) (cs : List Nat) (t : List (List Nat) × List (List Nat)) : Prop where
  le : t.2.length ≤ t.1.length
  nd : t.1.Nodup
  rows : ∀ r ∈ t.2, r.length = cs.length ∧ ∀ x ∈ r, x < t.1.length
  cand : ∀ s ∈ t.1.tail, s ∈ Mm.cand W m
  ne : t.1 ≠ []
  lt : ∀ s ∈ t.1, ∀ x ∈ s, x < m
theorem stepM_inv {W : List Way} {m : Nat} {st : List Nat} {t : List (List Nat) × List Nat} {c : Nat} (hN : NetOk W m) (nd : t.1.Nodup) (ne : t.1 ≠ []) (cd : ∀ s ∈ t.1.tail, s ∈ cand W m) (lt : ∀ s ∈ t.1, ∀ x ∈ s, x < m) (hr : ∀ x ∈ t.2, x < t.1.length) :
    (stepM W m st t c).1.Nodup ∧ (stepM W m st t c).1 ≠ [] ∧ (∀ s ∈ (stepM W m st t c).1.tail, s ∈ cand W m) ∧ (∀ s ∈ (stepM W m st t c).1, ∀ x ∈ s, x < m) ∧ (∀ x ∈ (stepM W m st t c).2, x < (stepM W m st t c).1.length) ∧ (stepM W m st t c).2.length = t.2.length + 1 ∧ ∃ ex, (stepM W m st t c).1 = t.1 ++ ex := by
  have hc := mem_cand W m c st
  have hl := spread_lt hN (led_lt (c := c) (st := st) hN)
  unfold stepM
  dsimp only
  generalize spread W m (ledOf W c st) = fu at hc hl
  by_cases h : fu ∈ t.1
  · rw [if_pos h]
    refine ⟨nd, ne, cd, lt, fun x hx => ?_, by simp, [], by simp⟩
    rcases List.mem_append.mp hx with hx | hx
    · exact hr x hx
    · rw [List.mem_singleton] at hx; subst hx; exact List.idxOf_lt_length_of_mem h
  · rw [if_neg h]
    refine ⟨?_, by simp, fun s hs => ?_, fun s hs => ?_, fun x hx => ?_, by simp, [fu], rfl⟩
    · rw [List.nodup_append]
      exact ⟨nd, by simp, fun a ha b hb e => by rw [List.mem_singleton] at hb; subst hb; subst e; exact h ha⟩
    · rw [List.tail_append_of_ne_nil ne] at hs
      rcases List.mem_append.mp hs with hs | hs
      · exact cd s hs
      · rw [List.mem_singleton] at hs; subst hs; exact hc
    · rcases List.mem_append.mp hs with hs | hs
      · exact lt s hs
      · rw [List.mem_singleton] at hs; subst hs; exact hl
    · rw [List.length_append, List.length_singleton]
      rcases List.mem_append.mp hx with hx | hx
      · have := hr x hx; omega
      · rw [List.mem_singleton] at hx; subst hx
        have := List.idxOf_lt_length_of_mem (show fu ∈ t.1 ++ [fu] by simp)
        rwa [List.length_append, List.length_singleton] at this
theorem foldM_inv {W : List Way} {m : Nat} {st : List Nat} (hN : NetOk W m) : ∀ {cs : List Nat} {t : List (List Nat) × List Nat}, t.1.Nodup → t.1 ≠ [] → (∀ s ∈ t.1.tail, s ∈ cand W m) → (∀ s ∈ t.1, ∀ x ∈ s, x < m) → (∀ x ∈ t.2, x < t.1.length) →
    let r := cs.foldl (stepM W m st) t
    r.1.Nodup ∧ r.1 ≠ [] ∧ (∀ s ∈ r.1.tail, s ∈ cand W m) ∧ (∀ s ∈ r.1, ∀ x ∈ s, x < m) ∧ (∀ x ∈ r.2, x < r.1.length) ∧ r.2.length = t.2.length + cs.length ∧ ∃ ex, r.1 = t.1 ++ ex
  | [], t, a, b, c, d, e => ⟨a, b, c, d, e, rfl, [], by simp⟩
  | x :: cs, t, a, b, c, d, e => by
    obtain ⟨a1, b1, c1, d1, e1, f1, ex1, g1⟩ := stepM_inv (c := x) (st := st) hN a b c d e
    obtain ⟨a2, b2, c2, d2, e2, f2, ex2, g2⟩ := foldM_inv (st := st) hN (cs := cs) a1 b1 c1 d1 e1
    exact ⟨a2, b2, c2, d2, e2, by rw [List.foldl_cons, f2, f1, List.length_cons]; omega, ex1 ++ ex2, by rw [List.foldl_cons, g2, g1, List.append_assoc]⟩
theorem MInv.len {W : List Way} {m : Nat} {cs : List Nat} {t : List (List Nat) × List (List Nat)} (h : MInv W m cs t) : t.1.length ≤ 2 ^ setsIn W + 1 := by
  have h1 := nodup_le (List.Nodup.sublist (List.tail_sublist _) h.nd) h.cand
  have h2 : (Mm.cand W m).length = 2 ^ setsIn W := by unfold Mm.cand setsIn; rw [List.length_map, subs_len]
  rw [List.length_tail] at h1
  omega
theorem MInv.next {W : List Way} {m : Nat} {cs : List Nat} {t : List (List Nat) × List (List Nat)} {st : List Nat} (hN : NetOk W m) (h : MInv W m cs t) (hst : t.1[t.2.length]? = some st) : MInv W m cs ((cs.foldl (stepM W m st) (t.1, [])).1, t.2 ++ [(cs.foldl (stepM W m st) (t.1, [])).2]) := by
  obtain ⟨a, b, c, d, e, f, ex, g⟩ := foldM_inv (st := st) hN (cs := cs) (t := (t.1, [])) h.nd h.ne h.cand h.lt (fun x hx => nomatch hx)
  have hlt := (List.getElem?_eq_some_iff.mp hst).1
  refine ⟨by rw [g]; simp; omega, a, fun r hr => ?_, c, b, d⟩
  rcases List.mem_append.mp hr with hr | hr
  · have := h.rows r hr
    refine ⟨this.1, fun x hx => ?_⟩
    have := this.2 x hx
    rw [g]; simp; omega
  · rw [List.mem_singleton] at hr
    subst hr
    exact ⟨by simpa using f, e⟩
theorem machL_inv {W : List Way} {m : Nat} {cs : List Nat} (hN : NetOk W m) : ∀ (k : Nat) {t : List (List Nat) × List (List Nat)}, MInv W m cs t → MInv W m cs (machL W m cs k t) ∧ (2 ^ setsIn W + 1 < k + t.2.length → (machL W m cs k t).2.length = (machL W m cs k t).1.length)
  | 0, t, h => ⟨h, fun z => by have := h.len; have := h.le; omega⟩
  | k + 1, t, h => by
    rw [machL]
    split
    · rename_i e
      exact ⟨h, fun _ => by have := List.getElem?_eq_none_iff.mp e; have := h.le; omega⟩
    · rename_i st e
      have h1 := machL_inv hN k (h.next hN e)
      exact ⟨h1.1, fun z => h1.2 (by rw [List.length_append, List.length_singleton]; omega)⟩
end Mm
namespace Mm
open PySem L2
/-- the patterns laid one after the other: the places behind them, and the net -/
def layAll (t : Nat × List Way × Nat) (p : P) : Nat × (Nat × List Way × Nat) := let r := lay p t.2.1 t.2.2 t.1; (r.1, (t.1 + 1, r.2.1, r.2.2))
def labelOf (ends : List Nat) (st : List Nat) : Option Nat := ((List.range ends.length).filter fun k => decide (ends.getD k 0 ∈ st)).head?
structure Mach where
  rows : List (List Nat)
  labels : List (Option Nat)
def BIG : Nat := 200000
theorem BIG_eq : BIG = 200000 := rfl
def machine (ps : List P) (cs : List Nat) : Mach :=
  let r := mapAcc layAll ps (0, [], ps.length)
  let t := machL r.2.2.1 r.2.2.2 cs BIG ([spread r.2.2.1 r.2.2.2 (List.range ps.length)], [])
  ⟨t.2, t.1.map (labelOf r.1)⟩
def Mach.d (M : Mach) : O := .l [.tuple (M.rows.map tN), .list (M.labels.map oNat)]
theorem layAll_ok {L : List Nat} {M : Nat} : ∀ (ps : List P) (t : Nat × List Way × Nat), (∀ p ∈ ps, p.ok L) → NetOk t.2.1 t.2.2 → t.1 + ps.length ≤ M → M ≤ t.2.2 →
    let r := mapAcc layAll ps t
    NetOk r.2.2.1 r.2.2.2 ∧ t.2.2 ≤ r.2.2.2 ∧ r.2.2.2 ≤ t.2.2 + P.sizes ps ∧ setsIn r.2.2.1 = setsIn t.2.1 + P.nsetss ps ∧ r.2.2.1.length ≤ t.2.1.length + 2 * P.sizes ps ∧ r.1.length = ps.length ∧ r.2.1 = t.1 + ps.length
  | [], t, _, hN, _, _ => by
    simp only [mapAcc, P.sizes, P.nsetss]
    exact ⟨hN, Nat.le_refl _, by omega, by omega, by omega, rfl, rfl⟩
  | p :: ps, t, hp, hN, hM, hM2 => by
    rw [List.length_cons] at hM
    have h1 := lay_laid p t.2.1 t.2.2 t.1 (hp p List.mem_cons_self) hN (by omega)
    have h2 := lay_len p t.2.1 t.2.2 t.1 (hp p List.mem_cons_self)
    obtain ⟨a, b, c, d, e, f, g⟩ := layAll_ok (M := M) ps (layAll t p).2 (fun q hq => hp q (List.mem_cons_of_mem _ hq)) h1.net (by show t.1 + 1 + ps.length ≤ M; omega) (by have := h1.hm; show M ≤ _; exact Nat.le_trans hM2 this)
    have e1 : (layAll t p).2.2.2 = (lay p t.2.1 t.2.2 t.1).2.2 := rfl
    have e2 : (layAll t p).2.2.1 = (lay p t.2.1 t.2.2 t.1).2.1 := rfl
    have e3 : (layAll t p).2.1 = t.1 + 1 := rfl
    rw [e1] at b c
    rw [e2] at d e
    rw [e3] at g
    simp only [mapAcc, P.sizes, P.nsetss, List.length_cons]
    refine ⟨a, by have := h1.hm; omega, by have := h1.hz; omega, by rw [d, h1.hs]; omega, by omega, by omega, by omega⟩
theorem mapAcc_range {ps : List P} : ∀ (k j : Nat) (t : Nat × List Way × Nat), j + k = ps.length → mapAcc (fun t i => layAll t (ps.getD i .non)) (List.range' j k) t = mapAcc layAll (ps.drop j) t
  | 0, j, t, h => by rw [List.drop_of_length_le (by omega)]; rfl
  | k + 1, j, t, h => by
    have hj : j < ps.length := by omega
    rw [List.drop_eq_getElem_cons hj, List.range'_succ, mapAcc, mapAcc]
    have e : ps.getD j .non = ps[j] := by rw [List.getD_eq_getElem?_getD, List.getElem?_eq_getElem hj]; rfl
    rw [e, mapAcc_range k (j + 1) _ (by omega)]
theorem machine_t {L : List Nat} {n k : Nat} {ps : List P} {cs : List Nat} {Q : O × List O → Prop} (hn : k + 2 ≤ n) (hc : Lets cs) (hk : ∀ p ∈ ps, p.depth ≤ k) (hp : ∀ p ∈ ps, p.ok L) (hps : ps ≠ []) (hsz : P.sizes ps + ps.length ≤ 62) (hns : P.nsetss ps ≤ 16)
    (q : Q ((machine ps cs).d, [.v (.list (P.ds ps)), .v (.str (St cs))])) : Wp (mir n i_law_machine [.v (.list (P.ds ps)), .v (.str (St cs))]) Q := by
  obtain ⟨n, rfl, hn⟩ := fuel hn
  have hlen : (P.ds ps).length = ps.length := by rw [ds_map, List.length_map]
  have hd : ∀ i : Nat, (P.ds ps)[i]? = ps[i]?.map P.d := fun i => by rw [ds_map, List.getElem?_map]
  obtain ⟨A1, A2, A3, A4, A5, A6, A7⟩ := layAll_ok (L := L) (M := ps.length) ps (0, [], ps.length) hp (fun w z => nomatch z) (by simp) (Nat.le_refl _)
  rw [mir_law_machine, b_law_machine]
  simp [hlen, rgOk_N (k := ps.length) (by omega), rgD_N]
  refine wi (lc_acc (fun t : Nat × List Way × Nat => [some (.v (.list (P.ds ps))), some (.v (.str (St cs))), some (.c [.l (t.2.1.map wayD), .v (.int (t.2.2 : Int))]), none, none, none, none, none, none, none, none, none, none, none, none]) (fun i : Nat => PyData.int (i : Int)) (fun i : Nat => PyData.int (i : Int)) (fun t i => layAll t (ps.getD i .non)) (fun xs t => t.1 + xs.length = ps.length ∧ xs = List.range' t.1 xs.length ∧ t.2.1.length + 2 * P.sizes (ps.drop t.1) ≤ 2 * P.sizes ps) (xs := List.range ps.length) (t := (0, [], ps.length)) rfl rfl (by simp; omega) ⟨by simp, by simp [List.range_eq_range'], by simp⟩ (fun i xs t ht => ?_) fun _ => ?_)
  · obtain ⟨j, W, m⟩ := t
    obtain ⟨h1, h2, h3⟩ := ht
    simp [List.range'_succ] at h1 h2 h3
    obtain ⟨rfl, h2⟩ := h2
    have hj : i < ps.length := by omega
    have hget : ps[i]? = some ps[i] := List.getElem?_eq_getElem hj
    have hmem : ps[i] ∈ ps := List.getElem_mem hj
    rw [List.drop_eq_getElem_cons hj, P.sizes] at h3
    have hll := lay_len ps[i] W m i (hp _ hmem)
    simp [hd, hget]
    refine lay_t (k := k) (by omega) (hk _ hmem) (hp _ hmem) (by omega) ?_
    simp [layAll, hget]
    refine ⟨by omega, ?_, by omega⟩
    rw [h2]
    simp
  · rw [List.range_eq_range', mapAcc_range _ _ _ (Nat.zero_add _), List.drop_zero]
    generalize hr : mapAcc layAll ps (0, [], ps.length) = r at A1 A2 A3 A4 A5 A6 A7
    obtain ⟨ends, j, W, m⟩ := r
    simp at A1 A2 A3 A4 A5 A6 A7
    have hpl : 0 < ps.length := List.length_pos_iff.mpr hps
    simp [hlen, rgOk_N (k := ps.length) (by omega), rgD_N]
    refine spread_t (by omega) (by omega) (by omega) A1 (by simp; omega) (fun p hp => by have := List.mem_range.mp hp; omega) ?_
    have hrg : rgOk 0 200000 = true := by decide
    have hrd : rgD 0 200000 = N (List.range BIG) := rgD_N 200000
    simp [hrg, hrd]
    have hm1 : MInv W m cs ([spread W m (List.range ps.length)], []) := ⟨by simp, by simp, fun r hr => (nomatch hr), fun s hs => (nomatch hs), by simp, fun s hs => by
      rw [List.mem_singleton] at hs; subst hs
      exact spread_lt A1 fun x hx => by have := List.mem_range.mp hx; omega⟩
    have hS : setsIn W ≤ 16 := by have e : setsIn ([] : List Way) = 0 := rfl; omega
    have hpow : 2 ^ setsIn W ≤ 65536 := Nat.pow_le_pow_right (by decide) hS
    have hBIG := BIG_eq
    have hfin := machL_inv (cs := cs) A1 BIG hm1
    have hmach : machine ps cs = ⟨(machL W m cs BIG ([spread W m (List.range ps.length)], [])).2, (machL W m cs BIG ([spread W m (List.range ps.length)], [])).1.map (labelOf ends)⟩ := by
      unfold machine
      rw [hr]
    rw [hmach] at q
    refine wi (loop_brk (fun i : Nat => PyData.int (i : Int)) (fun t : List (List Nat) × List (List Nat) => [some (.v (.list (P.ds ps))), some (.v (.str (St cs))), some (.v (netD W m)), some (.v (.list (N ends))), some (.l (t.1.map tN)), some (.l (t.2.map tN)), none, none, none, none, none, none, none, none, none])
      (fun xs t => MInv W m cs t ∧ xs = List.range' t.2.length xs.length ∧ t.2.length + xs.length = BIG ∧ machL W m cs xs.length t = machL W m cs BIG ([spread W m (List.range ps.length)], []))
      (fun t => t = machL W m cs BIG ([spread W m (List.range ps.length)], [])) (xs := List.range BIG) (t := ([spread W m (List.range ps.length)], [])) rfl rfl ⟨hm1, by simp [List.range_eq_range'], by simp, by simp⟩ (fun i xs t ht => ?_) (fun t ht => ht.2.2.2) fun t ht => ?_)
    · obtain ⟨sts, rows⟩ := t
      obtain ⟨h1, h2, h3, h4⟩ := ht
      simp [List.range'_succ] at h2 h3
      obtain ⟨rfl, h2⟩ := h2
      have hl1 := h1.len
      simp at hl1
      simp [k_law_machine_2, ↓i_w_ifS]
      rw [List.length_cons, machL] at h4
      refine ⟨fun hge => ?_, fun hlt => ?_⟩
      · rw [List.getElem?_eq_none hge] at h4
        exact ⟨(sts, rows), rfl, h4⟩
      · have hst : sts[rows.length]? = some sts[rows.length] := List.getElem?_eq_getElem hlt
        rw [hst] at h4
        dsimp only at h4
        have hnext := h1.next A1 hst
        refine wi (mach1_t (by omega) hc (by omega) (by omega) A1 (by omega) hst (by omega) ?_)
        simp
        refine ⟨by omega, _, ?_, hnext, ?_, ?_, h4⟩
        · simp [tN]
        · rw [h2]; simp
        · simp; omega
    · rw [← ht] at q hfin
      have hl1 := hfin.1.len
      simp
      refine wi (lc_m tN oNat (labelOf ends) (by omega) (fun st hst => ?_) ?_)
      · simp [A6, rgOk_N (k := ps.length) (by omega), rgD_N]
        refine wi (lc_tN (fun i : Nat => PyData.int (i : Int)) (fun k => decide (ends.getD k 0 ∈ st)) (fun k => k) (by simp; omega) (fun k hk => ?_) ?_)
        · have hk2 : k < ends.length := by rw [A6]; exact List.mem_range.mp hk
          simp [N_get, List.getElem?_eq_getElem hk2, tN]
        · simp
          have hlo : labelOf ends st = (List.filter (fun k => decide (ends[k]?.getD 0 ∈ st)) (List.range ps.length)).head? := by
            unfold labelOf
            rw [A6]
            simp
          rw [hlo]
          have hle : (List.filter (fun k => decide (ends[k]?.getD 0 ∈ st)) (List.range ps.length)).length ≤ ps.length := Nat.le_trans (List.length_filter_le _ _) (by simp)
          refine ⟨by omega, ?_⟩
          generalize List.filter (fun k => decide (ends[k]?.getD 0 ∈ st)) (List.range ps.length) = xs
          cases xs with
          | nil => simp [oNat]
          | cons x xs => simp [oNat, N_cons]
      · simp
        simpa [Mach.d] using q
end Mm
namespace Mm
open PySem L2
theorem find_N {a : Nat} {f : List Nat} (h : a ∈ f) : findD (.int (a : Int)) (N f) = some (f.idxOf a) := enc_nat.find h
/-- rows and labels that go together -/
structure Mach.Ok (M : Mach) (w : Nat) : Prop where
  len : M.labels.length = M.rows.length
  ne : 0 < M.rows.length
  le : M.rows.length ≤ 100000
  rows : ∀ r ∈ M.rows, r.length = w ∧ ∀ x ∈ r, x < M.rows.length
  w : w ≤ 100000
def markD (p : Nat × List Nat) : D := .tuple [.int (p.1 : Int), .tuple (N p.2)]
theorem enc_mark : Enc markD 2 := ⟨fun a b q => by
  injection q with q
  simp at q
  exact Prod.ext (Int.ofNat.inj q.1) q.2, fun a => pl_tuple fun d hd => by
    simp at hd
    rcases hd with rfl | rfl
    · exact (pl_int _).mono (by decide)
    · exact pl_tN _⟩
def marksOf (rows : List (List Nat)) (cl : List Nat) : List (Nat × List Nat) := (List.range rows.length).map fun k => (cl.getD k 0, (rows.getD k []).map fun to => cl.getD to 0)
def freshCl (rows : List (List Nat)) (cl : List Nat) : List Nat := (marksOf rows cl).map ((marksOf rows cl).idxOf ·)
def refineL (rows : List (List Nat)) : Nat → List Nat → List Nat
  | 0, cl => cl
  | k + 1, cl => if freshCl rows cl = cl then cl else refineL rows k (freshCl rows cl)
def ordStep (cl : List Nat) (o : List Nat) (to : Nat) : List Nat := if cl.getD to 0 ∈ o then o else o ++ [cl.getD to 0]
def ordL (rows : List (List Nat)) (cl : List Nat) : Nat → Nat → List Nat → List Nat
  | 0, _, o => o
  | k + 1, i, o => match o[i]? with
    | none => o
    | some s => ordL rows cl k (i + 1) ((rows.getD s []).foldl (ordStep cl) o)
def leastCl (M : Mach) : List Nat := refineL M.rows M.rows.length (M.labels.map (M.labels.idxOf ·))
def leastOrd (M : Mach) : List Nat := ordL M.rows (leastCl M) M.rows.length 0 [(leastCl M).getD 0 0]
def leastM (M : Mach) : Mach := ⟨(leastOrd M).map fun k => (M.rows.getD k []).map fun to => (leastOrd M).idxOf ((leastCl M).getD to 0), (leastOrd M).map fun k => M.labels.getD k none⟩
/-- classes of n states -/
def ClOk (n : Nat) (cl : List Nat) : Prop := cl.length = n ∧ ∀ c ∈ cl, c < n
theorem idx_ok {α : Type} [BEq α] [LawfulBEq α] (xs : List α) : ClOk xs.length (xs.map (xs.idxOf ·)) := ⟨by simp, fun c hc => by
  obtain ⟨x, hx, rfl⟩ := List.mem_map.mp hc
  exact List.idxOf_lt_length_of_mem hx⟩
theorem fresh_ok (rows : List (List Nat)) (cl : List Nat) : ClOk rows.length (freshCl rows cl) := by
  have h := idx_ok (marksOf rows cl)
  have e : (marksOf rows cl).length = rows.length := by simp [marksOf]
  rwa [e] at h
theorem refine_ok {rows : List (List Nat)} : ∀ (k : Nat) {cl : List Nat}, ClOk rows.length cl → ClOk rows.length (refineL rows k cl)
  | 0, _, h => h
  | k + 1, cl, h => by
    rw [refineL]
    split
    · exact h
    · exact refine_ok k (fresh_ok rows cl)
theorem ClOk.get {n k : Nat} {cl : List Nat} (h : ClOk n cl) (hk : k < n) : cl[k]? = some (cl.getD k 0) ∧ cl.getD k 0 < n := by
  have hk2 : k < cl.length := by rw [h.1]; exact hk
  have e : cl.getD k 0 = cl[k] := by rw [List.getD_eq_getElem?_getD, List.getElem?_eq_getElem hk2]; rfl
  exact ⟨by rw [e]; exact List.getElem?_eq_getElem hk2, by rw [e]; exact h.2 _ (List.getElem_mem hk2)⟩
theorem Mach.Ok.row {M : Mach} {w k : Nat} (h : M.Ok w) (hk : k < M.rows.length) : M.rows[k]? = some (M.rows.getD k []) ∧ (M.rows.getD k []).length = w ∧ ∀ x ∈ M.rows.getD k [], x < M.rows.length := by
  have e : M.rows.getD k [] = M.rows[k] := by rw [List.getD_eq_getElem?_getD, List.getElem?_eq_getElem hk]; rfl
  have := h.rows _ (List.getElem_mem hk)
  rw [e]
  exact ⟨List.getElem?_eq_getElem hk, this⟩
/-- the order so far: i of them are done -/
structure OInv (rows : List (List Nat)) (cl : List Nat) (i : Nat) (o : List Nat) : Prop where
  nd : o.Nodup
  lt : ∀ s ∈ o, s < rows.length
  le : i ≤ o.length
  ne : o ≠ []
  done : ∀ j s, j < i → o[j]? = some s → ∀ to ∈ rows.getD s [], cl.getD to 0 ∈ o
theorem ordFold {rows : List (List Nat)} {cl : List Nat} (hc : ClOk rows.length cl) : ∀ {tos o : List Nat}, (∀ x ∈ tos, x < rows.length) → o.Nodup → (∀ s ∈ o, s < rows.length) →
    (tos.foldl (ordStep cl) o).Nodup ∧ (∀ s ∈ tos.foldl (ordStep cl) o, s < rows.length) ∧ (∃ ex, tos.foldl (ordStep cl) o = o ++ ex) ∧ ∀ to ∈ tos, cl.getD to 0 ∈ tos.foldl (ordStep cl) o
  | [], o, _, h1, h2 => ⟨h1, h2, ⟨[], by simp⟩, fun _ z => nomatch z⟩
  | to :: tos, o, ht, h1, h2 => by
    have hto := (hc.get (ht to List.mem_cons_self)).2
    have a : (ordStep cl o to).Nodup ∧ (∀ s ∈ ordStep cl o to, s < rows.length) ∧ (∃ ex, ordStep cl o to = o ++ ex) ∧ cl.getD to 0 ∈ ordStep cl o to := by
      unfold ordStep
      split
      · rename_i hin; exact ⟨h1, h2, ⟨[], by simp⟩, hin⟩
      · rename_i hin
        refine ⟨?_, fun s hs => ?_, ⟨_, rfl⟩, by simp⟩
        · rw [List.nodup_append]
          exact ⟨h1, by simp, fun a ha b hb e => by rw [List.mem_singleton] at hb; subst hb; subst e; exact hin ha⟩
        · rcases List.mem_append.mp hs with hs | hs
          · exact h2 s hs
          · rw [List.mem_singleton] at hs; subst hs; exact hto
    obtain ⟨b1, b2, ⟨ex, b3⟩, b4⟩ := ordFold hc (tos := tos) (fun x z => ht x (List.mem_cons_of_mem _ z)) a.1 a.2.1
    obtain ⟨ex0, a3⟩ := a.2.2.1
    rw [List.foldl_cons]
    refine ⟨b1, b2, ⟨ex0 ++ ex, by rw [b3, a3, List.append_assoc]⟩, fun x hx => ?_⟩
    rcases List.mem_cons.mp hx with rfl | hx
    · rw [b3]; exact List.mem_append_left _ a.2.2.2
    · exact b4 x hx
theorem OInv.next {rows : List (List Nat)} {cl : List Nat} {i s : Nat} {o : List Nat} (hr : ∀ k, k < rows.length → ∀ x ∈ rows.getD k [], x < rows.length) (hc : ClOk rows.length cl) (h : OInv rows cl i o) (hs : o[i]? = some s) : OInv rows cl (i + 1) ((rows.getD s []).foldl (ordStep cl) o) := by
  have hi := (List.getElem?_eq_some_iff.mp hs).1
  have hmem : s ∈ o := List.mem_of_getElem? hs
  obtain ⟨a, b, ⟨ex, c⟩, d⟩ := ordFold hc (tos := rows.getD s []) (o := o) (hr s (h.lt s hmem)) h.nd h.lt
  refine ⟨a, b, by rw [c]; simp; omega, by rw [c]; simp [h.ne], fun j t hj ht to hto => ?_⟩
  rw [c, List.getElem?_append_left (by omega)] at ht
  by_cases e : j = i
  · subst e
    rw [hs] at ht
    cases ht
    exact d to hto
  · have := h.done j t (by omega) ht to hto
    rw [c]
    exact List.mem_append_left _ this
theorem OInv.len {rows : List (List Nat)} {cl : List Nat} {i : Nat} {o : List Nat} (h : OInv rows cl i o) : o.length ≤ rows.length := by
  have := nodup_le h.nd (ys := List.range rows.length) fun s hs => List.mem_range.mpr (h.lt s hs)
  simpa using this
theorem ordL_inv {rows : List (List Nat)} {cl : List Nat} (hr : ∀ k, k < rows.length → ∀ x ∈ rows.getD k [], x < rows.length) (hc : ClOk rows.length cl) : ∀ (k i : Nat) {o : List Nat}, OInv rows cl i o → i + k = rows.length → OInv rows cl (ordL rows cl k i o).length (ordL rows cl k i o)
  | 0, i, o, h, e => by
    have := h.len
    have := h.le
    rw [ordL, show o.length = i by omega]
    exact h
  | k + 1, i, o, h, e => by
    rw [ordL]
    split
    · rename_i hn
      have := List.getElem?_eq_none_iff.mp hn
      have := h.le
      rw [show o.length = i by omega]
      exact h
    · rename_i s hs
      exact ordL_inv hr hc k (i + 1) (h.next hr hc hs) (by omega)
end Mm
namespace Mm
open PySem L2
theorem ClOk.at {n k : Nat} {cl : List Nat} (h : ClOk n cl) (hk : k < n) : ∃ c, cl[k]? = some c ∧ c < n := ⟨_, (h.get hk).1, (h.get hk).2⟩
theorem Mach.Ok.at {M : Mach} {w k : Nat} (h : M.Ok w) (hk : k < M.rows.length) : ∃ r, M.rows[k]? = some r ∧ r.length = w ∧ ∀ x ∈ r, x < M.rows.length := ⟨_, (h.row hk).1, (h.row hk).2⟩
theorem leastm_t {n w : Nat} {M : Mach} {Q : O × List O → Prop} (hn : 1 ≤ n) (hM : M.Ok w) 
    (q : Q ((leastM M).d, [.v (.tuple (M.rows.map tN)), .v (.list (M.labels.map oNat))])) : Wp (mir n i_law_least_machine [.v (.tuple (M.rows.map tN)), .v (.list (M.labels.map oNat))]) Q := by
  obtain ⟨n, rfl, hn⟩ := fuel hn
  have hle := hM.le
  have hr : ∀ k, k < M.rows.length → ∀ x ∈ M.rows.getD k [], x < M.rows.length := fun k hk => (hM.row hk).2.2
  have hcl0 : ClOk M.rows.length (M.labels.map (M.labels.idxOf ·)) := by have := idx_ok M.labels; rwa [hM.len] at this
  have hcl : ClOk M.rows.length (leastCl M) := refine_ok _ hcl0
  have ho0 : OInv M.rows (leastCl M) 0 [(leastCl M).getD 0 0] := ⟨by simp, fun s hs => by rw [List.mem_singleton] at hs; subst hs; exact (hcl.get hM.ne).2, Nat.zero_le _, by simp, fun j s hj => by omega⟩
  have hord : OInv M.rows (leastCl M) (leastOrd M).length (leastOrd M) := ordL_inv hr hcl _ _ ho0 (Nat.zero_add _)
  rw [mir_law_least_machine, b_law_least_machine]
  simp
  refine wi (lc_mN oNat (fun l => M.labels.idxOf l) (by rw [hM.len]; omega) (fun l hl => ?_) ?_)
  · simp [enc_oNat.deep (by decide), enc_oNat.find hl]
  simp [rgOk_N (k := M.rows.length) (by omega), rgD_N]
  refine wi (loop_brk (fun i : Nat => PyData.int (i : Int)) (fun cl : List Nat => [some (.v (.tuple (M.rows.map tN))), some (.v (.list (M.labels.map oNat))), some (.v (.list (N cl))), none, none, none, none, none, none, none, none, none])
    (fun xs cl => ClOk M.rows.length cl ∧ refineL M.rows xs.length cl = leastCl M) (fun cl => cl = leastCl M) (xs := List.range M.rows.length) (t := M.labels.map (M.labels.idxOf ·)) rfl rfl ⟨hcl0, by simp [leastCl]⟩ (fun i xs cl hcl => ?_) (fun cl h => by simpa [refineL] using h.2) fun cl hcle => ?_)
  · obtain ⟨hc, he⟩ := hcl
    simp [k_law_least_machine_3, rgOk_N (k := M.rows.length) (by omega), rgD_N]
    refine wi (lc_m (fun i : Nat => PyData.int (i : Int)) markD (fun k => (cl.getD k 0, (M.rows.getD k []).map fun to => cl.getD to 0)) (by simp; omega) (fun k hk => ?_) ?_)
    · have hk := List.mem_range.mp hk
      obtain ⟨c, ec, hcl⟩ := hc.at hk
      obtain ⟨r, er, hrl, hrx⟩ := hM.at hk
      simp [N_get, ec, er, tN]
      refine wi (lc_mN (fun i : Nat => PyData.int (i : Int)) (fun to => cl.getD to 0) (by have := hM.w; omega) (fun to hto => ?_) ?_)
      · obtain ⟨c2, ec2, _⟩ := hc.at (hrx to hto)
        simp [N_get, ec2]
      · simp [markD, ec, er]
    · rw [← marksOf]
      simp
      refine wi (lc_mN markD ((marksOf M.rows cl).idxOf ·) (by simp [marksOf]; omega) (fun mk hmk => ?_) ?_)
      · simp [enc_mark.deep (by decide), enc_mark.find hmk]
      · rw [← freshCl]
        simp [↓i_w_ifS]
        rw [List.length_cons, refineL] at he
        refine ⟨fun h => ⟨cl, rfl, ?_⟩, fun h => ⟨_, rfl, fresh_ok _ _, ?_⟩⟩
        · rwa [if_pos h] at he
        · rwa [if_neg h] at he
  · subst hcle
    obtain ⟨c, ec, hcl0⟩ := hcl.at hM.ne
    simp [N_get, ec, rgOk_N (k := M.rows.length) (by omega), rgD_N]
    refine wi (loop_brk (fun i : Nat => PyData.int (i : Int)) (fun o : List Nat => [some (.v (.tuple (M.rows.map tN))), some (.v (.list (M.labels.map oNat))), some (.v (.list (N (leastCl M)))), none, none, none, some (.l (N o)), none, none, none, none, none])
      (fun xs o => ∃ i, xs = List.range' i xs.length ∧ i + xs.length = M.rows.length ∧ OInv M.rows (leastCl M) i o ∧ ordL M.rows (leastCl M) xs.length i o = leastOrd M) (fun o => o = leastOrd M) (xs := List.range M.rows.length) (t := [c]) rfl rfl ⟨0, by simp [List.range_eq_range'], by simp, ?_, ?_⟩ (fun i xs o ho => ?_) (fun o h => ?_) fun o ho => ?_)
    · have : (leastCl M).getD 0 0 = c := by rw [List.getD_eq_getElem?_getD, ec]; rfl
      rw [← this]; exact ho0
    · have : (leastCl M).getD 0 0 = c := by rw [List.getD_eq_getElem?_getD, ec]; rfl
      rw [← this]; simp [leastOrd]
    · obtain ⟨i2, h1, h2, h3, h4⟩ := ho
      simp [List.range'_succ] at h1 h2
      obtain ⟨rfl, h1⟩ := h1
      rw [List.length_cons, ordL] at h4
      simp [k_law_least_machine_2, ↓i_w_ifS]
      refine ⟨fun h => ?_, fun h => ?_⟩
      · rw [List.getElem?_eq_none h] at h4
        exact ⟨o, rfl, h4⟩
      · have hs : o[i]? = some o[i] := List.getElem?_eq_getElem h
        generalize o[i] = s at hs
        have hsl := h3.lt s (List.mem_of_getElem? hs)
        obtain ⟨r, er, hrl, hrx⟩ := hM.at hsl
        rw [hs] at h4
        have hnx := h3.next hr hcl hs
        have erd : M.rows.getD s [] = r := by rw [List.getD_eq_getElem?_getD, er]; rfl
        rw [erd] at hnx
        dsimp only at h4
        rw [erd] at h4
        simp [N_get, hs, er, tN]
        refine wi (loop_foldE (fun i : Nat => PyData.int (i : Int)) (fun o : List Nat => [some (.v (.tuple (M.rows.map tN))), some (.v (.list (M.labels.map oNat))), some (.v (.list (N (leastCl M)))), none, none, none, some (.l (N o)), none, none, none, none, none]) (ordStep (leastCl M)) (fun tos o => (∀ x ∈ tos, x < M.rows.length) ∧ o.length + tos.length ≤ 1000000) (xs := r) (t := o) rfl rfl ⟨hrx, by have := h3.len; have := hM.w; omega⟩ (fun to tos o hto => ?_) fun _ => ?_)
        · obtain ⟨c2, ec2, hc2⟩ := hcl.at (hto.1 to List.mem_cons_self)
          have ec3 : (leastCl M).getD to 0 = c2 := by rw [List.getD_eq_getElem?_getD, ec2]; rfl
          have hl := hto.2
          rw [List.length_cons] at hl
          have htos : ∀ x ∈ tos, x < M.rows.length := fun x hx => hto.1 x (List.mem_cons_of_mem _ hx)
          by_cases hin : c2 ∈ o
          · simp [k_law_least_machine_1, N_get, ec2, ↓i_w_ifS, ordStep, hin]
            exact ⟨htos, by omega⟩
          · simp [k_law_least_machine_1, N_get, ec2, ↓i_w_ifS, ordStep, hin, N_snoc]
            exact ⟨by omega, htos, by omega⟩
        · simp
          exact ⟨_, by simp [tN], _, h1, by omega, hnx, h4⟩
    · obtain ⟨i2, h1, h2, h3, h4⟩ := h
      simpa [ordL] using h4
    · subst ho
      simp
      have hlen := hord.len
      refine wi (lc_m (fun i : Nat => PyData.int (i : Int)) tN (fun k => (M.rows.getD k []).map fun to => (leastOrd M).idxOf ((leastCl M).getD to 0)) (by omega) (fun s hs => ?_) ?_)
      · obtain ⟨r, er, hrl, hrx⟩ := hM.at (hord.lt s hs)
        simp [N_get, er, tN]
        refine wi (lc_mN (fun i : Nat => PyData.int (i : Int)) (fun to => (leastOrd M).idxOf ((leastCl M).getD to 0)) (by have := hM.w; omega) (fun to hto => ?_) ?_)
        · obtain ⟨c2, ec2, _⟩ := hcl.at (hrx to hto)
          have hin : c2 ∈ leastOrd M := by
            obtain ⟨j, hj, ej⟩ := List.mem_iff_getElem.mp hs
            have := hord.done j s hj (by rw [List.getElem?_eq_getElem hj, ej]) to (by rw [List.getD_eq_getElem?_getD, er]; exact hto)
            rw [List.getD_eq_getElem?_getD, ec2] at this
            exact this
          simp [N_get, ec2, find_N hin]
        · simp [er, tN]
      · simp
        refine wi (lc_m (fun i : Nat => PyData.int (i : Int)) oNat (fun k => M.labels.getD k none) (by omega) (fun s hs => ?_) ?_)
        · have hs2 : s < M.labels.length := by rw [hM.len]; exact hord.lt s hs
          simp [List.getElem?_eq_getElem hs2]
        · simp
          simpa [Mach.d, leastM] using q
end Mm
namespace Mm
open PySem L2
structure Tb where
  L : List Nat
  rows : List (List Nat)
  fits : List Nat
def Tb.d (T : Tb) : D := .tuple [.str (St T.L), .tuple (T.rows.map tN), .tuple (N T.fits)]
/-- a table with at most m states -/
structure Tb.Ok (T : Tb) (m : Nat) : Prop where
  L : Lets T.L
  ne : 0 < T.rows.length
  le : T.rows.length ≤ m
  rows : ∀ r ∈ T.rows, r.length = T.L.length ∧ ∀ x ∈ r, x < T.rows.length
  fits : T.fits.Pairwise (· < ·) ∧ ∀ x ∈ T.fits, x < T.rows.length
/-- the states that keep p -/
def keepN (n : Nat) (p : Nat → Bool) : List Nat := (List.range n).filter p
theorem range_lt (n : Nat) : (List.range n).Pairwise (· < ·) := List.pairwise_lt_range
theorem keepN_ok (n : Nat) (p : Nat → Bool) : (keepN n p).Pairwise (· < ·) ∧ ∀ x ∈ keepN n p, x < n := ⟨(range_lt n).sublist List.filter_sublist, fun x hx => List.mem_range.mp (List.mem_filter.mp hx).1⟩
/-- a machine of a table: 1 for what fits -/
def Tb.mach (T : Tb) : Mach := ⟨T.rows, (List.range T.rows.length).map fun k => some (if k ∈ T.fits then 1 else 0)⟩
def leastT (T : Tb) : Tb := ⟨T.L, (leastM T.mach).rows, keepN (leastM T.mach).rows.length fun k => decide ((leastM T.mach).labels.getD k none = some 1)⟩
theorem leastM_ok {M : Mach} {w : Nat} (h : M.Ok w) : (leastM M).Ok w ∧ (leastM M).rows.length ≤ M.rows.length := by
  have hr : ∀ k, k < M.rows.length → ∀ x ∈ M.rows.getD k [], x < M.rows.length := fun k hk => (h.row hk).2.2
  have hcl0 : ClOk M.rows.length (M.labels.map (M.labels.idxOf ·)) := by have := idx_ok M.labels; rwa [h.len] at this
  have hcl : ClOk M.rows.length (leastCl M) := refine_ok _ hcl0
  have ho0 : OInv M.rows (leastCl M) 0 [(leastCl M).getD 0 0] := ⟨by simp, fun s hs => by rw [List.mem_singleton] at hs; subst hs; exact (hcl.get h.ne).2, Nat.zero_le _, by simp, fun j s hj => by omega⟩
  have hord : OInv M.rows (leastCl M) (leastOrd M).length (leastOrd M) := ordL_inv hr hcl _ _ ho0 (Nat.zero_add _)
  have e : (leastM M).rows.length = (leastOrd M).length := by simp [leastM]
  have hlen := hord.len
  refine ⟨⟨by simp [leastM], by rw [e]; exact List.length_pos_iff.mpr hord.ne, by rw [e]; have := h.le; omega, fun r hr2 => ?_, h.w⟩, by rw [e]; exact hlen⟩
  obtain ⟨s, hs, rfl⟩ := List.mem_map.mp (show r ∈ (leastOrd M).map fun k => (M.rows.getD k []).map fun to => (leastOrd M).idxOf ((leastCl M).getD to 0) from hr2)
  have hsl := hord.lt s hs
  refine ⟨by rw [List.length_map]; exact (h.row hsl).2.1, fun x hx => ?_⟩
  obtain ⟨to, hto, rfl⟩ := List.mem_map.mp hx
  rw [e]
  refine List.idxOf_lt_length_of_mem ?_
  obtain ⟨j, hj, ej⟩ := List.mem_iff_getElem.mp hs
  exact hord.done j s hj (by rw [List.getElem?_eq_getElem hj, ej]) to hto
theorem Tb.Ok.mach_ok {T : Tb} {m : Nat} (h : T.Ok m) (hm : m ≤ 100000) : T.mach.Ok T.L.length := ⟨by simp [Tb.mach], h.ne, Nat.le_trans h.le hm, h.rows, by have := h.L.2.2.2; omega⟩
theorem leastT_ok {T : Tb} {m : Nat} (h : T.Ok m) (hm : m ≤ 100000) : (leastT T).Ok m := by
  obtain ⟨h1, h2⟩ := leastM_ok (h.mach_ok hm)
  exact ⟨h.L, h1.ne, Nat.le_trans h2 h.le, h1.rows, keepN_ok _ _⟩
theorem least_t {n m : Nat} {T : Tb} {Q : O × List O → Prop} (hn : 2 ≤ n) (hT : T.Ok m) (hm : m ≤ 100000) (q : Q (.v (leastT T).d, [.v T.d])) : Wp (mir n i_law_least [.v T.d]) Q := by
  obtain ⟨n, rfl, hn⟩ := fuel hn
  have hk := hT.mach_ok hm
  have hle := hT.le
  obtain ⟨h1, h2⟩ := leastM_ok hk
  have h3 : T.mach.rows = T.rows := rfl
  rw [mir_law_least, b_law_least]
  simp [Tb.d, rgOk_N (k := T.rows.length) (by omega), rgD_N]
  refine wi (lc_mN (fun i : Nat => PyData.int (i : Int)) (fun k => if k ∈ T.fits then 1 else 0) (by simp; omega) (fun k hk => ?_) ?_)
  · simp
    split <;> rfl
  simp
  have e : N ((List.range T.rows.length).map fun k => if k ∈ T.fits then 1 else 0) = T.mach.labels.map oNat := by
    unfold N Tb.mach
    simp [oNat]
  rw [e, ← h3]
  refine leastm_t (by omega) hk ?_
  have hl : (leastM T.mach).rows.length ≤ 100000 := by rw [h3] at h2; omega
  simp [Mach.d, rgOk_N (k := (leastM T.mach).rows.length) (by omega), rgD_N]
  refine wi (lc_tN (fun i : Nat => PyData.int (i : Int)) (fun k => decide ((leastM T.mach).labels.getD k none = some 1)) (fun k => k) (by simp; omega) (fun k hk => ?_) ?_)
  · have hk := List.mem_range.mp hk
    have hk2 : k < (leastM T.mach).labels.length := by rw [h1.len]; exact hk
    obtain ⟨l, el⟩ : ∃ l, (leastM T.mach).labels[k]? = some l := ⟨_, List.getElem?_eq_getElem hk2⟩
    simp [el]
    cases l with
    | none => simp [oNat, el]
    | some l => simp [oNat, el]; omega
  · simp
    simpa [leastT, Tb.d, keepN] using q
def tableOf (p : P) (cs : List Nat) : Tb := ⟨cs, (machine [p] cs).rows, keepN (machine [p] cs).rows.length fun k => decide ((machine [p] cs).labels.getD k none = some 0)⟩
theorem machine_ok {L : List Nat} {ps : List P} {cs : List Nat} (hc : Lets cs) (hp : ∀ p ∈ ps, p.ok L) (hps : ps ≠ []) (hns : P.nsetss ps ≤ 16) : (machine ps cs).Ok cs.length ∧ (machine ps cs).rows.length ≤ 2 ^ P.nsetss ps + 1 := by
  obtain ⟨A1, A2, A3, A4, A5, A6, A7⟩ := layAll_ok (L := L) (M := ps.length) ps (0, [], ps.length) hp (fun w z => nomatch z) (by simp) (Nat.le_refl _)
  generalize hr : mapAcc layAll ps (0, [], ps.length) = r at A1 A2 A3 A4 A5 A6 A7
  obtain ⟨ends, j, W, m⟩ := r
  dsimp only at A1 A2 A3 A4 A5 A6 A7
  have hpl : 0 < ps.length := List.length_pos_iff.mpr hps
  have hm1 : MInv W m cs ([spread W m (List.range ps.length)], []) := ⟨by simp, by simp, fun r hr => (nomatch hr), fun s hs => (nomatch hs), by simp, fun s hs => by
      rw [List.mem_singleton] at hs; subst hs
      exact spread_lt A1 fun x hx => by have := List.mem_range.mp hx; omega⟩
  have hS : setsIn W = P.nsetss ps := by have e : setsIn ([] : List Way) = 0 := rfl; omega
  have hpow : 2 ^ setsIn W ≤ 65536 := Nat.pow_le_pow_right (show 2 > 0 by decide) (show setsIn W ≤ 16 by omega)
  have hBIG := BIG_eq
  have hfin := machL_inv (cs := cs) A1 BIG hm1
  have hlen := hfin.2 (by simp; omega)
  have hl := hfin.1.len
  have hmach : machine ps cs = ⟨(machL W m cs BIG ([spread W m (List.range ps.length)], [])).2, (machL W m cs BIG ([spread W m (List.range ps.length)], [])).1.map (labelOf ends)⟩ := by
    unfold machine
    rw [hr]
  rw [hmach, ← hS]
  have hne := List.length_pos_iff.mpr hfin.1.ne
  exact ⟨⟨by dsimp only; rw [List.length_map, hlen], by dsimp only; omega, by dsimp only; omega, fun r hr => by dsimp only; rw [hlen]; exact hfin.1.rows r hr, by have := hc.2.2.2; omega⟩, by dsimp only; omega⟩
theorem tableOf_ok {L : List Nat} {p : P} {cs : List Nat} (hc : Lets cs) (hp : p.ok L) (hns : p.nsets ≤ 16) : (tableOf p cs).Ok (2 ^ p.nsets + 1) := by
  have hn1 : P.nsetss [p] = p.nsets := by simp [P.nsetss]
  obtain ⟨h1, h2⟩ := machine_ok (ps := [p]) hc (fun q hq => by rw [List.mem_singleton] at hq; subst hq; exact hp) (by simp) (by omega)
  rw [hn1] at h2
  exact ⟨hc, h1.ne, h2, h1.rows, keepN_ok _ _⟩
theorem tableof_t {L : List Nat} {n k : Nat} {p : P} {cs : List Nat} {Q : O × List O → Prop} (hn : k + 4 ≤ n) (hc : Lets cs) (hk : p.depth ≤ k) (hp : p.ok L) (hsz : p.size ≤ 61) (hns : p.nsets ≤ 16)
    (q : Q (.v (leastT (tableOf p cs)).d, [.v p.d, .v (.str (St cs))])) : Wp (mir n i_law_table_of [.v p.d, .v (.str (St cs))]) Q := by
  obtain ⟨n, rfl, hn⟩ := fuel hn
  have hn1 : P.nsetss [p] = p.nsets := by simp [P.nsetss]
  have hs1 : P.sizes [p] = p.size := by simp [P.sizes]
  have hall : ∀ {R : P → Prop}, R p → ∀ q ∈ [p], R q := fun h q hq => by rw [List.mem_singleton] at hq; subst hq; exact h
  obtain ⟨h1, h2⟩ := machine_ok (ps := [p]) hc (hall hp) (by simp) (by omega)
  have ht := tableOf_ok hc hp hns
  have hpow : 2 ^ p.nsets ≤ 65536 := Nat.pow_le_pow_right (by decide) hns
  have hle := h1.le
  rw [mir_law_table_of, b_law_table_of]
  simp
  refine machine_t (ps := [p]) (k := k) (by omega) hc (hall hk) (hall hp) (by simp) (by rw [hs1]; simp; omega) (by omega) ?_
  simp [Mach.d, rgOk_N (k := (machine [p] cs).rows.length) (by omega), rgD_N, P.ds]
  refine wi (lc_tN (fun i : Nat => PyData.int (i : Int)) (fun k => decide ((machine [p] cs).labels.getD k none = some 0)) (fun k => k) (by simp; omega) (fun k hk => ?_) ?_)
  · have hk := List.mem_range.mp hk
    have hk2 : k < (machine [p] cs).labels.length := by rw [h1.len]; exact hk
    obtain ⟨l, el⟩ : ∃ l, (machine [p] cs).labels[k]? = some l := ⟨_, List.getElem?_eq_getElem hk2⟩
    simp [el]
    cases l with
    | none => simp [oNat, el]
    | some l => simp [oNat, el]
  · simp
    refine wi (least_t (T := tableOf p cs) (by omega) ht (by omega) ?_)
    simp
    exact q
theorem table_t {n : Nat} {ds : List Int} {cs : List Nat} {m : Nat} {Q : O × List O → Prop} (hn : 3 ≤ n) (hc : Lets cs) (h0 : 1 ≤ m) (hm : m ≤ 100000) (q : ∀ (T : Tb) ds', T.Ok m → T.L = cs → Q (.v T.d, [.l (I ds'), .v (.str (St cs)), .v (.int (m : Int))])) :
    Wp (mir n i_law_table [.l (I ds), .v (.str (St cs)), .v (.int (m : Int))]) Q := by
  obtain ⟨n, rfl, hn⟩ := fuel hn
  rw [mir_law_table, b_law_table]
  simp
  refine take_t (by omega) (by omega) fun j ds' h1 => ?_
  obtain ⟨k, hk⟩ : ∃ k : Nat, 1 + (j : Int) = k := ⟨1 + j, by omega⟩
  simp [hk, rgOk_N (k := k) (by omega), rgD_N]
  refine wi (lc_dy (fun t : List Int => [some (.l (I t)), some (.v (.str (St cs))), some (.v (.int (m : Int))), some (.v (.int (k : Int))), none, none, none, none, none]) (fun _ => True) (fun (i : Nat) => PyData.int (i : Int)) tN (fun r => r.length = cs.length ∧ ∀ x ∈ r, x < k) (t := ds') (by simp; omega) trivial (fun i _ t _ => ?_) fun rows t hrows _ hl => ?_)
  · simp
    refine wi (lc_dy (fun t : List Int => [some (.l (I t)), some (.v (.str (St cs))), some (.v (.int (m : Int))), some (.v (.int (k : Int))), none, none, none, some (.v (.int (i : Int))), none]) (fun _ => True) (fun c => PyData.str (ch c)) (fun (i : Nat) => PyData.int (i : Int)) (fun x => x < k) (xs := cs) (t := t) (by have := hc.2.2.2; omega) trivial (fun c _ t _ => ?_) fun row t hr _ hl => ?_)
    · simp
      refine take_t (by omega) (by omega) fun j2 ds2 h2 => ?_
      simp
      exact ⟨⟨j2, rfl, by omega⟩, _, rfl, trivial⟩
    · simp
      exact ⟨⟨row, rfl, hl, hr⟩, _, rfl, trivial⟩
  · simp at hl
    simp
    refine pick_l (by omega) (by simp) fun x ds2 hx => ?_
    obtain ⟨sh, rfl, hsh⟩ : ∃ sh : Int, x = .int sh ∧ 0 < sh := by
      simp at hx
      rcases hx with rfl | rfl | rfl <;> exact ⟨_, rfl, by decide⟩
    simp [rgOk_N (k := k) (by omega), rgD_N]
    refine wi (lc_s (fun t : List Int => [some (.l (I t)), some (.v (.str (St cs))), some (.v (.int (m : Int))), some (.v (.int (k : Int))), some (.v (.tuple (rows.map tN))), some (.v (.int sh)), none, none, none]) (fun _ => True) (fun (i : Nat) => PyData.int (i : Int)) (fun (i : Nat) => PyData.int (i : Int)) (t := ds2) (by simp; omega) trivial (fun i _ t _ => ?_) fun fits t hs _ => ?_)
    · simp
      refine take_t (by omega) hsh fun j2 ds2 h2 => ?_
      simp
      exact ⟨_, rfl, trivial⟩
    · have hf : fits.Pairwise (· < ·) ∧ ∀ x ∈ fits, x < rows.length := ⟨(range_lt k).sublist hs, fun x hx => by rw [hl]; exact List.mem_range.mp (hs.subset hx)⟩
      have fin : ∀ fits ds', fits.Pairwise (· < ·) ∧ (∀ x ∈ fits, x < rows.length) → Q (.v (Tb.d ⟨cs, rows, fits⟩), [.l (I ds'), .v (.str (St cs)), .v (.int (m : Int))]) := fun fits ds' hf => q ⟨cs, rows, fits⟩ ds' ⟨hc, by dsimp only; omega, by dsimp only; omega, fun r hr => by dsimp only; rw [hl]; exact hrows r hr, hf⟩ rfl
      simp [↓i_w_ifS]
      refine ⟨fun _ => ?_, fun _ => fin fits t hf⟩
      refine take_t (by omega) (by decide) fun j2 ds2 h2 => ?_
      obtain ⟨k1, hk1⟩ : ∃ k1 : Nat, (k : Int) - 1 = k1 := ⟨k - 1, by omega⟩
      simp [hk1]
      refine ⟨fun _ => fin [k1] ds2 ⟨by simp, fun x hx => by simp at hx; omega⟩, fun _ => fin fits ds2 hf⟩
theorem either_t {n : Nat} {ds : List Int} {cs : List Nat} {m : Nat} {Q : O × List O → Prop} (hn : 9 ≤ n) (hc : Lets cs) (h0 : 1 ≤ m) (hm : m ≤ 100000) (q : ∀ (T : Tb) ds', T.Ok m → T.L = cs → Q (.v T.d, [.l (I ds'), .v (.str (St cs)), .v (.int (m : Int))])) :
    Wp (mir n i_law_either_table [.l (I ds), .v (.str (St cs)), .v (.int (m : Int))]) Q := by
  obtain ⟨n, rfl, hn⟩ := fuel hn
  rw [mir_law_either_table, b_law_either_table]
  simp [↓i_w_ifS]
  refine take_t (by omega) (by decide) fun j ds' h1 => ?_
  simp
  refine ⟨fun _ => table_t (by omega) hc h0 hm fun T ds2 hT hL => ?_, fun _ => ?_⟩
  · simp
    exact q T ds2 hT hL
  refine plain_t (m := 5) (by omega) hc (by omega) fun p ds2 hp hd hs0 hs hz => ?_
  simp
  refine tableof_t (k := 4) (by omega) hc hd hp (by omega) (by omega) ?_
  have hpow : 2 ^ p.nsets ≤ 32 := Nat.pow_le_pow_right (show 2 > 0 by decide) hs
  have hT := leastT_ok (tableOf_ok hc hp (by omega)) (by omega)
  generalize hTe : leastT (tableOf p cs) = T at hT
  have hTL : T.L = cs := by rw [← hTe]; rfl
  have hle2 := hT.le
  simp [Tb.d, ↓i_w_ifS]
  refine ⟨fun _ => table_t (by omega) hc h0 hm fun T ds2 hT hL => ?_, fun hle => ?_⟩
  · simp
    exact q T ds2 hT hL
  · exact q T ds2 ⟨hT.L, hT.ne, by omega, hT.rows, hT.fits⟩ hTL
theorem idxOf_of {c : Nat} : ∀ {cs : List Nat} {i : Nat}, cs[i]? = some c → (∀ k, k < i → cs[k]? ≠ some c) → cs.idxOf c = i
  | [], i, h, _ => by simp at h
  | d :: cs, 0, h, _ => by
    simp at h
    subst h
    exact List.idxOf_cons_self
  | d :: cs, i + 1, h, h2 => by
    have hd : ¬ d = c := fun e => h2 0 (by omega) (by simp [e])
    rw [List.idxOf_cons, beq_false_of_ne hd, idxOf_of (i := i) (by simpa using h) fun k hk => by have := h2 (k + 1) (by omega); simpa using this]
    rfl
theorem sidx_L {cs : List Nat} {c : Nat} (h : c ∈ cs) : sidxD (.str (St cs)) (.str (ch c)) = some (.int (cs.idxOf c : Nat)) := by
  have h1 : ∃ k, cs[k]? = some c := List.mem_iff_getElem?.mp h
  unfold sidxD
  dsimp only
  rcases StrLaws.occ_head (St cs) ⟨#[c]⟩ 1 (Nat.le_refl 1) with ⟨_, h2⟩ | ⟨i, r, h2, h3, h4⟩
  · obtain ⟨k, hk⟩ := h1
    exact absurd ((StrLaws.subAt_one _ c k).mpr hk) (h2 k)
  · have e : List.idxOf c cs = i := idxOf_of ((StrLaws.subAt_one _ c i).mp h3) fun k hk q => h4 k hk ((StrLaws.subAt_one _ c k).mpr q)
    show (match Builtin.Str.occurrences (St cs) ⟨#[c]⟩ 0 (St cs).length 1 with
      | i :: _ => some (PyData.int (i : Nat))
      | [] => none) = _
    rw [h2, e]
/-- the state behind a text -/
def behind (T : Tb) (s : Nat) (w : List Nat) : Nat := w.foldl (fun s c => (T.rows.getD s []).getD (T.L.idxOf c) 0) s
theorem Tb.Ok.at {T : Tb} {m k : Nat} (h : T.Ok m) (hk : k < T.rows.length) : ∃ r, T.rows[k]? = some r ∧ r.length = T.L.length ∧ ∀ x ∈ r, x < T.rows.length := ⟨T.rows[k], List.getElem?_eq_getElem hk, h.rows _ (List.getElem_mem hk)⟩
theorem Tb.Ok.step {T : Tb} {m k c : Nat} (h : T.Ok m) (hk : k < T.rows.length) (hc : c ∈ T.L) : ∃ r x, T.rows[k]? = some r ∧ r[T.L.idxOf c]? = some x ∧ x < T.rows.length ∧ (T.rows.getD k []).getD (T.L.idxOf c) 0 = x := by
  obtain ⟨r, e1, e2, e3⟩ := h.at hk
  have hi : T.L.idxOf c < r.length := by rw [e2]; exact List.idxOf_lt_length_of_mem hc
  refine ⟨r, r[T.L.idxOf c], e1, List.getElem?_eq_getElem hi, e3 _ (List.getElem_mem hi), ?_⟩
  simp [List.getD_eq_getElem?_getD, e1, List.getElem?_eq_getElem hi]
theorem behind_lt {T : Tb} {m : Nat} (h : T.Ok m) : ∀ {w : List Nat} {s : Nat}, s < T.rows.length → (∀ c ∈ w, c ∈ T.L) → behind T s w < T.rows.length
  | [], s, hs, _ => hs
  | c :: w, s, hs, hw => by
    obtain ⟨r, x, _, _, h1, h2⟩ := h.step hs (hw c List.mem_cons_self)
    unfold behind
    rw [List.foldl_cons, h2]
    exact behind_lt h h1 fun c z => hw c (List.mem_cons_of_mem _ z)
theorem behind_t {n m s : Nat} {T : Tb} {w : List Nat} {Q : O × List O → Prop} (hn : 1 ≤ n) (hT : T.Ok m) (hs : s < T.rows.length) (hw : ∀ c ∈ w, c ∈ T.L) (q : Q (.v (.int (behind T s w : Nat)), [.v T.d, .v (.int (s : Int)), .v (.str (St w))])) :
    Wp (mir n i_law_behind [.v T.d, .v (.int (s : Int)), .v (.str (St w))]) Q := by
  obtain ⟨n, rfl, hn⟩ := fuel hn
  rw [mir_law_behind, b_law_behind]
  simp
  refine wi (loop_foldE (fun c => PyData.str (ch c)) (fun s : Nat => [some (.v T.d), some (.v (.int (s : Int))), some (.v (.str (St w))), none]) (fun s c => (T.rows.getD s []).getD (T.L.idxOf c) 0) (fun xs s => s < T.rows.length ∧ ∀ c ∈ xs, c ∈ T.L) (xs := w) (t := s) rfl rfl ⟨hs, hw⟩ (fun c xs s h => ?_) fun _ => ?_)
  · obtain ⟨r, x, e1, e2, e3, e4⟩ := hT.step h.1 (h.2 c List.mem_cons_self)
    rw [e4]
    simp [k_law_behind_1, Tb.d, sidx_L (h.2 c List.mem_cons_self), e1, N_get, e2, tN]
    exact ⟨e3, fun c hc => h.2 c (List.mem_cons_of_mem _ hc)⟩
  · simp
    exact q
theorem led_t {n m s : Nat} {T : Tb} {w : List Nat} {Q : O × List O → Prop} (hn : 1 ≤ n) (hT : T.Ok m) (hs : s < T.rows.length) (hw : ∀ c ∈ w, c ∈ T.L) (q : Q (.v (.int (behind T s w : Nat)), [.v T.d, .v (.int (s : Int)), .v (.str (St w))])) :
    Wp (mir n iled_from [.v T.d, .v (.int (s : Int)), .v (.str (St w))]) Q := by
  obtain ⟨n, rfl, hn⟩ := fuel hn
  rw [mirled_from, bled_from]
  simp [Tb.d]
  refine wi (loop_foldE (fun c => PyData.str (ch c)) (fun s : Nat => [some (.v T.d), some (.v (.int (s : Int))), some (.v (.str (St w))), some (.v (.str (St T.L))), some (.v (.tuple (T.rows.map tN))), none, none]) (fun s c => (T.rows.getD s []).getD (T.L.idxOf c) 0) (fun xs s => s < T.rows.length ∧ ∀ c ∈ xs, c ∈ T.L) (xs := w) (t := s) rfl rfl ⟨hs, hw⟩ (fun c xs s h => ?_) fun _ => ?_)
  · obtain ⟨r, x, e1, e2, e3, e4⟩ := hT.step h.1 (h.2 c List.mem_cons_self)
    rw [e4]
    simp [kled_from_1, sidx_L (h.2 c List.mem_cons_self), e1, N_get, e2, tN]
    exact ⟨e3, fun c hc => h.2 c (List.mem_cons_of_mem _ hc)⟩
  · simp
    exact q
theorem state_behind_t {n m : Nat} {T : Tb} {w : List Nat} {Q : O × List O → Prop} (hn : 2 ≤ n) (hT : T.Ok m) (hw : ∀ c ∈ w, c ∈ T.L) (q : Q (.v (.int (behind T 0 w : Nat)), [.v T.d, .v (.str (St w))])) :
    Wp (mir n istate_behind [.v T.d, .v (.str (St w))]) Q := by
  obtain ⟨n, rfl, hn⟩ := fuel hn
  rw [mirstate_behind, bstate_behind]
  simp
  refine led_t (s := 0) (by omega) hT hT.ne hw ?_
  simp
  exact q
theorem table_fits_t {n m : Nat} {T : Tb} {w : List Nat} {Q : O × List O → Prop} (hn : 3 ≤ n) (hT : T.Ok m) (hw : ∀ c ∈ w, c ∈ T.L) (q : Q (.v (.bool (decide (behind T 0 w ∈ T.fits))), [.v T.d, .v (.str (St w))])) :
    Wp (mir n itable_fits [.v T.d, .v (.str (St w))]) Q := by
  obtain ⟨n, rfl, hn⟩ := fuel hn
  rw [mirtable_fits, btable_fits]
  simp
  refine state_behind_t (by omega) hT hw ?_
  simp [Tb.d]
  exact q
end Mm
namespace Mm
open PySem L2
def isT : D → Bool | .tuple _ => true | _ => false
def isL : D → Bool | .list _ => true | _ => false
def isB : D → Bool | .bool _ => true | _ => false
def isI : D → Bool | .int _ => true | .bool _ => true | _ => false
def isS : D → Bool | .str _ => true | _ => false
theorem isi_tuple {d : D} {ρ : Rho} : isiG "tuple" (.v d) ρ = some (.v (.bool (isT d))) := by cases d <;> rfl
theorem isi_list {d : D} {ρ : Rho} : isiG "list" (.v d) ρ = some (.v (.bool (isL d))) := by cases d <;> rfl
theorem isi_bool {d : D} {ρ : Rho} : isiG "bool" (.v d) ρ = some (.v (.bool (isB d))) := by cases d <;> rfl
theorem isi_int {d : D} {ρ : Rho} : isiG "int" (.v d) ρ = some (.v (.bool (isI d))) := by cases d <;> rfl
theorem isi_str {d : D} {ρ : Rho} : isiG "str" (.v d) ρ = some (.v (.bool (isS d))) := by cases d <;> rfl
theorem isi_tl {d : D} {ρ : Rho} : isi2G "tuple" "list" (.v d) ρ = some (.v (.bool (isT d || isL d))) := by cases d <;> rfl
mutual
/-- data that the law compares: no dicts, rows not too long -/
def okD : D → Bool
  | .dict _ => false
  | .list xs => decide (xs.length ≤ 1000000) && okDs xs
  | .tuple xs => decide (xs.length ≤ 1000000) && okDs xs
  | _ => true
def okDs : List D → Bool
  | [] => true
  | x :: xs => okD x && okDs xs
end
theorem okDs_all : ∀ {ds : List D}, okDs ds = true ↔ ∀ d ∈ ds, okD d = true
  | [] => by simp [okDs]
  | d :: ds => by rw [okDs, Bool.and_eq_true_iff, okDs_all]; simp
@[simp] theorem eq_nn : eqD .none .none = some (.bool true) := rfl
@[simp] theorem isT_t {ds : List D} : isT (.tuple ds) = true := rfl
@[simp] theorem isT_l {ds : List D} : isT (.list ds) = false := rfl
@[simp] theorem isL_t {ds : List D} : isL (.tuple ds) = false := rfl
@[simp] theorem isL_l {ds : List D} : isL (.list ds) = true := rfl
theorem no_false (k : Nat) : inD true (.bool false) (.list ((List.replicate k true).map PyData.bool)) = some (.bool true) := by
  have h1 : ((List.replicate k true).map PyData.bool).all flatD = true := by
    rw [List.all_map]; exact List.all_eq_true.mpr fun _ _ => rfl
  have h2 : (((List.replicate k true).map PyData.bool).any fun z => PyData.eqv z (.bool false)) = false := by
    rw [List.any_map, List.any_eq_false]
    intro b hb
    rw [List.eq_of_mem_replicate hb]
    simp [PyData.eqv]
  show (if inOk (.bool false) _ || inDeep (.bool false) _ then some (PyData.bool (if true then !(((List.replicate k true).map PyData.bool).any fun z => PyData.eqv z (.bool false)) else _)) else none) = _
  rw [inOk, h1, h2]
  rfl
theorem same_t : ∀ {k n : Nat} {a : D} {Q : O × List O → Prop}, k + 1 ≤ n → a.depth ≤ k → okD a = true → Q (.v (.bool true), [.v a, .v a]) → Wp (mir n i_law_same [.v a, .v a]) Q := by
  intro k
  induction k with
  | zero =>
    intro n a Q hn hk ha q
    obtain ⟨n, rfl, hn⟩ := fuel (n := n) (c := 0) (by omega)
    rw [mir_law_same, b_law_same]
    cases a with
    | list xs => rw [PyData.depth] at hk; omega
    | tuple xs => rw [PyData.depth] at hk; omega
    | dict xs => cases ha
    | _ => simp [isi_tuple, isi_list, isi_bool, isi_int, isi_str, isi_tl, isT, isL, isB, isI, isS, ↓i_w_ifS]; exact q
  | succ k ih =>
    intro n a Q hn hk ha q
    obtain ⟨n, rfl, hn⟩ := fuel (n := n) (c := k + 1) (by omega)
    rw [mir_law_same, b_law_same]
    have go : ∀ (xs : List D) (d : D) (Q' : List D × Rho → Prop), (∀ x ∈ xs, x.depth ≤ k ∧ okD x = true) → xs.length ≤ 1000000 → (d = .list xs ∨ d = .tuple xs) → Q' ((List.replicate xs.length true).map PyData.bool, [some (.v d), some (.v d), none]) →
        Wp (lcL [2] (nmG 2) yesT (vE (callE (mir n i_law_same) (cV (vE (g2 ixG (nmE 0) (nmE 2))) (cV (vE (g2 ixG (nmE 1) (nmE 2))) cN)))) (N (List.range xs.length)) [] [some (.v d), some (.v d), none]) Q' := fun xs d Q' hx hl hd q' => by
      refine lc_m (fun i : Nat => PyData.int (i : Int)) PyData.bool (fun _ => true) (by simp; omega) (fun i hi => ?_) (by rw [List.map_const'] ; simpa using q')
      have hi := List.mem_range.mp hi
      have h3 := hx xs[i] (List.getElem_mem hi)
      rcases hd with rfl | rfl
      all_goals
        simp [List.getElem?_eq_getElem hi]
        refine ih (by omega) h3.1 h3.2 ?_
        simp
    cases a with
    | dict xs => cases ha
    | list xs =>
      rw [PyData.depth] at hk
      have hx := depthAll_le.mp (Nat.le_of_succ_le_succ hk)
      rw [okD, Bool.and_eq_true, decide_eq_true_eq] at ha
      have hx2 := okDs_all.mp ha.2
      simp [isi_tuple, isi_list, isi_tl, ↓i_w_ifS, rgOk_N (k := xs.length) ha.1, rgD_N]
      refine wi (go xs _ _ (fun x h => ⟨hx x h, hx2 x h⟩) ha.1 (.inl rfl) ?_)
      have := no_false xs.length
      simp at this
      simp [this]
      exact q
    | tuple xs =>
      rw [PyData.depth] at hk
      have hx := depthAll_le.mp (Nat.le_of_succ_le_succ hk)
      rw [okD, Bool.and_eq_true, decide_eq_true_eq] at ha
      have hx2 := okDs_all.mp ha.2
      simp [isi_tuple, isi_list, isi_tl, ↓i_w_ifS, rgOk_N (k := xs.length) ha.1, rgD_N]
      refine wi (go xs _ _ (fun x h => ⟨hx x h, hx2 x h⟩) ha.1 (.inr rfl) ?_)
      have := no_false xs.length
      simp at this
      simp [this]
      exact q
    | _ => simp [isi_tuple, isi_list, isi_bool, isi_int, isi_str, isi_tl, isT, isL, isB, isI, isS, ↓i_w_ifS]; exact q
end Mm
namespace Mm
open PySem L2
theorem erase_map {α β : Type} (f : α → β) : ∀ (xs : List α) (j : Nat), (xs.map f).eraseIdx j = (xs.eraseIdx j).map f
  | [], _ => rfl
  | x :: xs, 0 => rfl
  | x :: xs, j + 1 => by rw [List.map_cons, List.eraseIdx_cons_succ, List.eraseIdx_cons_succ, List.map_cons, erase_map f xs j]
theorem erase_perm {α : Type} : ∀ {xs : List α} {j : Nat} {x : α}, xs[j]? = some x → (x :: xs.eraseIdx j).Perm xs
  | [], _, _, h => by simp at h
  | y :: xs, 0, x, h => by simp at h; subst h; exact List.Perm.refl _
  | y :: xs, j + 1, x, h => by
    rw [List.eraseIdx_cons_succ]
    exact (List.Perm.swap y x _).trans ((erase_perm (xs := xs) (j := j) (by simpa using h)).cons y)
theorem shuf_loop {n : Nat} {xs : D} {Q : Fl → Prop} (hn : 1 ≤ n) : ∀ {it : List Nat} {ls told : List Nat} {ds0 : List Int}, it.length = ls.length → told.length + ls.length ≤ 100000 →
    (∀ ds (told' : List Nat), told'.Perm (told ++ ls) → Q (.nx [some (.l (I ds)), some (.v xs), some (.l []), some (.l (N told')), none])) →
    Wp (loopS (nmG 4) (k_law_shuffled_1 (mir n)) (N it) [some (.l (I ds0)), some (.v xs), some (.l (N ls)), some (.l (N told)), none]) Q := by
  intro it
  induction it with
  | nil =>
    intro ls told ds0 hi _ q
    have : ls = [] := List.eq_nil_of_length_eq_zero hi.symm
    subst this
    rw [N_nil, loopS, wp_some]
    exact q ds0 told (by simp)
  | cons i it ih =>
    intro ls told ds0 hi hl q
    simp at hi
    rw [N_cons, loopS, wp_bind]
    simp [k_law_shuffled_1]
    refine take_t (by omega) (by omega) fun j ds' j1 => ?_
    have hjl : j < ls.length := by omega
    have ex : ls[j]? = some ls[j] := List.getElem?_eq_getElem hjl
    have e1 : (N ls).eraseIdx j = N (ls.eraseIdx j) := by unfold N; rw [erase_map]
    have hlen : (ls.eraseIdx j).length = ls.length - 1 := List.length_eraseIdx_of_lt hjl
    simp [ixN_nat (n := ls.length) (j := j) (by omega) (by omega), N_get, ex, e1, N_snoc]
    refine ⟨by omega, by omega, ?_⟩
    refine ih (by rw [hlen]; omega) (by rw [hlen]; simp; omega) fun ds told' hp => q ds told' (hp.trans ?_)
    have e2 : ls.Perm (ls[j] :: ls.eraseIdx j) := (erase_perm ex).symm
    rw [List.append_assoc]
    exact List.Perm.append_left _ e2.symm
theorem shuf_t {n : Nat} {ds : List Int} {ls : List Nat} {Q : O × List O → Prop} (hn : 2 ≤ n) (hl : ls.length ≤ 10000) (q : ∀ ds' ls', ls'.Perm ls → Q (.l (N ls'), [.l (I ds'), .v (.list (N ls))])) :
    Wp (mir n i_law_shuffled [.l (I ds), .v (.list (N ls))]) Q := by
  obtain ⟨n, rfl, hn⟩ := fuel hn
  rw [mir_law_shuffled, b_law_shuffled]
  simp [rgOk_N (k := ls.length) (by omega), rgD_N]
  refine wi (shuf_loop (told := []) (by omega) (by simp) (by simp; omega) fun ds told' hp => ?_)
  simp
  exact q ds told' (by simpa using hp)
theorem wheel_t {n : Nat} {ds : List Int} {cs : List Nat} {m : Nat} {Q : O × List O → Prop} (hn : 3 ≤ n) (hc : Lets cs) (h0 : 1 ≤ m) (hm : m ≤ 10000) (q : ∀ (T : Tb) ds', T.Ok m → T.L = cs → Q (.v T.d, [.l (I ds'), .v (.str (St cs)), .v (.int (m : Int))])) :
    Wp (mir n i_law_wheel [.l (I ds), .v (.str (St cs)), .v (.int (m : Int))]) Q := by
  obtain ⟨n, rfl, hn⟩ := fuel hn
  rw [mir_law_wheel, b_law_wheel]
  simp
  refine take_t (by omega) (by omega) fun j ds' h1 => ?_
  simp
  refine cut_at (fun t : Nat × List Int => [some (.l (I t.2)), some (.v (.str (St cs))), some (.v (.int (m : Int))), some (.v (.int (t.1 : Int))), none, none, none, none, none, none, none, none]) (fun t => 1 ≤ t.1 ∧ t.1 ≤ m) ?_ fun t ht => ?_
  · simp [↓i_w_ifS]
    refine take_t (by omega) (by decide) fun j2 ds' h1 => ?_
    simp
    exact ⟨fun _ => ⟨(m, ds'), rfl, by dsimp only; omega, by dsimp only; omega⟩, fun _ => ⟨(1 + j, ds'), by simp, by dsimp only; omega, by dsimp only; omega⟩⟩
  obtain ⟨k, ds'⟩ := t
  obtain ⟨hk0, hkm⟩ := ht
  dsimp only at hk0 hkm
  simp
  refine wi (lc_dy (fun t : List Int => [some (.l (I t)), some (.v (.str (St cs))), some (.v (.int (m : Int))), some (.v (.int (k : Int))), none, none, none, none, none, none, none, none]) (fun _ => True) (fun c => PyData.str (ch c)) (fun p : Nat × Nat => PyData.list [.int (p.1 : Int), .int (p.2 : Int)]) (fun p => p.1 ≤ m + 2) (xs := cs) (t := ds') (by have := hc.2.2.2; omega) trivial (fun c _ t _ => ?_) fun steps t hst _ hl => ?_)
  · simp
    refine take_t (by omega) (by omega) fun j2 ds2 h2 => ?_
    simp
    refine pick_l (by omega) (by simp) fun x ds3 hx => ?_
    obtain ⟨a, rfl, ha⟩ : ∃ a : Nat, x = .int (a : Int) ∧ a ≤ m + 2 := by
      simp at hx
      rcases hx with rfl | rfl | rfl | rfl
      · exact ⟨1, rfl, by omega⟩
      · exact ⟨0, rfl, by omega⟩
      · exact ⟨2, rfl, by omega⟩
      · exact ⟨j2, rfl, by omega⟩
    simp
    refine take_t (by omega) (by omega) fun j3 ds4 h4 => ?_
    simp
    exact ⟨⟨(a, j3), rfl, ha⟩, _, rfl, trivial⟩
  have hl4 := hc.2.2.2
  simp [rgOk_N (k := k) (by omega), rgD_N]
  refine wi (loop_foldE (fun i : Nat => PyData.int (i : Int)) (fun rows : List (List Nat) => [some (.l (I t)), some (.v (.str (St cs))), some (.v (.int (m : Int))), some (.v (.int (k : Int))), some (.v (.list (steps.map fun p : Nat × Nat => PyData.list [.int (p.1 : Int), .int (p.2 : Int)]))), some (.l (rows.map tN)), none, none, none, none, none, none]) (fun rows i => rows ++ [steps.map fun p => (p.1 * i + p.2) % k]) (fun xs rows => rows.length + xs.length ≤ k ∧ ∀ x ∈ xs, x < k) (xs := List.range k) (t := []) rfl rfl ⟨by simp, fun x hx => List.mem_range.mp hx⟩ (fun i xs rows h => ?_) fun _ => ?_)
  · have hi := h.2 i List.mem_cons_self
    have hl5 := h.1
    rw [List.length_cons] at hl5
    simp [k_law_wheel_1]
    refine wi (lc_mN (fun p : Nat × Nat => PyData.list [.int (p.1 : Int), .int (p.2 : Int)]) (fun p => (p.1 * i + p.2) % k) (by omega) (fun p hp => ?_) ?_)
    · have := hst p hp
      simp
      refine ⟨.inl ⟨by omega, by omega⟩, by omega, ?_⟩
      rw [Int.fmod_eq_emod_of_nonneg _ (by omega)]
      simp
    · simp [tN]
      exact ⟨by omega, by omega, fun x hx => h.2 x (List.mem_cons_of_mem _ hx)⟩
  · have e : ∀ (xs : List Nat) (r : List (List Nat)), List.foldl (fun rows i => rows ++ [steps.map fun p : Nat × Nat => (p.1 * i + p.2) % k]) r xs = r ++ xs.map fun i => steps.map fun p => (p.1 * i + p.2) % k := by
      intro xs
      induction xs with
      | nil => simp
      | cons x xs ih => intro r; rw [List.foldl_cons, ih]; simp
    rw [e, List.nil_append]
    simp
    refine take_t (by omega) (by decide) fun sh ds2 h2 => ?_
    simp
    refine take_t (by omega) (by omega) fun f ds3 h3 => ?_
    obtain ⟨sh1, hs1⟩ : ∃ s : Nat, 1 + (sh : Int) = s := ⟨1 + sh, by omega⟩
    obtain ⟨sh2, hs2⟩ : ∃ s : Nat, (sh1 : Int) + 1 = s := ⟨sh1 + 1, by omega⟩
    simp [rgOk_N (k := k) (by omega), rgD_N, hs1, hs2]
    refine wi (lc_tN (fun i : Nat => PyData.int (i : Int)) (fun i => decide (i = f) || decide ((i + f) % sh2 = sh1)) (fun i => i) (by simp; omega) (fun i hi => ?_) ?_)
    · by_cases hif : i = f
      · simp [hif]
      · have hif2 : ¬ (i : Int) = f := by omega
        simp [hif]
        refine ⟨fun e => absurd (Int.ofNat.inj e) hif, fun _ => ⟨by omega, fun _ => ?_⟩⟩
        rw [hs2, Int.fmod_eq_emod_of_nonneg _ (by omega), ← Int.natCast_add, ← Int.natCast_emod]
        exact Int.ofNat_inj
    · simp
      have h2 : 2 ≤ steps.length + 2 := by omega
      have := q ⟨cs, (List.range k).map fun i => steps.map fun p => (p.1 * i + p.2) % k, keepN k fun i => decide (i = f) || decide ((i + f) % sh2 = sh1)⟩ ds3
        ⟨hc, by simp; omega, by simp; omega, fun r hr => by
          obtain ⟨i, _, rfl⟩ := List.mem_map.mp hr
          refine ⟨by simp [hl], fun x hx => ?_⟩
          obtain ⟨p, _, rfl⟩ := List.mem_map.mp hx
          simp
          exact Nat.mod_lt _ (by omega), by simpa using keepN_ok k _⟩ rfl
      simpa [Tb.d, keepN] using this
theorem small_shuf {k : Nat} {ls : List Nat} (h : ls.Perm (List.range k)) : ls.length = k ∧ ∀ x ∈ ls, x < k := ⟨by simpa using h.length_eq, fun x hx => List.mem_range.mp (h.mem_iff.mp hx)⟩
theorem blown_t {n : Nat} {ds : List Int} {T : Tb} {m0 m : Nat} {Q : O × List O → Prop} (hn : 4 ≤ n) (hT : T.Ok m0) (h0 : m0 ≤ m) (hm : m ≤ 9000) (q : ∀ (T' : Tb) ds', T'.Ok m → T'.L = T.L → Q (.v T'.d, [.l (I ds'), .v T.d, .v (.int (m : Int))])) :
    Wp (mir n i_law_blown [.l (I ds), .v T.d, .v (.int (m : Int))]) Q := by
  obtain ⟨n, rfl, hn⟩ := fuel hn
  rw [mir_law_blown, b_law_blown]
  have hle := hT.le
  simp [Tb.d, rgOk_N (k := T.rows.length) (by omega), rgD_N]
  obtain ⟨d, hd⟩ : ∃ d : Nat, max 1 ((m : Int) + 1 - T.rows.length) = d := ⟨(max 1 ((m : Int) + 1 - T.rows.length)).toNat, by omega⟩
  rw [hd]
  refine take_t (by omega) (by omega) fun j ds' h1 => ?_
  simp [rgOk_N (k := j) (by omega), rgD_N]
  refine wi (loop_invE (fun i : Nat => PyData.int (i : Int)) (fun t : List Int × List Nat => [some (.l (I t.1)), some (.v T.d), some (.v (.int (m : Int))), some (.l (N t.2)), none, none, none, none, none, none, none]) (fun xs t => t.2.length + xs.length ≤ m ∧ T.rows.length ≤ t.2.length ∧ (∀ k, k < T.rows.length → t.2[k]? = some k) ∧ ∀ x ∈ t.2, x < T.rows.length) (xs := List.range j) (t := (ds', List.range T.rows.length)) rfl rfl ⟨by simp; omega, by simp, fun k hk => by simp [hk], fun x hx => List.mem_range.mp hx⟩ (fun i xs t ht => ?_) fun t ht => ?_)
  · obtain ⟨ds1, ps⟩ := t
    obtain ⟨a, b, c, d⟩ := ht
    simp at a b c d
    simp [k_law_blown_3, Tb.d]
    refine take_t (by omega) (by have := hT.ne; omega) fun j2 ds2 h2 => ?_
    simp [N_snoc]
    refine ⟨by omega, (ds2, ps ++ [j2]), rfl, by simp; omega, by simp; omega, fun k hk => ?_, fun x hx => ?_⟩
    · show (ps ++ [j2])[k]? = _
      rw [List.getElem?_append_left (by omega)]; exact c k hk
    · rcases List.mem_append.mp hx with hx | hx
      · exact d x hx
      · simp at hx; omega
  obtain ⟨ds1, ps⟩ := t
  obtain ⟨a, b, c, d1⟩ := ht
  have hne := hT.ne
  simp at a b c d1
  obtain ⟨p1, hp1⟩ : ∃ p1 : Nat, (ps.length : Int) - 1 = p1 := ⟨ps.length - 1, by omega⟩
  simp [Tb.d, hp1, rgOk_N (k := p1) (by omega), rgD_N]
  refine shuf_t (by omega) (by simp; omega) fun ds2 ls hls => ?_
  obtain ⟨hll, hlx⟩ := small_shuf hls
  simp
  refine wi (lc_mN (fun i : Nat => PyData.int (i : Int)) (fun k => k + 1) (by omega) (fun k hk => by simp) ?_)
  simp [sizeOk_eq]
  refine ⟨by omega, ?_⟩
  have ec : PyData.int 0 :: N (List.map (fun k => k + 1) ls) = N (0 :: ls.map fun k => k + 1) := rfl
  rw [ec]
  have hord : ∀ x ∈ (0 :: ls.map fun k => k + 1), x < ps.length := fun x hx => by
    simp at hx
    rcases hx with rfl | ⟨y, hy, rfl⟩
    · omega
    · have := hlx y hy; omega
  have hall : ∀ x, x < ps.length → x ∈ (0 :: ls.map fun k => k + 1) := fun x hx => by
    rcases x with _ | x
    · simp
    · simp; exact hls.mem_iff.mpr (List.mem_range.mpr (by omega))
  have hol : (0 :: ls.map fun k => k + 1).length = ps.length := by simp; omega
  generalize (0 :: ls.map fun k => k + 1) = order at hord hall hol
  refine wi (lc_mN (fun i : Nat => PyData.int (i : Int)) (fun k => ps.getD k 0) (by omega) (fun k hk => ?_) ?_)
  · simp [N_get, List.getElem?_eq_getElem (hord k hk)]
  have hsl : (order.map fun k => ps.getD k 0).length = ps.length := by simp [hol]
  have hsx : ∀ x ∈ (order.map fun k => ps.getD k 0), x < T.rows.length := fun x hx => by
    obtain ⟨k, hk, rfl⟩ := List.mem_map.mp hx
    have := hord k hk
    rw [List.getD_eq_getElem?_getD, List.getElem?_eq_getElem this]
    exact d1 _ (List.getElem_mem this)
  have hsa : ∀ x, x < T.rows.length → x ∈ (order.map fun k => ps.getD k 0) := fun x hx => List.mem_map.mpr ⟨x, hall x (by omega), by rw [List.getD_eq_getElem?_getD, c x hx]; rfl⟩
  generalize (order.map fun k => ps.getD k 0) = sh at hsl hsx hsa
  have hw4 := hT.L.2.2.2
  simp
  refine wi (loop_invE (fun i : Nat => PyData.int (i : Int)) (fun t : List Int × List (List Nat) => [some (.l (I t.1)), some (.v T.d), some (.v (.int (m : Int))), none, none, none, some (.v (.list (N sh))), some (.l (t.2.map tN)), none, none, none]) (fun xs t => t.2.length + xs.length = sh.length ∧ (∀ x ∈ xs, x < T.rows.length) ∧ ∀ r ∈ t.2, r.length = T.L.length ∧ ∀ x ∈ r, x < sh.length) (xs := sh) (t := (ds2, [])) rfl rfl ⟨by simp, hsx, fun _ z => nomatch z⟩ (fun p xs t ht => ?_) fun t ht => ?_)
  · obtain ⟨ds3, rows⟩ := t
    obtain ⟨a, b, c⟩ := ht
    simp at a
    obtain ⟨r, er, hrl, hrx⟩ := hT.at (b p List.mem_cons_self)
    dsimp only at c
    simp [k_law_blown_2, Tb.d, er, tN]
    refine wi (loop_invE (fun i : Nat => PyData.int (i : Int)) (fun t : List Int × List Nat => [some (.l (I t.1)), some (.v T.d), some (.v (.int (m : Int))), none, none, none, some (.v (.list (N sh))), some (.l (rows.map tN)), none, some (.l (N t.2)), none]) (fun xs t => t.2.length + xs.length = r.length ∧ (∀ x ∈ xs, x < T.rows.length) ∧ ∀ x ∈ t.2, x < sh.length) (xs := r) (t := (ds3, [])) rfl rfl ⟨by simp, hrx, fun _ z => nomatch z⟩ (fun to xs2 t ht => ?_) fun t ht => ?_)
    · obtain ⟨ds4, row⟩ := t
      obtain ⟨a2, b2, c2⟩ := ht
      simp at a2
      dsimp only at c2
      simp [k_law_blown_1, rgOk_N (k := sh.length) (by omega), rgD_N]
      refine wi (lc_tN (fun i : Nat => PyData.int (i : Int)) (fun k => decide (sh.getD k 0 = to)) (fun k => k) (by simp; omega) (fun k hk => ?_) ?_)
      · have hk := List.mem_range.mp hk
        simp [N_get, List.getElem?_eq_getElem hk, Int.ofNat_inj]
      · simp
        have hto := hsa to (b2 to List.mem_cons_self)
        obtain ⟨i, hi, ei⟩ := List.mem_iff_getElem.mp hto
        refine pick_l (by omega) (fun e => ?_) fun x ds5 hx => ?_
        · have : (i : Nat) ∈ (List.filter (fun k => decide (sh[k]?.getD 0 = to)) (List.range sh.length)) := List.mem_filter.mpr ⟨List.mem_range.mpr hi, by simp [List.getElem?_eq_getElem hi, ei]⟩
          have e2 : (N (List.filter (fun k => decide (sh[k]?.getD 0 = to)) (List.range sh.length))).length = 0 := by rw [e]; rfl
          rw [N_len] at e2
          rw [List.eq_nil_of_length_eq_zero e2] at this
          cases this
        · obtain ⟨k, hk, rfl⟩ := List.mem_map.mp hx
          have hkl := List.mem_range.mp (List.mem_filter.mp hk).1
          simp [N_snoc]
          refine ⟨by omega, (ds5, row ++ [k]), rfl, by simp; omega, fun x hx => b2 x (List.mem_cons_of_mem _ hx), fun x hx => ?_⟩
          rcases List.mem_append.mp hx with hx | hx
          · exact c2 x hx
          · simp at hx; omega
    · obtain ⟨ds4, row⟩ := t
      obtain ⟨a2, b2, c2⟩ := ht
      simp at a2
      dsimp only at c2
      simp
      refine ⟨by omega, (ds4, rows ++ [row]), by simp [tN, Tb.d], by simp; omega, fun x hx => b x (List.mem_cons_of_mem _ hx), fun r' hr' => ?_⟩
      rcases List.mem_append.mp hr' with hr' | hr'
      · exact c r' hr'
      · rw [List.mem_singleton] at hr'; subst hr'; exact ⟨by omega, c2⟩
  · obtain ⟨ds3, rows⟩ := t
    obtain ⟨a3, b3, c3⟩ := ht
    simp at a3
    dsimp only at c3
    simp [Tb.d, rgOk_N (k := sh.length) (by omega), rgD_N]
    refine wi (lc_tN (fun i : Nat => PyData.int (i : Int)) (fun k => decide (sh.getD k 0 ∈ T.fits)) (fun k => k) (by simp; omega) (fun k hk => ?_) ?_)
    · have hk := List.mem_range.mp hk
      simp [N_get, List.getElem?_eq_getElem hk]
    · simp
      have := q ⟨T.L, rows, keepN sh.length fun k => decide (sh.getD k 0 ∈ T.fits)⟩ ds3 ⟨hT.L, by dsimp only; omega, by dsimp only; omega, fun r hr => by dsimp only; rw [a3]; exact c3 r hr, by dsimp only; rw [a3]; exact keepN_ok _ _⟩ rfl
      simpa [Tb.d, keepN] using this
end Mm
namespace Mm
open PySem L2
theorem small_t {n : Nat} {ds : List Int} {cs : List Nat} {m : Nat} {Q : O × List O → Prop} (hn : 10 ≤ n) (hc : Lets cs) (h0 : 1 ≤ m) (hm : m ≤ 5000) (q : ∀ (T : Tb) ds', T.Ok (m + 5) → T.L = cs → Q (.v T.d, [.l (I ds'), .v (.str (St cs)), .v (.int (m : Int))])) :
    Wp (mir n i_law_small_table [.l (I ds), .v (.str (St cs)), .v (.int (m : Int))]) Q := by
  obtain ⟨n, rfl, hn⟩ := fuel hn
  rw [mir_law_small_table, b_law_small_table]
  simp
  refine either_t (by omega) hc h0 (by omega) fun T ds2 hT hL => ?_
  simp [↓i_w_ifS]
  refine take_t (by omega) (by decide) fun j ds3 h1 => ?_
  simp
  refine ⟨fun _ => ?_, fun _ => ?_⟩
  · have e : ((m : Int) + 5) = ((m + 5 : Nat) : Int) := by omega
    rw [e]
    refine blown_t (by omega) hT (by omega) (by omega) fun T' ds4 hT' hL' => ?_
    simp
    exact q T' ds4 hT' (hL'.trans hL)
  · exact q T ds3 ⟨hT.L, hT.ne, by have := hT.le; omega, hT.rows, hT.fits⟩ hL
end Mm
namespace Mm
open PySem L2
/-- how many texts of n letters lead from s to a fitting state -/
def cnt (T : Tb) : Nat → Nat → Nat
  | 0, s => if s ∈ T.fits then 1 else 0
  | n + 1, s => ((T.rows.getD s []).map (cnt T n)).sum
def cntRow (T : Tb) (n : Nat) : List Nat := (List.range T.rows.length).map (cnt T n)
def lN (r : List Nat) : D := .list (N r)
def cntAll (T : Tb) (m : Nat) : List (List Nat) := (List.range m).map (cntRow T)
theorem sum_N {ns : List Nat} {ρ : Rho} : sumG (.o (.l (N ns))) ρ = some (.v (.int (ns.sum : Nat))) := by
  rw [N_I, sum_o]
  congr 3
  induction ns with
  | nil => rfl
  | cons n ns ih => rw [List.map_cons, List.sum_cons, ih, List.sum_cons]; show (n : Int) + _ = _; omega
@[simp] theorem cntRow_len (T : Tb) (n : Nat) : (cntRow T n).length = T.rows.length := by simp [cntRow]
@[simp] theorem cntAll_len (T : Tb) (n : Nat) : (cntAll T n).length = n := by simp [cntAll]
theorem cntRow_get {T : Tb} {n s : Nat} (h : s < T.rows.length) : (cntRow T n)[s]? = some (cnt T n s) := by simp [cntRow, h]
theorem cntAll_get {T : Tb} {n s : Nat} (h : s < n) : (cntAll T n)[s]? = some (cntRow T s) := by simp [cntAll, h]
@[simp] theorem cntAll_at {T : Tb} {n s : Nat} (h : s < (cntAll T n).length) : (cntAll T n)[s] = cntRow T s := by simp [cntAll]
theorem cntAll_succ {T : Tb} {n : Nat} : cntAll T (n + 1) = cntAll T n ++ [cntRow T n] := by simp [cntAll, List.range_succ]
theorem cnt_row {T : Tb} {n : Nat} : T.rows.map (fun r => (r.map (cnt T n)).sum) = cntRow T (n + 1) := by
  unfold cntRow
  refine List.ext_getElem? fun i => ?_
  by_cases h : i < T.rows.length
  · simp [h, cnt]
  · simp [h]
theorem counts_t {n m M : Nat} {T : Tb} {Q : O × List O → Prop} (hn : 1 ≤ n) (hT : T.Ok m) (hm : m ≤ 10000) (hM : M ≤ 10000) (q : Q (.l ((cntAll T (M + 1)).map lN), [.v T.d, .v (.int (M : Int))])) :
    Wp (mir n i_law_left_counts [.v T.d, .v (.int (M : Int))]) Q := by
  obtain ⟨n, rfl, hn⟩ := fuel hn
  have hle := hT.le
  rw [mir_law_left_counts, b_law_left_counts]
  simp [Tb.d, rgOk_N (k := T.rows.length) (by omega), rgD_N, rgOk_N (k := M) (by omega)]
  refine wi (lc_mN (fun i : Nat => PyData.int (i : Int)) (cnt T 0) (by simp; omega) (fun k hk => ?_) ?_)
  · simp [intG, cnt]
    split <;> rfl
  · simp [rgOk_N (k := M) (by omega), rgD_N]
    refine wi (loop_invE (fun i : Nat => PyData.int (i : Int)) (fun k : Nat => [some (.v T.d), some (.v (.int (M : Int))), some (.l ((cntAll T (k + 1)).map lN)), none, none, none, none])
      (fun xs k => xs = List.range' k (M - k) ∧ k ≤ M) (xs := List.range M) (t := 0) rfl rfl ⟨by rw [List.range_eq_range']; rfl, by omega⟩ (fun x xs k h => ?_) fun k h => ?_)
    · obtain ⟨h1, h2⟩ := h
      by_cases hk : M - k = 0
      · rw [hk] at h1; cases h1
      · obtain ⟨z, hz⟩ : ∃ z, M - k = z + 1 := ⟨M - k - 1, by omega⟩
        rw [hz, List.range'_succ] at h1
        cases h1
        simp [k_law_left_counts_1, Tb.d]
        refine wi (lc_mN tN (fun r => (r.map (cnt T x)).sum) (by omega) (fun r hr => ?_) ?_)
        · simp [tN]
          refine wi (lc_mN (fun i : Nat => PyData.int (i : Int)) (cnt T x) (by rw [(hT.rows r hr).1]; have := hT.L.2.2.2; omega) (fun to hto => ?_) ?_)
          · simp [lN, N_get, cntRow_get (n := x) ((hT.rows r hr).2 to hto)]
          · simp [sum_N]
        · simp [cnt_row]
          refine ⟨by omega, x + 1, ?_, ⟨by omega, .inr rfl⟩, by omega⟩
          dsimp only
          rw [cntAll_succ (n := x + 1), List.map_append]
          rfl
    · obtain ⟨h1, h2⟩ := h
      have : M = k := by
        have := congrArg List.length h1
        simp at this
        omega
      subst this
      simpa using q

/-- texts of T of size s that fit -/
structure Fit (T : Tb) (s : Nat) (w : List Nat) : Prop where
  len : w.length = s
  mem : ∀ c ∈ w, c ∈ T.L
  fit : behind T 0 w ∈ T.fits
theorem behind_app {T : Tb} {s : Nat} {a b : List Nat} : behind T s (a ++ b) = behind T (behind T s a) b := by unfold behind; rw [List.foldl_append]
/-- what is left of the sizes -/
def left (T : Tb) (k s : Nat) : Nat := ((List.range' k (s - k)).map fun i => cnt T i 0).sum
theorem left_step {T : Tb} {k s : Nat} (h : k < s) : left T k s = cnt T k 0 + left T (k + 1) s := by
  unfold left
  obtain ⟨z, hz⟩ : ∃ z, s - k = z + 1 := ⟨s - k - 1, by omega⟩
  rw [hz, List.range'_succ, List.map_cons, List.sum_cons, show s - (k + 1) = z by omega]
theorem St_app (a b : List Nat) : St a ++ St b = St (a ++ b) := by
  show (⟨(a.toArray ++ b.toArray)⟩ : Str) = ⟨_⟩
  simp
theorem idx_get {cs : List Nat} (h : cs.Pairwise (· < ·)) {j : Nat} (hj : j < cs.length) : cs.idxOf cs[j] = j :=
  idxOf_of (List.getElem?_eq_getElem hj) fun k hk e => by
    have := List.pairwise_iff_getElem.mp h k j (by omega) hj hk
    rw [List.getElem?_eq_getElem (by omega)] at e
    injection e with e
    omega
theorem add_St {a b : List Nat} {ρ : Rho} (h : a.length + b.length ≤ 16777216) : addG (.v (.str (St a))) (.v (.str (St b))) ρ = some (.v (.str (St (a ++ b)))) := by
  have e : addG (.v (.str (St a))) (.v (.str (St b))) ρ = if (St a).length + (St b).length ≤ sizeLine then some (.v (.str (St a ++ St b))) else none := rfl
  rw [e, if_pos (by rw [St_len, St_len, sizeLine_eq]; omega), St_app]
theorem ch_St (c : Nat) : (⟨#[c]⟩ : Str) = St [c] := rfl
theorem sum_lt {f : Nat → Nat} {r : List Nat} {j : Nat} (h : j < r.length) : ((r.drop j).map f).sum = f r[j] + ((r.drop (j + 1)).map f).sum := by
  rw [List.drop_eq_getElem_cons h, List.map_cons, List.sum_cons]
theorem letter_t {n m M l st a : Nat} {T : Tb} {w : List Nat} {j0 to0 : Option O} {Q : Fl → Prop} (hT : T.Ok m) (hm : m ≤ 10000) (hl : l < M) (hst : st < T.rows.length) (ha : a < cnt T (l + 1) st)
    (q : ∀ a' j to, (T.rows.getD st [])[j]? = some to → j < T.L.length → to < T.rows.length → a' < cnt T l to →
      Q (.nx [some (.v T.d), some (.v (.list ((cntAll T M).map lN))), some (.v (.int (a' : Int))), none, some (.v (.int (st : Int))), some (.v (.str (St w))), some (.v (.int (l : Int))), some (.v (.int (j : Int))), some (.v (.int (to : Int)))])) :
    Wp (loopS (nmG 7) (k_law_nth_1 (mir n)) (N (List.range T.L.length))
      [some (.v T.d), some (.v (.list ((cntAll T M).map lN))), some (.v (.int (a : Int))), none, some (.v (.int (st : Int))), some (.v (.str (St w))), some (.v (.int (l : Int))), j0, to0]) Q := by
  obtain ⟨row, e1, e2, e3⟩ := hT.at hst
  have e4 : T.rows.getD st [] = row := by simp [List.getD_eq_getElem?_getD, e1]
  rw [e4] at q
  have e5 : cnt T (l + 1) st = (row.map (cnt T l)).sum := by rw [cnt, e4]
  have hle := hT.le
  refine loop_brk (fun i : Nat => PyData.int (i : Int)) (fun t : Nat × Option O × Option O => [some (.v T.d), some (.v (.list ((cntAll T M).map lN))), some (.v (.int (t.1 : Int))), none, some (.v (.int (st : Int))), some (.v (.str (St w))), some (.v (.int (l : Int))), t.2.1, t.2.2])
    (fun xs t => ∃ j, xs = List.range' j (T.L.length - j) ∧ j ≤ T.L.length ∧ t.1 < ((row.drop j).map (cnt T l)).sum)
    (fun t => ∃ j to : Nat, row[j]? = some to ∧ j < T.L.length ∧ to < T.rows.length ∧ t.1 < cnt T l to ∧ t.2.1 = some (.v (.int (j : Int))) ∧ t.2.2 = some (.v (.int (to : Int))))
    (xs := List.range T.L.length) (t := (a, j0, to0)) rfl rfl ⟨0, by rw [List.range_eq_range']; rfl, by omega, by rw [List.drop_zero, ← e5]; exact ha⟩ (fun x xs t h => ?_) (fun t h => ?_) ?_
  · obtain ⟨j, h1, h2, h3⟩ := h
    by_cases hj : T.L.length - j = 0
    · rw [hj] at h1; cases h1
    obtain ⟨z, hz⟩ : ∃ z, T.L.length - j = z + 1 := ⟨T.L.length - j - 1, by omega⟩
    rw [hz, List.range'_succ] at h1
    cases h1
    have hj : x < row.length := by omega
    have hto := e3 _ (List.getElem_mem hj)
    rw [sum_lt hj] at h3
    simp [k_law_nth_1, Tb.d, lN, e1, tN, N_get, List.getElem?_eq_getElem hj, cntAll_get (T := T) (n := M) (s := l) hl, cntRow_get (n := l) hto, ↓i_w_ifS]
    refine ⟨fun h => ⟨(t.1, some (.v (.int (x : Int))), some (.v (.int (row[x] : Nat)))), rfl, x, row[x], List.getElem?_eq_getElem hj, by omega, hto, h, rfl, rfl⟩, fun h =>
      ⟨(t.1 - cnt T l row[x], some (.v (.int (x : Int))), some (.v (.int (row[x] : Nat)))), ?_, x + 1, ⟨by omega, .inr rfl⟩, by omega, ?_⟩⟩
    · rw [← Int.ofNat_sub h]
    · simp only [List.map_drop] at h3 ⊢
      omega
  · obtain ⟨j, h1, h2, h3⟩ := h
    exfalso
    have h4 := congrArg List.length h1
    simp at h4
    rw [List.drop_eq_nil_of_le (by omega)] at h3
    simp at h3
  · intro t h
    obtain ⟨j, to, h1, h2, h3, h4, h5, h6⟩ := h
    rw [h5, h6]
    exact q _ _ _ h1 h2 h3 h4
theorem nth_t {n m M s r : Nat} {T : Tb} {Q : O × List O → Prop} (hn : 1 ≤ n) (hT : T.Ok m) (hm : m ≤ 10000) (hM : M ≤ 10000) (hs : s < M) (hr : r < cnt T s 0)
    (q : ∀ w, Fit T s w → Q (.v (.str (St w)), [.v T.d, .v (.list ((cntAll T M).map lN)), .v (.int ((left T 0 s + r : Nat) : Int))])) :
    Wp (mir n i_law_nth [.v T.d, .v (.list ((cntAll T M).map lN)), .v (.int ((left T 0 s + r : Nat) : Int))]) Q := by
  obtain ⟨n, rfl, hn⟩ := fuel hn
  have hle := hT.le
  rw [mir_law_nth, b_law_nth]
  simp [rgOk_N (k := M) (by omega), rgD_N]
  refine wi (loop_invE (fun i : Nat => PyData.int (i : Int)) (fun k : Nat => [some (.v T.d), some (.v (.list ((cntAll T M).map lN))), some (.v (.int ((left T k s + r : Nat) : Int))), none, none, none, none, none, none])
      (fun xs k => xs = List.range' k (M - k) ∧ k ≤ s) (xs := List.range M) (t := 0) rfl (by simp) ⟨by rw [List.range_eq_range']; rfl, by omega⟩ (fun x xs k h => ?_) fun k h => ?_)
  · obtain ⟨h1, h2⟩ := h
    obtain ⟨z, hz⟩ : ∃ z, M - k = z + 1 := ⟨M - k - 1, by omega⟩
    rw [hz, List.range'_succ] at h1
    cases h1
    simp [k_law_nth_3, Tb.d, lN, N_get, cntAll_get (T := T) (n := M) (s := x) (by omega), cntRow_get hT.ne, ↓i_w_ifS]
    refine ⟨fun h => ⟨rgOk_N (k := x) (by omega), ?_⟩, fun h => ?_⟩
    · have hx : x = s := by
        refine Nat.le_antisymm h2 (Nat.le_of_not_lt fun z => ?_)
        rw [left_step z] at h
        omega
      subst hx
      have h0 : left T x x = 0 := by simp [left]
      rw [h0] at h ⊢
      rw [rgD_N]
      refine wi (loop_invE (fun i : Nat => PyData.int (i : Int)) (fun t : Nat × Nat × List Nat × Option O × Option O => [some (.v T.d), some (.v (.list ((cntAll T M).map lN))), some (.v (.int (t.1 : Int))), none, some (.v (.int (t.2.1 : Int))), some (.v (.str (St t.2.2.1))), none, t.2.2.2.1, t.2.2.2.2])
        (fun xs t => ∃ l, xs = (List.range l).reverse ∧ l + t.2.2.1.length = x ∧ t.1 < cnt T l t.2.1 ∧ t.2.1 < T.rows.length ∧ behind T 0 t.2.2.1 = t.2.1 ∧ ∀ c ∈ t.2.2.1, c ∈ T.L)
        (xs := (List.range x).reverse) (t := (r, 0, [], none, none)) ?_ ?_ ⟨x, rfl, rfl, by omega, hT.ne, rfl, fun _ z => nomatch z⟩ (fun y xs t h => ?_) fun t h => ?_)
      · unfold N; rw [List.map_reverse]
      · simp [h0, Tb.d]
        exact (of_eq_true St_nil).symm
      · obtain ⟨l, h1, h2, h3, h4, h5, h6⟩ := h
        obtain ⟨a, st, w, j0, to0⟩ := t
        dsimp only at h2 h3 h4 h5 h6 ⊢
        cases l with
        | zero => cases h1
        | succ l =>
          rw [List.range_succ, List.reverse_append] at h1
          cases h1
          simp [k_law_nth_2]
          simp [Tb.d, rgOk_N (k := T.L.length) (by have := hT.L.2.2.2; omega), rgD_N]
          refine ⟨by have := hT.L.2.2.2; omega, wi (letter_t (T := T) (M := M) (l := y) hT hm (by omega) h4 h3 fun a' j to e1 e2 e3 e4 => ?_)⟩
          have hLl := hT.L.2.2.2
          simp [Tb.d, List.getElem?_eq_getElem e2, ch_St, add_St (a := w) (b := [T.L[j]]) (by simp; omega)]
          refine ⟨by omega, (a', to, w ++ [T.L[j]], some (.v (.int (j : Int))), some (.v (.int (to : Int)))), rfl, y, rfl, by simp; omega, e4, e3, ?_, fun c hc => ?_⟩
          · rw [behind_app, h5]
            show (T.rows.getD st []).getD (T.L.idxOf T.L[j]) 0 = to
            rw [idx_get hT.L.2.1 e2, List.getD_eq_getElem?_getD, e1]
            rfl
          · rcases List.mem_append.mp hc with hc | hc
            · exact h6 c hc
            · rw [List.mem_singleton] at hc; rw [hc]; exact List.getElem_mem e2
      · obtain ⟨l, h1, h2, h3, h4, h5, h6⟩ := h
        obtain ⟨a, st, w, j0, to0⟩ := t
        dsimp only at h2 h3 h4 h5 h6 ⊢
        have hl : l = 0 := by have := congrArg List.length h1; simpa using this.symm
        subst hl
        simp
        have := q w ⟨by omega, h6, ?_⟩
        · simpa [h0] using this
        · rw [h5]
          rw [cnt] at h3
          split at h3
          · assumption
          · omega
    · have hx : x < s := by
        refine Nat.lt_of_le_of_ne h2 fun z => ?_
        subst z
        have h0 : left T x x = 0 := by simp [left]
        omega
      refine ⟨x + 1, ?_, ⟨by omega, .inr rfl⟩, hx⟩
      rw [left_step hx] at h ⊢
      dsimp only
      congr 6
      omega
  · exfalso
    have := congrArg List.length h.1
    simp at this
    omega
end Mm
namespace Mm
open PySem L2
theorem rgD_N2 {a b : Nat} : rgD (a : Int) ((b : Int) + 1) = N (List.range' a (b + 1 - a)) := by
  unfold rgD N
  rw [List.range'_eq_map_range, List.map_map, show ((b : Int) + 1 - a).toNat = b + 1 - a by omega]
  refine List.map_congr_left fun x _ => ?_
  show PyData.int _ = PyData.int _
  congr 1
theorem rgOk_N2 {a b : Nat} (ha : a ≤ 100000) (hb : b ≤ 100000) : rgOk (a : Int) ((b : Int) + 1) = true := by
  unfold rgOk
  exact decide_eq_true (by omega)
theorem atI_m1 {α : Type} {xs : List α} (h : xs ≠ []) : ∃ x, atI xs (-1) = some x ∧ x ∈ xs := by
  have hl : 0 < xs.length := List.length_pos_iff.mpr h
  refine ⟨xs[xs.length - 1], ?_, List.getElem_mem _⟩
  unfold atI
  have e : ixN xs.length (-1) = some (xs.length - 1) := by
    unfold ixN
    rw [if_neg (by decide), if_pos (by omega)]
    congr 1
    omega
  rw [e]
  exact List.getElem?_eq_getElem _
theorem cutD_to {α : Type} {xs : List α} {k : Nat} : cutD xs none (some (k : Int)) = xs.take k := by
  unfold cutD
  rw [HT.sIx_nat, HT.sIx_none]
  simp
theorem cutD_from {α : Type} {xs : List α} {k : Nat} : cutD xs (some (k : Int)) none = xs.drop k := by
  unfold cutD
  rw [HT.sIx_nat, HT.sIx_none]
  by_cases h : k ≤ xs.length
  · rw [Nat.min_eq_left h, List.take_of_length_le (by simp)]
  · rw [Nat.min_eq_right (by omega), List.drop_of_length_le (by omega : xs.length ≤ k), List.drop_of_length_le (Nat.le_refl _)]
    simp
theorem cutD_mid {α : Type} {xs : List α} {j k : Nat} (h : j ≤ k) (hk : k ≤ xs.length) : cutD xs (some (j : Int)) (some (k : Int)) = (xs.drop j).take (k - j) := by
  unfold cutD
  rw [HT.sIx_nat, HT.sIx_nat, Nat.min_eq_left hk, Nat.min_eq_left (by omega)]
theorem left_take {T : Tb} {s : Nat} (h : 0 < T.rows.length) : (((List.range s).map (cntRow T)).map (fun r => r.getD 0 0)).sum = left T 0 s := by
  unfold left
  rw [List.map_map, List.range_eq_range']
  congr 1
  refine List.map_congr_left fun i _ => ?_
  show (cntRow T i).getD 0 0 = _
  rw [List.getD_eq_getElem?_getD, cntRow_get h]
  rfl
theorem atI_mapD {α β : Type} {xs : List α} {f : α → β} {k : Int} : atI (xs.map f) k = (atI xs k).map f := by
  unfold atI
  rw [List.length_map]
  cases ixN xs.length k with
  | none => rfl
  | some j => simp
theorem fitting_t {n m M : Nat} {T : Tb} {ds : List Int} {Q : O × List O → Prop} (hn : 3 ≤ n) (hT : T.Ok m) (hm : m ≤ M) (hM : M ≤ 9000)
    (q : ∀ (ws : List (List Nat)) ds', (∀ w ∈ ws, ∃ s, T.rows.length ≤ s ∧ s ≤ M ∧ Fit T s w) → Q (.l (ws.map fun w => .str (St w)), [.l (I ds'), .v T.d, .v (.int (M : Int))])) :
    Wp (mir n i_law_fitting_texts [.l (I ds), .v T.d, .v (.int (M : Int))]) Q := by
  obtain ⟨n, rfl, hn⟩ := fuel hn
  have hle := hT.le
  rw [mir_law_fitting_texts, b_law_fitting_texts]
  simp
  refine counts_t (by omega) hT (by omega) (by omega) ?_
  simp [Tb.d, rgOk_N2 (a := T.rows.length) (b := M) (by omega) (by omega), rgD_N2]
  refine wi (lc_tN (fun i : Nat => PyData.int (i : Int)) (fun s => decide (0 < cnt T s 0)) (fun s => s) (by simp; omega) (fun s hs => ?_) ?_)
  · have hs2 : s < M + 1 := by simp at hs; omega
    simp [cntAll_get (T := T) (n := M + 1) hs2, lN, N_get, cntRow_get hT.ne]
  · simp
    have hsz : ∀ s ∈ List.filter (fun s => decide (0 < cnt T s 0)) (List.range' T.rows.length (M + 1 - T.rows.length)), T.rows.length ≤ s ∧ s ≤ M ∧ 0 < cnt T s 0 := fun s hs => by
      rw [List.mem_filter, List.mem_range'_1] at hs
      exact ⟨hs.1.1, by omega, of_decide_eq_true hs.2⟩
    generalize List.filter (fun s => decide (0 < cnt T s 0)) (List.range' T.rows.length (M + 1 - T.rows.length)) = sz at hsz ⊢
    simp [↓i_w_ifS]
    refine ⟨fun h0 => ?_, fun h0 => ?_⟩
    · have hne : sz ≠ [] := fun z => by subst z; simp at h0
      obtain ⟨x0, e0, m0⟩ : ∃ x, sz[0]? = some x ∧ x ∈ sz := ⟨sz[0], List.getElem?_eq_getElem h0, List.getElem_mem h0⟩
      obtain ⟨x2, e2, m2⟩ := atI_m1 hne
      simp [N_get, e0]
      refine pick_l (by omega) (fun z => hne (List.map_eq_nil_iff.mp z)) fun d ds2 hd => ?_
      obtain ⟨x1, m1, rfl⟩ := List.mem_map.mp hd
      have e3 : atI (N sz) (-1) = some (.int (x2 : Int)) := by rw [N, atI_mapD, e2]; rfl
      simp [negD, e3]
      refine wi (loop_invE (fun i : Nat => PyData.int (i : Int)) (fun t : List Int × List (List Nat) => [some (.l (I t.1)), some (.v T.d), some (.v (.int (M : Int))), some (.v (.list ((cntAll T (M + 1)).map lN))), none, some (.l (t.2.map fun w => .str (St w))), none, none, none, none])
        (fun xs t => (∀ s ∈ xs, s ∈ sz) ∧ (∀ w ∈ t.2, ∃ s, T.rows.length ≤ s ∧ s ≤ M ∧ Fit T s w) ∧ t.2.length + xs.length ≤ 3) (xs := [x0, x1, x2]) (t := (ds2, [])) rfl rfl ⟨fun s hs => ?_, fun _ z => (nomatch z), by simp⟩ (fun s xs t h => ?_) fun t h => ?_)
      · simp at hs
        rcases hs with rfl | rfl | rfl <;> assumption
      · obtain ⟨h1, h2, h3⟩ := h
        obtain ⟨ds3, ws⟩ := t
        simp at h3
        obtain ⟨a1, a2, a3⟩ := hsz s (h1 s List.mem_cons_self)
        simp [k_law_fitting_texts_1, cutD_to, ← List.map_take]
        have ht : (cntAll T (M + 1)).take s = (List.range s).map (cntRow T) := by
          unfold cntAll
          rw [← List.map_take, List.take_range, Nat.min_eq_left (by omega)]
        rw [ht]
        refine wi (lc_mN lN (fun r => r.getD 0 0) (by simp; omega) (fun r hr => ?_) ?_)
        · obtain ⟨i, hi, rfl⟩ := List.mem_map.mp hr
          simp [lN, N_get, cntRow_get hT.ne]
        · simp only [sum_N, left_take hT.ne]
          simp [left_take hT.ne]
          refine take_t (by omega) (by decide) fun j1 ds4 hj1 => ?_
          simp
          refine take_t (by omega) (by decide) fun j2 ds5 hj2 => ?_
          simp [cntAll_get (T := T) (n := M + 1) (s := s) (by omega), lN, N_get, cntRow_get hT.ne]
          have hf : ((j1 : Int) * 1000003 + (j2 : Int)).fmod (cnt T s 0 : Int) = (((j1 * 1000003 + j2) % cnt T s 0 : Nat) : Int) := by rw [Int.fmod_eq_emod_of_nonneg _ (by omega)]; rfl
          refine ⟨by omega, fun _ => ?_⟩
          rw [hf]
          have hr : (j1 * 1000003 + j2) % cnt T s 0 < cnt T s 0 := Nat.mod_lt _ a3
          refine wi (nth_t (M := M + 1) (s := s) (by omega) hT (by omega) (by omega) (by omega) hr fun w hw => ?_)
          simp
          refine ⟨by omega, (ds5, ws ++ [w]), by simp [Tb.d], fun s hs => h1 s (List.mem_cons_of_mem _ hs), fun v hv => ?_, by simp; omega⟩
          rcases List.mem_append.mp hv with hv | hv
          · exact h2 v hv
          · rw [List.mem_singleton] at hv
            subst hv
            exact ⟨s, a1, a2, hw⟩
      · simp
        exact q _ _ h.2.1
    · exact q [] ds (fun _ z => nomatch z)
end Mm
namespace Mm
open PySem L2
/-- the states on the way -/
def tr (T : Tb) (w : List Nat) (j : Nat) : Nat := behind T 0 (w.take j)
def trs (T : Tb) (w : List Nat) (k : Nat) : List Nat := (List.range k).map (tr T w)
structure Rep (T : Tb) (w : List Nat) (i k : Nat) : Prop where
  nd : (trs T w (k + 1)).Nodup
  le : i ≤ k
  lt : k < w.length
  eq : tr T w (k + 1) = tr T w i
theorem trs_succ {T : Tb} {w : List Nat} {k : Nat} : trs T w (k + 1) = trs T w k ++ [tr T w k] := by simp [trs, List.range_succ]
theorem trs_mem {T : Tb} {w : List Nat} {k x : Nat} : x ∈ trs T w k ↔ ∃ i, i < k ∧ tr T w i = x := by simp [trs]
theorem trs_get {T : Tb} {w : List Nat} {k i : Nat} (h : i < k) : (trs T w k)[i]? = some (tr T w i) := by simp [trs, h]
@[simp] theorem trs_at {T : Tb} {w : List Nat} {k i : Nat} (h : i < (trs T w k).length) : (trs T w k)[i] = tr T w i := by simp [trs]
@[simp] theorem N_at {ns : List Nat} {i : Nat} (h : i < (N ns).length) : (N ns)[i] = .int ((ns[i]'(by simpa using h) : Nat) : Int) := List.getElem_map ..
@[simp] theorem trs_len {T : Tb} {w : List Nat} {k : Nat} : (trs T w k).length = k := by simp [trs]
theorem trs_inj {T : Tb} {w : List Nat} {k i j : Nat} (h : (trs T w k).Nodup) (hi : i < k) (hj : j < k) (e : tr T w i = tr T w j) : i = j := by
  have h2 := List.pairwise_iff_getElem.mp h
  rcases Nat.lt_trichotomy i j with z | z | z
  · exact absurd (by simpa [trs] using e) (h2 i j (by simpa using hi) (by simpa using hj) z)
  · exact z
  · exact absurd (by simpa [trs] using e.symm) (h2 j i (by simpa using hj) (by simpa using hi) z)
theorem Rep.uniq {T : Tb} {w : List Nat} {i k i' k' : Nat} (a : Rep T w i k) (b : Rep T w i' k') : i = i' ∧ k = k' := by
  have hk : k = k' := by
    rcases Nat.lt_trichotomy k k' with z | z | z
    · have := trs_inj b.nd (i := k + 1) (j := i) (by omega) (by have := a.le; omega) a.eq
      have := a.le; omega
    · exact z
    · have := trs_inj a.nd (i := k' + 1) (j := i') (by omega) (by have := b.le; omega) b.eq
      have := b.le; omega
  subst hk
  exact ⟨trs_inj a.nd (by have := a.le; omega) (by have := b.le; omega) (a.eq.symm.trans b.eq), rfl⟩
theorem tr_step {T : Tb} {w : List Nat} {k : Nat} (h : k < w.length) : tr T w (k + 1) = behind T (tr T w k) [w[k]] := by
  unfold tr
  rw [List.take_succ_eq_append_getElem h, behind_app]
theorem tr_lt {T : Tb} {w : List Nat} {m k : Nat} (hT : T.Ok m) (hw : ∀ c ∈ w, c ∈ T.L) : tr T w k < T.rows.length := behind_lt hT hT.ne fun c hc => hw c (List.mem_of_mem_take hc)
theorem trs_nd_le {T : Tb} {w : List Nat} {m k : Nat} (hT : T.Ok m) (hw : ∀ c ∈ w, c ∈ T.L) (h : (trs T w k).Nodup) : k ≤ T.rows.length := by
  have := nodup_le (ys := List.range T.rows.length) h fun x hx => by
    obtain ⟨i, _, rfl⟩ := trs_mem.mp hx
    exact List.mem_range.mpr (tr_lt hT hw)
  simpa using this
def cutW (w : List Nat) (i k : Nat) : D := .tuple [.str (St (w.take i)), .str (St ((w.drop i).take (k + 1 - i))), .str (St (w.drop (k + 1)))]
theorem cutS_St {w : List Nat} {lo hi : Option Int} : cutS (St w) lo hi = St (cutD w lo hi) := by
  unfold cutS cutD
  rw [St_len]
  rfl
theorem cutW_eq {w : List Nat} {i k : Nat} (h : i ≤ k) (hk : k < w.length) : PyData.tuple [.str (cutS (St w) none (some (i : Int))), .str (cutS (St w) (some (i : Int)) (some ((k : Int) + 1))), .str (cutS (St w) (some ((k : Int) + 1)) none)] = cutW w i k := by
  rw [cutS_St, cutS_St, cutS_St, cutD_to, show ((k : Int) + 1) = ((k + 1 : Nat) : Int) from rfl, cutD_mid (by omega) (by omega), cutD_from]
  rfl
theorem lpumped_t {n m : Nat} {T : Tb} {w : List Nat} {Q : O × List O → Prop} (hn : 2 ≤ n) (hT : T.Ok m) (hm : m ≤ 10000) (hw : ∀ c ∈ w, c ∈ T.L) (hl : T.rows.length ≤ w.length) (hl2 : w.length ≤ 10000)
    (q : ∀ i k, Rep T w i k → Q (.v (cutW w i k), [.v T.d, .v (.str (St w))])) : Wp (mir n i_law_pumped [.v T.d, .v (.str (St w))]) Q := by
  obtain ⟨n, rfl, hn⟩ := fuel hn
  have hle := hT.le
  rw [mir_law_pumped, b_law_pumped]
  simp [rgOk_N (k := w.length) (by omega), rgD_N]
  refine ⟨by omega, wi (loop_invE (fun i : Nat => PyData.int (i : Int)) (fun k : Nat => [some (.v T.d), some (.v (.str (St w))), some (.l (N (trs T w (k + 1)))), none, none, none])
    (fun xs k => xs = List.range' k (w.length - k) ∧ k ≤ w.length ∧ (trs T w (k + 1)).Nodup) (xs := List.range w.length) (t := 0) rfl rfl ⟨by rw [List.range_eq_range']; rfl, by omega, by simp [trs]⟩ (fun x xs k h => ?_) fun k h => ?_)⟩
  · obtain ⟨h1, h2, h3⟩ := h
    by_cases hk : w.length - k = 0
    · rw [hk] at h1; cases h1
    obtain ⟨z, hz⟩ : ∃ z, w.length - k = z + 1 := ⟨w.length - k - 1, by omega⟩
    rw [hz, List.range'_succ] at h1
    cases h1
    have hx : x < w.length := by omega
    simp [k_law_pumped_1, N_get, trs_get (T := T) (w := w) (k := x + 1) (i := x) (by omega), List.getElem?_eq_getElem hx, ch_St]
    refine ⟨by omega, ?_⟩
    refine behind_t (w := [w[x]]) (by omega) hT (tr_lt hT hw) (fun c hc => by rw [List.mem_singleton] at hc; rw [hc]; exact hw _ (List.getElem_mem hx)) ?_
    rw [← tr_step hx]
    simp [↓i_w_ifS]
    refine ⟨fun h => ?_, fun h => ?_⟩
    · have hi : (trs T w (x + 1)).idxOf (tr T w (x + 1)) < x + 1 := by
        have := List.idxOf_lt_length_of_mem h
        simpa using this
      have hii : tr T w (x + 1) = tr T w ((trs T w (x + 1)).idxOf (tr T w (x + 1))) := by
        have h5 := List.getElem_idxOf (List.idxOf_lt_length_of_mem h)
        rw [trs_at] at h5
        exact h5.symm
      simp [find_N h]
      rw [cutW_eq (by omega) hx]
      exact ⟨by omega, q _ x ⟨h3, by omega, hx, hii⟩⟩
    · refine ⟨by omega, x + 1, ?_, ⟨by omega, .inr rfl⟩, by omega, ?_⟩
      · dsimp only
        rw [N_snoc, ← trs_succ]
      · rw [trs_succ (k := x + 1)]
        exact List.nodup_append.mpr ⟨h3, by simp, fun a ha b hb => by
          rw [List.mem_singleton] at hb
          subst hb
          exact fun e => h (e ▸ ha)⟩
  · exfalso
    obtain ⟨h1, h2, h3⟩ := h
    have := congrArg List.length h1
    simp at this
    have := trs_nd_le hT hw h3
    omega
/-- pumped's own dict: each state with the place where it came -/
def cameD (T : Tb) (w : List Nat) (k : Nat) : List (Key × D) := (List.range k).map fun i => (.inl (tr T w i : Nat), .int (i : Nat))
theorem look_map {f g : Nat → Nat} {i : Nat} : ∀ {ks : List Nat}, i ∈ ks → (∀ a ∈ ks, f a = f i → a = i) → lookD (ks.map fun i => (.inl ((f i : Nat) : Int), PyData.int ((g i : Nat) : Int))) (.inl ((f i : Nat) : Int)) = some (.int ((g i : Nat) : Int))
  | [], h, _ => nomatch h
  | a :: ks, h, u => by
    unfold lookD
    rw [List.map_cons, List.find?_cons]
    by_cases e : f a = f i
    · have := u a List.mem_cons_self e
      subst this
      simp
    · have e2 : decide ((Sum.inl ((f a : Nat) : Int) : Key) = .inl ((f i : Nat) : Int)) = false := decide_eq_false fun z => e (by injection z with z; omega)
      rw [e2]
      have hi : i ∈ ks := by
        rcases List.mem_cons.mp h with z | z
        · exact absurd (by rw [z]) e
        · exact z
      exact look_map hi fun a ha => u a (List.mem_cons_of_mem _ ha)
theorem look_none {f g : Nat → Nat} {x : Nat} : ∀ {ks : List Nat}, (∀ a ∈ ks, f a ≠ x) → lookD (ks.map fun i => (.inl ((f i : Nat) : Int), PyData.int ((g i : Nat) : Int))) (.inl ((x : Nat) : Int)) = none
  | [], _ => rfl
  | a :: ks, u => by
    unfold lookD
    rw [List.map_cons, List.find?_cons]
    have e2 : decide ((Sum.inl ((f a : Nat) : Int) : Key) = .inl ((x : Nat) : Int)) = false := decide_eq_false fun z => u a List.mem_cons_self (by injection z with z; omega)
    rw [e2]
    exact look_none fun a ha => u a (List.mem_cons_of_mem _ ha)
theorem any_look {kvs : List (Key × D)} {k : Key} (h : lookD kvs k = none) : (kvs.any fun kv => decide (kv.1 = k)) = false := by
  unfold lookD at h
  rw [Option.map_eq_none_iff, List.find?_eq_none] at h
  rw [List.any_eq_false]
  exact h
theorem putD_new {kvs : List (Key × D)} {k : Key} {d : D} (h : lookD kvs k = none) : putD kvs k d = kvs ++ [(k, d)] := by
  unfold putD
  rw [any_look h]
  rfl
theorem came_look {T : Tb} {w : List Nat} {k i : Nat} (h : (trs T w k).Nodup) (hi : i < k) : lookD (cameD T w k) (.inl (tr T w i : Nat)) = some (.int (i : Nat)) :=
  look_map (f := tr T w) (g := fun i => i) (List.mem_range.mpr hi) fun a ha e => trs_inj h (List.mem_range.mp ha) hi e
theorem came_none {T : Tb} {w : List Nat} {k x : Nat} (h : x ∉ trs T w k) : lookD (cameD T w k) (.inl (x : Nat)) = none :=
  look_none (f := tr T w) (g := fun i => i) fun a ha e => h (trs_mem.mpr ⟨a, List.mem_range.mp ha, e⟩)
theorem came_put {T : Tb} {w : List Nat} {k : Nat} (h : tr T w k ∉ trs T w k) : putD (cameD T w k) (.inl (tr T w k : Nat)) (.int (k : Nat)) = cameD T w (k + 1) := by
  rw [putD_new (came_none h)]
  simp [cameD, List.range_succ]
@[simp] theorem cameD_len {T : Tb} {w : List Nat} {k : Nat} : (cameD T w k).length = k := by simp [cameD]
theorem enD_map {α : Type} (e : α → D) (xs : List α) : enD (xs.map e) = xs.zipIdx.map fun p => .tuple [.int (p.2 : Int), e p.1] := by
  unfold enD
  rw [List.zipIdx_map, List.map_map]
  rfl
theorem pumped_t {n m : Nat} {T : Tb} {w : List Nat} {Q : O × List O → Prop} (hn : 2 ≤ n) (hT : T.Ok m) (hm : m ≤ 10000) (hw : ∀ c ∈ w, c ∈ T.L) (hl : T.rows.length ≤ w.length) (hl2 : w.length ≤ 10000)
    (q : ∀ i k, Rep T w i k → Q (.v (cutW w i k), [.v T.d, .v (.str (St w))])) : Wp (mir n ipumped [.v T.d, .v (.str (St w))]) Q := by
  obtain ⟨n, rfl, hn⟩ := fuel hn
  have hle := hT.le
  rw [mirpumped, bpumped]
  have e : chD (St w) = w.map fun c => PyData.str (ch c) := rfl
  simp [e, enD_map]
  refine wi (loop_invE (fun p : Nat × Nat => PyData.tuple [.int (p.2 : Int), .str (ch p.1)]) (fun k : Nat => [some (.v T.d), some (.v (.str (St w))), some (.v (.int (tr T w k : Nat))), some (.k (cameD T w (k + 1))), none, none])
    (fun xs k => xs = (w.drop k).zipIdx k ∧ k ≤ w.length ∧ (trs T w (k + 1)).Nodup) (xs := w.zipIdx) (t := 0) rfl rfl ⟨rfl, by omega, by simp [trs]⟩ (fun x xs k h => ?_) fun k h => ?_)
  · obtain ⟨h1, h2, h3⟩ := h
    by_cases hk : w.length - k = 0
    · rw [List.drop_eq_nil_of_le (by omega)] at h1; cases h1
    have hx : k < w.length := by omega
    rw [List.drop_eq_getElem_cons hx, List.zipIdx_cons] at h1
    cases h1
    simp [kpumped_1, ch]
    rw [ch_St]
    refine led_t (w := [w[k]]) (by omega) hT (tr_lt hT hw) (fun c hc => by rw [List.mem_singleton] at hc; rw [hc]; exact hw _ (List.getElem_mem hx)) ?_
    rw [← tr_step hx]
    by_cases hm2 : tr T w (k + 1) ∈ trs T w (k + 1)
    · obtain ⟨i, hi, e2⟩ := trs_mem.mp hm2
      have e3 : lookD (cameD T w (k + 1)) (.inl (tr T w (k + 1) : Nat)) = some (.int (i : Nat)) := by rw [← e2]; exact came_look h3 hi
      simp [e3, ↓i_w_ifS]
      rw [cutW_eq (by omega) hx]
      exact ⟨by omega, q i k ⟨h3, by omega, hx, e2.symm⟩⟩
    · have e3 := came_none hm2
      simp [e3, ↓i_w_ifS]
      refine ⟨by omega, k + 1, ?_, rfl, by omega, ?_⟩
      · dsimp only
        rw [← came_put hm2]
        rfl
      · rw [trs_succ (k := k + 1)]
        exact List.nodup_append.mpr ⟨h3, by simp, fun a ha b hb => by
          rw [List.mem_singleton] at hb
          subst hb
          exact fun e => hm2 (e ▸ ha)⟩
  · exfalso
    obtain ⟨h1, h2, h3⟩ := h
    have := congrArg List.length h1
    simp at this
    have := trs_nd_le hT hw h3
    omega
end Mm
namespace Mm
open PySem L2
theorem behind_rep {T : Tb} {s : Nat} {w : List Nat} (h : behind T s w = s) : ∀ n : Nat, behind T s (List.replicate n w).flatten = s
  | 0 => rfl
  | n + 1 => by rw [List.replicate_succ, List.flatten_cons, behind_app, h, behind_rep h n]
theorem Rep.fits {T : Tb} {w : List Nat} {i k : Nat} (h : Rep T w i k) (n : Nat) : behind T 0 (w.take i ++ (List.replicate n ((w.drop i).take (k + 1 - i))).flatten ++ w.drop (k + 1)) = behind T 0 w := by
  have hle := h.le
  have e1 : w.take i ++ (w.drop i).take (k + 1 - i) = w.take (k + 1) := by
    have := List.take_add (l := w) (i := i) (j := k + 1 - i)
    rw [show i + (k + 1 - i) = k + 1 by omega] at this
    exact this.symm
  have e2 : behind T (tr T w i) ((w.drop i).take (k + 1 - i)) = tr T w i := by
    have : behind T (tr T w i) ((w.drop i).take (k + 1 - i)) = tr T w (k + 1) := by
      unfold tr
      rw [← behind_app, e1]
    rw [this, h.eq]
  rw [behind_app, behind_app, show behind T 0 (w.take i) = tr T w i from rfl, behind_rep e2, ← h.eq, tr, ← behind_app, List.take_append_drop]
theorem foldl_app (xs : List Nat) : ∀ (n : Nat) (acc : Array Nat), ((List.replicate n xs.toArray).foldl (fun a b => a ++ b) acc).toList = acc.toList ++ (List.replicate n xs).flatten
  | 0, acc => by simp
  | n + 1, acc => by rw [List.replicate_succ, List.foldl_cons, foldl_app xs n, List.replicate_succ, List.flatten_cons]; simp
theorem mul_St {w : List Nat} {n : Nat} : Txt.mul (St w) (n : Int) = St (List.replicate n w).flatten := by
  unfold Txt.mul
  by_cases h1 : n = 0
  · subst h1; rfl
  rw [if_neg (by omega)]
  by_cases h2 : ((n : Int) == 1 || (St w).length == 0) = true
  · rw [if_pos h2]
    rw [Bool.or_eq_true] at h2
    rcases h2 with h2 | h2
    · have : n = 1 := by have := of_decide_eq_true h2; omega
      subst this
      simp
    · have : w = [] := by
        have := beq_iff_eq.mp h2
        rw [St_len] at this
        exact List.eq_nil_of_length_eq_zero this
      subst this
      simp
  · rw [if_neg h2]
    have h3 := foldl_app w n #[]
    rw [Int.toNat_natCast]
    have h4 : ∀ {a : Array Nat} {b : List Nat}, a.toList = b → (⟨a⟩ : Str) = St b := fun h => by subst h; rfl
    exact h4 (by simpa [St] using h3)
theorem mulD_St {w : List Nat} {n : Nat} (h : n ≤ 100) (hw : w.length ≤ 500) : mulD (.str (St w)) (.int (n : Int)) = some (.str (St (List.replicate n w).flatten)) := by
  have e : mulD (.str (St w)) (.int (n : Int)) = if (n : Int) < 2 ^ 32 ∧ -(2 ^ 32) < (n : Int) ∧ (St w).length * (n : Int).toNat ≤ 65536 then some (.str (Txt.mul (St w) n)) else none := rfl
  have hm : w.length * n ≤ 500 * 100 := Nat.mul_le_mul hw h
  rw [e, if_pos ⟨by omega, by omega, by rw [St_len, Int.toNat_natCast]; omega⟩, mul_St]
theorem Tb.Ok.mono {T : Tb} {m k : Nat} (h : T.Ok m) (hk : m ≤ k) : T.Ok k := ⟨h.L, h.ne, Nat.le_trans h.le hk, h.rows, h.fits⟩
/-- the table of one state that all texts fit -/
def oneT (cs : List Nat) : Tb := ⟨cs, [List.replicate cs.length 0], [0]⟩
theorem oneT_ok {cs : List Nat} (hc : Lets cs) : (oneT cs).Ok 1 := ⟨hc, by simp [oneT], by simp [oneT], fun r hr => by
  simp [oneT] at hr
  subst hr
  refine ⟨by simp [oneT], fun x hx => ?_⟩
  simp [oneT]
  simp at hx
  omega, by simp [oneT]⟩
/-- what the law asks of a table and a text -/
theorem ask_t {n m s : Nat} {T : Tb} {w : List Nat} {x0 : Option O} {ds : List Int} {Q : Fl → Prop} (hn : 5 ≤ n) (hT : T.Ok m) (hm : m ≤ 10000) (hw : Fit T s w) (hl : T.rows.length ≤ s) (hs : s ≤ 40)
    (q : ∀ ds', Q (.nx [x0, some (.l (I ds')), none, none, some (.v T.d), none, none, none, none])) :
    Wp (klaw_2 (mir n) [x0, some (.l (I ds)), none, none, some (.v T.d), some (.v (.str (St w))), none, none, none]) Q := by
  have hwl := hw.len
  unfold klaw_2
  simp
  refine lpumped_t (n := n) (by omega) hT hm hw.mem (by omega) (by omega) fun i k hR => ?_
  simp [↓i_w_ifS]
  refine pumped_t (by omega) hT hm hw.mem (by omega) (by omega) fun i' k' hR' => ?_
  obtain ⟨rfl, rfl⟩ := hR'.uniq hR
  simp
  refine same_t (k := 1) (by omega) (by simp [cutW, PyData.depth, PyData.depthAll]) rfl ?_
  simp
  refine take_t (by omega) (by decide) fun j ds1 hj => ?_
  simp
  refine wi (loop_invE (fun i : Nat => PyData.int (i : Int)) (fun _ : Unit => [x0, some (.l (I ds1)), none, none, some (.v T.d), none, some (.v (cutW w i' k')), none, none])
    (fun xs _ => ∀ x ∈ xs, x ≤ 10) (xs := [0, 2, 3 + j]) (t := ()) (by simp) rfl (fun x hx => ?_) (fun x xs _ h => ?_) fun _ _ => ?_)
  · simp at hx
    omega
  · have hx := h x List.mem_cons_self
    have hk := hR.lt
    have hm1 : (List.take (k' + 1 - i') (List.drop i' w)).length ≤ 41 := by simp; omega
    have hrl : (List.replicate x (List.take (k' + 1 - i') (List.drop i' w))).flatten.length ≤ 10 * 41 := by
      simp only [List.length_flatten, List.map_replicate, List.sum_replicate_nat]
      exact Nat.mul_le_mul hx hm1
    have hf := hR.fits x
    have hA : (w.take i').length ≤ 40 := by rw [List.length_take]; omega
    have hC : (w.drop (k' + 1)).length ≤ 40 := by rw [List.length_drop]; omega
    have hmem : ∀ c ∈ w.take i' ++ (List.replicate x (List.take (k' + 1 - i') (List.drop i' w))).flatten ++ w.drop (k' + 1), c ∈ T.L := fun c hc => by
      refine hw.mem c ?_
      rcases List.mem_append.mp hc with hc | hc
      · rcases List.mem_append.mp hc with hc | hc
        · exact List.mem_of_mem_take hc
        · obtain ⟨l, h1, h2⟩ := List.mem_flatten.mp hc
          rw [List.eq_of_mem_replicate h1] at h2
          exact List.mem_of_mem_drop (List.mem_of_mem_take h2)
      · exact List.mem_of_mem_drop hc
    have hMu := mulD_St (n := x) (w := List.take (k' + 1 - i') (List.drop i' w)) (by omega) (Nat.le_trans hm1 (by decide))
    simp [klaw_1, cutW, hMu, ↓i_w_ifS]
    generalize (List.replicate x (List.take (k' + 1 - i') (List.drop i' w))).flatten = B at *
    generalize hAe : w.take i' = A at *
    generalize hCe : w.drop (k' + 1) = C at *
    rw [add_St (by omega)]
    simp
    rw [add_St (by rw [List.length_append]; omega)]
    simp
    rw [List.append_assoc] at hf hmem
    refine table_fits_t (by omega) hT hmem ?_
    rw [hf]
    have hfit := hw.fit
    simp [hfit, ↓i_w_ifS]
    subst hAe hCe
    exact ⟨(), rfl, fun y hy => h y (List.mem_cons_of_mem _ hy)⟩
  · simp
    exact q ds1
theorem math : ∀ ns : List Int, ns.length ≤ 63 → ∃ os', mir 200 ilaw [.v (.list (ns.map .int))] = some (.v (.bool true), os') := by
  intro ns hns
  have key : Wp (mir 200 ilaw [.v (.list (I ns))]) fun z => z.1 = .v (.bool true) := by
    rw [mirlaw, blaw]
    simp
    refine draws_t (by decide) hns (by decide) (by decide) fun ds => ?_
    simp
    refine letters_t (by decide) (by decide) (by decide) fun cs ds hc _ => ?_
    have hc4 := hc.2.2.2
    simp
    refine ⟨by decide, ?_⟩
    rw [show rgD 0 2 = N (List.range 2) from rgD_N 2]
    refine wi (lc_dy (fun t : List Int => [some (.v (.list (I ns))), some (.l (I t)), some (.v (.str (St cs))), none, none, none, none, none, none]) (fun _ => True) (fun (i : Nat) => PyData.int (i : Int)) Tb.d (fun T => T.Ok 40 ∧ T.L = cs) (t := ds) (by simp) trivial (fun i _ t _ => ?_) fun Ts t hTs _ hl => ?_)
    · simp
      refine small_t (m := 6) (by decide) hc (by decide) (by decide) fun T ds2 hT hL => ?_
      simp
      exact ⟨⟨T, rfl, hT.mono (by decide), hL⟩, ds2, rfl, trivial⟩
    · simp
      refine wheel_t (m := 40) (by decide) hc (by decide) (by decide) fun T3 ds3 h3 l3 => ?_
      simp
      have hl2 : Ts.length = 2 := by simpa using hl
      refine ⟨by omega, by omega, ?_⟩
      refine mulT_w (by have := List.length_pos_iff.mpr hc.1; omega) (by omega) (by simp) (by simp) ?_
      have e2 : PyData.tuple [.str (St cs), .tuple [.tuple (List.replicate cs.length (.int 0))], .tuple [.int 0]] = (oneT cs).d := by simp [oneT, Tb.d, tN, N]
      simp
      have e3 : Ts.map Tb.d ++ [T3.d, PyData.tuple [.str (St cs), .tuple [.tuple (List.replicate cs.length (.int 0))], .tuple [.int 0]]] = (Ts ++ [T3, oneT cs]).map Tb.d := by simp [e2]
      rw [e3]
      refine ⟨by omega, wi (loop_invE Tb.d (fun t : List Int => [some (.v (.list (I ns))), some (.l (I t)), none, none, none, none, none, none, none])
        (fun Ts _ => ∀ T ∈ Ts, T.Ok 40 ∧ T.L = cs) (xs := Ts ++ [T3, oneT cs]) (t := ds3) rfl rfl (fun T hT => ?_) (fun T Ts t h => ?_) fun t _ => ?_)⟩
      · simp at hT
        rcases hT with hT | rfl | rfl
        · exact hTs T hT
        · exact ⟨h3, l3⟩
        · exact ⟨(oneT_ok hc).mono (by decide), rfl⟩
      · obtain ⟨hT, hL⟩ := h T List.mem_cons_self
        simp [klaw_3]
        refine fitting_t (M := 40) (by decide) hT (by decide) (by decide) fun ws ds4 hws => ?_
        simp
        refine wi (loop_invE (fun w => PyData.str (St w)) (fun t : List Int => [some (.v (.list (I ns))), some (.l (I t)), none, none, some (.v T.d), none, none, none, none])
          (fun ws _ => ∀ w ∈ ws, ∃ s, T.rows.length ≤ s ∧ s ≤ 40 ∧ Fit T s w) (xs := ws) (t := ds4) rfl rfl hws (fun w ws t hws => ?_) fun t _ => ?_)
        · obtain ⟨s, s1, s2, s3⟩ := hws w List.mem_cons_self
          simp
          refine wi (ask_t (by decide) hT (by decide) s3 s1 s2 fun ds' => ?_)
          exact ⟨ds', rfl, fun w hw => hws w (List.mem_cons_of_mem _ hw)⟩
        · simp
          exact ⟨t, rfl, fun T hT => h T (List.mem_cons_of_mem _ hT)⟩
      · simp
  obtain ⟨⟨r, os'⟩, e, h⟩ := key
  exact ⟨os', by show mir 200 ilaw [.v (.list (I ns))] = _; rw [e]; dsimp only at h; rw [h]⟩
end Mm
set_option maxHeartbeats 4000000
namespace Mm
open PySem L2
def top (i : Nat) : Stmt := PySem.Challenge.pw_patternsfound_k53_pumped_texts.main.body.getD i (.Pass ⟨0, 0, 0, 0⟩)
abbrev sled_from : Stmt := top 1
abbrev sstate_behind : Stmt := top 3
abbrev stable_fits : Stmt := top 4
abbrev spumped : Stmt := top 6
abbrev s_law_draws : Stmt := top 8
abbrev s_law_take : Stmt := top 9
abbrev s_law_pick : Stmt := top 10
abbrev s_law_same : Stmt := top 11
abbrev s_law_shuffled : Stmt := top 12
abbrev s_law_letters : Stmt := top 13
abbrev s_law_leaf : Stmt := top 14
abbrev s_law_drawn : Stmt := top 15
abbrev s_law_size : Stmt := top 16
abbrev s_law_sets : Stmt := top 17
abbrev s_law_plain : Stmt := top 18
abbrev s_law_new_place : Stmt := top 19
abbrev s_law_way : Stmt := top 20
abbrev s_law_lay : Stmt := top 21
abbrev s_law_spread : Stmt := top 22
abbrev s_law_machine : Stmt := top 23
abbrev s_law_least_machine : Stmt := top 24
abbrev s_law_least : Stmt := top 25
abbrev s_law_table_of : Stmt := top 26
abbrev s_law_table : Stmt := top 27
abbrev s_law_either_table : Stmt := top 28
abbrev s_law_behind : Stmt := top 29
abbrev s_law_left_counts : Stmt := top 30
abbrev s_law_nth : Stmt := top 31
abbrev s_law_wheel : Stmt := top 32
abbrev s_law_blown : Stmt := top 33
abbrev s_law_small_table : Stmt := top 34
abbrev s_law_pumped : Stmt := top 35
abbrev s_law_fitting_texts : Stmt := top 36
abbrev slaw : Stmt := top 37
structure Blt (mg : Str → Option Value) : Prop where
  bool : mg "bool" = none
  enumerate : mg "enumerate" = none
  int : mg "int" = none
  isinstance : mg "isinstance" = none
  len : mg "len" = none
  list : mg "list" = none
  max : mg "max" = none
  min : mg "min" = none
  range : mg "range" = none
  reversed : mg "reversed" = none
  set : mg "set" = none
  sorted : mg "sorted" = none
  str : mg "str" = none
  sum : mg "sum" = none
  tuple : mg "tuple" = none
structure Tab (P : Program) (wd : World) (K : PySem.W.Frag) (mg : Str → Option Value) (base : Heap) (n : Nat) : Prop where
  cled_from : Callee P wd K mg base n "led_from" ["table", "state", "text"] (mir n iled_from)
  cstate_behind : Callee P wd K mg base n "state_behind" ["table", "text"] (mir n istate_behind)
  ctable_fits : Callee P wd K mg base n "table_fits" ["table", "text"] (mir n itable_fits)
  cpumped : Callee P wd K mg base n "pumped" ["table", "text"] (mir n ipumped)
  c_law_draws : Callee P wd K mg base n "_law_draws" ["script", "many"] (mir n i_law_draws)
  c_law_take : Callee P wd K mg base n "_law_take" ["draws", "many"] (mir n i_law_take)
  c_law_pick : Callee P wd K mg base n "_law_pick" ["draws", "row"] (mir n i_law_pick)
  c_law_same : Callee P wd K mg base n "_law_same" ["actual", "due"] (mir n i_law_same)
  c_law_shuffled : Callee P wd K mg base n "_law_shuffled" ["draws", "row"] (mir n i_law_shuffled)
  c_law_letters : Callee P wd K mg base n "_law_letters" ["draws", "most"] (mir n i_law_letters)
  c_law_leaf : Callee P wd K mg base n "_law_leaf" ["draws", "letters"] (mir n i_law_leaf)
  c_law_drawn : Callee P wd K mg base n "_law_drawn" ["draws", "letters", "depth"] (mir n i_law_drawn)
  c_law_size : Callee P wd K mg base n "_law_size" ["plain"] (mir n i_law_size)
  c_law_sets : Callee P wd K mg base n "_law_sets" ["plain"] (mir n i_law_sets)
  c_law_plain : Callee P wd K mg base n "_law_plain" ["draws", "letters", "most"] (mir n i_law_plain)
  c_law_new_place : Callee P wd K mg base n "_law_new_place" ["net"] (mir n i_law_new_place)
  c_law_way : Callee P wd K mg base n "_law_way" ["net", "place", "letters", "to"] (mir n i_law_way)
  c_law_lay : Callee P wd K mg base n "_law_lay" ["plain", "net", "begin"] (mir n i_law_lay)
  c_law_spread : Callee P wd K mg base n "_law_spread" ["net", "places"] (mir n i_law_spread)
  c_law_machine : Callee P wd K mg base n "_law_machine" ["plains", "letters"] (mir n i_law_machine)
  c_law_least_machine : Callee P wd K mg base n "_law_least_machine" ["rows", "labels"] (mir n i_law_least_machine)
  c_law_least : Callee P wd K mg base n "_law_least" ["table"] (mir n i_law_least)
  c_law_table_of : Callee P wd K mg base n "_law_table_of" ["plain", "letters"] (mir n i_law_table_of)
  c_law_table : Callee P wd K mg base n "_law_table" ["draws", "letters", "most"] (mir n i_law_table)
  c_law_either_table : Callee P wd K mg base n "_law_either_table" ["draws", "letters", "most"] (mir n i_law_either_table)
  c_law_behind : Callee P wd K mg base n "_law_behind" ["table", "state", "text"] (mir n i_law_behind)
  c_law_left_counts : Callee P wd K mg base n "_law_left_counts" ["table", "most"] (mir n i_law_left_counts)
  c_law_nth : Callee P wd K mg base n "_law_nth" ["table", "counts", "n"] (mir n i_law_nth)
  c_law_wheel : Callee P wd K mg base n "_law_wheel" ["draws", "letters", "most"] (mir n i_law_wheel)
  c_law_blown : Callee P wd K mg base n "_law_blown" ["draws", "table", "most"] (mir n i_law_blown)
  c_law_small_table : Callee P wd K mg base n "_law_small_table" ["draws", "letters", "most"] (mir n i_law_small_table)
  c_law_pumped : Callee P wd K mg base n "_law_pumped" ["table", "text"] (mir n i_law_pumped)
  c_law_fitting_texts : Callee P wd K mg base n "_law_fitting_texts" ["draws", "table", "most"] (mir n i_law_fitting_texts)
  claw : Callee P wd K mg base n "law" ["script"] (mir n ilaw)
section
variable {P : Program} {wd : World} {K : PySem.W.Frag} {mg : Str → Option Value} {base : Heap} {n : Nat}
theorem scled_from : FnScope ["table", "state", "text", "letters", "rows", "_", "letter"] ["table", "state", "text"] (defScope sled_from) := ⟨rfl, rfl, rfl, by decide +kernel, rfl, by decide +kernel, by decide +kernel⟩
theorem okled_from (T : Tab P wd K mg base n) (B : Blt mg) {f : Addr} {fd : FuncData} (F : Fun K "led_from" "led_from" sled_from f fd) : FnOk P wd K mg base CX0 (n + 1) f fd ["table", "state", "text"] (spM K (bled_from (mir n))) := by
  have sc := scled_from
  exact def_ok F sc rfl rfl fun cdv A outer s H E hr => ⟨_, (dss_cons (ds_asg (dv (de_name 0)) (dg_tup rfl (dgs_cons (dg_name 3 sc.nd) (dgs_cons (dg_name 4 sc.nd) (dgs_cons (dg_name 5 sc.nd) dgs_nil)))))
    (dss_cons (ds_for PassesOwn.never rfl (di_kI [5] (di_seq (dv (de_name 2)))) (dg_name 6 sc.nd) (dss_klE [6] (dss_one (ds_set 1 sc.nd (de_ix (de_ix (de_name 4) (de_name 1)) (de_sm PySem.F.slot_str_index PySem.F.type_str_index (fun _ _ => mt_sindex) sem_sidx (de_name 3) (de_name 6)))))))
    (dss_one (ds_ret (de_name 1)))))⟩
theorem scstate_behind : FnScope ["table", "text"] ["table", "text"] (defScope sstate_behind) := ⟨rfl, rfl, rfl, by decide +kernel, rfl, by decide +kernel, by decide +kernel⟩
theorem okstate_behind (T : Tab P wd K mg base n) (B : Blt mg) {f : Addr} {fd : FuncData} (F : Fun K "state_behind" "state_behind" sstate_behind f fd) : FnOk P wd K mg base CX0 (n + 1) f fd ["table", "text"] (spM K (bstate_behind (mir n))) := by
  have sc := scstate_behind
  exact def_ok F sc rfl rfl fun cdv A outer s H E hr => ⟨_, (dss_one (ds_ret (de_call T.cled_from hr (dc_v (dv (de_name 0)) (dc_v (dv de_int) (dc_v (dv (de_name 1)) dc_nil))))))⟩
theorem sctable_fits : FnScope ["table", "text"] ["table", "text"] (defScope stable_fits) := ⟨rfl, rfl, rfl, by decide +kernel, rfl, by decide +kernel, by decide +kernel⟩
theorem oktable_fits (T : Tab P wd K mg base n) (B : Blt mg) {f : Addr} {fd : FuncData} (F : Fun K "table_fits" "table_fits" stable_fits f fd) : FnOk P wd K mg base CX0 (n + 1) f fd ["table", "text"] (spM K (btable_fits (mir n))) := by
  have sc := sctable_fits
  exact def_ok F sc rfl rfl fun cdv A outer s H E hr => ⟨_, (dss_one (ds_ret (de_cmp (fun hk _ => hk ▸ op_inA (r65 hr)) (op2_in _) (de_call T.cstate_behind hr (dc_v (dv (de_name 0)) (dc_v (dv (de_name 1)) dc_nil))) (de_ix (de_name 0) de_int))))⟩
theorem scpumped : FnScope ["table", "text", "state", "came", "place", "letter"] ["table", "text"] (defScope spumped) := ⟨rfl, rfl, rfl, by decide +kernel, rfl, by decide +kernel, by decide +kernel⟩
theorem okpumped (T : Tab P wd K mg base n) (B : Blt mg) {f : Addr} {fd : FuncData} (F : Fun K "pumped" "pumped" spumped f fd) : FnOk P wd K mg base CX0 (n + 1) f fd ["table", "text"] (spM K (bpumped (mir n))) := by
  have sc := scpumped
  exact def_ok F sc rfl rfl fun cdv A outer s H E hr => ⟨_, (dss_cons (ds_set 2 sc.nd de_int)
    (dss_cons (ds_set 3 sc.nd (de_dict1 (dv de_int) (dv de_int)))
    (dss_cons (ds_klE [2] (ds_for PassesOwn.never rfl (di_enum B.enumerate (dv (de_name 1))) (dg_tup rfl (dgs_cons (dg_name 4 sc.nd) (dgs_cons (dg_name 5 sc.nd) dgs_nil))) (dss_klE [4, 5] (dss_cons (ds_fzE 2 (ds_set 2 sc.nd (de_call T.cled_from hr (dc_v (dv (de_name 0)) (dc_v (dv (de_name 2)) (dc_v (dv (de_name 5)) dc_nil))))))
    (dss_cons (ds_if (dt_din (dv (de_name 2)) (de_name 3) (rU hr)) (dss_one (ds_ret (de_tup (da_cons (dv (de_slice (de_name 1) do_none (do_some (de_dget (de_name 3) (dv (de_name 2)) (rU hr))))) (da_cons (dv (de_slice (de_name 1) (do_some (de_dget (de_name 3) (dv (de_name 2)) (rU hr))) (do_some (de_g2 (fun hk _ => hk ▸ op_addA) (sem_add _) (de_name 4) de_int)))) (da_cons (dv (de_slice (de_name 1) (do_some (de_g2 (fun hk _ => hk ▸ op_addA) (sem_add _) (de_name 4) de_int)) do_none)) da_nil)))))) dss_nil)
    (dss_one (ds_dput (dv (de_g2 (fun hk _ => hk ▸ op_addA) (sem_add _) (de_name 4) de_int)) (de_name 3) (dv (de_name 2)) (rU hr))))))))
    (dss_one (ds_ret de_non)))))⟩
theorem sc_law_draws : FnScope ["script", "many", "cells", "left", "draws", "k", "place", "mixed", "cell"] ["script", "many"] (defScope s_law_draws) := ⟨rfl, rfl, rfl, by decide +kernel, rfl, by decide +kernel, by decide +kernel⟩
theorem ok_law_draws (T : Tab P wd K mg base n) (B : Blt mg) {f : Addr} {fd : FuncData} (F : Fun K "_law_draws" "_law_draws" s_law_draws f fd) : FnOk P wd K mg base CX0 (n + 1) f fd ["script", "many"] (spM K (b_law_draws (mir n))) := by
  have sc := sc_law_draws
  exact def_ok F sc rfl rfl fun cdv A outer s H E hr => ⟨_, (dss_cons (ds_setLc 2 rfl sc.nd rfl rfl (sw_true rfl rfl rfl (by decide +kernel)) [("cell", 8)] (blkOk_by (N := ["script", "many", "cells", "left", "draws", "k", "place", "mixed", "cell"]) (sc := (defScope s_law_draws)) (by decide +kernel)) (by decide) (by decide) (di_seq (dv (de_slice (de_name 0) do_none (do_some de_int)))) (fun _ _ _ _ _ => (dg_name 8 sc.nd)) (fun _ _ _ _ _ => dts_nil) (fun _ _ _ _ _ => (dv (de_op (fun _ _ => op_modN) (op2_mod _) (de_t1 (fun _ _ => call_int1) sem_int B.int (de_name 8)) (de_op (fun _ _ => op_shl) (op2_shl _) de_int de_int)))))
    (dss_cons (ds_if (dt_cmp (fun hk _ => hk ▸ op_eqA hr.units) (op2_eq _) (de_b1 (fun hk _ => hk ▸ call_lenA) sem_len B.len (de_name 2)) de_int) (dss_one (ds_expr (de_mut PySem.F.slot_list_append PySem.F.type_list_append (fun _ _ => mt_append) mut_append (de_name 2) (dv de_int)))) dss_nil)
    (dss_cons (ds_set 3 sc.nd (de_t1 (fun hk _ => hk ▸ call_listA rfl) sem_listA B.list (de_name 2)))
    (dss_cons (ds_set 4 sc.nd (de_lst da_nil))
    (dss_cons (ds_for PassesOwn.never rfl (di_rg1 B.range (de_name 1)) (dg_name 5 sc.nd) (dss_klE [5, 6, 7] (dss_cons (ds_set 6 sc.nd (de_op (fun _ _ => op_modN) (op2_mod _) (de_t1 (fun _ _ => call_int1) sem_int B.int (de_name 5)) (de_b1 (fun hk _ => hk ▸ call_lenA) sem_len B.len (de_name 2))))
    (dss_one (ds_klE [7] (ds_if (dt_w (dw_and (dt_cmp (fun _ _ => op_ge) (op2_cmp _ _) (de_ix (de_name 2) (de_name 6)) (de_op (fun _ _ => op_pow) (op2_pow _) de_int de_int)) (dw_and1 (dt_cmp (fun _ _ => op_gt) (op2_cmp _ _) (de_ix (de_name 3) (de_name 6)) de_int)))) (dss_cons (ds_expr (de_mut PySem.F.slot_list_append PySem.F.type_list_append (fun _ _ => mt_append) mut_append (de_name 4) (dv (de_op (fun _ _ => op_modN) (op2_mod _) (de_t1 (fun _ _ => call_int1) sem_int B.int (de_ix (de_name 3) (de_name 6))) de_int))))
    (dss_one (ds_asg (dv (de_op (fun _ _ => op_fdivN) (op2_div _) (de_ix (de_name 3) (de_name 6)) de_int)) (dg_sub (de_name 3) (de_name 6))))) (dss_cons (ds_set 7 sc.nd (de_op (fun _ _ => op_modN) (op2_mod _) (de_t1 (fun _ _ => call_int1) sem_int B.int (de_g2 (fun hk _ => hk ▸ op_addA) (sem_add _) (de_g2 (fun hk _ => hk ▸ op_addA) (sem_add _) (de_op (fun _ _ => op_mulA) (op2_mul _) (de_ix (de_name 2) (de_name 6)) de_int) (de_op (fun _ _ => op_mulA) (op2_mul _) (de_name 5) de_int)) de_int)) de_int))
    (dss_one (ds_expr (de_mut PySem.F.slot_list_append PySem.F.type_list_append (fun _ _ => mt_append) mut_append (de_name 4) (dv (de_op (fun _ _ => op_modN) (op2_mod _) (de_t1 (fun _ _ => call_int1) sem_int B.int (de_g2 (fun hk _ => hk ▸ op_addA) (sem_add _) (de_g2 (fun hk _ => hk ▸ op_addA) (sem_add _) (de_op (fun _ _ => op_mulA) (op2_mul _) (de_name 7) (de_name 7)) (de_op (fun _ _ => op_mulA) (op2_mul _) de_int (de_name 7))) (de_name 5))) de_int))))))))))))
    (dss_cons (ds_expr (de_mut0 PySem.F.slot_list_reverse PySem.F.type_list_reverse (fun _ _ => mt_reverse) mut_reverse (de_name 4)))
    (dss_one (ds_ret (de_name 4)))))))))⟩
theorem sc_law_take : FnScope ["draws", "many"] ["draws", "many"] (defScope s_law_take) := ⟨rfl, rfl, rfl, by decide +kernel, rfl, by decide +kernel, by decide +kernel⟩
theorem ok_law_take (T : Tab P wd K mg base n) (B : Blt mg) {f : Addr} {fd : FuncData} (F : Fun K "_law_take" "_law_take" s_law_take f fd) : FnOk P wd K mg base CX0 (n + 1) f fd ["draws", "many"] (spM K (b_law_take (mir n))) := by
  have sc := sc_law_take
  exact def_ok F sc rfl rfl fun cdv A outer s H E hr => ⟨_, (dss_cons (ds_if (dt_cmp (fun hk _ => hk ▸ op_eqA hr.units) (op2_eq _) (de_b1 (fun hk _ => hk ▸ call_lenA) sem_len B.len (de_name 0)) de_int) (dss_one (ds_ret de_int)) dss_nil)
    (dss_one (ds_ret (de_op (fun _ _ => op_modN) (op2_mod _) (de_t1 (fun _ _ => call_int1) sem_int B.int (de_mut0 PySem.F.slot_list_pop PySem.F.type_list_pop (fun _ _ => mt_pop) mut_pop (de_name 0))) (de_name 1)))))⟩
theorem sc_law_pick : FnScope ["draws", "row"] ["draws", "row"] (defScope s_law_pick) := ⟨rfl, rfl, rfl, by decide +kernel, rfl, by decide +kernel, by decide +kernel⟩
theorem ok_law_pick (T : Tab P wd K mg base n) (B : Blt mg) {f : Addr} {fd : FuncData} (F : Fun K "_law_pick" "_law_pick" s_law_pick f fd) : FnOk P wd K mg base CX0 (n + 1) f fd ["draws", "row"] (spM K (b_law_pick (mir n))) := by
  have sc := sc_law_pick
  exact def_ok F sc rfl rfl fun cdv A outer s H E hr => ⟨_, (dss_one (ds_ret (de_ix (de_name 1) (de_call T.c_law_take hr (dc_r (de_name 0) (dc_v (dv (de_b1 (fun hk _ => hk ▸ call_lenA) sem_len B.len (de_name 1))) dc_nil))))))⟩
theorem sc_law_same : FnScope ["actual", "due", "k"] ["actual", "due"] (defScope s_law_same) := ⟨rfl, rfl, rfl, by decide +kernel, rfl, by decide +kernel, by decide +kernel⟩
theorem ok_law_same (T : Tab P wd K mg base n) (B : Blt mg) {f : Addr} {fd : FuncData} (F : Fun K "_law_same" "_law_same" s_law_same f fd) : FnOk P wd K mg base CX0 (n + 1) f fd ["actual", "due"] (spM K (b_law_same (mir n))) := by
  have sc := sc_law_same
  exact def_ok F sc rfl rfl fun cdv A outer s H E hr => ⟨_, (dss_cons (ds_if (dt_tru (de_isi2 (T := "tuple") (U := "list") B.isinstance B.tuple B.list (de_name 1))) (dss_cons (ds_if (dt_w (dw_or (dt_cmp (fun hk _ => hk ▸ op_neA hr.units) (op2_ne _) (de_isi (T := "tuple") B.isinstance B.tuple (de_name 0)) (de_isi (T := "tuple") B.isinstance B.tuple (de_name 1))) (dw_or1 (dt_cmp (fun hk _ => hk ▸ op_neA hr.units) (op2_ne _) (de_isi (T := "list") B.isinstance B.list (de_name 0)) (de_isi (T := "list") B.isinstance B.list (de_name 1)))))) (dss_one (ds_ret de_bl)) dss_nil)
    (dss_cons (ds_if (dt_cmp (fun hk _ => hk ▸ op_neA hr.units) (op2_ne _) (de_b1 (fun hk _ => hk ▸ call_lenA) sem_len B.len (de_name 0)) (de_b1 (fun hk _ => hk ▸ call_lenA) sem_len B.len (de_name 1))) (dss_one (ds_ret de_bl)) dss_nil)
    (dss_one (ds_ret (de_cmp (fun hk _ => hk ▸ op_notInA (r65 hr)) (op2_notin _) de_bl (de_lc rfl sc.nd [("k", 2)] (blkOk_by (N := ["actual", "due", "k"]) (sc := (defScope s_law_same)) (by decide +kernel)) (by decide) (by decide) (di_rg1 B.range (de_b1 (fun hk _ => hk ▸ call_lenA) sem_len B.len (de_name 1))) (fun _ _ _ _ _ => (dg_name 2 sc.nd)) (fun _ _ _ _ _ => dts_nil) (fun _ _ _ _ _ => (dv (de_call T.c_law_same hr (dc_v (dv (de_ix (de_name 0) (de_name 2))) (dc_v (dv (de_ix (de_name 1) (de_name 2))) dc_nil))))))))))) dss_nil)
    (dss_cons (ds_if (dt_w (dw_or (dt_cmp (fun hk _ => hk ▸ op_neA hr.units) (op2_ne _) (de_isi (T := "bool") B.isinstance B.bool (de_name 0)) (de_isi (T := "bool") B.isinstance B.bool (de_name 1))) (dw_or1 (dt_cmp (fun hk _ => hk ▸ op_neA hr.units) (op2_ne _) (de_isi (T := "int") B.isinstance B.int (de_name 0)) (de_isi (T := "int") B.isinstance B.int (de_name 1)))))) (dss_one (ds_ret de_bl)) dss_nil)
    (dss_cons (ds_if (dt_w (dw_or (dt_cmp (fun hk _ => hk ▸ op_neA hr.units) (op2_ne _) (de_isi (T := "str") B.isinstance B.str (de_name 0)) (de_isi (T := "str") B.isinstance B.str (de_name 1))) (dw_or1 (dt_cmp (fun hk _ => hk ▸ op_neA hr.units) (op2_ne _) (de_cmp (fun _ _ => op_isN) (op2_isN _) (de_name 0) de_non) (de_cmp (fun _ _ => op_isN) (op2_isN _) (de_name 1) de_non))))) (dss_one (ds_ret de_bl)) dss_nil)
    (dss_one (ds_ret (de_cmp (fun hk _ => hk ▸ op_eqA hr.units) (op2_eq _) (de_name 0) (de_name 1)))))))⟩
theorem sc_law_shuffled : FnScope ["draws", "row", "left", "told", "k"] ["draws", "row"] (defScope s_law_shuffled) := ⟨rfl, rfl, rfl, by decide +kernel, rfl, by decide +kernel, by decide +kernel⟩
theorem ok_law_shuffled (T : Tab P wd K mg base n) (B : Blt mg) {f : Addr} {fd : FuncData} (F : Fun K "_law_shuffled" "_law_shuffled" s_law_shuffled f fd) : FnOk P wd K mg base CX0 (n + 1) f fd ["draws", "row"] (spM K (b_law_shuffled (mir n))) := by
  have sc := sc_law_shuffled
  exact def_ok F sc rfl rfl fun cdv A outer s H E hr => ⟨_, (dss_cons (ds_set 2 sc.nd (de_t1 (fun hk _ => hk ▸ call_listA rfl) sem_listA B.list (de_name 1)))
    (dss_cons (ds_set 3 sc.nd (de_lst da_nil))
    (dss_cons (ds_for PassesOwn.never rfl (di_rg1 B.range (de_b1 (fun hk _ => hk ▸ call_lenA) sem_len B.len (de_name 2))) (dg_name 4 sc.nd) (dss_klE [4] (dss_one (ds_expr (de_mut PySem.F.slot_list_append PySem.F.type_list_append (fun _ _ => mt_append) mut_append (de_name 3) (dv (de_mut PySem.F.slot_list_pop PySem.F.type_list_pop (fun _ _ => mt_popAt) mut_popAt (de_name 2) (dv (de_call T.c_law_take hr (dc_r (de_name 0) (dc_v (dv (de_b1 (fun hk _ => hk ▸ call_lenA) sem_len B.len (de_name 2))) dc_nil)))))))))))
    (dss_one (ds_ret (de_name 3))))))⟩
theorem sc_law_letters : FnScope ["draws", "most", "many"] ["draws", "most"] (defScope s_law_letters) := ⟨rfl, rfl, rfl, by decide +kernel, rfl, by decide +kernel, by decide +kernel⟩
theorem ok_law_letters (T : Tab P wd K mg base n) (B : Blt mg) {f : Addr} {fd : FuncData} (F : Fun K "_law_letters" "_law_letters" s_law_letters f fd) : FnOk P wd K mg base CX0 (n + 1) f fd ["draws", "most"] (spM K (b_law_letters (mir n))) := by
  have sc := sc_law_letters
  exact def_ok F sc rfl rfl fun cdv A outer s H E hr => ⟨_, (dss_cons (ds_set 2 sc.nd (de_g2 (fun hk _ => hk ▸ op_addA) (sem_add _) de_int (de_call T.c_law_take hr (dc_r (de_name 0) (dc_v (dv (de_name 1)) dc_nil)))))
    (dss_cons (ds_if (dt_w (dw_and (dt_cmp (fun hk _ => hk ▸ op_eqA hr.units) (op2_eq _) (de_name 2) de_int) (dw_and1 (dt_cmp (fun _ _ => op_gt) (op2_cmp _ _) (de_call T.c_law_take hr (dc_r (de_name 0) (dc_v (dv de_int) dc_nil))) de_int)))) (dss_one (ds_set 2 sc.nd (de_b2 (fun _ _ => call_min2 rfl) sem_min2 B.min de_int (de_name 1)))) dss_nil)
    (dss_one (ds_ret (de_slice (de_call T.c_law_pick hr (dc_r (de_name 0) (dc_v (dv (de_lst (da_cons (dv de_str) (da_cons (dv de_str) (da_cons (dv de_str) (da_cons (dv de_str) da_nil)))))) dc_nil))) do_none (do_some (de_name 2)))))))⟩
theorem sc_law_leaf : FnScope ["draws", "letters", "kind", "some", "letter"] ["draws", "letters"] (defScope s_law_leaf) := ⟨rfl, rfl, rfl, by decide +kernel, rfl, by decide +kernel, by decide +kernel⟩
theorem ok_law_leaf (T : Tab P wd K mg base n) (B : Blt mg) {f : Addr} {fd : FuncData} (F : Fun K "_law_leaf" "_law_leaf" s_law_leaf f fd) : FnOk P wd K mg base CX0 (n + 1) f fd ["draws", "letters"] (spM K (b_law_leaf (mir n))) := by
  have sc := sc_law_leaf
  exact def_ok F sc rfl rfl fun cdv A outer s H E hr => ⟨_, (dss_cons (ds_set 2 sc.nd (de_call T.c_law_take hr (dc_r (de_name 0) (dc_v (dv de_int) dc_nil))))
    (dss_cons (ds_if (dt_cmp (fun hk _ => hk ▸ op_eqA hr.units) (op2_eq _) (de_name 2) de_int) (dss_one (ds_ret (de_tup (da_cons (dv de_str) da_nil)))) dss_nil)
    (dss_cons (ds_if (dt_cmp (fun _ _ => op_lt) (op2_cmp _ _) (de_name 2) de_int) (dss_one (ds_ret (de_tup (da_cons (dv de_str) da_nil)))) dss_nil)
    (dss_cons (ds_set 3 sc.nd (de_sm (r := rJoin _) PySem.F.slot_str_join PySem.F.type_str_join (fun hk _ => hk ▸ mt_join) sem_join de_str (de_lc rfl sc.nd [("letter", 4)] (blkOk_by (N := ["draws", "letters", "kind", "some", "letter"]) (sc := (defScope s_law_leaf)) (by decide +kernel)) (by decide) (by decide) (di_seq (dv (de_name 1))) (fun _ _ _ _ _ => (dg_name 4 sc.nd)) (fun _ _ _ _ _ => (dts_one (dt_cmp (fun hk _ => hk ▸ op_eqA hr.units) (op2_eq _) (de_call T.c_law_take hr (dc_r (de_name 0) (dc_v (dv de_int) dc_nil))) de_int))) (fun _ _ _ _ _ => (dv (de_name 4))))))
    (dss_cons (ds_if (dt_w (dw_and (dt_cmp (fun _ _ => op_lt) (op2_cmp _ _) (de_name 2) de_int) (dw_and1 (dt_cmp (fun hk _ => hk ▸ op_neA hr.units) (op2_ne _) (de_name 3) de_str)))) (dss_one (ds_ret (de_tup (da_cons (dv de_str) (da_cons (dv (de_name 3)) da_nil))))) dss_nil)
    (dss_one (ds_ret (de_tup (da_cons (dv de_str) (da_cons (dv (de_call T.c_law_pick hr (dc_r (de_name 0) (dc_v (dv (de_name 1)) dc_nil)))) da_nil))))))))))⟩
theorem sc_law_drawn : FnScope ["draws", "letters", "depth", "kind", "many", "parts", "low", "high", "k"] ["draws", "letters", "depth"] (defScope s_law_drawn) := ⟨rfl, rfl, rfl, by decide +kernel, rfl, by decide +kernel, by decide +kernel⟩
theorem ok_law_drawn (T : Tab P wd K mg base n) (B : Blt mg) {f : Addr} {fd : FuncData} (F : Fun K "_law_drawn" "_law_drawn" s_law_drawn f fd) : FnOk P wd K mg base CX0 (n + 1) f fd ["draws", "letters", "depth"] (spM K (b_law_drawn (mir n))) := by
  have sc := sc_law_drawn
  exact def_ok F sc rfl rfl fun cdv A outer s H E hr => ⟨_, (dss_cons (ds_set 3 sc.nd (de_call T.c_law_take hr (dc_r (de_name 0) (dc_v (dv de_int) dc_nil))))
    (dss_cons (ds_if (dt_w (dw_or (dt_cmp (fun hk _ => hk ▸ op_eqA hr.units) (op2_eq _) (de_name 2) de_int) (dw_or1 (dt_cmp (fun hk _ => hk ▸ op_eqA hr.units) (op2_eq _) (de_name 3) de_int)))) (dss_one (ds_ret (de_call T.c_law_leaf hr (dc_r (de_name 0) (dc_v (dv (de_name 1)) dc_nil))))) dss_nil)
    (dss_cons (ds_klE [4, 5] (ds_if (dt_cmp (fun _ _ => op_lt) (op2_cmp _ _) (de_name 3) de_int) (dss_cons (ds_set 4 sc.nd (de_g2 (fun hk _ => hk ▸ op_addA) (sem_add _) de_int (de_call T.c_law_take hr (dc_r (de_name 0) (dc_v (dv de_int) dc_nil)))))
    (dss_cons (ds_set 5 sc.nd (de_t1 (fun hk _ => hk ▸ call_tuple_of) sem_tuple B.tuple (de_lc rfl sc.nd [("k", 8)] (blkOk_by (N := ["draws", "letters", "depth", "kind", "many", "parts", "low", "high", "k"]) (sc := (defScope s_law_drawn)) (by decide +kernel)) (by decide) (by decide) (di_rg1 B.range (de_name 4)) (fun _ _ _ _ _ => (dg_name 8 sc.nd)) (fun _ _ _ _ _ => dts_nil) (fun _ _ _ _ _ => (dv (de_call T.c_law_drawn hr (dc_r (de_name 0) (dc_v (dv (de_name 1)) (dc_v (dv (de_op (fun _ _ => op_sub) (op2_sub _) (de_name 2) de_int)) dc_nil)))))))))
    (dss_one (ds_ret (de_tup (da_cons (dv (de_call T.c_law_pick hr (dc_r (de_name 0) (dc_v (dv (de_lst (da_cons (dv de_str) (da_cons (dv de_str) (da_cons (dv de_str) da_nil))))) dc_nil)))) (da_cons (dv (de_name 5)) da_nil))))))) dss_nil))
    (dss_cons (ds_set 6 sc.nd (de_call T.c_law_pick hr (dc_r (de_name 0) (dc_v (dv (de_lst (da_cons (dv de_int) (da_cons (dv de_int) (da_cons (dv de_int) (da_cons (dv de_int) (da_cons (dv de_int) (da_cons (dv de_int) da_nil)))))))) dc_nil))))
    (dss_cons (ds_set 7 sc.nd (de_call T.c_law_pick hr (dc_r (de_name 0) (dc_v (dv (de_lst (da_cons (dv de_non) (da_cons (dv de_non) (da_cons (dv de_non) (da_cons (dv (de_b2 (fun _ _ => call_max2 rfl) sem_max2 B.max (de_name 6) de_int)) (da_cons (dv (de_g2 (fun hk _ => hk ▸ op_addA) (sem_add _) (de_name 6) de_int)) da_nil))))))) dc_nil))))
    (dss_one (ds_ret (de_tup (da_cons (dv de_str) (da_cons (dv (de_call T.c_law_drawn hr (dc_r (de_name 0) (dc_v (dv (de_name 1)) (dc_v (dv (de_op (fun _ _ => op_sub) (op2_sub _) (de_name 2) de_int)) dc_nil))))) (da_cons (dv (de_name 6)) (da_cons (dv (de_name 7)) (da_cons (dv (de_call T.c_law_pick hr (dc_r (de_name 0) (dc_v (dv (de_lst (da_cons (dv de_str) (da_cons (dv de_str) da_nil)))) dc_nil)))) da_nil)))))))))))))⟩
theorem sc_law_size : FnScope ["plain", "many", "one"] ["plain"] (defScope s_law_size) := ⟨rfl, rfl, rfl, by decide +kernel, rfl, by decide +kernel, by decide +kernel⟩
theorem ok_law_size (T : Tab P wd K mg base n) (B : Blt mg) {f : Addr} {fd : FuncData} (F : Fun K "_law_size" "_law_size" s_law_size f fd) : FnOk P wd K mg base CX0 (n + 1) f fd ["plain"] (spM K (b_law_size (mir n))) := by
  have sc := sc_law_size
  exact def_ok F sc rfl rfl fun cdv A outer s H E hr => ⟨_, (dss_cons (ds_if (dt_w (dw_or (dt_cmp (fun hk _ => hk ▸ op_eqA hr.units) (op2_eq _) (de_ix (de_name 0) de_int) de_str) (dw_or1 (dt_cmp (fun hk _ => hk ▸ op_eqA hr.units) (op2_eq _) (de_ix (de_name 0) de_int) de_str)))) (dss_one (ds_ret (de_g2 (fun hk _ => hk ▸ op_addA) (sem_add _) de_int (de_b1 (fun hk _ => hk ▸ cr_sum rfl) sem_sum B.sum (de_lc rfl sc.nd [("one", 2)] (blkOk_by (N := ["plain", "many", "one"]) (sc := (defScope s_law_size)) (by decide +kernel)) (by decide) (by decide) (di_seq (dv (de_ix (de_name 0) de_int))) (fun _ _ _ _ _ => (dg_name 2 sc.nd)) (fun _ _ _ _ _ => dts_nil) (fun _ _ _ _ _ => (dv (de_call T.c_law_size hr (dc_v (dv (de_name 2)) dc_nil))))))))) dss_nil)
    (dss_cons (ds_klE [1] (ds_if (dt_cmp (fun hk _ => hk ▸ op_eqA hr.units) (op2_eq _) (de_ix (de_name 0) de_int) de_str) (dss_cons (ds_set 1 sc.nd (de_g2 (fun hk _ => hk ▸ op_addA) (sem_add _) (de_ix (de_name 0) de_int) de_int))
    (dss_cons (ds_if (dt_cmp (fun _ _ => op_notN) (op2_notN _) (de_ix (de_name 0) de_int) de_non) (dss_one (ds_set 1 sc.nd (de_ix (de_name 0) de_int))) dss_nil)
    (dss_one (ds_ret (de_g2 (fun hk _ => hk ▸ op_addA) (sem_add _) (de_g2 (fun hk _ => hk ▸ op_addA) (sem_add _) (de_op (fun _ _ => op_mulA) (op2_mul _) de_int (de_name 1)) de_int) (de_op (fun _ _ => op_mulA) (op2_mul _) (de_name 1) (de_call T.c_law_size hr (dc_v (dv (de_ix (de_name 0) de_int)) dc_nil)))))))) dss_nil))
    (dss_one (ds_ret de_int))))⟩
theorem sc_law_sets : FnScope ["plain", "many", "one"] ["plain"] (defScope s_law_sets) := ⟨rfl, rfl, rfl, by decide +kernel, rfl, by decide +kernel, by decide +kernel⟩
theorem ok_law_sets (T : Tab P wd K mg base n) (B : Blt mg) {f : Addr} {fd : FuncData} (F : Fun K "_law_sets" "_law_sets" s_law_sets f fd) : FnOk P wd K mg base CX0 (n + 1) f fd ["plain"] (spM K (b_law_sets (mir n))) := by
  have sc := sc_law_sets
  exact def_ok F sc rfl rfl fun cdv A outer s H E hr => ⟨_, (dss_cons (ds_if (dt_w (dw_or (dt_cmp (fun hk _ => hk ▸ op_eqA hr.units) (op2_eq _) (de_ix (de_name 0) de_int) de_str) (dw_or1 (dt_cmp (fun hk _ => hk ▸ op_eqA hr.units) (op2_eq _) (de_ix (de_name 0) de_int) de_str)))) (dss_one (ds_ret (de_b1 (fun hk _ => hk ▸ cr_sum rfl) sem_sum B.sum (de_lc rfl sc.nd [("one", 2)] (blkOk_by (N := ["plain", "many", "one"]) (sc := (defScope s_law_sets)) (by decide +kernel)) (by decide) (by decide) (di_seq (dv (de_ix (de_name 0) de_int))) (fun _ _ _ _ _ => (dg_name 2 sc.nd)) (fun _ _ _ _ _ => dts_nil) (fun _ _ _ _ _ => (dv (de_call T.c_law_sets hr (dc_v (dv (de_name 2)) dc_nil)))))))) dss_nil)
    (dss_cons (ds_klE [1] (ds_if (dt_cmp (fun hk _ => hk ▸ op_eqA hr.units) (op2_eq _) (de_ix (de_name 0) de_int) de_str) (dss_cons (ds_set 1 sc.nd (de_g2 (fun hk _ => hk ▸ op_addA) (sem_add _) (de_ix (de_name 0) de_int) de_int))
    (dss_cons (ds_if (dt_cmp (fun _ _ => op_notN) (op2_notN _) (de_ix (de_name 0) de_int) de_non) (dss_one (ds_set 1 sc.nd (de_ix (de_name 0) de_int))) dss_nil)
    (dss_one (ds_ret (de_op (fun _ _ => op_mulA) (op2_mul _) (de_name 1) (de_call T.c_law_sets hr (dc_v (dv (de_ix (de_name 0) de_int)) dc_nil))))))) dss_nil))
    (dss_one (ds_ret (de_t1 (fun _ _ => call_int1) sem_int B.int (de_cmp (fun hk _ => hk ▸ op_eqA hr.units) (op2_eq _) (de_ix (de_name 0) de_int) de_str))))))⟩
theorem sc_law_plain : FnScope ["draws", "letters", "most", "depth", "plain"] ["draws", "letters", "most"] (defScope s_law_plain) := ⟨rfl, rfl, rfl, by decide +kernel, rfl, by decide +kernel, by decide +kernel⟩
theorem ok_law_plain (T : Tab P wd K mg base n) (B : Blt mg) {f : Addr} {fd : FuncData} (F : Fun K "_law_plain" "_law_plain" s_law_plain f fd) : FnOk P wd K mg base CX0 (n + 1) f fd ["draws", "letters", "most"] (spM K (b_law_plain (mir n))) := by
  have sc := sc_law_plain
  exact def_ok F sc rfl rfl fun cdv A outer s H E hr => ⟨_, (dss_cons (ds_for PassesOwn.never rfl (di_seq (dv (de_lst (da_cons (dv de_int) (da_cons (dv de_int) (da_cons (dv de_int) (da_cons (dv de_int) (da_cons (dv de_int) (da_cons (dv de_int) (da_cons (dv de_int) (da_cons (dv de_int) da_nil))))))))))) (dg_name 3 sc.nd) (dss_klE [3, 4] (dss_cons (ds_set 4 sc.nd (de_call T.c_law_drawn hr (dc_r (de_name 0) (dc_v (dv (de_name 1)) (dc_v (dv (de_name 3)) dc_nil)))))
    (dss_one (ds_if (dt_w (dw_and (dt_cmp (fun _ _ => op_lt) (op2_cmp _ _) de_int (de_call T.c_law_sets hr (dc_v (dv (de_name 4)) dc_nil))) (dw_and (dt_cmp (fun _ _ => op_le) (op2_cmp _ _) (de_call T.c_law_sets hr (dc_v (dv (de_name 4)) dc_nil)) (de_name 2)) (dw_and1 (dt_cmp (fun _ _ => op_le) (op2_cmp _ _) (de_call T.c_law_size hr (dc_v (dv (de_name 4)) dc_nil)) de_int))))) (dss_one (ds_ret (de_name 4))) dss_nil)))))
    (dss_one (ds_ret (de_call T.c_law_pick hr (dc_r (de_name 0) (dc_v (dv (de_lst (da_cons (dv (de_tup (da_cons (dv de_str) (da_cons (dv (de_tup (da_cons (dv de_str) (da_cons (dv (de_ix (de_name 1) de_int)) da_nil)))) (da_cons (dv de_int) (da_cons (dv de_non) (da_cons (dv de_str) da_nil))))))) (da_cons (dv (de_tup (da_cons (dv de_str) (da_cons (dv (de_name 1)) da_nil)))) da_nil)))) dc_nil))))))⟩
theorem sc_law_new_place : FnScope ["net"] ["net"] (defScope s_law_new_place) := ⟨rfl, rfl, rfl, by decide +kernel, rfl, by decide +kernel, by decide +kernel⟩
theorem ok_law_new_place (T : Tab P wd K mg base n) (B : Blt mg) {f : Addr} {fd : FuncData} (F : Fun K "_law_new_place" "_law_new_place" s_law_new_place f fd) : FnOk P wd K mg base CX0 (n + 1) f fd ["net"] (spM K (b_law_new_place (mir n))) := by
  have sc := sc_law_new_place
  exact def_ok F sc rfl rfl fun cdv A outer s H E hr => ⟨_, (dss_cons (ds_asg (dv (de_g2 (fun hk _ => hk ▸ op_addA) (sem_add _) (de_ix (de_name 0) de_int) de_int)) (dg_sub (de_name 0) de_int))
    (dss_one (ds_ret (de_op (fun _ _ => op_sub) (op2_sub _) (de_ix (de_name 0) de_int) de_int))))⟩
theorem sc_law_lay : FnScope ["plain", "net", "begin", "kind", "one", "turn", "end"] ["plain", "net", "begin"] (defScope s_law_lay) := ⟨rfl, rfl, rfl, by decide +kernel, rfl, by decide +kernel, by decide +kernel⟩
theorem ok_law_lay (T : Tab P wd K mg base n) (B : Blt mg) {f : Addr} {fd : FuncData} (F : Fun K "_law_lay" "_law_lay" s_law_lay f fd) : FnOk P wd K mg base CX0 (n + 1) f fd ["plain", "net", "begin"] (spM K (b_law_lay (mir n))) := by
  have sc := sc_law_lay
  exact def_ok F sc rfl rfl fun cdv A outer s H E hr => ⟨_, (dss_cons (ds_set 3 sc.nd (de_ix (de_name 0) de_int))
    (dss_cons (ds_if (dt_cmp (fun hk _ => hk ▸ op_eqA hr.units) (op2_eq _) (de_name 3) de_str) (dss_one (ds_ret (de_name 2))) dss_nil)
    (dss_cons (ds_klE [4] (ds_if (dt_cmp (fun hk _ => hk ▸ op_eqA hr.units) (op2_eq _) (de_name 3) de_str) (dss_cons (ds_for PassesOwn.never rfl (di_kI [3] (di_seq (dv (de_ix (de_name 0) de_int)))) (dg_name 4 sc.nd) (dss_klE [4] (dss_one (ds_set 2 sc.nd (de_call T.c_law_lay hr (dc_v (dv (de_name 4)) (dc_r (de_name 1) (dc_v (dv (de_name 2)) dc_nil))))))))
    (dss_one (ds_ret (de_name 2)))) dss_nil))
    (dss_cons (ds_klE [5] (ds_if (dt_cmp (fun hk _ => hk ▸ op_eqA hr.units) (op2_eq _) (de_name 3) de_str) (dss_one (ds_for PassesOwn.never rfl (di_kI [4] (di_rg1 B.range (de_ix (de_name 0) de_int))) (dg_name 5 sc.nd) (dss_klE [5] (dss_one (ds_set 2 sc.nd (de_call T.c_law_lay hr (dc_v (dv (de_ix (de_name 0) de_int)) (dc_r (de_name 1) (dc_v (dv (de_name 2)) dc_nil))))))))) dss_nil))
    (dss_cons (ds_set 6 sc.nd (de_call T.c_law_new_place hr (dc_r (de_name 1) dc_nil)))
    (dss_cons (ds_if (dt_cmp (fun hk _ => hk ▸ op_eqA hr.units) (op2_eq _) (de_name 3) de_str) (dss_one (ds_expr (de_call T.c_law_way hr (dc_r (de_name 1) (dc_v (dv (de_name 2)) (dc_v (dv (de_ix (de_name 0) de_int)) (dc_v (dv (de_name 6)) dc_nil))))))) dss_nil)
    (dss_cons (ds_klE [4] (ds_if (dt_cmp (fun hk _ => hk ▸ op_eqA hr.units) (op2_eq _) (de_name 3) de_str) (dss_one (ds_for PassesOwn.never rfl (di_kI [4, 5] (di_seq (dv (de_ix (de_name 0) de_int)))) (dg_name 4 sc.nd) (dss_klE [4] (dss_one (ds_expr (de_call T.c_law_way hr (dc_r (de_name 1) (dc_v (dv (de_call T.c_law_lay hr (dc_v (dv (de_name 4)) (dc_r (de_name 1) (dc_v (dv (de_name 2)) dc_nil))))) (dc_v (dv de_str) (dc_v (dv (de_name 6)) dc_nil)))))))))) dss_nil))
    (dss_cons (ds_klE [5] (ds_if (dt_cmp (fun hk _ => hk ▸ op_eqA hr.units) (op2_eq _) (de_name 3) de_str) (dss_cons (ds_expr (de_call T.c_law_way hr (dc_r (de_name 1) (dc_v (dv (de_name 2)) (dc_v (dv de_str) (dc_v (dv (de_name 6)) dc_nil))))))
    (dss_one (ds_klE [5] (ds_if (dt_cmp (fun _ _ => op_isN) (op2_isN _) (de_ix (de_name 0) de_int) de_non) (dss_one (ds_expr (de_call T.c_law_way hr (dc_r (de_name 1) (dc_v (dv (de_call T.c_law_lay hr (dc_v (dv (de_ix (de_name 0) de_int)) (dc_r (de_name 1) (dc_v (dv (de_name 6)) dc_nil))))) (dc_v (dv de_str) (dc_v (dv (de_name 6)) dc_nil))))))) (dss_one (ds_for PassesOwn.never rfl (di_kI [3, 4, 5] (di_rg1 B.range (de_op (fun _ _ => op_sub) (op2_sub _) (de_ix (de_name 0) de_int) (de_ix (de_name 0) de_int)))) (dg_name 5 sc.nd) (dss_klE [5] (dss_cons (ds_set 2 sc.nd (de_call T.c_law_lay hr (dc_v (dv (de_ix (de_name 0) de_int)) (dc_r (de_name 1) (dc_v (dv (de_name 2)) dc_nil)))))
    (dss_one (ds_expr (de_call T.c_law_way hr (dc_r (de_name 1) (dc_v (dv (de_name 2)) (dc_v (dv de_str) (dc_v (dv (de_name 6)) dc_nil))))))))))))))) dss_nil))
    (dss_one (ds_ret (de_name 6)))))))))))⟩
theorem sc_law_spread : FnScope ["net", "places", "found", "turn", "fresh", "way"] ["net", "places"] (defScope s_law_spread) := ⟨rfl, rfl, rfl, by decide +kernel, rfl, by decide +kernel, by decide +kernel⟩
theorem ok_law_spread (T : Tab P wd K mg base n) (B : Blt mg) {f : Addr} {fd : FuncData} (F : Fun K "_law_spread" "_law_spread" s_law_spread f fd) : FnOk P wd K mg base CX0 (n + 1) f fd ["net", "places"] (spM K (b_law_spread (mir n))) := by
  have sc := sc_law_spread
  exact def_ok F sc rfl rfl fun cdv A outer s H E hr => ⟨_, (dss_cons (ds_set 2 sc.nd (de_t1 (fun hk _ => hk ▸ call_listA rfl) sem_listA B.list (de_name 1)))
    (dss_cons (ds_for PassesOwn.never rfl (di_rg1 B.range (de_ix (de_name 0) de_int)) (dg_name 3 sc.nd) (dss_klE [3, 4] (dss_cons (ds_fzE 4 (ds_setLc 4 rfl sc.nd rfl rfl (sw_true rfl rfl rfl (by decide +kernel)) [("way", 5)] (blkOk_by (N := ["net", "places", "found", "turn", "fresh", "way"]) (sc := (defScope s_law_spread)) (by decide +kernel)) (by decide) (by decide) (di_seq (dv (de_ix (de_name 0) de_int))) (fun _ _ _ _ _ => (dg_name 5 sc.nd)) (fun _ _ _ _ _ => (dts_one (dt_w (dw_and (dt_cmp (fun hk _ => hk ▸ op_eqA hr.units) (op2_eq _) (de_ix (de_name 5) de_int) de_str) (dw_and (dt_cmp (fun hk _ => hk ▸ op_inA (r65 hr)) (op2_in _) (de_ix (de_name 5) de_int) (de_name 2)) (dw_and1 (dt_cmp (fun hk _ => hk ▸ op_notInA (r65 hr)) (op2_notin _) (de_ix (de_name 5) de_int) (de_name 2)))))))) (fun _ _ _ _ _ => (dv (de_ix (de_name 5) de_int)))))
    (dss_cons (ds_if (dt_cmp (fun hk _ => hk ▸ op_eqA hr.units) (op2_eq _) (de_b1 (fun hk _ => hk ▸ call_lenA) sem_len B.len (de_name 4)) de_int) (dss_one ds_break) dss_nil)
    (dss_one (ds_set 2 sc.nd (de_g2 (fun hk _ => hk ▸ op_addA) (sem_add _) (de_name 2) (de_sortedSet rfl B.sorted B.set (de_name 4)))))))))
    (dss_one (ds_ret (de_t1 (fun hk _ => hk ▸ call_tuple_of) sem_tuple B.tuple (de_sortedSet rfl B.sorted B.set (de_name 2)))))))⟩
theorem sc_law_machine : FnScope ["plains", "letters", "net", "ends", "states", "rows", "turn", "row", "letter", "led", "further", "labels", "k", "way", "state"] ["plains", "letters"] (defScope s_law_machine) := ⟨rfl, rfl, rfl, by decide +kernel, rfl, by decide +kernel, by decide +kernel⟩
theorem ok_law_machine (T : Tab P wd K mg base n) (B : Blt mg) {f : Addr} {fd : FuncData} (F : Fun K "_law_machine" "_law_machine" s_law_machine f fd) : FnOk P wd K mg base CX0 (n + 1) f fd ["plains", "letters"] (spM K (b_law_machine (mir n))) := by
  have sc := sc_law_machine
  exact def_ok F sc rfl rfl fun cdv A outer s H E hr => ⟨_, (dss_cons (ds_set 2 sc.nd (de_lstC (dn_cons (de_lst da_nil) (dn_cons (de_b1 (fun hk _ => hk ▸ call_lenA) sem_len B.len (de_name 0)) dn_nil))))
    (dss_cons (ds_fzE 3 (ds_set 3 sc.nd (de_lc rfl sc.nd [("k", 12)] (blkOk_by (N := ["plains", "letters", "net", "ends", "states", "rows", "turn", "row", "letter", "led", "further", "labels", "k", "way", "state"]) (sc := (defScope s_law_machine)) (by decide +kernel)) (by decide) (by decide) (di_rg1 B.range (de_b1 (fun hk _ => hk ▸ call_lenA) sem_len B.len (de_name 0))) (fun _ _ _ _ _ => (dg_name 12 sc.nd)) (fun _ _ _ _ _ => dts_nil) (fun _ _ _ _ _ => (dv (de_call T.c_law_lay hr (dc_v (dv (de_ix (de_name 0) (de_name 12))) (dc_r (de_name 2) (dc_v (dv (de_name 12)) dc_nil)))))))))
    (dss_cons (ds_frS 2 (ds_set 4 sc.nd (de_lst (da_cons (dv (de_callB T.c_law_spread hr (dc_b (de_name 2) (dc_v (dv (de_lrg1 rfl B.list B.range (de_b1 (fun hk _ => hk ▸ call_lenA) sem_len B.len (de_name 0)))) dc_nil)))) da_nil))))
    (dss_cons (ds_set 5 sc.nd (de_lst da_nil))
    (dss_cons (ds_for PassesOwn.never rfl (di_rg1 B.range de_int) (dg_name 6 sc.nd) (dss_klE [6, 7, 8, 9, 10] (dss_cons (ds_if (dt_cmp (fun _ _ => op_ge) (op2_cmp _ _) (de_name 6) (de_b1 (fun hk _ => hk ▸ call_lenA) sem_len B.len (de_name 4))) (dss_one ds_break) dss_nil)
    (dss_cons (ds_set 7 sc.nd (de_lst da_nil))
    (dss_cons (ds_for PassesOwn.never rfl (di_kI [8, 9, 10] (di_seq (dv (de_name 1)))) (dg_name 8 sc.nd) (dss_klE [8, 9, 10] (dss_cons (ds_fzE 9 (ds_setLc 9 rfl sc.nd rfl rfl (sw_true rfl rfl rfl (by decide +kernel)) [("way", 13)] (blkOk_by (N := ["plains", "letters", "net", "ends", "states", "rows", "turn", "row", "letter", "led", "further", "labels", "k", "way", "state"]) (sc := (defScope s_law_machine)) (by decide +kernel)) (by decide) (by decide) (di_seq (dv (de_ix (de_name 2) de_int))) (fun _ _ _ _ _ => (dg_name 13 sc.nd)) (fun _ _ _ _ _ => (dts_one (dt_w (dw_and (dt_cmp (fun hk _ => hk ▸ op_inA (r65 hr)) (op2_in _) (de_name 8) (de_ix (de_name 13) de_int)) (dw_and1 (dt_cmp (fun hk _ => hk ▸ op_inA (r65 hr)) (op2_in _) (de_ix (de_name 13) de_int) (de_ix (de_name 4) (de_name 6)))))))) (fun _ _ _ _ _ => (dv (de_ix (de_name 13) de_int)))))
    (dss_cons (ds_fzE 10 (ds_set 10 sc.nd (de_callB T.c_law_spread hr (dc_b (de_name 2) (dc_v (dv (de_name 9)) dc_nil)))))
    (dss_cons (ds_if (dt_cmp (fun hk _ => hk ▸ op_notInA (r65 hr)) (op2_notin _) (de_name 10) (de_name 4)) (dss_one (ds_expr (de_mut PySem.F.slot_list_append PySem.F.type_list_append (fun _ _ => mt_append) mut_append (de_name 4) (dv (de_name 10))))) dss_nil)
    (dss_one (ds_expr (de_mut PySem.F.slot_list_append PySem.F.type_list_append (fun _ _ => mt_append) mut_append (de_name 7) (dv (de_lm PySem.F.slot_list_index PySem.F.type_list_index (fun hk _ => hk ▸ mt_idxA (r65 hr)) sem_lidx (de_name 4) (de_name 10)))))))))))
    (dss_one (ds_expr (de_mut PySem.F.slot_list_append PySem.F.type_list_append (fun _ _ => mt_append) mut_append (de_name 5) (dv (de_t1 (fun hk _ => hk ▸ call_tuple_of) sem_tuple B.tuple (de_name 7)))))))))))
    (dss_cons (ds_fzE 11 (ds_setLc 11 rfl sc.nd rfl rfl (sw_true rfl rfl rfl (by decide +kernel)) [("state", 14)] (blkOk_by (N := ["plains", "letters", "net", "ends", "states", "rows", "turn", "row", "letter", "led", "further", "labels", "k", "way", "state"]) (sc := (defScope s_law_machine)) (by decide +kernel)) (by decide) (by decide) (di_seq (dv (de_name 4))) (fun _ _ _ _ _ => (dg_name 14 sc.nd)) (fun _ _ _ _ _ => dts_nil) (fun _ _ _ _ _ => (dv (de_ix (de_g2 (fun hk _ => hk ▸ op_addA) (sem_add _) (de_lc rfl sc.nd [("k", 12)] (blkOk_by (N := ["plains", "letters", "net", "ends", "states", "rows", "turn", "row", "letter", "led", "further", "labels", "k", "way", "state"]) (sc := (relS _ (defScope s_law_machine))) (by decide +kernel)) (by decide) (by decide) (di_rg1 B.range (de_b1 (fun hk _ => hk ▸ call_lenA) sem_len B.len (de_name 3))) (fun _ _ _ _ _ => (dg_name 12 sc.nd)) (fun _ _ _ _ _ => (dts_one (dt_cmp (fun hk _ => hk ▸ op_inA (r65 hr)) (op2_in _) (de_ix (de_name 3) (de_name 12)) (de_name 14)))) (fun _ _ _ _ _ => (dv (de_name 12)))) (de_lst (da_cons (dv de_non) da_nil))) de_int)))))
    (dss_one (ds_ret (de_lst (da_cons (dv (de_t1 (fun hk _ => hk ▸ call_tuple_of) sem_tuple B.tuple (de_name 5))) (da_cons (dv (de_name 11)) da_nil)))))))))))⟩
theorem sc_law_least_machine : FnScope ["rows", "labels", "classes", "turn", "marks", "fresh", "order", "to", "told", "label", "k", "mark"] ["rows", "labels"] (defScope s_law_least_machine) := ⟨rfl, rfl, rfl, by decide +kernel, rfl, by decide +kernel, by decide +kernel⟩
theorem ok_law_least_machine (T : Tab P wd K mg base n) (B : Blt mg) {f : Addr} {fd : FuncData} (F : Fun K "_law_least_machine" "_law_least_machine" s_law_least_machine f fd) : FnOk P wd K mg base CX0 (n + 1) f fd ["rows", "labels"] (spM K (b_law_least_machine (mir n))) := by
  have sc := sc_law_least_machine
  exact def_ok F sc rfl rfl fun cdv A outer s H E hr => ⟨_, (dss_cons (ds_fzE 2 (ds_set 2 sc.nd (de_lc rfl sc.nd [("label", 9)] (blkOk_by (N := ["rows", "labels", "classes", "turn", "marks", "fresh", "order", "to", "told", "label", "k", "mark"]) (sc := (defScope s_law_least_machine)) (by decide +kernel)) (by decide) (by decide) (di_seq (dv (de_name 1))) (fun _ _ _ _ _ => (dg_name 9 sc.nd)) (fun _ _ _ _ _ => dts_nil) (fun _ _ _ _ _ => (dv (de_lm PySem.F.slot_list_index PySem.F.type_list_index (fun hk _ => hk ▸ mt_idxA (r65 hr)) sem_lidx (de_name 1) (de_name 9)))))))
    (dss_cons (ds_for PassesOwn.never rfl (di_rg1 B.range (de_b1 (fun hk _ => hk ▸ call_lenA) sem_len B.len (de_name 0))) (dg_name 3 sc.nd) (dss_klE [3, 4, 5, 7] (dss_cons (ds_fzE 4 (ds_set 4 sc.nd (de_lc rfl sc.nd [("k", 10)] (blkOk_by (N := ["rows", "labels", "classes", "turn", "marks", "fresh", "order", "to", "told", "label", "k", "mark"]) (sc := (defScope s_law_least_machine)) (by decide +kernel)) (by decide) (by decide) (di_rg1 B.range (de_b1 (fun hk _ => hk ▸ call_lenA) sem_len B.len (de_name 0))) (fun _ _ _ _ _ => (dg_name 10 sc.nd)) (fun _ _ _ _ _ => dts_nil) (fun _ _ _ _ _ => (dv (de_tup (da_cons (dv (de_ix (de_name 2) (de_name 10))) (da_cons (dv (de_t1 (fun hk _ => hk ▸ call_tuple_of) sem_tuple B.tuple (de_lc rfl sc.nd [("to", 7)] (blkOk_by (N := ["rows", "labels", "classes", "turn", "marks", "fresh", "order", "to", "told", "label", "k", "mark"]) (sc := (relS _ (defScope s_law_least_machine))) (by decide +kernel)) (by decide) (by decide) (di_seq (dv (de_ix (de_name 0) (de_name 10)))) (fun _ _ _ _ _ => (dg_name 7 sc.nd)) (fun _ _ _ _ _ => dts_nil) (fun _ _ _ _ _ => (dv (de_ix (de_name 2) (de_name 7))))))) da_nil))))))))
    (dss_cons (ds_fzE 5 (ds_setLc 5 rfl sc.nd rfl rfl (sw_true rfl rfl rfl (by decide +kernel)) [("mark", 11)] (blkOk_by (N := ["rows", "labels", "classes", "turn", "marks", "fresh", "order", "to", "told", "label", "k", "mark"]) (sc := (defScope s_law_least_machine)) (by decide +kernel)) (by decide) (by decide) (di_seq (dv (de_name 4))) (fun _ _ _ _ _ => (dg_name 11 sc.nd)) (fun _ _ _ _ _ => dts_nil) (fun _ _ _ _ _ => (dv (de_lm PySem.F.slot_list_index PySem.F.type_list_index (fun hk _ => hk ▸ mt_idxA (r65 hr)) sem_lidx (de_name 4) (de_name 11))))))
    (dss_cons (ds_if (dt_cmp (fun hk _ => hk ▸ op_eqA hr.units) (op2_eq _) (de_name 5) (de_name 2)) (dss_one ds_break) dss_nil)
    (dss_one (ds_fzE 2 (ds_set 2 sc.nd (de_name 5)))))))))
    (dss_cons (ds_set 6 sc.nd (de_lst (da_cons (dv (de_ix (de_name 2) de_int)) da_nil)))
    (dss_cons (ds_for PassesOwn.never rfl (di_kI [3, 4, 5, 7] (di_rg1 B.range (de_b1 (fun hk _ => hk ▸ call_lenA) sem_len B.len (de_name 0)))) (dg_name 3 sc.nd) (dss_klE [3, 7] (dss_cons (ds_if (dt_cmp (fun _ _ => op_ge) (op2_cmp _ _) (de_name 3) (de_b1 (fun hk _ => hk ▸ call_lenA) sem_len B.len (de_name 6))) (dss_one ds_break) dss_nil)
    (dss_one (ds_for PassesOwn.never rfl (di_kI [3, 4, 5, 7] (di_seq (dv (de_ix (de_name 0) (de_ix (de_name 6) (de_name 3)))))) (dg_name 7 sc.nd) (dss_klE [7] (dss_one (ds_if (dt_cmp (fun hk _ => hk ▸ op_notInA (r65 hr)) (op2_notin _) (de_ix (de_name 2) (de_name 7)) (de_name 6)) (dss_one (ds_expr (de_mut PySem.F.slot_list_append PySem.F.type_list_append (fun _ _ => mt_append) mut_append (de_name 6) (dv (de_ix (de_name 2) (de_name 7)))))) dss_nil))))))))
    (dss_cons (ds_fzE 8 (ds_setLc 8 rfl sc.nd rfl rfl (sw_true rfl rfl rfl (by decide +kernel)) [("k", 10)] (blkOk_by (N := ["rows", "labels", "classes", "turn", "marks", "fresh", "order", "to", "told", "label", "k", "mark"]) (sc := (defScope s_law_least_machine)) (by decide +kernel)) (by decide) (by decide) (di_seq (dv (de_name 6))) (fun _ _ _ _ _ => (dg_name 10 sc.nd)) (fun _ _ _ _ _ => dts_nil) (fun _ _ _ _ _ => (dv (de_t1 (fun hk _ => hk ▸ call_tuple_of) sem_tuple B.tuple (de_lc rfl sc.nd [("to", 7)] (blkOk_by (N := ["rows", "labels", "classes", "turn", "marks", "fresh", "order", "to", "told", "label", "k", "mark"]) (sc := (relS _ (defScope s_law_least_machine))) (by decide +kernel)) (by decide) (by decide) (di_seq (dv (de_ix (de_name 0) (de_name 10)))) (fun _ _ _ _ _ => (dg_name 7 sc.nd)) (fun _ _ _ _ _ => dts_nil) (fun _ _ _ _ _ => (dv (de_lm PySem.F.slot_list_index PySem.F.type_list_index (fun hk _ => hk ▸ mt_idxA (r65 hr)) sem_lidx (de_name 6) (de_ix (de_name 2) (de_name 7)))))))))))
    (dss_one (ds_ret (de_lst (da_cons (dv (de_t1 (fun hk _ => hk ▸ call_tuple_of) sem_tuple B.tuple (de_name 8))) (da_cons (dv (de_lc rfl sc.nd [("k", 10)] (blkOk_by (N := ["rows", "labels", "classes", "turn", "marks", "fresh", "order", "to", "told", "label", "k", "mark"]) (sc := (defScope s_law_least_machine)) (by decide +kernel)) (by decide) (by decide) (di_seq (dv (de_name 6))) (fun _ _ _ _ _ => (dg_name 10 sc.nd)) (fun _ _ _ _ _ => dts_nil) (fun _ _ _ _ _ => (dv (de_ix (de_name 1) (de_name 10)))))) da_nil))))))))))⟩
theorem sc_law_least : FnScope ["table", "rows", "labels", "k"] ["table"] (defScope s_law_least) := ⟨rfl, rfl, rfl, by decide +kernel, rfl, by decide +kernel, by decide +kernel⟩
theorem ok_law_least (T : Tab P wd K mg base n) (B : Blt mg) {f : Addr} {fd : FuncData} (F : Fun K "_law_least" "_law_least" s_law_least f fd) : FnOk P wd K mg base CX0 (n + 1) f fd ["table"] (spM K (b_law_least (mir n))) := by
  have sc := sc_law_least
  exact def_ok F sc rfl rfl fun cdv A outer s H E hr => ⟨_, (dss_cons (ds_asg (dv (de_call T.c_law_least_machine hr (dc_v (dv (de_ix (de_name 0) de_int)) (dc_v (dv (de_lc rfl sc.nd [("k", 3)] (blkOk_by (N := ["table", "rows", "labels", "k"]) (sc := (defScope s_law_least)) (by decide +kernel)) (by decide) (by decide) (di_rg1 B.range (de_b1 (fun hk _ => hk ▸ call_lenA) sem_len B.len (de_ix (de_name 0) de_int))) (fun _ _ _ _ _ => (dg_name 3 sc.nd)) (fun _ _ _ _ _ => dts_nil) (fun _ _ _ _ _ => (dv (de_t1 (fun _ _ => call_int1) sem_int B.int (de_cmp (fun hk _ => hk ▸ op_inA (r65 hr)) (op2_in _) (de_name 3) (de_ix (de_name 0) de_int))))))) dc_nil)))) (dg_tup rfl (dgs_cons (dg_name 1 sc.nd) (dgs_cons (dg_name 2 sc.nd) dgs_nil))))
    (dss_one (ds_ret (de_tup (da_cons (dv (de_ix (de_name 0) de_int)) (da_cons (dv (de_name 1)) (da_cons (dv (de_t1 (fun hk _ => hk ▸ call_tuple_of) sem_tuple B.tuple (de_lc rfl sc.nd [("k", 3)] (blkOk_by (N := ["table", "rows", "labels", "k"]) (sc := (defScope s_law_least)) (by decide +kernel)) (by decide) (by decide) (di_rg1 B.range (de_b1 (fun hk _ => hk ▸ call_lenA) sem_len B.len (de_name 1))) (fun _ _ _ _ _ => (dg_name 3 sc.nd)) (fun _ _ _ _ _ => (dts_one (dt_cmp (fun hk _ => hk ▸ op_eqA hr.units) (op2_eq _) (de_ix (de_name 2) (de_name 3)) de_int))) (fun _ _ _ _ _ => (dv (de_name 3)))))) da_nil)))))))⟩
theorem sc_law_table_of : FnScope ["plain", "letters", "rows", "labels", "k"] ["plain", "letters"] (defScope s_law_table_of) := ⟨rfl, rfl, rfl, by decide +kernel, rfl, by decide +kernel, by decide +kernel⟩
theorem ok_law_table_of (T : Tab P wd K mg base n) (B : Blt mg) {f : Addr} {fd : FuncData} (F : Fun K "_law_table_of" "_law_table_of" s_law_table_of f fd) : FnOk P wd K mg base CX0 (n + 1) f fd ["plain", "letters"] (spM K (b_law_table_of (mir n))) := by
  have sc := sc_law_table_of
  exact def_ok F sc rfl rfl fun cdv A outer s H E hr => ⟨_, (dss_cons (ds_asg (dv (de_call T.c_law_machine hr (dc_v (dv (de_lst (da_cons (dv (de_name 0)) da_nil))) (dc_v (dv (de_name 1)) dc_nil)))) (dg_tup rfl (dgs_cons (dg_name 2 sc.nd) (dgs_cons (dg_name 3 sc.nd) dgs_nil))))
    (dss_one (ds_ret (de_call T.c_law_least hr (dc_v (dv (de_tup (da_cons (dv (de_name 1)) (da_cons (dv (de_name 2)) (da_cons (dv (de_t1 (fun hk _ => hk ▸ call_tuple_of) sem_tuple B.tuple (de_lc rfl sc.nd [("k", 4)] (blkOk_by (N := ["plain", "letters", "rows", "labels", "k"]) (sc := (defScope s_law_table_of)) (by decide +kernel)) (by decide) (by decide) (di_rg1 B.range (de_b1 (fun hk _ => hk ▸ call_lenA) sem_len B.len (de_name 2))) (fun _ _ _ _ _ => (dg_name 4 sc.nd)) (fun _ _ _ _ _ => (dts_one (dt_cmp (fun hk _ => hk ▸ op_eqA hr.units) (op2_eq _) (de_ix (de_name 3) (de_name 4)) de_int))) (fun _ _ _ _ _ => (dv (de_name 4)))))) da_nil))))) dc_nil)))))⟩
theorem sc_law_table : FnScope ["draws", "letters", "most", "many", "rows", "share", "fits", "k", "letter"] ["draws", "letters", "most"] (defScope s_law_table) := ⟨rfl, rfl, rfl, by decide +kernel, rfl, by decide +kernel, by decide +kernel⟩
theorem ok_law_table (T : Tab P wd K mg base n) (B : Blt mg) {f : Addr} {fd : FuncData} (F : Fun K "_law_table" "_law_table" s_law_table f fd) : FnOk P wd K mg base CX0 (n + 1) f fd ["draws", "letters", "most"] (spM K (b_law_table (mir n))) := by
  have sc := sc_law_table
  exact def_ok F sc rfl rfl fun cdv A outer s H E hr => ⟨_, (dss_cons (ds_set 3 sc.nd (de_g2 (fun hk _ => hk ▸ op_addA) (sem_add _) de_int (de_call T.c_law_take hr (dc_r (de_name 0) (dc_v (dv (de_name 2)) dc_nil)))))
    (dss_cons (ds_set 4 sc.nd (de_t1 (fun hk _ => hk ▸ call_tuple_of) sem_tuple B.tuple (de_lc rfl sc.nd [("k", 7)] (blkOk_by (N := ["draws", "letters", "most", "many", "rows", "share", "fits", "k", "letter"]) (sc := (defScope s_law_table)) (by decide +kernel)) (by decide) (by decide) (di_rg1 B.range (de_name 3)) (fun _ _ _ _ _ => (dg_name 7 sc.nd)) (fun _ _ _ _ _ => dts_nil) (fun _ _ _ _ _ => (dv (de_t1 (fun hk _ => hk ▸ call_tuple_of) sem_tuple B.tuple (de_lc rfl sc.nd [("letter", 8)] (blkOk_by (N := ["draws", "letters", "most", "many", "rows", "share", "fits", "k", "letter"]) (sc := (relS _ (defScope s_law_table))) (by decide +kernel)) (by decide) (by decide) (di_seq (dv (de_name 1))) (fun _ _ _ _ _ => (dg_name 8 sc.nd)) (fun _ _ _ _ _ => dts_nil) (fun _ _ _ _ _ => (dv (de_call T.c_law_take hr (dc_r (de_name 0) (dc_v (dv (de_name 3)) dc_nil))))))))))))
    (dss_cons (ds_set 5 sc.nd (de_call T.c_law_pick hr (dc_r (de_name 0) (dc_v (dv (de_lst (da_cons (dv de_int) (da_cons (dv de_int) (da_cons (dv de_int) (da_cons (dv de_int) (da_cons (dv de_int) da_nil))))))) dc_nil))))
    (dss_cons (ds_set 6 sc.nd (de_t1 (fun hk _ => hk ▸ call_tuple_of) sem_tuple B.tuple (de_lc rfl sc.nd [("k", 7)] (blkOk_by (N := ["draws", "letters", "most", "many", "rows", "share", "fits", "k", "letter"]) (sc := (defScope s_law_table)) (by decide +kernel)) (by decide) (by decide) (di_rg1 B.range (de_name 3)) (fun _ _ _ _ _ => (dg_name 7 sc.nd)) (fun _ _ _ _ _ => (dts_one (dt_cmp (fun hk _ => hk ▸ op_eqA hr.units) (op2_eq _) (de_call T.c_law_take hr (dc_r (de_name 0) (dc_v (dv (de_name 5)) dc_nil))) de_int))) (fun _ _ _ _ _ => (dv (de_name 7))))))
    (dss_cons (ds_if (dt_w (dw_and (dt_cmp (fun hk _ => hk ▸ op_eqA hr.units) (op2_eq _) (de_b1 (fun hk _ => hk ▸ call_lenA) sem_len B.len (de_name 6)) de_int) (dw_and1 (dt_cmp (fun _ _ => op_gt) (op2_cmp _ _) (de_call T.c_law_take hr (dc_r (de_name 0) (dc_v (dv de_int) dc_nil))) de_int)))) (dss_one (ds_set 6 sc.nd (de_tup (da_cons (dv (de_op (fun _ _ => op_sub) (op2_sub _) (de_name 3) de_int)) da_nil)))) dss_nil)
    (dss_one (ds_ret (de_tup (da_cons (dv (de_name 1)) (da_cons (dv (de_name 4)) (da_cons (dv (de_name 6)) da_nil)))))))))))⟩
theorem sc_law_either_table : FnScope ["draws", "letters", "most", "told"] ["draws", "letters", "most"] (defScope s_law_either_table) := ⟨rfl, rfl, rfl, by decide +kernel, rfl, by decide +kernel, by decide +kernel⟩
theorem ok_law_either_table (T : Tab P wd K mg base n) (B : Blt mg) {f : Addr} {fd : FuncData} (F : Fun K "_law_either_table" "_law_either_table" s_law_either_table f fd) : FnOk P wd K mg base CX0 (n + 1) f fd ["draws", "letters", "most"] (spM K (b_law_either_table (mir n))) := by
  have sc := sc_law_either_table
  exact def_ok F sc rfl rfl fun cdv A outer s H E hr => ⟨_, (dss_cons (ds_if (dt_cmp (fun hk _ => hk ▸ op_eqA hr.units) (op2_eq _) (de_call T.c_law_take hr (dc_r (de_name 0) (dc_v (dv de_int) dc_nil))) de_int) (dss_one (ds_ret (de_call T.c_law_table hr (dc_r (de_name 0) (dc_v (dv (de_name 1)) (dc_v (dv (de_name 2)) dc_nil)))))) dss_nil)
    (dss_cons (ds_set 3 sc.nd (de_call T.c_law_table_of hr (dc_v (dv (de_call T.c_law_plain hr (dc_r (de_name 0) (dc_v (dv (de_name 1)) (dc_v (dv de_int) dc_nil))))) (dc_v (dv (de_name 1)) dc_nil))))
    (dss_cons (ds_if (dt_cmp (fun _ _ => op_gt) (op2_cmp _ _) (de_b1 (fun hk _ => hk ▸ call_lenA) sem_len B.len (de_ix (de_name 3) de_int)) (de_name 2)) (dss_one (ds_ret (de_call T.c_law_table hr (dc_r (de_name 0) (dc_v (dv (de_name 1)) (dc_v (dv (de_name 2)) dc_nil)))))) dss_nil)
    (dss_one (ds_ret (de_name 3))))))⟩
theorem sc_law_behind : FnScope ["table", "state", "text", "letter"] ["table", "state", "text"] (defScope s_law_behind) := ⟨rfl, rfl, rfl, by decide +kernel, rfl, by decide +kernel, by decide +kernel⟩
theorem ok_law_behind (T : Tab P wd K mg base n) (B : Blt mg) {f : Addr} {fd : FuncData} (F : Fun K "_law_behind" "_law_behind" s_law_behind f fd) : FnOk P wd K mg base CX0 (n + 1) f fd ["table", "state", "text"] (spM K (b_law_behind (mir n))) := by
  have sc := sc_law_behind
  exact def_ok F sc rfl rfl fun cdv A outer s H E hr => ⟨_, (dss_cons (ds_for PassesOwn.never rfl (di_seq (dv (de_name 2))) (dg_name 3 sc.nd) (dss_klE [3] (dss_one (ds_set 1 sc.nd (de_ix (de_ix (de_ix (de_name 0) de_int) (de_name 1)) (de_sm PySem.F.slot_str_index PySem.F.type_str_index (fun _ _ => mt_sindex) sem_sidx (de_ix (de_name 0) de_int) (de_name 3)))))))
    (dss_one (ds_ret (de_name 1))))⟩
theorem sc_law_left_counts : FnScope ["table", "most", "told", "n", "k", "row", "to"] ["table", "most"] (defScope s_law_left_counts) := ⟨rfl, rfl, rfl, by decide +kernel, rfl, by decide +kernel, by decide +kernel⟩
theorem ok_law_left_counts (T : Tab P wd K mg base n) (B : Blt mg) {f : Addr} {fd : FuncData} (F : Fun K "_law_left_counts" "_law_left_counts" s_law_left_counts f fd) : FnOk P wd K mg base CX0 (n + 1) f fd ["table", "most"] (spM K (b_law_left_counts (mir n))) := by
  have sc := sc_law_left_counts
  exact def_ok F sc rfl rfl fun cdv A outer s H E hr => ⟨_, (dss_cons (ds_set 2 sc.nd (de_lst (da_cons (dv (de_lc rfl sc.nd [("k", 4)] (blkOk_by (N := ["table", "most", "told", "n", "k", "row", "to"]) (sc := (defScope s_law_left_counts)) (by decide +kernel)) (by decide) (by decide) (di_rg1 B.range (de_b1 (fun hk _ => hk ▸ call_lenA) sem_len B.len (de_ix (de_name 0) de_int))) (fun _ _ _ _ _ => (dg_name 4 sc.nd)) (fun _ _ _ _ _ => dts_nil) (fun _ _ _ _ _ => (dv (de_t1 (fun _ _ => call_int1) sem_int B.int (de_cmp (fun hk _ => hk ▸ op_inA (r65 hr)) (op2_in _) (de_name 4) (de_ix (de_name 0) de_int))))))) da_nil)))
    (dss_cons (ds_for PassesOwn.never rfl (di_rg1 B.range (de_name 1)) (dg_name 3 sc.nd) (dss_klE [3] (dss_one (ds_expr (de_mut PySem.F.slot_list_append PySem.F.type_list_append (fun _ _ => mt_append) mut_append (de_name 2) (dv (de_lc rfl sc.nd [("row", 5)] (blkOk_by (N := ["table", "most", "told", "n", "k", "row", "to"]) (sc := (defScope s_law_left_counts)) (by decide +kernel)) (by decide) (by decide) (di_seq (dv (de_ix (de_name 0) de_int))) (fun _ _ _ _ _ => (dg_name 5 sc.nd)) (fun _ _ _ _ _ => dts_nil) (fun _ _ _ _ _ => (dv (de_b1 (fun hk _ => hk ▸ cr_sum rfl) sem_sum B.sum (de_lc rfl sc.nd [("to", 6)] (blkOk_by (N := ["table", "most", "told", "n", "k", "row", "to"]) (sc := (relS _ (defScope s_law_left_counts))) (by decide +kernel)) (by decide) (by decide) (di_seq (dv (de_name 5))) (fun _ _ _ _ _ => (dg_name 6 sc.nd)) (fun _ _ _ _ _ => dts_nil) (fun _ _ _ _ _ => (dv (de_ix (de_ix (de_name 2) (de_name 3)) (de_name 6)))))))))))))))
    (dss_one (ds_ret (de_name 2)))))⟩
theorem sc_law_nth : FnScope ["table", "counts", "n", "size", "state", "text", "left", "j", "to"] ["table", "counts", "n"] (defScope s_law_nth) := ⟨rfl, rfl, rfl, by decide +kernel, rfl, by decide +kernel, by decide +kernel⟩
theorem ok_law_nth (T : Tab P wd K mg base n) (B : Blt mg) {f : Addr} {fd : FuncData} (F : Fun K "_law_nth" "_law_nth" s_law_nth f fd) : FnOk P wd K mg base CX0 (n + 1) f fd ["table", "counts", "n"] (spM K (b_law_nth (mir n))) := by
  have sc := sc_law_nth
  exact def_ok F sc rfl rfl fun cdv A outer s H E hr => ⟨_, (dss_cons (ds_klE [7, 8] (ds_for PassesOwn.never rfl (di_rg1 B.range (de_b1 (fun hk _ => hk ▸ call_lenA) sem_len B.len (de_name 1))) (dg_name 3 sc.nd) (dss_klE [3, 4, 5, 6] (dss_cons (ds_klE [4, 5, 6] (ds_if (dt_cmp (fun _ _ => op_lt) (op2_cmp _ _) (de_name 2) (de_ix (de_ix (de_name 1) (de_name 3)) de_int)) (dss_cons (ds_set 4 sc.nd de_int)
    (dss_cons (ds_set 5 sc.nd de_str)
    (dss_cons (ds_klE [4, 7, 8] (ds_for PassesOwn.never rfl (di_kI [3, 6] (di_revR B.reversed B.range (de_name 3))) (dg_name 6 sc.nd) (dss_klE [6] (dss_cons (ds_for PassesOwn.never rfl (di_kI [3] (di_rg1 B.range (de_b1 (fun hk _ => hk ▸ call_lenA) sem_len B.len (de_ix (de_name 0) de_int)))) (dg_name 7 sc.nd) (dss_cons (ds_set 8 sc.nd (de_ix (de_ix (de_ix (de_name 0) de_int) (de_name 4)) (de_name 7)))
    (dss_cons (ds_if (dt_cmp (fun _ _ => op_lt) (op2_cmp _ _) (de_name 2) (de_ix (de_ix (de_name 1) (de_name 6)) (de_name 8))) (dss_one ds_break) dss_nil)
    (dss_one (ds_set 2 sc.nd (de_op (fun _ _ => op_sub) (op2_sub _) (de_name 2) (de_ix (de_ix (de_name 1) (de_name 6)) (de_name 8))))))))
    (dss_cons (ds_set 5 sc.nd (de_g2 (fun hk _ => hk ▸ op_addA) (sem_add _) (de_name 5) (de_ix (de_ix (de_name 0) de_int) (de_name 7))))
    (dss_one (ds_fzE 4 (ds_set 4 sc.nd (de_name 8)))))))))
    (dss_one (ds_ret (de_name 5)))))) dss_nil))
    (dss_one (ds_set 2 sc.nd (de_op (fun _ _ => op_sub) (op2_sub _) (de_name 2) (de_ix (de_ix (de_name 1) (de_name 3)) de_int))))))))
    (dss_one (ds_ret de_non)))⟩
theorem sc_law_wheel : FnScope ["draws", "letters", "most", "many", "steps", "rows", "k", "share", "first", "fits", "j", "step"] ["draws", "letters", "most"] (defScope s_law_wheel) := ⟨rfl, rfl, rfl, by decide +kernel, rfl, by decide +kernel, by decide +kernel⟩
theorem ok_law_wheel (T : Tab P wd K mg base n) (B : Blt mg) {f : Addr} {fd : FuncData} (F : Fun K "_law_wheel" "_law_wheel" s_law_wheel f fd) : FnOk P wd K mg base CX0 (n + 1) f fd ["draws", "letters", "most"] (spM K (b_law_wheel (mir n))) := by
  have sc := sc_law_wheel
  exact def_ok F sc rfl rfl fun cdv A outer s H E hr => ⟨_, (dss_cons (ds_set 3 sc.nd (de_g2 (fun hk _ => hk ▸ op_addA) (sem_add _) de_int (de_call T.c_law_take hr (dc_r (de_name 0) (dc_v (dv (de_name 2)) dc_nil)))))
    (dss_cons (ds_if (dt_cmp (fun hk _ => hk ▸ op_eqA hr.units) (op2_eq _) (de_call T.c_law_take hr (dc_r (de_name 0) (dc_v (dv de_int) dc_nil))) de_int) (dss_one (ds_fzE 3 (ds_set 3 sc.nd (de_name 2)))) dss_nil)
    (dss_cons (ds_fzE 4 (ds_setLc 4 rfl sc.nd rfl rfl (sw_true rfl rfl rfl (by decide +kernel)) [("j", 10)] (blkOk_by (N := ["draws", "letters", "most", "many", "steps", "rows", "k", "share", "first", "fits", "j", "step"]) (sc := (defScope s_law_wheel)) (by decide +kernel)) (by decide) (by decide) (di_seq (dv (de_name 1))) (fun _ _ _ _ _ => (dg_name 10 sc.nd)) (fun _ _ _ _ _ => dts_nil) (fun _ _ _ _ _ => (dv (de_lst (da_cons (dv (de_call T.c_law_pick hr (dc_r (de_name 0) (dc_v (dv (de_lst (da_cons (dv de_int) (da_cons (dv de_int) (da_cons (dv de_int) (da_cons (dv de_int) (da_cons (dv de_int) (da_cons (dv (de_call T.c_law_take hr (dc_r (de_name 0) (dc_v (dv (de_name 3)) dc_nil)))) da_nil)))))))) dc_nil)))) (da_cons (dv (de_call T.c_law_take hr (dc_r (de_name 0) (dc_v (dv (de_name 3)) dc_nil)))) da_nil)))))))
    (dss_cons (ds_set 5 sc.nd (de_lst da_nil))
    (dss_cons (ds_for PassesOwn.never rfl (di_rg1 B.range (de_name 3)) (dg_name 6 sc.nd) (dss_klE [6] (dss_one (ds_expr (de_mut PySem.F.slot_list_append PySem.F.type_list_append (fun _ _ => mt_append) mut_append (de_name 5) (dv (de_t1 (fun hk _ => hk ▸ call_tuple_of) sem_tuple B.tuple (de_lc rfl sc.nd [("step", 11)] (blkOk_by (N := ["draws", "letters", "most", "many", "steps", "rows", "k", "share", "first", "fits", "j", "step"]) (sc := (defScope s_law_wheel)) (by decide +kernel)) (by decide) (by decide) (di_seq (dv (de_name 4))) (fun _ _ _ _ _ => (dg_name 11 sc.nd)) (fun _ _ _ _ _ => dts_nil) (fun _ _ _ _ _ => (dv (de_op (fun _ _ => op_modN) (op2_mod _) (de_t1 (fun _ _ => call_int1) sem_int B.int (de_g2 (fun hk _ => hk ▸ op_addA) (sem_add _) (de_op (fun _ _ => op_mulA) (op2_mul _) (de_ix (de_name 11) de_int) (de_name 6)) (de_ix (de_name 11) de_int))) (de_name 3))))))))))))
    (dss_cons (ds_set 7 sc.nd (de_g2 (fun hk _ => hk ▸ op_addA) (sem_add _) de_int (de_call T.c_law_take hr (dc_r (de_name 0) (dc_v (dv de_int) dc_nil)))))
    (dss_cons (ds_set 8 sc.nd (de_call T.c_law_take hr (dc_r (de_name 0) (dc_v (dv (de_name 3)) dc_nil))))
    (dss_cons (ds_set 9 sc.nd (de_t1 (fun hk _ => hk ▸ call_tuple_of) sem_tuple B.tuple (de_lc rfl sc.nd [("k", 6)] (blkOk_by (N := ["draws", "letters", "most", "many", "steps", "rows", "k", "share", "first", "fits", "j", "step"]) (sc := (defScope s_law_wheel)) (by decide +kernel)) (by decide) (by decide) (di_rg1 B.range (de_name 3)) (fun _ _ _ _ _ => (dg_name 6 sc.nd)) (fun _ _ _ _ _ => (dts_one (dt_w (dw_or (dt_cmp (fun hk _ => hk ▸ op_eqA hr.units) (op2_eq _) (de_name 6) (de_name 8)) (dw_or1 (dt_cmp (fun hk _ => hk ▸ op_eqA hr.units) (op2_eq _) (de_op (fun _ _ => op_modN) (op2_mod _) (de_t1 (fun _ _ => call_int1) sem_int B.int (de_g2 (fun hk _ => hk ▸ op_addA) (sem_add _) (de_name 6) (de_name 8))) (de_g2 (fun hk _ => hk ▸ op_addA) (sem_add _) (de_name 7) de_int)) (de_name 7))))))) (fun _ _ _ _ _ => (dv (de_name 6))))))
    (dss_one (ds_ret (de_tup (da_cons (dv (de_name 1)) (da_cons (dv (de_t1 (fun hk _ => hk ▸ call_tuple_of) sem_tuple B.tuple (de_name 5))) (da_cons (dv (de_name 9)) da_nil))))))))))))))⟩
theorem sc_law_blown : FnScope ["draws", "table", "most", "parents", "k", "order", "shown", "rows", "parent", "row", "to"] ["draws", "table", "most"] (defScope s_law_blown) := ⟨rfl, rfl, rfl, by decide +kernel, rfl, by decide +kernel, by decide +kernel⟩
theorem ok_law_blown (T : Tab P wd K mg base n) (B : Blt mg) {f : Addr} {fd : FuncData} (F : Fun K "_law_blown" "_law_blown" s_law_blown f fd) : FnOk P wd K mg base CX0 (n + 1) f fd ["draws", "table", "most"] (spM K (b_law_blown (mir n))) := by
  have sc := sc_law_blown
  exact def_ok F sc rfl rfl fun cdv A outer s H E hr => ⟨_, (dss_cons (ds_set 3 sc.nd (de_lrg1 rfl B.list B.range (de_b1 (fun hk _ => hk ▸ call_lenA) sem_len B.len (de_ix (de_name 1) de_int))))
    (dss_cons (ds_for PassesOwn.never rfl (di_rg1 B.range (de_call T.c_law_take hr (dc_r (de_name 0) (dc_v (dv (de_b2 (fun _ _ => call_max2 rfl) sem_max2 B.max de_int (de_op (fun _ _ => op_sub) (op2_sub _) (de_g2 (fun hk _ => hk ▸ op_addA) (sem_add _) (de_name 2) de_int) (de_b1 (fun hk _ => hk ▸ call_lenA) sem_len B.len (de_name 3))))) dc_nil)))) (dg_name 4 sc.nd) (dss_klE [4] (dss_one (ds_expr (de_mut PySem.F.slot_list_append PySem.F.type_list_append (fun _ _ => mt_append) mut_append (de_name 3) (dv (de_call T.c_law_take hr (dc_r (de_name 0) (dc_v (dv (de_b1 (fun hk _ => hk ▸ call_lenA) sem_len B.len (de_ix (de_name 1) de_int))) dc_nil)))))))))
    (dss_cons (ds_fzE 5 (ds_set 5 sc.nd (de_g2 (fun hk _ => hk ▸ op_addA) (sem_add _) (de_lst (da_cons (dv de_int) da_nil)) (de_lc rfl sc.nd [("k", 4)] (blkOk_by (N := ["draws", "table", "most", "parents", "k", "order", "shown", "rows", "parent", "row", "to"]) (sc := (defScope s_law_blown)) (by decide +kernel)) (by decide) (by decide) (di_seq (dv (de_call T.c_law_shuffled hr (dc_r (de_name 0) (dc_v (dv (de_lrg1 rfl B.list B.range (de_op (fun _ _ => op_sub) (op2_sub _) (de_b1 (fun hk _ => hk ▸ call_lenA) sem_len B.len (de_name 3)) de_int))) dc_nil))))) (fun _ _ _ _ _ => (dg_name 4 sc.nd)) (fun _ _ _ _ _ => dts_nil) (fun _ _ _ _ _ => (dv (de_g2 (fun hk _ => hk ▸ op_addA) (sem_add _) (de_name 4) de_int)))))))
    (dss_cons (ds_fzE 6 (ds_set 6 sc.nd (de_lc rfl sc.nd [("k", 4)] (blkOk_by (N := ["draws", "table", "most", "parents", "k", "order", "shown", "rows", "parent", "row", "to"]) (sc := (defScope s_law_blown)) (by decide +kernel)) (by decide) (by decide) (di_seq (dv (de_name 5))) (fun _ _ _ _ _ => (dg_name 4 sc.nd)) (fun _ _ _ _ _ => dts_nil) (fun _ _ _ _ _ => (dv (de_ix (de_name 3) (de_name 4)))))))
    (dss_cons (ds_set 7 sc.nd (de_lst da_nil))
    (dss_cons (ds_for PassesOwn.never rfl (di_kI [3, 4, 5] (di_seq (dv (de_name 6)))) (dg_name 8 sc.nd) (dss_klE [4, 8, 9, 10] (dss_cons (ds_set 9 sc.nd (de_lst da_nil))
    (dss_cons (ds_for PassesOwn.never rfl (di_kI [3, 4, 5, 8, 10] (di_seq (dv (de_ix (de_ix (de_name 1) de_int) (de_name 8))))) (dg_name 10 sc.nd) (dss_klE [4, 10] (dss_one (ds_expr (de_mut PySem.F.slot_list_append PySem.F.type_list_append (fun _ _ => mt_append) mut_append (de_name 9) (dv (de_call T.c_law_pick hr (dc_r (de_name 0) (dc_v (dv (de_lc rfl sc.nd [("k", 4)] (blkOk_by (N := ["draws", "table", "most", "parents", "k", "order", "shown", "rows", "parent", "row", "to"]) (sc := (defScope s_law_blown)) (by decide +kernel)) (by decide) (by decide) (di_rg1 B.range (de_b1 (fun hk _ => hk ▸ call_lenA) sem_len B.len (de_name 6))) (fun _ _ _ _ _ => (dg_name 4 sc.nd)) (fun _ _ _ _ _ => (dts_one (dt_cmp (fun hk _ => hk ▸ op_eqA hr.units) (op2_eq _) (de_ix (de_name 6) (de_name 4)) (de_name 10)))) (fun _ _ _ _ _ => (dv (de_name 4))))) dc_nil)))))))))
    (dss_one (ds_expr (de_mut PySem.F.slot_list_append PySem.F.type_list_append (fun _ _ => mt_append) mut_append (de_name 7) (dv (de_t1 (fun hk _ => hk ▸ call_tuple_of) sem_tuple B.tuple (de_name 9))))))))))
    (dss_one (ds_ret (de_tup (da_cons (dv (de_ix (de_name 1) de_int)) (da_cons (dv (de_t1 (fun hk _ => hk ▸ call_tuple_of) sem_tuple B.tuple (de_name 7))) (da_cons (dv (de_t1 (fun hk _ => hk ▸ call_tuple_of) sem_tuple B.tuple (de_lc rfl sc.nd [("k", 4)] (blkOk_by (N := ["draws", "table", "most", "parents", "k", "order", "shown", "rows", "parent", "row", "to"]) (sc := (defScope s_law_blown)) (by decide +kernel)) (by decide) (by decide) (di_rg1 B.range (de_b1 (fun hk _ => hk ▸ call_lenA) sem_len B.len (de_name 6))) (fun _ _ _ _ _ => (dg_name 4 sc.nd)) (fun _ _ _ _ _ => (dts_one (dt_cmp (fun hk _ => hk ▸ op_inA (r65 hr)) (op2_in _) (de_ix (de_name 6) (de_name 4)) (de_ix (de_name 1) de_int)))) (fun _ _ _ _ _ => (dv (de_name 4)))))) da_nil))))))))))))⟩
theorem sc_law_small_table : FnScope ["draws", "letters", "most", "table"] ["draws", "letters", "most"] (defScope s_law_small_table) := ⟨rfl, rfl, rfl, by decide +kernel, rfl, by decide +kernel, by decide +kernel⟩
theorem ok_law_small_table (T : Tab P wd K mg base n) (B : Blt mg) {f : Addr} {fd : FuncData} (F : Fun K "_law_small_table" "_law_small_table" s_law_small_table f fd) : FnOk P wd K mg base CX0 (n + 1) f fd ["draws", "letters", "most"] (spM K (b_law_small_table (mir n))) := by
  have sc := sc_law_small_table
  exact def_ok F sc rfl rfl fun cdv A outer s H E hr => ⟨_, (dss_cons (ds_set 3 sc.nd (de_call T.c_law_either_table hr (dc_r (de_name 0) (dc_v (dv (de_name 1)) (dc_v (dv (de_name 2)) dc_nil)))))
    (dss_cons (ds_if (dt_cmp (fun hk _ => hk ▸ op_eqA hr.units) (op2_eq _) (de_call T.c_law_take hr (dc_r (de_name 0) (dc_v (dv de_int) dc_nil))) de_int) (dss_one (ds_ret (de_call T.c_law_blown hr (dc_r (de_name 0) (dc_v (dv (de_name 3)) (dc_v (dv (de_g2 (fun hk _ => hk ▸ op_addA) (sem_add _) (de_name 2) de_int)) dc_nil)))))) dss_nil)
    (dss_one (ds_ret (de_name 3)))))⟩
theorem sc_law_pumped : FnScope ["table", "text", "states", "k", "state", "first"] ["table", "text"] (defScope s_law_pumped) := ⟨rfl, rfl, rfl, by decide +kernel, rfl, by decide +kernel, by decide +kernel⟩
theorem ok_law_pumped (T : Tab P wd K mg base n) (B : Blt mg) {f : Addr} {fd : FuncData} (F : Fun K "_law_pumped" "_law_pumped" s_law_pumped f fd) : FnOk P wd K mg base CX0 (n + 1) f fd ["table", "text"] (spM K (b_law_pumped (mir n))) := by
  have sc := sc_law_pumped
  exact def_ok F sc rfl rfl fun cdv A outer s H E hr => ⟨_, (dss_cons (ds_set 2 sc.nd (de_lst (da_cons (dv de_int) da_nil)))
    (dss_cons (ds_for PassesOwn.never rfl (di_rg1 B.range (de_b1 (fun hk _ => hk ▸ call_lenA) sem_len B.len (de_name 1))) (dg_name 3 sc.nd) (dss_klE [3, 4, 5] (dss_cons (ds_fzE 4 (ds_set 4 sc.nd (de_call T.c_law_behind hr (dc_v (dv (de_name 0)) (dc_v (dv (de_ix (de_name 2) (de_name 3))) (dc_v (dv (de_ix (de_name 1) (de_name 3))) dc_nil))))))
    (dss_cons (ds_klE [5] (ds_if (dt_cmp (fun hk _ => hk ▸ op_inA (r65 hr)) (op2_in _) (de_name 4) (de_name 2)) (dss_cons (ds_set 5 sc.nd (de_lm PySem.F.slot_list_index PySem.F.type_list_index (fun hk _ => hk ▸ mt_idxA (r65 hr)) sem_lidx (de_name 2) (de_name 4)))
    (dss_one (ds_ret (de_tup (da_cons (dv (de_slice (de_name 1) do_none (do_some (de_name 5)))) (da_cons (dv (de_slice (de_name 1) (do_some (de_name 5)) (do_some (de_g2 (fun hk _ => hk ▸ op_addA) (sem_add _) (de_name 3) de_int)))) (da_cons (dv (de_slice (de_name 1) (do_some (de_g2 (fun hk _ => hk ▸ op_addA) (sem_add _) (de_name 3) de_int)) do_none)) da_nil))))))) dss_nil))
    (dss_one (ds_expr (de_mut PySem.F.slot_list_append PySem.F.type_list_append (fun _ _ => mt_append) mut_append (de_name 2) (dv (de_name 4)))))))))
    (dss_one (ds_ret de_non))))⟩
theorem sc_law_fitting_texts : FnScope ["draws", "table", "most", "counts", "sizes", "told", "size", "before", "more", "row"] ["draws", "table", "most"] (defScope s_law_fitting_texts) := ⟨rfl, rfl, rfl, by decide +kernel, rfl, by decide +kernel, by decide +kernel⟩
theorem ok_law_fitting_texts (T : Tab P wd K mg base n) (B : Blt mg) {f : Addr} {fd : FuncData} (F : Fun K "_law_fitting_texts" "_law_fitting_texts" s_law_fitting_texts f fd) : FnOk P wd K mg base CX0 (n + 1) f fd ["draws", "table", "most"] (spM K (b_law_fitting_texts (mir n))) := by
  have sc := sc_law_fitting_texts
  exact def_ok F sc rfl rfl fun cdv A outer s H E hr => ⟨_, (dss_cons (ds_fzE 3 (ds_set 3 sc.nd (de_call T.c_law_left_counts hr (dc_v (dv (de_name 1)) (dc_v (dv (de_name 2)) dc_nil)))))
    (dss_cons (ds_fzE 4 (ds_setLc 4 rfl sc.nd rfl rfl (sw_true rfl rfl rfl (by decide +kernel)) [("size", 6)] (blkOk_by (N := ["draws", "table", "most", "counts", "sizes", "told", "size", "before", "more", "row"]) (sc := (defScope s_law_fitting_texts)) (by decide +kernel)) (by decide) (by decide) (di_rg2 B.range (de_b1 (fun hk _ => hk ▸ call_lenA) sem_len B.len (de_ix (de_name 1) de_int)) (de_g2 (fun hk _ => hk ▸ op_addA) (sem_add _) (de_name 2) de_int)) (fun _ _ _ _ _ => (dg_name 6 sc.nd)) (fun _ _ _ _ _ => (dts_one (dt_cmp (fun _ _ => op_gt) (op2_cmp _ _) (de_ix (de_ix (de_name 3) (de_name 6)) de_int) de_int))) (fun _ _ _ _ _ => (dv (de_name 6)))))
    (dss_cons (ds_set 5 sc.nd (de_lst da_nil))
    (dss_cons (ds_klE [6, 7, 8] (ds_if (dt_cmp (fun _ _ => op_gt) (op2_cmp _ _) (de_b1 (fun hk _ => hk ▸ call_lenA) sem_len B.len (de_name 4)) de_int) (dss_one (ds_for PassesOwn.never rfl (di_kI [4, 6] (di_seq (dv (de_lst (da_cons (dv (de_ix (de_name 4) de_int)) (da_cons (dv (de_call T.c_law_pick hr (dc_r (de_name 0) (dc_v (dv (de_name 4)) dc_nil)))) (da_cons (dv (de_ix (de_name 4) (de_neg de_int))) da_nil))))))) (dg_name 6 sc.nd) (dss_klE [6, 7, 8] (dss_cons (ds_set 7 sc.nd (de_b1 (fun hk _ => hk ▸ cr_sum rfl) sem_sum B.sum (de_lc rfl sc.nd [("row", 9)] (blkOk_by (N := ["draws", "table", "most", "counts", "sizes", "told", "size", "before", "more", "row"]) (sc := (defScope s_law_fitting_texts)) (by decide +kernel)) (by decide) (by decide) (di_seq (dv (de_slice (de_name 3) do_none (do_some (de_name 6))))) (fun _ _ _ _ _ => (dg_name 9 sc.nd)) (fun _ _ _ _ _ => dts_nil) (fun _ _ _ _ _ => (dv (de_ix (de_name 9) de_int))))))
    (dss_cons (ds_set 8 sc.nd (de_op (fun _ _ => op_modN) (op2_mod _) (de_t1 (fun _ _ => call_int1) sem_int B.int (de_g2 (fun hk _ => hk ▸ op_addA) (sem_add _) (de_op (fun _ _ => op_mulA) (op2_mul _) (de_call T.c_law_take hr (dc_r (de_name 0) (dc_v (dv de_int) dc_nil))) de_int) (de_call T.c_law_take hr (dc_r (de_name 0) (dc_v (dv de_int) dc_nil))))) (de_ix (de_ix (de_name 3) (de_name 6)) de_int)))
    (dss_one (ds_expr (de_mut PySem.F.slot_list_append PySem.F.type_list_append (fun _ _ => mt_append) mut_append (de_name 5) (dv (de_call T.c_law_nth hr (dc_v (dv (de_name 1)) (dc_v (dv (de_name 3)) (dc_v (dv (de_g2 (fun hk _ => hk ▸ op_addA) (sem_add _) (de_name 7) (de_name 8))) dc_nil))))))))))))) dss_nil))
    (dss_one (ds_ret (de_name 5)))))))⟩
theorem sclaw : FnScope ["script", "draws", "letters", "tables", "table", "text", "due", "often", "k"] ["script"] (defScope slaw) := ⟨rfl, rfl, rfl, by decide +kernel, rfl, by decide +kernel, by decide +kernel⟩
theorem oklaw (T : Tab P wd K mg base n) (B : Blt mg) {f : Addr} {fd : FuncData} (F : Fun K "law" "law" slaw f fd) : FnOk P wd K mg base CX0 (n + 1) f fd ["script"] (spM K (blaw (mir n))) := by
  have sc := sclaw
  exact def_ok F sc rfl rfl fun cdv A outer s H E hr => ⟨_, (dss_cons (ds_set 1 sc.nd (de_call T.c_law_draws hr (dc_v (dv (de_name 0)) (dc_v (dv de_int) dc_nil))))
    (dss_cons (ds_set 2 sc.nd (de_call T.c_law_letters hr (dc_r (de_name 1) (dc_v (dv de_int) dc_nil))))
    (dss_cons (ds_set 3 sc.nd (de_g2 (fun hk _ => hk ▸ op_addA) (sem_add _) (de_lc rfl sc.nd [("k", 8)] (blkOk_by (N := ["script", "draws", "letters", "tables", "table", "text", "due", "often", "k"]) (sc := (defScope slaw)) (by decide +kernel)) (by decide) (by decide) (di_rg1 B.range de_int) (fun _ _ _ _ _ => (dg_name 8 sc.nd)) (fun _ _ _ _ _ => dts_nil) (fun _ _ _ _ _ => (dv (de_call T.c_law_small_table hr (dc_r (de_name 1) (dc_v (dv (de_name 2)) (dc_v (dv de_int) dc_nil))))))) (de_lst (da_cons (dv (de_call T.c_law_wheel hr (dc_r (de_name 1) (dc_v (dv (de_name 2)) (dc_v (dv de_int) dc_nil))))) da_nil))))
    (dss_cons (ds_expr (de_mut PySem.F.slot_list_append PySem.F.type_list_append (fun _ _ => mt_append) mut_append (de_name 3) (dv (de_tup (da_cons (dv (de_name 2)) (da_cons (dv (de_tup (da_cons (dv (de_g2 (fun hk _ => hk ▸ op_mulT) (sem_mulT _) (de_tup (da_cons (dv de_int) da_nil)) (de_b1 (fun hk _ => hk ▸ call_lenA) sem_len B.len (de_name 2)))) da_nil))) (da_cons (dv (de_tup (da_cons (dv de_int) da_nil))) da_nil)))))))
    (dss_cons (ds_for PassesOwn.never rfl (di_kI [2, 3] (di_seq (dv (de_name 3)))) (dg_name 4 sc.nd) (dss_klE [4, 5, 6, 7] (dss_one (ds_for PassesOwn.never rfl (di_kI [2, 3, 5, 6, 7] (di_seq (dv (de_call T.c_law_fitting_texts hr (dc_r (de_name 1) (dc_v (dv (de_name 4)) (dc_v (dv de_int) dc_nil))))))) (dg_name 5 sc.nd) (dss_klE [5, 6, 7] (dss_cons (ds_set 6 sc.nd (de_call T.c_law_pumped hr (dc_v (dv (de_name 4)) (dc_v (dv (de_name 5)) dc_nil))))
    (dss_cons (ds_if (dt_not (dt_tru (de_call T.c_law_same hr (dc_v (dv (de_call T.cpumped hr (dc_v (dv (de_name 4)) (dc_v (dv (de_name 5)) dc_nil)))) (dc_v (dv (de_name 6)) dc_nil))))) (dss_one (ds_ret de_bl)) dss_nil)
    (dss_one (ds_for PassesOwn.never rfl (di_kI [2, 3, 5, 7] (di_seq (dv (de_lst (da_cons (dv de_int) (da_cons (dv de_int) (da_cons (dv (de_g2 (fun hk _ => hk ▸ op_addA) (sem_add _) de_int (de_call T.c_law_take hr (dc_r (de_name 1) (dc_v (dv de_int) dc_nil))))) da_nil))))))) (dg_name 7 sc.nd) (dss_klE [7] (dss_one (ds_if (dt_cmp (fun _ _ => op_notBl) (op2_notB _) (de_call T.ctable_fits hr (dc_v (dv (de_name 4)) (dc_v (dv (de_g2 (fun hk _ => hk ▸ op_addA) (sem_add _) (de_g2 (fun hk _ => hk ▸ op_addA) (sem_add _) (de_ix (de_name 6) de_int) (de_op (fun _ _ => op_mulA) (op2_mul _) (de_ix (de_name 6) de_int) (de_name 7))) (de_ix (de_name 6) de_int))) dc_nil))) de_bl) (dss_one (ds_ret de_bl)) dss_nil))))))))))))
    (dss_one (ds_ret de_bl)))))))⟩
end
end Mm
set_option maxHeartbeats 4000000
namespace Mm
open PySem L2
theorem sc_law_way : FnScope ["net", "place", "letters", "to", "ways"] ["net", "place", "letters", "to"] (defScope s_law_way) := ⟨rfl, rfl, rfl, by decide +kernel, rfl, by decide +kernel, by decide +kernel⟩
section
variable {P : Program} {wd : World} {K : PySem.W.Frag} {mg : Str → Option Value} {base : Heap} {n : Nat}
theorem ok_law_way (T : Tab P wd K mg base n) (B : Blt mg) {f : Addr} {fd : FuncData} (F : Fun K "_law_way" "_law_way" s_law_way f fd) : FnOk P wd K mg base CX0 (n + 1) f fd ["net", "place", "letters", "to"] (spM K (b_law_way (mir n))) := by
  have sc := sc_law_way
  show FnOk P wd K mg base CX0 (n + 1) f fd ["net", "place", "letters", "to"] (spM K wayM)
  refine F.ok sc (fun vs H Q E h => ?_) (fun cdv A outer s H vs Q E hr h => ?_)
  · obtain ⟨F, fp, os, r, os', s, e, _⟩ := h
    unfold wayM at e
    have h2 := s.own.len
    split at e
    · simpa using h2
    · cases e
  obtain ⟨FF, fp, os, r, os', s, e, q⟩ := h
  refine ⟨_, pss_cons (ps_set (i := 4) sc.nd rfl (Or.inl rfl) (pe_ix ix_list (pv 0) pe_int (fun _ _ => rfl)))
    (pss_one (ps_expr (pe_bm PySem.F.plainAttrs_list PySem.F.slot_list_append PySem.F.type_list_append mt_append (pv 4) (pa_cons (pe_lst (pa_cons (pv 1) (pa_cons (pv 2) (pa_cons (pv 3) pa_nil)))) pa_nil)))), ?_⟩
  unfold wayM at e
  split at e
  · rename_i ways nn pp ll tt
    split at e
    · rename_i hz
      cases e
      obtain ⟨sm, own⟩ := s
      have hlen := own.len
      rcases vs with _ | ⟨x0, _ | ⟨x1, _ | ⟨x2, _ | ⟨x3, _ | ⟨x4, vs⟩⟩⟩⟩⟩
      all_goals try (simp at hlen; done)
      simp only [List.map_cons, List.map_nil] at own
      cases own with
      | som o0 own d0 =>
      cases own with
      | som o1 own d1 =>
      cases own with
      | som o2 own d2 =>
      cases own with
      | som o3 own d3 =>
      cases own with
      | emp =>
      cases o1 with
      | v k1 =>
      cases o2 with
      | v k2 =>
      cases o3 with
      | v k3 =>
      cases o0 with
      | @c a vl _ fpi na ea inner nin =>
      cases inner with
      | cons i1 inner dd =>
      cases inner with
      | cons i2 inner dd2 =>
      cases inner with
      | nil =>
      cases i2 with
      | v k4 =>
      cases i1 with
      | @l b wv _ nb eb kb =>
      refine ⟨_, rfl, a, _, 0, .ref b, rfl, rfl, .of ea, rfl, ?_⟩
      refine ⟨.ref b, rfl, .inl ⟨rfl, wv, .of eb⟩, ?_⟩
      refine ⟨_, rfl, _, rfl, _, rfl, (by show 3 ≤ sizeLine; decide), fun p hp => ?_⟩
      have nab : b ≠ a := fun z => nin (by rw [← z]; simp)
      have npb : p ≠ b := fun z => by rw [z, eb] at hp; cases hp
      have npa : p ≠ a := fun z => by rw [z, ea] at hp; cases hp
      refine ⟨b, wv, .ref p, rfl, rfl, (by rw [upd_ne npb.symm]; exact eb), (by rw [da_length kb]; exact hz), ?_⟩
      have hFp : FF p = none := by
        cases qq : FF p with
        | none => rfl
        | some u => have := sm p u qq; rw [hp] at this; cases this
      have sF : Same FF (upd FF p (.lst [x1, x2, x3])) := same_upd hFp _
      have e1 : upd (upd H p (.lst [x1, x2, x3])) b (.lst (wv ++ [.ref p])) a = H a := by rw [upd_ne nab.symm, upd_ne npa.symm]
      have kn : DpAll K (upd FF p (.lst [x1, x2, x3])) (wv ++ [.ref p]) (ways ++ [.list [pp, ll, tt]]) :=
        da_append (da_mono sF kb) (.cons (.lst (.inl (.inl upd_same)) (.cons (dp_mono sF k1) (.cons (dp_mono sF k2) (.cons (dp_mono sF k3) .nil)))) .nil)
      refine q _ (upd FF p (.lst [x1, x2, x3])) _ .non [] ⟨fun c u z => ?_, .som (.c (by rw [upd_ne npa.symm]; exact na) (e1.trans ea) (.cons (.l (by rw [upd_ne npb.symm]; exact nb) upd_same kn) (.cons (.v (dp_mono sF k4)) .nil (fun _ z => nomatch z)) (fun _ _ z => nomatch z)) (by simpa using nab.symm))
        (.som (.v (dp_mono sF k1)) (.som (.v (dp_mono sF k2)) (.som (.v (dp_mono sF k3)) .emp (fun _ z => nomatch z)) (fun _ z => nomatch z)) (fun _ z => nomatch z)) (fun _ _ z => nomatch z)⟩
        ⟨sF, fun c u z nz => ?_, fun c z => .inl z, fun c u z => ?_, fun c z => ?_⟩ (.v .non) (fun _ z => nomatch z)
      · by_cases w : c = p
        · subst w; rw [upd_same] at z; rw [upd_ne npb, upd_same]; exact z
        · rw [upd_ne w] at z
          have w2 : c ≠ b := fun y => by rw [y, nb] at z; cases z
          rw [upd_ne w2, upd_ne w]; exact sm c u z
      · have w : c ≠ p := fun y => by rw [y, hp] at z; cases z
        have w2 : c ≠ b := fun y => nz (by rw [y]; simp)
        rw [upd_ne w2, upd_ne w]; exact z
      · by_cases w : c = p
        · subst w; exact .inr (.inl hp)
        · rw [upd_ne w] at z; exact .inl z
      · by_cases w2 : c = b
        · subst w2; rw [upd_same]; exact fun z => nomatch z
        · rw [upd_ne w2]
          by_cases w : c = p
          · subst w; rw [upd_same]; exact fun z => nomatch z
          · rw [upd_ne w]; exact z
    · cases e
  · cases e
end
/-- the defs as they stand behind the top -/
structure Tops (K : PySem.W.Frag) (mg : Str → Option Value) : Prop where
  aled_from : ∃ f fd, Fun K "led_from" "led_from" sled_from f fd ∧ mg "led_from" = some (.ref f) ∧ Binds K fd ["table", "state", "text"] []
  astate_behind : ∃ f fd, Fun K "state_behind" "state_behind" sstate_behind f fd ∧ mg "state_behind" = some (.ref f) ∧ Binds K fd ["table", "text"] []
  atable_fits : ∃ f fd, Fun K "table_fits" "table_fits" stable_fits f fd ∧ mg "table_fits" = some (.ref f) ∧ Binds K fd ["table", "text"] []
  apumped : ∃ f fd, Fun K "pumped" "pumped" spumped f fd ∧ mg "pumped" = some (.ref f) ∧ Binds K fd ["table", "text"] []
  a_law_draws : ∃ f fd, Fun K "_law_draws" "_law_draws" s_law_draws f fd ∧ mg "_law_draws" = some (.ref f) ∧ Binds K fd ["script", "many"] []
  a_law_take : ∃ f fd, Fun K "_law_take" "_law_take" s_law_take f fd ∧ mg "_law_take" = some (.ref f) ∧ Binds K fd ["draws", "many"] []
  a_law_pick : ∃ f fd, Fun K "_law_pick" "_law_pick" s_law_pick f fd ∧ mg "_law_pick" = some (.ref f) ∧ Binds K fd ["draws", "row"] []
  a_law_same : ∃ f fd, Fun K "_law_same" "_law_same" s_law_same f fd ∧ mg "_law_same" = some (.ref f) ∧ Binds K fd ["actual", "due"] []
  a_law_shuffled : ∃ f fd, Fun K "_law_shuffled" "_law_shuffled" s_law_shuffled f fd ∧ mg "_law_shuffled" = some (.ref f) ∧ Binds K fd ["draws", "row"] []
  a_law_letters : ∃ f fd, Fun K "_law_letters" "_law_letters" s_law_letters f fd ∧ mg "_law_letters" = some (.ref f) ∧ Binds K fd ["draws", "most"] []
  a_law_leaf : ∃ f fd, Fun K "_law_leaf" "_law_leaf" s_law_leaf f fd ∧ mg "_law_leaf" = some (.ref f) ∧ Binds K fd ["draws", "letters"] []
  a_law_drawn : ∃ f fd, Fun K "_law_drawn" "_law_drawn" s_law_drawn f fd ∧ mg "_law_drawn" = some (.ref f) ∧ Binds K fd ["draws", "letters", "depth"] []
  a_law_size : ∃ f fd, Fun K "_law_size" "_law_size" s_law_size f fd ∧ mg "_law_size" = some (.ref f) ∧ Binds K fd ["plain"] []
  a_law_sets : ∃ f fd, Fun K "_law_sets" "_law_sets" s_law_sets f fd ∧ mg "_law_sets" = some (.ref f) ∧ Binds K fd ["plain"] []
  a_law_plain : ∃ f fd, Fun K "_law_plain" "_law_plain" s_law_plain f fd ∧ mg "_law_plain" = some (.ref f) ∧ Binds K fd ["draws", "letters", "most"] []
  a_law_new_place : ∃ f fd, Fun K "_law_new_place" "_law_new_place" s_law_new_place f fd ∧ mg "_law_new_place" = some (.ref f) ∧ Binds K fd ["net"] []
  a_law_way : ∃ f fd, Fun K "_law_way" "_law_way" s_law_way f fd ∧ mg "_law_way" = some (.ref f) ∧ Binds K fd ["net", "place", "letters", "to"] []
  a_law_lay : ∃ f fd, Fun K "_law_lay" "_law_lay" s_law_lay f fd ∧ mg "_law_lay" = some (.ref f) ∧ Binds K fd ["plain", "net", "begin"] []
  a_law_spread : ∃ f fd, Fun K "_law_spread" "_law_spread" s_law_spread f fd ∧ mg "_law_spread" = some (.ref f) ∧ Binds K fd ["net", "places"] []
  a_law_machine : ∃ f fd, Fun K "_law_machine" "_law_machine" s_law_machine f fd ∧ mg "_law_machine" = some (.ref f) ∧ Binds K fd ["plains", "letters"] []
  a_law_least_machine : ∃ f fd, Fun K "_law_least_machine" "_law_least_machine" s_law_least_machine f fd ∧ mg "_law_least_machine" = some (.ref f) ∧ Binds K fd ["rows", "labels"] []
  a_law_least : ∃ f fd, Fun K "_law_least" "_law_least" s_law_least f fd ∧ mg "_law_least" = some (.ref f) ∧ Binds K fd ["table"] []
  a_law_table_of : ∃ f fd, Fun K "_law_table_of" "_law_table_of" s_law_table_of f fd ∧ mg "_law_table_of" = some (.ref f) ∧ Binds K fd ["plain", "letters"] []
  a_law_table : ∃ f fd, Fun K "_law_table" "_law_table" s_law_table f fd ∧ mg "_law_table" = some (.ref f) ∧ Binds K fd ["draws", "letters", "most"] []
  a_law_either_table : ∃ f fd, Fun K "_law_either_table" "_law_either_table" s_law_either_table f fd ∧ mg "_law_either_table" = some (.ref f) ∧ Binds K fd ["draws", "letters", "most"] []
  a_law_behind : ∃ f fd, Fun K "_law_behind" "_law_behind" s_law_behind f fd ∧ mg "_law_behind" = some (.ref f) ∧ Binds K fd ["table", "state", "text"] []
  a_law_left_counts : ∃ f fd, Fun K "_law_left_counts" "_law_left_counts" s_law_left_counts f fd ∧ mg "_law_left_counts" = some (.ref f) ∧ Binds K fd ["table", "most"] []
  a_law_nth : ∃ f fd, Fun K "_law_nth" "_law_nth" s_law_nth f fd ∧ mg "_law_nth" = some (.ref f) ∧ Binds K fd ["table", "counts", "n"] []
  a_law_wheel : ∃ f fd, Fun K "_law_wheel" "_law_wheel" s_law_wheel f fd ∧ mg "_law_wheel" = some (.ref f) ∧ Binds K fd ["draws", "letters", "most"] []
  a_law_blown : ∃ f fd, Fun K "_law_blown" "_law_blown" s_law_blown f fd ∧ mg "_law_blown" = some (.ref f) ∧ Binds K fd ["draws", "table", "most"] []
  a_law_small_table : ∃ f fd, Fun K "_law_small_table" "_law_small_table" s_law_small_table f fd ∧ mg "_law_small_table" = some (.ref f) ∧ Binds K fd ["draws", "letters", "most"] []
  a_law_pumped : ∃ f fd, Fun K "_law_pumped" "_law_pumped" s_law_pumped f fd ∧ mg "_law_pumped" = some (.ref f) ∧ Binds K fd ["table", "text"] []
  a_law_fitting_texts : ∃ f fd, Fun K "_law_fitting_texts" "_law_fitting_texts" s_law_fitting_texts f fd ∧ mg "_law_fitting_texts" = some (.ref f) ∧ Binds K fd ["draws", "table", "most"] []
  alaw : ∃ f fd, Fun K "law" "law" slaw f fd ∧ mg "law" = some (.ref f) ∧ Binds K fd ["script"] [] ∧ ∀ (s : Shared) (u : Value), BindsTo s fd ⟨[u], []⟩ [("script", u)]
section
variable {P : Program} {wd : World} {K : PySem.W.Frag} {mg : Str → Option Value} {base : Heap}
theorem lenled_from (n : Nat) : ∀ os r, mir n iled_from os = some r → r.2.length = os.length := by
  cases n with
  | zero => intro os r e; cases e
  | succ n => exact defM_lenC
theorem lenstate_behind (n : Nat) : ∀ os r, mir n istate_behind os = some r → r.2.length = os.length := by
  cases n with
  | zero => intro os r e; cases e
  | succ n => exact defM_lenC
theorem lentable_fits (n : Nat) : ∀ os r, mir n itable_fits os = some r → r.2.length = os.length := by
  cases n with
  | zero => intro os r e; cases e
  | succ n => exact defM_lenC
theorem lenpumped (n : Nat) : ∀ os r, mir n ipumped os = some r → r.2.length = os.length := by
  cases n with
  | zero => intro os r e; cases e
  | succ n => exact defM_lenC
theorem len_law_draws (n : Nat) : ∀ os r, mir n i_law_draws os = some r → r.2.length = os.length := by
  cases n with
  | zero => intro os r e; cases e
  | succ n => exact defM_lenC
theorem len_law_take (n : Nat) : ∀ os r, mir n i_law_take os = some r → r.2.length = os.length := by
  cases n with
  | zero => intro os r e; cases e
  | succ n => exact defM_lenC
theorem len_law_pick (n : Nat) : ∀ os r, mir n i_law_pick os = some r → r.2.length = os.length := by
  cases n with
  | zero => intro os r e; cases e
  | succ n => exact defM_lenC
theorem len_law_same (n : Nat) : ∀ os r, mir n i_law_same os = some r → r.2.length = os.length := by
  cases n with
  | zero => intro os r e; cases e
  | succ n => exact defM_lenC
theorem len_law_shuffled (n : Nat) : ∀ os r, mir n i_law_shuffled os = some r → r.2.length = os.length := by
  cases n with
  | zero => intro os r e; cases e
  | succ n => exact defM_lenC
theorem len_law_letters (n : Nat) : ∀ os r, mir n i_law_letters os = some r → r.2.length = os.length := by
  cases n with
  | zero => intro os r e; cases e
  | succ n => exact defM_lenC
theorem len_law_leaf (n : Nat) : ∀ os r, mir n i_law_leaf os = some r → r.2.length = os.length := by
  cases n with
  | zero => intro os r e; cases e
  | succ n => exact defM_lenC
theorem len_law_drawn (n : Nat) : ∀ os r, mir n i_law_drawn os = some r → r.2.length = os.length := by
  cases n with
  | zero => intro os r e; cases e
  | succ n => exact defM_lenC
theorem len_law_size (n : Nat) : ∀ os r, mir n i_law_size os = some r → r.2.length = os.length := by
  cases n with
  | zero => intro os r e; cases e
  | succ n => exact defM_lenC
theorem len_law_sets (n : Nat) : ∀ os r, mir n i_law_sets os = some r → r.2.length = os.length := by
  cases n with
  | zero => intro os r e; cases e
  | succ n => exact defM_lenC
theorem len_law_plain (n : Nat) : ∀ os r, mir n i_law_plain os = some r → r.2.length = os.length := by
  cases n with
  | zero => intro os r e; cases e
  | succ n => exact defM_lenC
theorem len_law_new_place (n : Nat) : ∀ os r, mir n i_law_new_place os = some r → r.2.length = os.length := by
  cases n with
  | zero => intro os r e; cases e
  | succ n => exact defM_lenC
theorem len_law_way (n : Nat) : ∀ os r, mir n i_law_way os = some r → r.2.length = os.length := by
  cases n with
  | zero => intro os r e; cases e
  | succ n => exact (lenW (G := mir n))
theorem len_law_lay (n : Nat) : ∀ os r, mir n i_law_lay os = some r → r.2.length = os.length := by
  cases n with
  | zero => intro os r e; cases e
  | succ n => exact defM_lenC
theorem len_law_spread (n : Nat) : ∀ os r, mir n i_law_spread os = some r → r.2.length = os.length := by
  cases n with
  | zero => intro os r e; cases e
  | succ n => exact defM_lenC
theorem len_law_machine (n : Nat) : ∀ os r, mir n i_law_machine os = some r → r.2.length = os.length := by
  cases n with
  | zero => intro os r e; cases e
  | succ n => exact defM_lenC
theorem len_law_least_machine (n : Nat) : ∀ os r, mir n i_law_least_machine os = some r → r.2.length = os.length := by
  cases n with
  | zero => intro os r e; cases e
  | succ n => exact defM_lenC
theorem len_law_least (n : Nat) : ∀ os r, mir n i_law_least os = some r → r.2.length = os.length := by
  cases n with
  | zero => intro os r e; cases e
  | succ n => exact defM_lenC
theorem len_law_table_of (n : Nat) : ∀ os r, mir n i_law_table_of os = some r → r.2.length = os.length := by
  cases n with
  | zero => intro os r e; cases e
  | succ n => exact defM_lenC
theorem len_law_table (n : Nat) : ∀ os r, mir n i_law_table os = some r → r.2.length = os.length := by
  cases n with
  | zero => intro os r e; cases e
  | succ n => exact defM_lenC
theorem len_law_either_table (n : Nat) : ∀ os r, mir n i_law_either_table os = some r → r.2.length = os.length := by
  cases n with
  | zero => intro os r e; cases e
  | succ n => exact defM_lenC
theorem len_law_behind (n : Nat) : ∀ os r, mir n i_law_behind os = some r → r.2.length = os.length := by
  cases n with
  | zero => intro os r e; cases e
  | succ n => exact defM_lenC
theorem len_law_left_counts (n : Nat) : ∀ os r, mir n i_law_left_counts os = some r → r.2.length = os.length := by
  cases n with
  | zero => intro os r e; cases e
  | succ n => exact defM_lenC
theorem len_law_nth (n : Nat) : ∀ os r, mir n i_law_nth os = some r → r.2.length = os.length := by
  cases n with
  | zero => intro os r e; cases e
  | succ n => exact defM_lenC
theorem len_law_wheel (n : Nat) : ∀ os r, mir n i_law_wheel os = some r → r.2.length = os.length := by
  cases n with
  | zero => intro os r e; cases e
  | succ n => exact defM_lenC
theorem len_law_blown (n : Nat) : ∀ os r, mir n i_law_blown os = some r → r.2.length = os.length := by
  cases n with
  | zero => intro os r e; cases e
  | succ n => exact defM_lenC
theorem len_law_small_table (n : Nat) : ∀ os r, mir n i_law_small_table os = some r → r.2.length = os.length := by
  cases n with
  | zero => intro os r e; cases e
  | succ n => exact defM_lenC
theorem len_law_pumped (n : Nat) : ∀ os r, mir n i_law_pumped os = some r → r.2.length = os.length := by
  cases n with
  | zero => intro os r e; cases e
  | succ n => exact defM_lenC
theorem len_law_fitting_texts (n : Nat) : ∀ os r, mir n i_law_fitting_texts os = some r → r.2.length = os.length := by
  cases n with
  | zero => intro os r e; cases e
  | succ n => exact defM_lenC
theorem lenlaw (n : Nat) : ∀ os r, mir n ilaw os = some r → r.2.length = os.length := by
  cases n with
  | zero => intro os r e; cases e
  | succ n => exact defM_lenC
theorem tab (A : Tops K mg) (B : Blt mg) : ∀ n, Tab P wd K mg base n
  | 0 => {
    cled_from := let ⟨f, fd, F, hm, hb⟩ := A.aled_from; ⟨⟨f, fd, fn_none, hb, F.kp, hm⟩, lenled_from 0⟩
    cstate_behind := let ⟨f, fd, F, hm, hb⟩ := A.astate_behind; ⟨⟨f, fd, fn_none, hb, F.kp, hm⟩, lenstate_behind 0⟩
    ctable_fits := let ⟨f, fd, F, hm, hb⟩ := A.atable_fits; ⟨⟨f, fd, fn_none, hb, F.kp, hm⟩, lentable_fits 0⟩
    cpumped := let ⟨f, fd, F, hm, hb⟩ := A.apumped; ⟨⟨f, fd, fn_none, hb, F.kp, hm⟩, lenpumped 0⟩
    c_law_draws := let ⟨f, fd, F, hm, hb⟩ := A.a_law_draws; ⟨⟨f, fd, fn_none, hb, F.kp, hm⟩, len_law_draws 0⟩
    c_law_take := let ⟨f, fd, F, hm, hb⟩ := A.a_law_take; ⟨⟨f, fd, fn_none, hb, F.kp, hm⟩, len_law_take 0⟩
    c_law_pick := let ⟨f, fd, F, hm, hb⟩ := A.a_law_pick; ⟨⟨f, fd, fn_none, hb, F.kp, hm⟩, len_law_pick 0⟩
    c_law_same := let ⟨f, fd, F, hm, hb⟩ := A.a_law_same; ⟨⟨f, fd, fn_none, hb, F.kp, hm⟩, len_law_same 0⟩
    c_law_shuffled := let ⟨f, fd, F, hm, hb⟩ := A.a_law_shuffled; ⟨⟨f, fd, fn_none, hb, F.kp, hm⟩, len_law_shuffled 0⟩
    c_law_letters := let ⟨f, fd, F, hm, hb⟩ := A.a_law_letters; ⟨⟨f, fd, fn_none, hb, F.kp, hm⟩, len_law_letters 0⟩
    c_law_leaf := let ⟨f, fd, F, hm, hb⟩ := A.a_law_leaf; ⟨⟨f, fd, fn_none, hb, F.kp, hm⟩, len_law_leaf 0⟩
    c_law_drawn := let ⟨f, fd, F, hm, hb⟩ := A.a_law_drawn; ⟨⟨f, fd, fn_none, hb, F.kp, hm⟩, len_law_drawn 0⟩
    c_law_size := let ⟨f, fd, F, hm, hb⟩ := A.a_law_size; ⟨⟨f, fd, fn_none, hb, F.kp, hm⟩, len_law_size 0⟩
    c_law_sets := let ⟨f, fd, F, hm, hb⟩ := A.a_law_sets; ⟨⟨f, fd, fn_none, hb, F.kp, hm⟩, len_law_sets 0⟩
    c_law_plain := let ⟨f, fd, F, hm, hb⟩ := A.a_law_plain; ⟨⟨f, fd, fn_none, hb, F.kp, hm⟩, len_law_plain 0⟩
    c_law_new_place := let ⟨f, fd, F, hm, hb⟩ := A.a_law_new_place; ⟨⟨f, fd, fn_none, hb, F.kp, hm⟩, len_law_new_place 0⟩
    c_law_way := let ⟨f, fd, F, hm, hb⟩ := A.a_law_way; ⟨⟨f, fd, fn_none, hb, F.kp, hm⟩, len_law_way 0⟩
    c_law_lay := let ⟨f, fd, F, hm, hb⟩ := A.a_law_lay; ⟨⟨f, fd, fn_none, hb, F.kp, hm⟩, len_law_lay 0⟩
    c_law_spread := let ⟨f, fd, F, hm, hb⟩ := A.a_law_spread; ⟨⟨f, fd, fn_none, hb, F.kp, hm⟩, len_law_spread 0⟩
    c_law_machine := let ⟨f, fd, F, hm, hb⟩ := A.a_law_machine; ⟨⟨f, fd, fn_none, hb, F.kp, hm⟩, len_law_machine 0⟩
    c_law_least_machine := let ⟨f, fd, F, hm, hb⟩ := A.a_law_least_machine; ⟨⟨f, fd, fn_none, hb, F.kp, hm⟩, len_law_least_machine 0⟩
    c_law_least := let ⟨f, fd, F, hm, hb⟩ := A.a_law_least; ⟨⟨f, fd, fn_none, hb, F.kp, hm⟩, len_law_least 0⟩
    c_law_table_of := let ⟨f, fd, F, hm, hb⟩ := A.a_law_table_of; ⟨⟨f, fd, fn_none, hb, F.kp, hm⟩, len_law_table_of 0⟩
    c_law_table := let ⟨f, fd, F, hm, hb⟩ := A.a_law_table; ⟨⟨f, fd, fn_none, hb, F.kp, hm⟩, len_law_table 0⟩
    c_law_either_table := let ⟨f, fd, F, hm, hb⟩ := A.a_law_either_table; ⟨⟨f, fd, fn_none, hb, F.kp, hm⟩, len_law_either_table 0⟩
    c_law_behind := let ⟨f, fd, F, hm, hb⟩ := A.a_law_behind; ⟨⟨f, fd, fn_none, hb, F.kp, hm⟩, len_law_behind 0⟩
    c_law_left_counts := let ⟨f, fd, F, hm, hb⟩ := A.a_law_left_counts; ⟨⟨f, fd, fn_none, hb, F.kp, hm⟩, len_law_left_counts 0⟩
    c_law_nth := let ⟨f, fd, F, hm, hb⟩ := A.a_law_nth; ⟨⟨f, fd, fn_none, hb, F.kp, hm⟩, len_law_nth 0⟩
    c_law_wheel := let ⟨f, fd, F, hm, hb⟩ := A.a_law_wheel; ⟨⟨f, fd, fn_none, hb, F.kp, hm⟩, len_law_wheel 0⟩
    c_law_blown := let ⟨f, fd, F, hm, hb⟩ := A.a_law_blown; ⟨⟨f, fd, fn_none, hb, F.kp, hm⟩, len_law_blown 0⟩
    c_law_small_table := let ⟨f, fd, F, hm, hb⟩ := A.a_law_small_table; ⟨⟨f, fd, fn_none, hb, F.kp, hm⟩, len_law_small_table 0⟩
    c_law_pumped := let ⟨f, fd, F, hm, hb⟩ := A.a_law_pumped; ⟨⟨f, fd, fn_none, hb, F.kp, hm⟩, len_law_pumped 0⟩
    c_law_fitting_texts := let ⟨f, fd, F, hm, hb⟩ := A.a_law_fitting_texts; ⟨⟨f, fd, fn_none, hb, F.kp, hm⟩, len_law_fitting_texts 0⟩
    claw := let ⟨f, fd, F, hm, hb, _⟩ := A.alaw; ⟨⟨f, fd, fn_none, hb, F.kp, hm⟩, lenlaw 0⟩
  }
  | n + 1 => by
    have T := tab A B n
    exact {
      cled_from := let ⟨f, fd, F, hm, hb⟩ := A.aled_from; ⟨⟨f, fd, okled_from T B F, hb, F.kp, hm⟩, lenled_from (n + 1)⟩
      cstate_behind := let ⟨f, fd, F, hm, hb⟩ := A.astate_behind; ⟨⟨f, fd, okstate_behind T B F, hb, F.kp, hm⟩, lenstate_behind (n + 1)⟩
      ctable_fits := let ⟨f, fd, F, hm, hb⟩ := A.atable_fits; ⟨⟨f, fd, oktable_fits T B F, hb, F.kp, hm⟩, lentable_fits (n + 1)⟩
      cpumped := let ⟨f, fd, F, hm, hb⟩ := A.apumped; ⟨⟨f, fd, okpumped T B F, hb, F.kp, hm⟩, lenpumped (n + 1)⟩
      c_law_draws := let ⟨f, fd, F, hm, hb⟩ := A.a_law_draws; ⟨⟨f, fd, ok_law_draws T B F, hb, F.kp, hm⟩, len_law_draws (n + 1)⟩
      c_law_take := let ⟨f, fd, F, hm, hb⟩ := A.a_law_take; ⟨⟨f, fd, ok_law_take T B F, hb, F.kp, hm⟩, len_law_take (n + 1)⟩
      c_law_pick := let ⟨f, fd, F, hm, hb⟩ := A.a_law_pick; ⟨⟨f, fd, ok_law_pick T B F, hb, F.kp, hm⟩, len_law_pick (n + 1)⟩
      c_law_same := let ⟨f, fd, F, hm, hb⟩ := A.a_law_same; ⟨⟨f, fd, ok_law_same T B F, hb, F.kp, hm⟩, len_law_same (n + 1)⟩
      c_law_shuffled := let ⟨f, fd, F, hm, hb⟩ := A.a_law_shuffled; ⟨⟨f, fd, ok_law_shuffled T B F, hb, F.kp, hm⟩, len_law_shuffled (n + 1)⟩
      c_law_letters := let ⟨f, fd, F, hm, hb⟩ := A.a_law_letters; ⟨⟨f, fd, ok_law_letters T B F, hb, F.kp, hm⟩, len_law_letters (n + 1)⟩
      c_law_leaf := let ⟨f, fd, F, hm, hb⟩ := A.a_law_leaf; ⟨⟨f, fd, ok_law_leaf T B F, hb, F.kp, hm⟩, len_law_leaf (n + 1)⟩
      c_law_drawn := let ⟨f, fd, F, hm, hb⟩ := A.a_law_drawn; ⟨⟨f, fd, ok_law_drawn T B F, hb, F.kp, hm⟩, len_law_drawn (n + 1)⟩
      c_law_size := let ⟨f, fd, F, hm, hb⟩ := A.a_law_size; ⟨⟨f, fd, ok_law_size T B F, hb, F.kp, hm⟩, len_law_size (n + 1)⟩
      c_law_sets := let ⟨f, fd, F, hm, hb⟩ := A.a_law_sets; ⟨⟨f, fd, ok_law_sets T B F, hb, F.kp, hm⟩, len_law_sets (n + 1)⟩
      c_law_plain := let ⟨f, fd, F, hm, hb⟩ := A.a_law_plain; ⟨⟨f, fd, ok_law_plain T B F, hb, F.kp, hm⟩, len_law_plain (n + 1)⟩
      c_law_new_place := let ⟨f, fd, F, hm, hb⟩ := A.a_law_new_place; ⟨⟨f, fd, ok_law_new_place T B F, hb, F.kp, hm⟩, len_law_new_place (n + 1)⟩
      c_law_way := let ⟨f, fd, F, hm, hb⟩ := A.a_law_way; ⟨⟨f, fd, ok_law_way T B F, hb, F.kp, hm⟩, len_law_way (n + 1)⟩
      c_law_lay := let ⟨f, fd, F, hm, hb⟩ := A.a_law_lay; ⟨⟨f, fd, ok_law_lay T B F, hb, F.kp, hm⟩, len_law_lay (n + 1)⟩
      c_law_spread := let ⟨f, fd, F, hm, hb⟩ := A.a_law_spread; ⟨⟨f, fd, ok_law_spread T B F, hb, F.kp, hm⟩, len_law_spread (n + 1)⟩
      c_law_machine := let ⟨f, fd, F, hm, hb⟩ := A.a_law_machine; ⟨⟨f, fd, ok_law_machine T B F, hb, F.kp, hm⟩, len_law_machine (n + 1)⟩
      c_law_least_machine := let ⟨f, fd, F, hm, hb⟩ := A.a_law_least_machine; ⟨⟨f, fd, ok_law_least_machine T B F, hb, F.kp, hm⟩, len_law_least_machine (n + 1)⟩
      c_law_least := let ⟨f, fd, F, hm, hb⟩ := A.a_law_least; ⟨⟨f, fd, ok_law_least T B F, hb, F.kp, hm⟩, len_law_least (n + 1)⟩
      c_law_table_of := let ⟨f, fd, F, hm, hb⟩ := A.a_law_table_of; ⟨⟨f, fd, ok_law_table_of T B F, hb, F.kp, hm⟩, len_law_table_of (n + 1)⟩
      c_law_table := let ⟨f, fd, F, hm, hb⟩ := A.a_law_table; ⟨⟨f, fd, ok_law_table T B F, hb, F.kp, hm⟩, len_law_table (n + 1)⟩
      c_law_either_table := let ⟨f, fd, F, hm, hb⟩ := A.a_law_either_table; ⟨⟨f, fd, ok_law_either_table T B F, hb, F.kp, hm⟩, len_law_either_table (n + 1)⟩
      c_law_behind := let ⟨f, fd, F, hm, hb⟩ := A.a_law_behind; ⟨⟨f, fd, ok_law_behind T B F, hb, F.kp, hm⟩, len_law_behind (n + 1)⟩
      c_law_left_counts := let ⟨f, fd, F, hm, hb⟩ := A.a_law_left_counts; ⟨⟨f, fd, ok_law_left_counts T B F, hb, F.kp, hm⟩, len_law_left_counts (n + 1)⟩
      c_law_nth := let ⟨f, fd, F, hm, hb⟩ := A.a_law_nth; ⟨⟨f, fd, ok_law_nth T B F, hb, F.kp, hm⟩, len_law_nth (n + 1)⟩
      c_law_wheel := let ⟨f, fd, F, hm, hb⟩ := A.a_law_wheel; ⟨⟨f, fd, ok_law_wheel T B F, hb, F.kp, hm⟩, len_law_wheel (n + 1)⟩
      c_law_blown := let ⟨f, fd, F, hm, hb⟩ := A.a_law_blown; ⟨⟨f, fd, ok_law_blown T B F, hb, F.kp, hm⟩, len_law_blown (n + 1)⟩
      c_law_small_table := let ⟨f, fd, F, hm, hb⟩ := A.a_law_small_table; ⟨⟨f, fd, ok_law_small_table T B F, hb, F.kp, hm⟩, len_law_small_table (n + 1)⟩
      c_law_pumped := let ⟨f, fd, F, hm, hb⟩ := A.a_law_pumped; ⟨⟨f, fd, ok_law_pumped T B F, hb, F.kp, hm⟩, len_law_pumped (n + 1)⟩
      c_law_fitting_texts := let ⟨f, fd, F, hm, hb⟩ := A.a_law_fitting_texts; ⟨⟨f, fd, ok_law_fitting_texts T B F, hb, F.kp, hm⟩, len_law_fitting_texts (n + 1)⟩
      claw := let ⟨f, fd, F, hm, hb, _⟩ := A.alaw; ⟨⟨f, fd, oklaw T B F, hb, F.kp, hm⟩, lenlaw (n + 1)⟩
    }
end
theorem all_mk {K : PySem.W.Frag} {h : Heap} {mg : Str → Option Value} (X : K.In h) (G : h.Ns mainGlobals mg)
    {f0 : Addr} {od0 an0 : Option Addr} {sl0 : Array (Option Value)} {oc0 kV0 dc0 pm0 cd0 ct0 : Value}
    (a0 : PySem.W.nsIn K mainGlobals "led_from" = some (some (.ref f0))) (l0 : K.lookup f0 = some ⟨oc0, od0, .func (PySem.W.fnOf "led_from" "led_from" (defArgs sled_from) (defBody sled_from) (defScope sled_from) .none kV0 dc0 pm0 an0 cd0 ct0), sl0⟩) (c0 : PySem.W.codeIn K cd0 "led_from" = true) (k0 : PySem.W.keepIn K (.ref f0) = true)
    {f1 : Addr} {od1 an1 : Option Addr} {sl1 : Array (Option Value)} {oc1 kV1 dc1 pm1 cd1 ct1 : Value}
    (a1 : PySem.W.nsIn K mainGlobals "state_behind" = some (some (.ref f1))) (l1 : K.lookup f1 = some ⟨oc1, od1, .func (PySem.W.fnOf "state_behind" "state_behind" (defArgs sstate_behind) (defBody sstate_behind) (defScope sstate_behind) .none kV1 dc1 pm1 an1 cd1 ct1), sl1⟩) (c1 : PySem.W.codeIn K cd1 "state_behind" = true) (k1 : PySem.W.keepIn K (.ref f1) = true)
    {f2 : Addr} {od2 an2 : Option Addr} {sl2 : Array (Option Value)} {oc2 kV2 dc2 pm2 cd2 ct2 : Value}
    (a2 : PySem.W.nsIn K mainGlobals "table_fits" = some (some (.ref f2))) (l2 : K.lookup f2 = some ⟨oc2, od2, .func (PySem.W.fnOf "table_fits" "table_fits" (defArgs stable_fits) (defBody stable_fits) (defScope stable_fits) .none kV2 dc2 pm2 an2 cd2 ct2), sl2⟩) (c2 : PySem.W.codeIn K cd2 "table_fits" = true) (k2 : PySem.W.keepIn K (.ref f2) = true)
    {f3 : Addr} {od3 an3 : Option Addr} {sl3 : Array (Option Value)} {oc3 kV3 dc3 pm3 cd3 ct3 : Value}
    (a3 : PySem.W.nsIn K mainGlobals "pumped" = some (some (.ref f3))) (l3 : K.lookup f3 = some ⟨oc3, od3, .func (PySem.W.fnOf "pumped" "pumped" (defArgs spumped) (defBody spumped) (defScope spumped) .none kV3 dc3 pm3 an3 cd3 ct3), sl3⟩) (c3 : PySem.W.codeIn K cd3 "pumped" = true) (k3 : PySem.W.keepIn K (.ref f3) = true)
    {f4 : Addr} {od4 an4 : Option Addr} {sl4 : Array (Option Value)} {oc4 kV4 dc4 pm4 cd4 ct4 : Value}
    (a4 : PySem.W.nsIn K mainGlobals "_law_draws" = some (some (.ref f4))) (l4 : K.lookup f4 = some ⟨oc4, od4, .func (PySem.W.fnOf "_law_draws" "_law_draws" (defArgs s_law_draws) (defBody s_law_draws) (defScope s_law_draws) .none kV4 dc4 pm4 an4 cd4 ct4), sl4⟩) (c4 : PySem.W.codeIn K cd4 "_law_draws" = true) (k4 : PySem.W.keepIn K (.ref f4) = true)
    {f5 : Addr} {od5 an5 : Option Addr} {sl5 : Array (Option Value)} {oc5 kV5 dc5 pm5 cd5 ct5 : Value}
    (a5 : PySem.W.nsIn K mainGlobals "_law_take" = some (some (.ref f5))) (l5 : K.lookup f5 = some ⟨oc5, od5, .func (PySem.W.fnOf "_law_take" "_law_take" (defArgs s_law_take) (defBody s_law_take) (defScope s_law_take) .none kV5 dc5 pm5 an5 cd5 ct5), sl5⟩) (c5 : PySem.W.codeIn K cd5 "_law_take" = true) (k5 : PySem.W.keepIn K (.ref f5) = true)
    {f6 : Addr} {od6 an6 : Option Addr} {sl6 : Array (Option Value)} {oc6 kV6 dc6 pm6 cd6 ct6 : Value}
    (a6 : PySem.W.nsIn K mainGlobals "_law_pick" = some (some (.ref f6))) (l6 : K.lookup f6 = some ⟨oc6, od6, .func (PySem.W.fnOf "_law_pick" "_law_pick" (defArgs s_law_pick) (defBody s_law_pick) (defScope s_law_pick) .none kV6 dc6 pm6 an6 cd6 ct6), sl6⟩) (c6 : PySem.W.codeIn K cd6 "_law_pick" = true) (k6 : PySem.W.keepIn K (.ref f6) = true)
    {f7 : Addr} {od7 an7 : Option Addr} {sl7 : Array (Option Value)} {oc7 kV7 dc7 pm7 cd7 ct7 : Value}
    (a7 : PySem.W.nsIn K mainGlobals "_law_same" = some (some (.ref f7))) (l7 : K.lookup f7 = some ⟨oc7, od7, .func (PySem.W.fnOf "_law_same" "_law_same" (defArgs s_law_same) (defBody s_law_same) (defScope s_law_same) .none kV7 dc7 pm7 an7 cd7 ct7), sl7⟩) (c7 : PySem.W.codeIn K cd7 "_law_same" = true) (k7 : PySem.W.keepIn K (.ref f7) = true)
    {f8 : Addr} {od8 an8 : Option Addr} {sl8 : Array (Option Value)} {oc8 kV8 dc8 pm8 cd8 ct8 : Value}
    (a8 : PySem.W.nsIn K mainGlobals "_law_shuffled" = some (some (.ref f8))) (l8 : K.lookup f8 = some ⟨oc8, od8, .func (PySem.W.fnOf "_law_shuffled" "_law_shuffled" (defArgs s_law_shuffled) (defBody s_law_shuffled) (defScope s_law_shuffled) .none kV8 dc8 pm8 an8 cd8 ct8), sl8⟩) (c8 : PySem.W.codeIn K cd8 "_law_shuffled" = true) (k8 : PySem.W.keepIn K (.ref f8) = true)
    {f9 : Addr} {od9 an9 : Option Addr} {sl9 : Array (Option Value)} {oc9 kV9 dc9 pm9 cd9 ct9 : Value}
    (a9 : PySem.W.nsIn K mainGlobals "_law_letters" = some (some (.ref f9))) (l9 : K.lookup f9 = some ⟨oc9, od9, .func (PySem.W.fnOf "_law_letters" "_law_letters" (defArgs s_law_letters) (defBody s_law_letters) (defScope s_law_letters) .none kV9 dc9 pm9 an9 cd9 ct9), sl9⟩) (c9 : PySem.W.codeIn K cd9 "_law_letters" = true) (k9 : PySem.W.keepIn K (.ref f9) = true)
    {f10 : Addr} {od10 an10 : Option Addr} {sl10 : Array (Option Value)} {oc10 kV10 dc10 pm10 cd10 ct10 : Value}
    (a10 : PySem.W.nsIn K mainGlobals "_law_leaf" = some (some (.ref f10))) (l10 : K.lookup f10 = some ⟨oc10, od10, .func (PySem.W.fnOf "_law_leaf" "_law_leaf" (defArgs s_law_leaf) (defBody s_law_leaf) (defScope s_law_leaf) .none kV10 dc10 pm10 an10 cd10 ct10), sl10⟩) (c10 : PySem.W.codeIn K cd10 "_law_leaf" = true) (k10 : PySem.W.keepIn K (.ref f10) = true)
    {f11 : Addr} {od11 an11 : Option Addr} {sl11 : Array (Option Value)} {oc11 kV11 dc11 pm11 cd11 ct11 : Value}
    (a11 : PySem.W.nsIn K mainGlobals "_law_drawn" = some (some (.ref f11))) (l11 : K.lookup f11 = some ⟨oc11, od11, .func (PySem.W.fnOf "_law_drawn" "_law_drawn" (defArgs s_law_drawn) (defBody s_law_drawn) (defScope s_law_drawn) .none kV11 dc11 pm11 an11 cd11 ct11), sl11⟩) (c11 : PySem.W.codeIn K cd11 "_law_drawn" = true) (k11 : PySem.W.keepIn K (.ref f11) = true)
    {f12 : Addr} {od12 an12 : Option Addr} {sl12 : Array (Option Value)} {oc12 kV12 dc12 pm12 cd12 ct12 : Value}
    (a12 : PySem.W.nsIn K mainGlobals "_law_size" = some (some (.ref f12))) (l12 : K.lookup f12 = some ⟨oc12, od12, .func (PySem.W.fnOf "_law_size" "_law_size" (defArgs s_law_size) (defBody s_law_size) (defScope s_law_size) .none kV12 dc12 pm12 an12 cd12 ct12), sl12⟩) (c12 : PySem.W.codeIn K cd12 "_law_size" = true) (k12 : PySem.W.keepIn K (.ref f12) = true)
    {f13 : Addr} {od13 an13 : Option Addr} {sl13 : Array (Option Value)} {oc13 kV13 dc13 pm13 cd13 ct13 : Value}
    (a13 : PySem.W.nsIn K mainGlobals "_law_sets" = some (some (.ref f13))) (l13 : K.lookup f13 = some ⟨oc13, od13, .func (PySem.W.fnOf "_law_sets" "_law_sets" (defArgs s_law_sets) (defBody s_law_sets) (defScope s_law_sets) .none kV13 dc13 pm13 an13 cd13 ct13), sl13⟩) (c13 : PySem.W.codeIn K cd13 "_law_sets" = true) (k13 : PySem.W.keepIn K (.ref f13) = true)
    {f14 : Addr} {od14 an14 : Option Addr} {sl14 : Array (Option Value)} {oc14 kV14 dc14 pm14 cd14 ct14 : Value}
    (a14 : PySem.W.nsIn K mainGlobals "_law_plain" = some (some (.ref f14))) (l14 : K.lookup f14 = some ⟨oc14, od14, .func (PySem.W.fnOf "_law_plain" "_law_plain" (defArgs s_law_plain) (defBody s_law_plain) (defScope s_law_plain) .none kV14 dc14 pm14 an14 cd14 ct14), sl14⟩) (c14 : PySem.W.codeIn K cd14 "_law_plain" = true) (k14 : PySem.W.keepIn K (.ref f14) = true)
    {f15 : Addr} {od15 an15 : Option Addr} {sl15 : Array (Option Value)} {oc15 kV15 dc15 pm15 cd15 ct15 : Value}
    (a15 : PySem.W.nsIn K mainGlobals "_law_new_place" = some (some (.ref f15))) (l15 : K.lookup f15 = some ⟨oc15, od15, .func (PySem.W.fnOf "_law_new_place" "_law_new_place" (defArgs s_law_new_place) (defBody s_law_new_place) (defScope s_law_new_place) .none kV15 dc15 pm15 an15 cd15 ct15), sl15⟩) (c15 : PySem.W.codeIn K cd15 "_law_new_place" = true) (k15 : PySem.W.keepIn K (.ref f15) = true)
    {f16 : Addr} {od16 an16 : Option Addr} {sl16 : Array (Option Value)} {oc16 kV16 dc16 pm16 cd16 ct16 : Value}
    (a16 : PySem.W.nsIn K mainGlobals "_law_way" = some (some (.ref f16))) (l16 : K.lookup f16 = some ⟨oc16, od16, .func (PySem.W.fnOf "_law_way" "_law_way" (defArgs s_law_way) (defBody s_law_way) (defScope s_law_way) .none kV16 dc16 pm16 an16 cd16 ct16), sl16⟩) (c16 : PySem.W.codeIn K cd16 "_law_way" = true) (k16 : PySem.W.keepIn K (.ref f16) = true)
    {f17 : Addr} {od17 an17 : Option Addr} {sl17 : Array (Option Value)} {oc17 kV17 dc17 pm17 cd17 ct17 : Value}
    (a17 : PySem.W.nsIn K mainGlobals "_law_lay" = some (some (.ref f17))) (l17 : K.lookup f17 = some ⟨oc17, od17, .func (PySem.W.fnOf "_law_lay" "_law_lay" (defArgs s_law_lay) (defBody s_law_lay) (defScope s_law_lay) .none kV17 dc17 pm17 an17 cd17 ct17), sl17⟩) (c17 : PySem.W.codeIn K cd17 "_law_lay" = true) (k17 : PySem.W.keepIn K (.ref f17) = true)
    {f18 : Addr} {od18 an18 : Option Addr} {sl18 : Array (Option Value)} {oc18 kV18 dc18 pm18 cd18 ct18 : Value}
    (a18 : PySem.W.nsIn K mainGlobals "_law_spread" = some (some (.ref f18))) (l18 : K.lookup f18 = some ⟨oc18, od18, .func (PySem.W.fnOf "_law_spread" "_law_spread" (defArgs s_law_spread) (defBody s_law_spread) (defScope s_law_spread) .none kV18 dc18 pm18 an18 cd18 ct18), sl18⟩) (c18 : PySem.W.codeIn K cd18 "_law_spread" = true) (k18 : PySem.W.keepIn K (.ref f18) = true)
    {f19 : Addr} {od19 an19 : Option Addr} {sl19 : Array (Option Value)} {oc19 kV19 dc19 pm19 cd19 ct19 : Value}
    (a19 : PySem.W.nsIn K mainGlobals "_law_machine" = some (some (.ref f19))) (l19 : K.lookup f19 = some ⟨oc19, od19, .func (PySem.W.fnOf "_law_machine" "_law_machine" (defArgs s_law_machine) (defBody s_law_machine) (defScope s_law_machine) .none kV19 dc19 pm19 an19 cd19 ct19), sl19⟩) (c19 : PySem.W.codeIn K cd19 "_law_machine" = true) (k19 : PySem.W.keepIn K (.ref f19) = true)
    {f20 : Addr} {od20 an20 : Option Addr} {sl20 : Array (Option Value)} {oc20 kV20 dc20 pm20 cd20 ct20 : Value}
    (a20 : PySem.W.nsIn K mainGlobals "_law_least_machine" = some (some (.ref f20))) (l20 : K.lookup f20 = some ⟨oc20, od20, .func (PySem.W.fnOf "_law_least_machine" "_law_least_machine" (defArgs s_law_least_machine) (defBody s_law_least_machine) (defScope s_law_least_machine) .none kV20 dc20 pm20 an20 cd20 ct20), sl20⟩) (c20 : PySem.W.codeIn K cd20 "_law_least_machine" = true) (k20 : PySem.W.keepIn K (.ref f20) = true)
    {f21 : Addr} {od21 an21 : Option Addr} {sl21 : Array (Option Value)} {oc21 kV21 dc21 pm21 cd21 ct21 : Value}
    (a21 : PySem.W.nsIn K mainGlobals "_law_least" = some (some (.ref f21))) (l21 : K.lookup f21 = some ⟨oc21, od21, .func (PySem.W.fnOf "_law_least" "_law_least" (defArgs s_law_least) (defBody s_law_least) (defScope s_law_least) .none kV21 dc21 pm21 an21 cd21 ct21), sl21⟩) (c21 : PySem.W.codeIn K cd21 "_law_least" = true) (k21 : PySem.W.keepIn K (.ref f21) = true)
    {f22 : Addr} {od22 an22 : Option Addr} {sl22 : Array (Option Value)} {oc22 kV22 dc22 pm22 cd22 ct22 : Value}
    (a22 : PySem.W.nsIn K mainGlobals "_law_table_of" = some (some (.ref f22))) (l22 : K.lookup f22 = some ⟨oc22, od22, .func (PySem.W.fnOf "_law_table_of" "_law_table_of" (defArgs s_law_table_of) (defBody s_law_table_of) (defScope s_law_table_of) .none kV22 dc22 pm22 an22 cd22 ct22), sl22⟩) (c22 : PySem.W.codeIn K cd22 "_law_table_of" = true) (k22 : PySem.W.keepIn K (.ref f22) = true)
    {f23 : Addr} {od23 an23 : Option Addr} {sl23 : Array (Option Value)} {oc23 kV23 dc23 pm23 cd23 ct23 : Value}
    (a23 : PySem.W.nsIn K mainGlobals "_law_table" = some (some (.ref f23))) (l23 : K.lookup f23 = some ⟨oc23, od23, .func (PySem.W.fnOf "_law_table" "_law_table" (defArgs s_law_table) (defBody s_law_table) (defScope s_law_table) .none kV23 dc23 pm23 an23 cd23 ct23), sl23⟩) (c23 : PySem.W.codeIn K cd23 "_law_table" = true) (k23 : PySem.W.keepIn K (.ref f23) = true)
    {f24 : Addr} {od24 an24 : Option Addr} {sl24 : Array (Option Value)} {oc24 kV24 dc24 pm24 cd24 ct24 : Value}
    (a24 : PySem.W.nsIn K mainGlobals "_law_either_table" = some (some (.ref f24))) (l24 : K.lookup f24 = some ⟨oc24, od24, .func (PySem.W.fnOf "_law_either_table" "_law_either_table" (defArgs s_law_either_table) (defBody s_law_either_table) (defScope s_law_either_table) .none kV24 dc24 pm24 an24 cd24 ct24), sl24⟩) (c24 : PySem.W.codeIn K cd24 "_law_either_table" = true) (k24 : PySem.W.keepIn K (.ref f24) = true)
    {f25 : Addr} {od25 an25 : Option Addr} {sl25 : Array (Option Value)} {oc25 kV25 dc25 pm25 cd25 ct25 : Value}
    (a25 : PySem.W.nsIn K mainGlobals "_law_behind" = some (some (.ref f25))) (l25 : K.lookup f25 = some ⟨oc25, od25, .func (PySem.W.fnOf "_law_behind" "_law_behind" (defArgs s_law_behind) (defBody s_law_behind) (defScope s_law_behind) .none kV25 dc25 pm25 an25 cd25 ct25), sl25⟩) (c25 : PySem.W.codeIn K cd25 "_law_behind" = true) (k25 : PySem.W.keepIn K (.ref f25) = true)
    {f26 : Addr} {od26 an26 : Option Addr} {sl26 : Array (Option Value)} {oc26 kV26 dc26 pm26 cd26 ct26 : Value}
    (a26 : PySem.W.nsIn K mainGlobals "_law_left_counts" = some (some (.ref f26))) (l26 : K.lookup f26 = some ⟨oc26, od26, .func (PySem.W.fnOf "_law_left_counts" "_law_left_counts" (defArgs s_law_left_counts) (defBody s_law_left_counts) (defScope s_law_left_counts) .none kV26 dc26 pm26 an26 cd26 ct26), sl26⟩) (c26 : PySem.W.codeIn K cd26 "_law_left_counts" = true) (k26 : PySem.W.keepIn K (.ref f26) = true)
    {f27 : Addr} {od27 an27 : Option Addr} {sl27 : Array (Option Value)} {oc27 kV27 dc27 pm27 cd27 ct27 : Value}
    (a27 : PySem.W.nsIn K mainGlobals "_law_nth" = some (some (.ref f27))) (l27 : K.lookup f27 = some ⟨oc27, od27, .func (PySem.W.fnOf "_law_nth" "_law_nth" (defArgs s_law_nth) (defBody s_law_nth) (defScope s_law_nth) .none kV27 dc27 pm27 an27 cd27 ct27), sl27⟩) (c27 : PySem.W.codeIn K cd27 "_law_nth" = true) (k27 : PySem.W.keepIn K (.ref f27) = true)
    {f28 : Addr} {od28 an28 : Option Addr} {sl28 : Array (Option Value)} {oc28 kV28 dc28 pm28 cd28 ct28 : Value}
    (a28 : PySem.W.nsIn K mainGlobals "_law_wheel" = some (some (.ref f28))) (l28 : K.lookup f28 = some ⟨oc28, od28, .func (PySem.W.fnOf "_law_wheel" "_law_wheel" (defArgs s_law_wheel) (defBody s_law_wheel) (defScope s_law_wheel) .none kV28 dc28 pm28 an28 cd28 ct28), sl28⟩) (c28 : PySem.W.codeIn K cd28 "_law_wheel" = true) (k28 : PySem.W.keepIn K (.ref f28) = true)
    {f29 : Addr} {od29 an29 : Option Addr} {sl29 : Array (Option Value)} {oc29 kV29 dc29 pm29 cd29 ct29 : Value}
    (a29 : PySem.W.nsIn K mainGlobals "_law_blown" = some (some (.ref f29))) (l29 : K.lookup f29 = some ⟨oc29, od29, .func (PySem.W.fnOf "_law_blown" "_law_blown" (defArgs s_law_blown) (defBody s_law_blown) (defScope s_law_blown) .none kV29 dc29 pm29 an29 cd29 ct29), sl29⟩) (c29 : PySem.W.codeIn K cd29 "_law_blown" = true) (k29 : PySem.W.keepIn K (.ref f29) = true)
    {f30 : Addr} {od30 an30 : Option Addr} {sl30 : Array (Option Value)} {oc30 kV30 dc30 pm30 cd30 ct30 : Value}
    (a30 : PySem.W.nsIn K mainGlobals "_law_small_table" = some (some (.ref f30))) (l30 : K.lookup f30 = some ⟨oc30, od30, .func (PySem.W.fnOf "_law_small_table" "_law_small_table" (defArgs s_law_small_table) (defBody s_law_small_table) (defScope s_law_small_table) .none kV30 dc30 pm30 an30 cd30 ct30), sl30⟩) (c30 : PySem.W.codeIn K cd30 "_law_small_table" = true) (k30 : PySem.W.keepIn K (.ref f30) = true)
    {f31 : Addr} {od31 an31 : Option Addr} {sl31 : Array (Option Value)} {oc31 kV31 dc31 pm31 cd31 ct31 : Value}
    (a31 : PySem.W.nsIn K mainGlobals "_law_pumped" = some (some (.ref f31))) (l31 : K.lookup f31 = some ⟨oc31, od31, .func (PySem.W.fnOf "_law_pumped" "_law_pumped" (defArgs s_law_pumped) (defBody s_law_pumped) (defScope s_law_pumped) .none kV31 dc31 pm31 an31 cd31 ct31), sl31⟩) (c31 : PySem.W.codeIn K cd31 "_law_pumped" = true) (k31 : PySem.W.keepIn K (.ref f31) = true)
    {f32 : Addr} {od32 an32 : Option Addr} {sl32 : Array (Option Value)} {oc32 kV32 dc32 pm32 cd32 ct32 : Value}
    (a32 : PySem.W.nsIn K mainGlobals "_law_fitting_texts" = some (some (.ref f32))) (l32 : K.lookup f32 = some ⟨oc32, od32, .func (PySem.W.fnOf "_law_fitting_texts" "_law_fitting_texts" (defArgs s_law_fitting_texts) (defBody s_law_fitting_texts) (defScope s_law_fitting_texts) .none kV32 dc32 pm32 an32 cd32 ct32), sl32⟩) (c32 : PySem.W.codeIn K cd32 "_law_fitting_texts" = true) (k32 : PySem.W.keepIn K (.ref f32) = true)
    {f33 : Addr} {od33 an33 : Option Addr} {sl33 : Array (Option Value)} {oc33 kV33 dc33 pm33 cd33 ct33 : Value}
    (a33 : PySem.W.nsIn K mainGlobals "law" = some (some (.ref f33))) (l33 : K.lookup f33 = some ⟨oc33, od33, .func (PySem.W.fnOf "law" "law" (defArgs slaw) (defBody slaw) (defScope slaw) .none kV33 dc33 pm33 an33 cd33 ct33), sl33⟩) (c33 : PySem.W.codeIn K cd33 "law" = true) (k33 : PySem.W.keepIn K (.ref f33) = true)
    (z0 : PySem.W.nsIn K mainGlobals "bool" = some none)
    (z1 : PySem.W.nsIn K mainGlobals "enumerate" = some none)
    (z2 : PySem.W.nsIn K mainGlobals "int" = some none)
    (z3 : PySem.W.nsIn K mainGlobals "isinstance" = some none)
    (z4 : PySem.W.nsIn K mainGlobals "len" = some none)
    (z5 : PySem.W.nsIn K mainGlobals "list" = some none)
    (z6 : PySem.W.nsIn K mainGlobals "max" = some none)
    (z7 : PySem.W.nsIn K mainGlobals "min" = some none)
    (z8 : PySem.W.nsIn K mainGlobals "range" = some none)
    (z9 : PySem.W.nsIn K mainGlobals "reversed" = some none)
    (z10 : PySem.W.nsIn K mainGlobals "set" = some none)
    (z11 : PySem.W.nsIn K mainGlobals "sorted" = some none)
    (z12 : PySem.W.nsIn K mainGlobals "str" = some none)
    (z13 : PySem.W.nsIn K mainGlobals "sum" = some none)
    (z14 : PySem.W.nsIn K mainGlobals "tuple" = some none) :
    Tops K mg ∧ Blt mg := by
  refine ⟨{
    aled_from := ⟨f0, _, fun_mk (st := sled_from) l0 c0 k0, PySem.W.mg_of X G a0, (fun_mk (st := sled_from) l0 c0 k0).binds fun _ _ _ _ _ _ us hl => match us, hl with | [_, _, _], _ => rfl⟩
    astate_behind := ⟨f1, _, fun_mk (st := sstate_behind) l1 c1 k1, PySem.W.mg_of X G a1, (fun_mk (st := sstate_behind) l1 c1 k1).binds fun _ _ _ _ _ _ us hl => match us, hl with | [_, _], _ => rfl⟩
    atable_fits := ⟨f2, _, fun_mk (st := stable_fits) l2 c2 k2, PySem.W.mg_of X G a2, (fun_mk (st := stable_fits) l2 c2 k2).binds fun _ _ _ _ _ _ us hl => match us, hl with | [_, _], _ => rfl⟩
    apumped := ⟨f3, _, fun_mk (st := spumped) l3 c3 k3, PySem.W.mg_of X G a3, (fun_mk (st := spumped) l3 c3 k3).binds fun _ _ _ _ _ _ us hl => match us, hl with | [_, _], _ => rfl⟩
    a_law_draws := ⟨f4, _, fun_mk (st := s_law_draws) l4 c4 k4, PySem.W.mg_of X G a4, (fun_mk (st := s_law_draws) l4 c4 k4).binds fun _ _ _ _ _ _ us hl => match us, hl with | [_, _], _ => rfl⟩
    a_law_take := ⟨f5, _, fun_mk (st := s_law_take) l5 c5 k5, PySem.W.mg_of X G a5, (fun_mk (st := s_law_take) l5 c5 k5).binds fun _ _ _ _ _ _ us hl => match us, hl with | [_, _], _ => rfl⟩
    a_law_pick := ⟨f6, _, fun_mk (st := s_law_pick) l6 c6 k6, PySem.W.mg_of X G a6, (fun_mk (st := s_law_pick) l6 c6 k6).binds fun _ _ _ _ _ _ us hl => match us, hl with | [_, _], _ => rfl⟩
    a_law_same := ⟨f7, _, fun_mk (st := s_law_same) l7 c7 k7, PySem.W.mg_of X G a7, (fun_mk (st := s_law_same) l7 c7 k7).binds fun _ _ _ _ _ _ us hl => match us, hl with | [_, _], _ => rfl⟩
    a_law_shuffled := ⟨f8, _, fun_mk (st := s_law_shuffled) l8 c8 k8, PySem.W.mg_of X G a8, (fun_mk (st := s_law_shuffled) l8 c8 k8).binds fun _ _ _ _ _ _ us hl => match us, hl with | [_, _], _ => rfl⟩
    a_law_letters := ⟨f9, _, fun_mk (st := s_law_letters) l9 c9 k9, PySem.W.mg_of X G a9, (fun_mk (st := s_law_letters) l9 c9 k9).binds fun _ _ _ _ _ _ us hl => match us, hl with | [_, _], _ => rfl⟩
    a_law_leaf := ⟨f10, _, fun_mk (st := s_law_leaf) l10 c10 k10, PySem.W.mg_of X G a10, (fun_mk (st := s_law_leaf) l10 c10 k10).binds fun _ _ _ _ _ _ us hl => match us, hl with | [_, _], _ => rfl⟩
    a_law_drawn := ⟨f11, _, fun_mk (st := s_law_drawn) l11 c11 k11, PySem.W.mg_of X G a11, (fun_mk (st := s_law_drawn) l11 c11 k11).binds fun _ _ _ _ _ _ us hl => match us, hl with | [_, _, _], _ => rfl⟩
    a_law_size := ⟨f12, _, fun_mk (st := s_law_size) l12 c12 k12, PySem.W.mg_of X G a12, (fun_mk (st := s_law_size) l12 c12 k12).binds fun _ _ _ _ _ _ us hl => match us, hl with | [_], _ => rfl⟩
    a_law_sets := ⟨f13, _, fun_mk (st := s_law_sets) l13 c13 k13, PySem.W.mg_of X G a13, (fun_mk (st := s_law_sets) l13 c13 k13).binds fun _ _ _ _ _ _ us hl => match us, hl with | [_], _ => rfl⟩
    a_law_plain := ⟨f14, _, fun_mk (st := s_law_plain) l14 c14 k14, PySem.W.mg_of X G a14, (fun_mk (st := s_law_plain) l14 c14 k14).binds fun _ _ _ _ _ _ us hl => match us, hl with | [_, _, _], _ => rfl⟩
    a_law_new_place := ⟨f15, _, fun_mk (st := s_law_new_place) l15 c15 k15, PySem.W.mg_of X G a15, (fun_mk (st := s_law_new_place) l15 c15 k15).binds fun _ _ _ _ _ _ us hl => match us, hl with | [_], _ => rfl⟩
    a_law_way := ⟨f16, _, fun_mk (st := s_law_way) l16 c16 k16, PySem.W.mg_of X G a16, (fun_mk (st := s_law_way) l16 c16 k16).binds fun _ _ _ _ _ _ us hl => match us, hl with | [_, _, _, _], _ => rfl⟩
    a_law_lay := ⟨f17, _, fun_mk (st := s_law_lay) l17 c17 k17, PySem.W.mg_of X G a17, (fun_mk (st := s_law_lay) l17 c17 k17).binds fun _ _ _ _ _ _ us hl => match us, hl with | [_, _, _], _ => rfl⟩
    a_law_spread := ⟨f18, _, fun_mk (st := s_law_spread) l18 c18 k18, PySem.W.mg_of X G a18, (fun_mk (st := s_law_spread) l18 c18 k18).binds fun _ _ _ _ _ _ us hl => match us, hl with | [_, _], _ => rfl⟩
    a_law_machine := ⟨f19, _, fun_mk (st := s_law_machine) l19 c19 k19, PySem.W.mg_of X G a19, (fun_mk (st := s_law_machine) l19 c19 k19).binds fun _ _ _ _ _ _ us hl => match us, hl with | [_, _], _ => rfl⟩
    a_law_least_machine := ⟨f20, _, fun_mk (st := s_law_least_machine) l20 c20 k20, PySem.W.mg_of X G a20, (fun_mk (st := s_law_least_machine) l20 c20 k20).binds fun _ _ _ _ _ _ us hl => match us, hl with | [_, _], _ => rfl⟩
    a_law_least := ⟨f21, _, fun_mk (st := s_law_least) l21 c21 k21, PySem.W.mg_of X G a21, (fun_mk (st := s_law_least) l21 c21 k21).binds fun _ _ _ _ _ _ us hl => match us, hl with | [_], _ => rfl⟩
    a_law_table_of := ⟨f22, _, fun_mk (st := s_law_table_of) l22 c22 k22, PySem.W.mg_of X G a22, (fun_mk (st := s_law_table_of) l22 c22 k22).binds fun _ _ _ _ _ _ us hl => match us, hl with | [_, _], _ => rfl⟩
    a_law_table := ⟨f23, _, fun_mk (st := s_law_table) l23 c23 k23, PySem.W.mg_of X G a23, (fun_mk (st := s_law_table) l23 c23 k23).binds fun _ _ _ _ _ _ us hl => match us, hl with | [_, _, _], _ => rfl⟩
    a_law_either_table := ⟨f24, _, fun_mk (st := s_law_either_table) l24 c24 k24, PySem.W.mg_of X G a24, (fun_mk (st := s_law_either_table) l24 c24 k24).binds fun _ _ _ _ _ _ us hl => match us, hl with | [_, _, _], _ => rfl⟩
    a_law_behind := ⟨f25, _, fun_mk (st := s_law_behind) l25 c25 k25, PySem.W.mg_of X G a25, (fun_mk (st := s_law_behind) l25 c25 k25).binds fun _ _ _ _ _ _ us hl => match us, hl with | [_, _, _], _ => rfl⟩
    a_law_left_counts := ⟨f26, _, fun_mk (st := s_law_left_counts) l26 c26 k26, PySem.W.mg_of X G a26, (fun_mk (st := s_law_left_counts) l26 c26 k26).binds fun _ _ _ _ _ _ us hl => match us, hl with | [_, _], _ => rfl⟩
    a_law_nth := ⟨f27, _, fun_mk (st := s_law_nth) l27 c27 k27, PySem.W.mg_of X G a27, (fun_mk (st := s_law_nth) l27 c27 k27).binds fun _ _ _ _ _ _ us hl => match us, hl with | [_, _, _], _ => rfl⟩
    a_law_wheel := ⟨f28, _, fun_mk (st := s_law_wheel) l28 c28 k28, PySem.W.mg_of X G a28, (fun_mk (st := s_law_wheel) l28 c28 k28).binds fun _ _ _ _ _ _ us hl => match us, hl with | [_, _, _], _ => rfl⟩
    a_law_blown := ⟨f29, _, fun_mk (st := s_law_blown) l29 c29 k29, PySem.W.mg_of X G a29, (fun_mk (st := s_law_blown) l29 c29 k29).binds fun _ _ _ _ _ _ us hl => match us, hl with | [_, _, _], _ => rfl⟩
    a_law_small_table := ⟨f30, _, fun_mk (st := s_law_small_table) l30 c30 k30, PySem.W.mg_of X G a30, (fun_mk (st := s_law_small_table) l30 c30 k30).binds fun _ _ _ _ _ _ us hl => match us, hl with | [_, _, _], _ => rfl⟩
    a_law_pumped := ⟨f31, _, fun_mk (st := s_law_pumped) l31 c31 k31, PySem.W.mg_of X G a31, (fun_mk (st := s_law_pumped) l31 c31 k31).binds fun _ _ _ _ _ _ us hl => match us, hl with | [_, _], _ => rfl⟩
    a_law_fitting_texts := ⟨f32, _, fun_mk (st := s_law_fitting_texts) l32 c32 k32, PySem.W.mg_of X G a32, (fun_mk (st := s_law_fitting_texts) l32 c32 k32).binds fun _ _ _ _ _ _ us hl => match us, hl with | [_, _, _], _ => rfl⟩
    alaw := ⟨f33, _, fun_mk (st := slaw) l33 c33 k33, PySem.W.mg_of X G a33, (fun_mk (st := slaw) l33 c33 k33).binds fun _ _ _ _ _ _ us hl => match us, hl with | [_], _ => rfl, fun s v => .of_eq rfl⟩
  }, {
    bool := PySem.W.mg_none_of X G z0
    enumerate := PySem.W.mg_none_of X G z1
    int := PySem.W.mg_none_of X G z2
    isinstance := PySem.W.mg_none_of X G z3
    len := PySem.W.mg_none_of X G z4
    list := PySem.W.mg_none_of X G z5
    max := PySem.W.mg_none_of X G z6
    min := PySem.W.mg_none_of X G z7
    range := PySem.W.mg_none_of X G z8
    reversed := PySem.W.mg_none_of X G z9
    set := PySem.W.mg_none_of X G z10
    sorted := PySem.W.mg_none_of X G z11
    str := PySem.W.mg_none_of X G z12
    sum := PySem.W.mg_none_of X G z13
    tuple := PySem.W.mg_none_of X G z14
  }⟩
theorem cw_lines : True := trivial
theorem fn_all {P : Program} {wd : World} {K : PySem.W.Frag} {mg : Str → Option Value} {fa : Addr} (hfa : mg "law" = some (.ref fa)) (AB : Tops K mg ∧ Blt mg) :
    ∃ fd : FuncData, (∀ (s : Shared) (u : Value), BindsTo s fd ⟨[u], []⟩ [("script", u)]) ∧ ∀ base : Heap, K.In base → base.Ns mainGlobals mg → FnOk P wd K mg base CX0 200 fa fd ["script"] (spLaw K) := by
  obtain ⟨A, B⟩ := AB
  obtain ⟨f, fd, F, hm, hb, hb1⟩ := A.alaw
  have e := hfa.symm.trans hm
  cases e
  exact ⟨fd, hb1, fun base _ _ => law_imp math (oklaw (n := 199) (tab A B 199) B F)⟩
end Mm
open PySem PySem.W PyProof.Rows
set_option maxRecDepth 100000 in
set_option maxHeartbeats 0 in
theorem PySem.Challenge.cw_patternsfound_k53_pumped_texts_holds : PySem.Challenge.rw_patternsfound_k53_pumped_texts.Holds := by
  w_on; o_law; k_head; (case hw => w_witness2)
  k_fill
  refine L2.walk_ofK (n := 63) (k := 200) (x := "script") (CX := L2.CX0) (sp := Mm.spLaw) (l := PySem.Challenge.rw_patternsfound_k53_pumped_texts) rfl (by decide) rfl ⟨rfl, by decide, by decide⟩ (fun w h Y => PySem.W.kIn_of Y) ?F (fun K H a ns hl _ hS => ⟨a, ns, rfl, hS, hl, fun _ => rfl⟩) (fun _ _ _ _ z => z)
  case F =>
    intro w mg fa h KX G hmg
    refine' Mm.fn_all hmg (Mm.all_mk KX G ?a0 ?l0 ?c0 ?k0 ?a1 ?l1 ?c1 ?k1 ?a2 ?l2 ?c2 ?k2 ?a3 ?l3 ?c3 ?k3 ?a4 ?l4 ?c4 ?k4 ?a5 ?l5 ?c5 ?k5 ?a6 ?l6 ?c6 ?k6 ?a7 ?l7 ?c7 ?k7 ?a8 ?l8 ?c8 ?k8 ?a9 ?l9 ?c9 ?k9 ?a10 ?l10 ?c10 ?k10 ?a11 ?l11 ?c11 ?k11 ?a12 ?l12 ?c12 ?k12 ?a13 ?l13 ?c13 ?k13 ?a14 ?l14 ?c14 ?k14 ?a15 ?l15 ?c15 ?k15 ?a16 ?l16 ?c16 ?k16 ?a17 ?l17 ?c17 ?k17 ?a18 ?l18 ?c18 ?k18 ?a19 ?l19 ?c19 ?k19 ?a20 ?l20 ?c20 ?k20 ?a21 ?l21 ?c21 ?k21 ?a22 ?l22 ?c22 ?k22 ?a23 ?l23 ?c23 ?k23 ?a24 ?l24 ?c24 ?k24 ?a25 ?l25 ?c25 ?k25 ?a26 ?l26 ?c26 ?k26 ?a27 ?l27 ?c27 ?k27 ?a28 ?l28 ?c28 ?k28 ?a29 ?l29 ?c29 ?k29 ?a30 ?l30 ?c30 ?k30 ?a31 ?l31 ?c31 ?k31 ?a32 ?l32 ?c32 ?k32 ?a33 ?l33 ?c33 ?k33 ?z0 ?z1 ?z2 ?z3 ?z4 ?z5 ?z6 ?z7 ?z8 ?z9 ?z10 ?z11 ?z12 ?z13 ?z14)
    (case a0 => k_is)
    (case l0 => k_is)
    (case c0 => k_is)
    (case k0 => k_is)
    (case a1 => k_is)
    (case l1 => k_is)
    (case c1 => k_is)
    (case k1 => k_is)
    (case a2 => k_is)
    (case l2 => k_is)
    (case c2 => k_is)
    (case k2 => k_is)
    (case a3 => k_is)
    (case l3 => k_is)
    (case c3 => k_is)
    (case k3 => k_is)
    (case a4 => k_is)
    (case l4 => k_is)
    (case c4 => k_is)
    (case k4 => k_is)
    (case a5 => k_is)
    (case l5 => k_is)
    (case c5 => k_is)
    (case k5 => k_is)
    (case a6 => k_is)
    (case l6 => k_is)
    (case c6 => k_is)
    (case k6 => k_is)
    (case a7 => k_is)
    (case l7 => k_is)
    (case c7 => k_is)
    (case k7 => k_is)
    (case a8 => k_is)
    (case l8 => k_is)
    (case c8 => k_is)
    (case k8 => k_is)
    (case a9 => k_is)
    (case l9 => k_is)
    (case c9 => k_is)
    (case k9 => k_is)
    (case a10 => k_is)
    (case l10 => k_is)
    (case c10 => k_is)
    (case k10 => k_is)
    (case a11 => k_is)
    (case l11 => k_is)
    (case c11 => k_is)
    (case k11 => k_is)
    (case a12 => k_is)
    (case l12 => k_is)
    (case c12 => k_is)
    (case k12 => k_is)
    (case a13 => k_is)
    (case l13 => k_is)
    (case c13 => k_is)
    (case k13 => k_is)
    (case a14 => k_is)
    (case l14 => k_is)
    (case c14 => k_is)
    (case k14 => k_is)
    (case a15 => k_is)
    (case l15 => k_is)
    (case c15 => k_is)
    (case k15 => k_is)
    (case a16 => k_is)
    (case l16 => k_is)
    (case c16 => k_is)
    (case k16 => k_is)
    (case a17 => k_is)
    (case l17 => k_is)
    (case c17 => k_is)
    (case k17 => k_is)
    (case a18 => k_is)
    (case l18 => k_is)
    (case c18 => k_is)
    (case k18 => k_is)
    (case a19 => k_is)
    (case l19 => k_is)
    (case c19 => k_is)
    (case k19 => k_is)
    (case a20 => k_is)
    (case l20 => k_is)
    (case c20 => k_is)
    (case k20 => k_is)
    (case a21 => k_is)
    (case l21 => k_is)
    (case c21 => k_is)
    (case k21 => k_is)
    (case a22 => k_is)
    (case l22 => k_is)
    (case c22 => k_is)
    (case k22 => k_is)
    (case a23 => k_is)
    (case l23 => k_is)
    (case c23 => k_is)
    (case k23 => k_is)
    (case a24 => k_is)
    (case l24 => k_is)
    (case c24 => k_is)
    (case k24 => k_is)
    (case a25 => k_is)
    (case l25 => k_is)
    (case c25 => k_is)
    (case k25 => k_is)
    (case a26 => k_is)
    (case l26 => k_is)
    (case c26 => k_is)
    (case k26 => k_is)
    (case a27 => k_is)
    (case l27 => k_is)
    (case c27 => k_is)
    (case k27 => k_is)
    (case a28 => k_is)
    (case l28 => k_is)
    (case c28 => k_is)
    (case k28 => k_is)
    (case a29 => k_is)
    (case l29 => k_is)
    (case c29 => k_is)
    (case k29 => k_is)
    (case a30 => k_is)
    (case l30 => k_is)
    (case c30 => k_is)
    (case k30 => k_is)
    (case a31 => k_is)
    (case l31 => k_is)
    (case c31 => k_is)
    (case k31 => k_is)
    (case a32 => k_is)
    (case l32 => k_is)
    (case c32 => k_is)
    (case k32 => k_is)
    (case a33 => k_is)
    (case l33 => k_is)
    (case c33 => k_is)
    (case k33 => k_is)
    (case z0 => k_is)
    (case z1 => k_is)
    (case z2 => k_is)
    (case z3 => k_is)
    (case z4 => k_is)
    (case z5 => k_is)
    (case z6 => k_is)
    (case z7 => k_is)
    (case z8 => k_is)
    (case z9 => k_is)
    (case z10 => k_is)
    (case z11 => k_is)
    (case z12 => k_is)
    (case z13 => k_is)
    (case z14 => k_is)
