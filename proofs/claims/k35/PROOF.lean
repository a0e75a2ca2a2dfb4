import PyProof.Rows.All
import Wide.All
import OpenK.AllK
import Wide.FinOn
import HandS.ForMost
import HandS.Wide
import HandS.IsInst
import HandS.Zip
import HandS.TupAny
import HandS.TupMul
import HandS.More
import PyProof.ReprRoads
import PyProof.ReprLen
import HandS.EndBits
import HandS.TupLe
import HandS.Walk
import HandS.Style
import KE.GoesMore
import HandS.Deep
import PySem.Challenge.RW_fairflows_k35_senders_walked
set_option Elab.async false
set_option linter.all false
set_option maxRecDepth 100000
set_option maxHeartbeats 4000000
/-! Core: data trees over the hand layer, and what a text does to them. -/
namespace L3
open PySem PySem.Spec PyProof.Rows L2

/-! ### data -/
inductive D where
  | non | bl (b : Bool) | int (i : Int) | str (s : Str)
  | lst (xs : List D) | tup (xs : List D) | dct (kvs : List (Key × D))
  | ext (φ : Addr → Heap → Prop)

mutual
inductive Rep (K : PySem.W.Frag) (H : Hp) : V → D → Prop
  | non : Rep K H .non .non
  | bl (b : Bool) : Rep K H (.bl b) (.bl b)
  | int (i : Int) : Rep K H (.int i) (.int i)
  | str (x : Str) : Rep K H (.str x) (.str x)
  | lst {a : Addr} {xs : List V} {ds : List D} : SqL K H a xs → RepAll K H xs ds → Rep K H (.ref a) (.lst ds)
  | tup {a : Addr} {xs : List V} {ds : List D} : SqT K H a xs → RepAll K H xs ds → Rep K H (.ref a) (.tup ds)
  | dct {a : Addr} {kvs : List (Key × V)} {ds : List (Key × D)} : Rd H a (.dK kvs) → RepKV K H kvs ds → Rep K H (.ref a) (.dct ds)
  | ext {a : Addr} {φ : Addr → Heap → Prop} : H a = some (.ext (φ a)) → Rep K H (.ref a) (.ext φ)
inductive RepAll (K : PySem.W.Frag) (H : Hp) : List V → List D → Prop
  | nil : RepAll K H [] []
  | cons {v : V} {vs : List V} {d : D} {ds : List D} : Rep K H v d → RepAll K H vs ds → RepAll K H (v :: vs) (d :: ds)
inductive RepKV (K : PySem.W.Frag) (H : Hp) : List (Key × V) → List (Key × D) → Prop
  | nil : RepKV K H [] []
  | cons {k : Key} {v : V} {vs : List (Key × V)} {d : D} {ds : List (Key × D)} : Rep K H v d → RepKV K H vs ds → RepKV K H ((k, v) :: vs) ((k, d) :: ds)
end

/-- all that is tracked stays -/
abbrev Ex (H H' : Hp) : Prop := ∀ a o, H a = some o → H' a = some o
theorem Ex.refl {H : Hp} : Ex H H := fun _ _ h => h
theorem Ex.trans {H H1 H2 : Hp} (a : Ex H H1) (b : Ex H1 H2) : Ex H H2 := fun x o h => b x o (a x o h)
theorem Ex.new {H : Hp} {p : Addr} {o : HO} (h : H p = none) : Ex H (upd H p o) := fun a u e => by
  rw [upd_ne (ne_of_none e h)]
  exact e
theorem Ex.mut {H H' : Hp} {p : Addr} {o : HO} (e : Ex H H') (h : H p = none) : Ex H (upd H' p o) := fun a u ha => by
  rw [upd_ne (ne_of_none ha h)]
  exact e a u ha
theorem Ex.free {H H' : Hp} {p : Addr} (e : Ex H H') (h : H' p = none) : H p = none := by
  cases h1 : H p with
  | none => rfl
  | some o => rw [e p o h1] at h; cases h
theorem Rd.ex {H H' : Hp} {a : Addr} {u : HO} (e : Ex H H') (h : Rd H a u) : Rd H' a u := by
  rcases h with h | ⟨o, h⟩
  · exact .inl (e a _ h)
  · exact .inr ⟨o, e a _ h⟩
theorem SqL.ex {K : PySem.W.Frag} {H H' : Hp} {a : Addr} {xs : List V} (e : Ex H H') (h : SqL K H a xs) : SqL K H' a xs := by
  rcases h with h | h
  · exact .inl (Rd.ex e h)
  · exact .inr h
theorem SqT.ex {K : PySem.W.Frag} {H H' : Hp} {a : Addr} {xs : List V} (e : Ex H H') (h : SqT K H a xs) : SqT K H' a xs := by
  rcases h with h | h
  · exact .inl (Rd.ex e h)
  · exact .inr h
mutual
theorem Rep.ex {K : PySem.W.Frag} {H H' : Hp} (e : Ex H H') : ∀ {v : V} {d : D}, Rep K H v d → Rep K H' v d
  | _, _, .non => .non
  | _, _, .bl b => .bl b
  | _, _, .int i => .int i
  | _, _, .str x => .str x
  | _, _, .lst h r => .lst (SqL.ex e h) (RepAll.ex e r)
  | _, _, .tup h r => .tup (SqT.ex e h) (RepAll.ex e r)
  | _, _, .dct h r => .dct (Rd.ex e h) (RepKV.ex e r)
  | _, _, .ext h => .ext (e _ _ h)
theorem RepAll.ex {K : PySem.W.Frag} {H H' : Hp} (e : Ex H H') : ∀ {vs : List V} {ds : List D}, RepAll K H vs ds → RepAll K H' vs ds
  | _, _, .nil => .nil
  | _, _, .cons h r => .cons (Rep.ex e h) (RepAll.ex e r)
theorem RepKV.ex {K : PySem.W.Frag} {H H' : Hp} (e : Ex H H') : ∀ {vs : List (Key × V)} {ds : List (Key × D)}, RepKV K H vs ds → RepKV K H' vs ds
  | _, _, .nil => .nil
  | _, _, .cons h r => .cons (Rep.ex e h) (RepKV.ex e r)
end

mutual
/-- tuples and simple things alone -/
def D.flat : D → Bool
  | .non | .bl _ | .int _ | .str _ => true
  | .tup xs => flatAll xs
  | _ => false
def D.flatAll : List D → Bool
  | [] => true
  | x :: xs => D.flat x && D.flatAll xs
end
/-- a heap without some lists -/
def hide (H : Hp) (ps : List Addr) : Hp := fun a => if a ∈ ps then none else H a
theorem hide_in {H : Hp} {ps : List Addr} {a : Addr} (h : a ∈ ps) : hide H ps a = none := if_pos h
theorem hide_out {H : Hp} {ps : List Addr} {a : Addr} (h : a ∉ ps) : hide H ps a = H a := if_neg h
theorem hide_ex {H : Hp} {ps : List Addr} : Ex (hide H ps) H := fun a o h => by
  by_cases z : a ∈ ps
  · rw [hide_in z] at h; cases h
  · rw [hide_out z] at h; exact h
def Lsts (H : Hp) (ps : List Addr) : Prop := ∀ p ∈ ps, ∃ xs, H p = some (.lst xs)
theorem SqT.hide {K : PySem.W.Frag} {H : Hp} {ps : List Addr} (hl : Lsts H ps) {a : Addr} {xs : List V} (h : SqT K H a xs) : SqT K (hide H ps) a xs := by
  have nin : ∀ o, H a = some o → (∀ ys, o ≠ .lst ys) → a ∉ ps := fun o e n z => by
    obtain ⟨ys, q⟩ := hl a z
    rw [e] at q
    exact n ys (Option.some.inj q)
  rcases h with (h | ⟨o, h⟩) | h
  · exact .inl (.inl (by rw [hide_out (nin _ h fun _ z => nomatch z)]; exact h))
  · exact .inl (.inr ⟨o, by rw [hide_out (nin _ h fun _ z => nomatch z)]; exact h⟩)
  · exact .inr h
mutual
theorem Rep.hide {K : PySem.W.Frag} {H : Hp} {ps : List Addr} (hl : Lsts H ps) : ∀ {v : V} {d : D}, Rep K H v d → d.flat = true → Rep K (hide H ps) v d
  | _, _, .non, _ => .non
  | _, _, .bl b, _ => .bl b
  | _, _, .int i, _ => .int i
  | _, _, .str x, _ => .str x
  | _, _, .lst h r, f => by simp [D.flat] at f
  | _, _, .tup h r, f => .tup (SqT.hide hl h) (RepAll.hide hl r (by simpa [D.flat] using f))
  | _, _, .dct h r, f => by simp [D.flat] at f
  | _, _, .ext h, f => by simp [D.flat] at f
theorem RepAll.hide {K : PySem.W.Frag} {H : Hp} {ps : List Addr} (hl : Lsts H ps) : ∀ {vs : List V} {ds : List D}, RepAll K H vs ds → D.flatAll ds = true → RepAll K (hide H ps) vs ds
  | _, _, .nil, _ => .nil
  | _, _, .cons h r, f => by
    obtain ⟨f1, f2⟩ := Bool.and_eq_true_iff.mp (show (D.flat _ && D.flatAll _) = true from f)
    exact .cons (Rep.hide hl h f1) (RepAll.hide hl r f2)
end
theorem RepAll.length {K : PySem.W.Frag} {H : Hp} : ∀ {vs : List V} {ds : List D}, RepAll K H vs ds → vs.length = ds.length
  | _, _, .nil => rfl
  | _, _, .cons _ r => congrArg (· + 1) (RepAll.length r)
theorem RepAll.append {K : PySem.W.Frag} {H : Hp} : ∀ {vs ws : List V} {ds es : List D}, RepAll K H vs ds → RepAll K H ws es → RepAll K H (vs ++ ws) (ds ++ es)
  | _, _, _, _, .nil, s => s
  | _, _, _, _, .cons h r, s => .cons h (RepAll.append r s)
theorem RepAll.get {K : PySem.W.Frag} {H : Hp} : ∀ {vs : List V} {ds : List D} {i : Nat} {d : D}, RepAll K H vs ds → ds[i]? = some d → ∃ v, vs[i]? = some v ∧ Rep K H v d
  | _, _, _, _, .nil, e => by simp at e
  | _, _, 0, _, .cons h _, e => by simp at e; subst e; exact ⟨_, rfl, h⟩
  | _, _, i + 1, d, .cons _ r, e => by
    obtain ⟨v, h1, h2⟩ := RepAll.get (i := i) (d := d) r (by simpa using e)
    exact ⟨v, by simpa using h1, h2⟩
theorem RepAll.get' {K : PySem.W.Frag} {H : Hp} : ∀ {vs : List V} {ds : List D} {i : Nat} {v : V}, RepAll K H vs ds → vs[i]? = some v → ∃ d, ds[i]? = some d ∧ Rep K H v d
  | _, _, _, _, .nil, e => by simp at e
  | _, _, 0, _, .cons h _, e => by simp at e; subst e; exact ⟨_, rfl, h⟩
  | _, _, i + 1, v, .cons _ r, e => by
    obtain ⟨d, h1, h2⟩ := RepAll.get' (i := i) (v := v) r (by simpa using e)
    exact ⟨d, by simpa using h1, h2⟩
theorem RepAll.take {K : PySem.W.Frag} {H : Hp} : ∀ {vs : List V} {ds : List D} (n : Nat), RepAll K H vs ds → RepAll K H (vs.take n) (ds.take n)
  | _, _, 0, _ => .nil
  | _, _, _ + 1, .nil => .nil
  | _, _, n + 1, .cons h r => .cons h (RepAll.take n r)
theorem RepAll.drop {K : PySem.W.Frag} {H : Hp} : ∀ {vs : List V} {ds : List D} (n : Nat), RepAll K H vs ds → RepAll K H (vs.drop n) (ds.drop n)
  | _, _, 0, r => r
  | _, _, _ + 1, .nil => .nil
  | _, _, n + 1, .cons _ r => RepAll.drop n r
theorem RepAll.set {K : PySem.W.Frag} {H : Hp} {v : V} {d : D} (h : Rep K H v d) : ∀ {vs : List V} {ds : List D} (i : Nat), RepAll K H vs ds → RepAll K H (vs.set i v) (ds.set i d)
  | _, _, _, .nil => .nil
  | _, _, 0, .cons _ r => .cons h r
  | _, _, i + 1, .cons q r => .cons q (RepAll.set h i r)
theorem RepAll.eraseIdx {K : PySem.W.Frag} {H : Hp} : ∀ {vs : List V} {ds : List D} (i : Nat), RepAll K H vs ds → RepAll K H (vs.eraseIdx i) (ds.eraseIdx i)
  | _, _, _, .nil => .nil
  | _, _, 0, .cons _ r => r
  | _, _, i + 1, .cons q r => .cons q (RepAll.eraseIdx i r)
theorem RepAll.ints {K : PySem.W.Frag} {H : Hp} : ∀ {vs : List V} {ns : List Int}, RepAll K H vs (ns.map D.int) → vs = ns.map V.int
  | _, [], .nil => rfl
  | _, n :: ns, .cons (.int _) r => congrArg (V.int n :: ·) (RepAll.ints r)
theorem repAll_ints {K : PySem.W.Frag} {H : Hp} : ∀ ns : List Int, RepAll K H (ns.map V.int) (ns.map D.int)
  | [] => .nil
  | n :: ns => .cons (.int n) (repAll_ints ns)
theorem RepAll.bls {K : PySem.W.Frag} {H : Hp} : ∀ {vs : List V} {ns : List Bool}, RepAll K H vs (ns.map D.bl) → vs = ns.map V.bl
  | _, [], .nil => rfl
  | _, n :: ns, .cons (.bl _) r => congrArg (V.bl n :: ·) (RepAll.bls r)

/-! ### the slots -/
inductive Ent where
  | any
  | dat (d : D)
  | own (p : Addr) (ds : List D)
def EntOk (K : PySem.W.Frag) (Hz H : Hp) : Ent → Option V → Prop
  | .any, _ => True
  | .dat d, o => ∃ v, o = some v ∧ Rep K Hz v d
  | .own p ds, o => o = some (.ref p) ∧ Hz p = none ∧ ∃ vs, H p = some (.lst vs) ∧ RepAll K Hz vs ds
abbrev Slots := List Ent
def owns : Slots → List Addr
  | [] => []
  | .own p _ :: r => p :: owns r
  | _ :: r => owns r
/-- the slots σ hold what Γ says; all that stood in Hb stands -/
def EnvOk (K : PySem.W.Frag) (Hb : Hp) (Γ : Slots) (σ : L2.St) (H : Hp) : Prop :=
  ∃ Hz : Hp, Ex Hb Hz ∧ Ex Hz H ∧ Paired (EntOk K Hz H) Γ σ ∧ (owns Γ).Nodup
section
variable {K : PySem.W.Frag} {Hb Hz H H' : Hp} {Γ : Slots} {σ : L2.St}
theorem Paired.getE {α β : Type} {F : α → β → Prop} : ∀ {l₁ : List α} {l₂ : List β} {i : Nat} {a : α}, Paired F l₁ l₂ → l₁[i]? = some a → ∃ b, l₂[i]? = some b ∧ F a b
  | _, _, _, _, .nil, e => by simp at e
  | _, _, 0, _, .cons h _, e => by simp at e; subst e; exact ⟨_, rfl, h⟩
  | _, _, i + 1, a, .cons _ r, e => by
    obtain ⟨b, h1, h2⟩ := Paired.getE (i := i) (a := a) r (by simpa using e)
    exact ⟨b, by simpa using h1, h2⟩
theorem Paired.setE {α β : Type} {F : α → β → Prop} {a : α} {b : β} (h : F a b) : ∀ {l₁ : List α} {l₂ : List β} (i : Nat), Paired F l₁ l₂ → Paired F (l₁.set i a) (l₂.set i b)
  | _, _, _, .nil => .nil
  | _, _, 0, .cons _ r => .cons h r
  | _, _, i + 1, .cons q r => .cons q (Paired.setE h i r)
theorem Paired.setL {α β : Type} {F : α → β → Prop} {a : α} (h : ∀ b, F a b) : ∀ {l₁ : List α} {l₂ : List β} (i : Nat), Paired F l₁ l₂ → Paired F (l₁.set i a) l₂
  | _, _, _, .nil => .nil
  | _, _, 0, .cons _ r => .cons (h _) r
  | _, _, i + 1, .cons q r => .cons q (Paired.setL h i r)
theorem mem_owns : ∀ {Γ : Slots} {p : Addr}, p ∈ owns Γ → ∃ (i : Nat) (ds : List D), Γ[i]? = some (.own p ds)
  | [], _, h => by simp [owns] at h
  | .own q ds :: r, p, h => by
    rcases List.mem_cons.mp h with e | h
    · exact ⟨0, ds, by rw [e]; rfl⟩
    · obtain ⟨i, ds', q⟩ := mem_owns h
      exact ⟨i + 1, ds', q⟩
  | .any :: r, p, h => by
    obtain ⟨i, ds', q⟩ := mem_owns (Γ := r) h
    exact ⟨i + 1, ds', q⟩
  | .dat d :: r, p, h => by
    obtain ⟨i, ds', q⟩ := mem_owns (Γ := r) h
    exact ⟨i + 1, ds', q⟩
theorem owns_of : ∀ {Γ : Slots} {i : Nat} {p : Addr} {ds : List D}, Γ[i]? = some (.own p ds) → p ∈ owns Γ
  | [], _, _, _, h => by simp at h
  | e :: r, 0, p, ds, h => by
    simp at h; subst h
    exact List.mem_cons_self
  | .own q _ :: r, i + 1, p, ds, h => List.mem_cons_of_mem _ (owns_of (Γ := r) (i := i) (by simpa using h))
  | .any :: r, i + 1, p, ds, h => owns_of (Γ := r) (i := i) (by simpa using h)
  | .dat d :: r, i + 1, p, ds, h => owns_of (Γ := r) (i := i) (by simpa using h)
theorem owns_lsts (h : Paired (EntOk K Hz H) Γ σ) : Lsts H (owns Γ) := fun p hp => by
  obtain ⟨i, ds, e⟩ := mem_owns hp
  obtain ⟨o, _, _, _, vs, q, _⟩ := Paired.getE h e
  exact ⟨vs, q⟩
theorem owns_free (h : Paired (EntOk K Hz H) Γ σ) : ∀ p ∈ owns Γ, Hz p = none := fun p hp => by
  obtain ⟨i, ds, e⟩ := mem_owns hp
  obtain ⟨o, _, _, q, _⟩ := Paired.getE h e
  exact q
/-- the frozen part grows, the lists stay -/
theorem EntOk.grow {Hz' : Hp} (ez : Ex Hz Hz') (eh : ∀ p vs, H p = some (.lst vs) → Hz p = none → H' p = some (.lst vs) ∧ Hz' p = none) : ∀ {e : Ent} {o : Option V}, EntOk K Hz H e o → EntOk K Hz' H' e o
  | .any, _, _ => trivial
  | .dat _, _, ⟨v, e, r⟩ => ⟨v, e, r.ex ez⟩
  | .own _ _, _, ⟨e, n, vs, q, r⟩ => ⟨e, (eh _ _ q n).2, vs, (eh _ _ q n).1, r.ex ez⟩
theorem Paired.mapE {α β : Type} {F G : α → β → Prop} : ∀ {l₁ : List α} {l₂ : List β}, Paired F l₁ l₂ → (∀ a b, a ∈ l₁ → F a b → G a b) → Paired G l₁ l₂
  | _, _, .nil, _ => .nil
  | _, _, .cons h r, f => .cons (f _ _ List.mem_cons_self h) (Paired.mapE r fun a b m => f a b (List.mem_cons_of_mem _ m))
theorem EnvOk.ex (h : EnvOk K Hb Γ σ H) (e : Ex H H') : EnvOk K Hb Γ σ H' := by
  obtain ⟨Hz, h1, h2, h3, h4⟩ := h
  refine ⟨Hz, h1, h2.trans e, Paired.mapE h3 fun a b _ q => q.grow Ex.refl fun p vs q1 q2 => ⟨e _ _ q1, q2⟩, h4⟩
theorem EnvOk.base (h : EnvOk K Hb Γ σ H) : Ex Hb H := let ⟨_, h1, h2, _⟩ := h; h1.trans h2
theorem EnvOk.dat {i : Nat} {d : D} (h : EnvOk K Hb Γ σ H) (e : Γ[i]? = some (.dat d)) : ∃ v, σ[i]? = some (some v) ∧ Rep K H v d := by
  obtain ⟨Hz, h1, h2, h3, h4⟩ := h
  obtain ⟨o, q, v, rfl, r⟩ := Paired.getE h3 e
  exact ⟨v, q, r.ex h2⟩
theorem EnvOk.own {i : Nat} {p : Addr} {ds : List D} (h : EnvOk K Hb Γ σ H) (e : Γ[i]? = some (.own p ds)) : σ[i]? = some (some (.ref p)) ∧ Hb p = none ∧ ∃ vs, H p = some (.lst vs) ∧ RepAll K H vs ds := by
  obtain ⟨Hz, h1, h2, h3, h4⟩ := h
  obtain ⟨o, q, rfl, n, vs, q2, r⟩ := Paired.getE h3 e
  exact ⟨q, h1.free n, vs, q2, r.ex h2⟩
/-- what may be stored as frozen -/
def Sto (Γ : Slots) (d : D) : Prop := d.flat = true ∨ owns Γ = []
theorem owns_set_sub : ∀ {Γ : Slots} {i : Nat} {e : Ent} (he : ∀ p ds, e ≠ .own p ds), (owns (Γ.set i e)).Sublist (owns Γ)
  | [], _, _, _ => List.Sublist.refl _
  | .own q _ :: r, 0, e, he => by
    cases e with
    | own p ds => exact absurd rfl (he p ds)
    | any => exact List.sublist_cons_self _ _
    | dat d => exact List.sublist_cons_self _ _
  | .any :: r, 0, e, he => by
    cases e with
    | own p ds => exact absurd rfl (he p ds)
    | any => exact List.Sublist.refl _
    | dat d => exact List.Sublist.refl _
  | .dat _ :: r, 0, e, he => by
    cases e with
    | own p ds => exact absurd rfl (he p ds)
    | any => exact List.Sublist.refl _
    | dat d => exact List.Sublist.refl _
  | .own q _ :: r, i + 1, e, he => (owns_set_sub (Γ := r) (i := i) he).cons₂ q
  | .any :: r, i + 1, e, he => owns_set_sub (Γ := r) (i := i) he
  | .dat _ :: r, i + 1, e, he => owns_set_sub (Γ := r) (i := i) he
/-- the frozen part taken as large as may be -/
theorem EnvOk.wide (h : EnvOk K Hb Γ σ H) : Ex Hb (hide H (owns Γ)) ∧ Ex (hide H (owns Γ)) H ∧ Paired (EntOk K (hide H (owns Γ)) H) Γ σ ∧ (owns Γ).Nodup := by
  obtain ⟨Hz, h1, h2, h3, h4⟩ := h
  have fr := owns_free h3
  have ez : Ex Hz (hide H (owns Γ)) := fun a o e => by
    rw [hide_out fun z => by rw [fr a z] at e; cases e]
    exact h2 a o e
  refine ⟨h1.trans ez, hide_ex, Paired.mapE h3 fun a b m q => ?_, h4⟩
  cases a with
  | any => trivial
  | dat d => obtain ⟨v, e, r⟩ := q; exact ⟨v, e, r.ex ez⟩
  | own p ds =>
    obtain ⟨e, n, vs, q, r⟩ := q
    obtain ⟨i, hi, hm⟩ := List.mem_iff_getElem.mp m
    have hp : p ∈ owns Γ := owns_of (i := i) (ds := ds) (by rw [List.getElem?_eq_getElem hi, hm])
    exact ⟨e, hide_in hp, vs, q, r.ex ez⟩
theorem EnvOk.setDat {i : Nat} {v : V} {d : D} (h : EnvOk K Hb Γ σ H) (r : Rep K H v d) (s : Sto Γ d) : EnvOk K Hb (Γ.set i (.dat d)) (σ.set i (some v)) H := by
  obtain ⟨h1, h2, h3, h4⟩ := h.wide
  have r' : Rep K (hide H (owns Γ)) v d := by
    rcases s with f | e
    · exact r.hide (owns_lsts h3) f
    · have : hide H (owns Γ) = H := by
        funext a
        rw [e]
        exact hide_out (by simp)
      rw [this]
      exact r
  exact ⟨_, h1, h2, Paired.setE (show EntOk K _ H (.dat d) (some v) from ⟨v, rfl, r'⟩) i h3, List.Nodup.sublist (owns_set_sub fun _ _ z => nomatch z) h4⟩
theorem EnvOk.setAny {i : Nat} {o : Option V} (h : EnvOk K Hb Γ σ H) : EnvOk K Hb (Γ.set i .any) (σ.set i o) H := by
  obtain ⟨Hz, h1, h2, h3, h4⟩ := h
  exact ⟨_, h1, h2, Paired.setE (show EntOk K _ H .any o from trivial) i h3, List.Nodup.sublist (owns_set_sub fun _ _ z => nomatch z) h4⟩
theorem EnvOk.forget {i : Nat} (h : EnvOk K Hb Γ σ H) : EnvOk K Hb (Γ.set i .any) σ H := by
  obtain ⟨Hz, h1, h2, h3, h4⟩ := h
  exact ⟨_, h1, h2, Paired.setL (fun _ => trivial) i h3, List.Nodup.sublist (owns_set_sub fun _ _ z => nomatch z) h4⟩
theorem owns_set_own : ∀ {Γ : Slots} {i : Nat} {p : Addr} {ds : List D}, p ∉ owns Γ → (owns Γ).Nodup → (owns (Γ.set i (.own p ds))).Nodup ∧ ∀ q ∈ owns (Γ.set i (.own p ds)), q = p ∨ q ∈ owns Γ
  | [], _, _, _, _, h => ⟨h, fun q hq => .inr hq⟩
  | .own q _ :: r, 0, p, ds, hp, h => ⟨List.nodup_cons.mpr ⟨fun z => hp (List.mem_cons_of_mem _ z), (List.nodup_cons.mp h).2⟩, fun q hq => (List.mem_cons.mp hq).imp id fun z => List.mem_cons_of_mem _ z⟩
  | .any :: r, 0, p, ds, hp, h => ⟨List.nodup_cons.mpr ⟨hp, h⟩, fun q hq => List.mem_cons.mp hq⟩
  | .dat _ :: r, 0, p, ds, hp, h => ⟨List.nodup_cons.mpr ⟨hp, h⟩, fun q hq => List.mem_cons.mp hq⟩
  | .any :: r, i + 1, p, ds, hp, h => owns_set_own (Γ := r) (i := i) hp h
  | .dat _ :: r, i + 1, p, ds, hp, h => owns_set_own (Γ := r) (i := i) hp h
  | .own q es :: r, i + 1, p, ds, hp, h => by
    have hp' : p ≠ q ∧ p ∉ owns r := ⟨fun e => hp (e ▸ List.mem_cons_self), fun z => hp (List.mem_cons_of_mem _ z)⟩
    have h' := List.nodup_cons.mp h
    obtain ⟨a, b⟩ := owns_set_own (Γ := r) (i := i) (ds := ds) hp'.2 h'.2
    refine ⟨List.nodup_cons.mpr ⟨fun z => ?_, a⟩, fun x hx => ?_⟩
    · rcases b q z with e | e
      · exact hp'.1 e.symm
      · exact h'.1 e
    · rcases List.mem_cons.mp hx with e | e
      · exact .inr (e ▸ List.mem_cons_self)
      · exact (b x e).imp id fun z => List.mem_cons_of_mem _ z
/-- a new list is stored, to be changed -/
theorem EnvOk.setOwn {i : Nat} {p : Addr} {vs : List V} {ds : List D} (h : EnvOk K Hb Γ σ H) (hp : H p = none) (e : Ex H H') (hl : H' p = some (.lst vs)) (r : RepAll K H' vs ds) (f : D.flatAll ds = true) :
    EnvOk K Hb (Γ.set i (.own p ds)) (σ.set i (some (.ref p))) H' := by
  have hb : Hb p = none := h.base.free hp
  obtain ⟨h1, h2, h3, h4⟩ := (h.ex e).wide
  have hpo : p ∉ owns Γ := fun z => by
    obtain ⟨Hz, _, _, q3, _⟩ := h
    obtain ⟨xs, q⟩ := owns_lsts q3 p z
    rw [hp] at q; cases q
  have l2 : Lsts H' (p :: owns Γ) := fun q hq => by
    rcases List.mem_cons.mp hq with z | z
    · exact ⟨vs, z ▸ hl⟩
    · exact owns_lsts h3 q z
  have r' := r.hide l2 f
  have z1 : ∀ a, hide H' (p :: owns Γ) a = if a = p then none else hide H' (owns Γ) a := fun a => by
    by_cases ea : a = p
    · rw [if_pos ea, hide_in (ea ▸ List.mem_cons_self)]
    · rw [if_neg ea]
      by_cases eb : a ∈ owns Γ
      · rw [hide_in eb, hide_in (List.mem_cons_of_mem _ eb)]
      · rw [hide_out eb, hide_out fun z => (List.mem_cons.mp z).elim ea eb]
  obtain ⟨Hz, k1, k2, k3, k4⟩ := h
  have ezp : Ex Hz (hide H' (p :: owns Γ)) := fun a o q => by
    have hq := k2 a o q
    rw [z1, if_neg (ne_of_none hq hp), hide_out fun z => by rw [owns_free k3 a z] at q; cases q]
    exact e a o hq
  have k3' : Paired (EntOk K (hide H' (p :: owns Γ)) H') Γ σ := Paired.mapE k3 fun a b m q => by
    cases a with
    | any => trivial
    | dat d => obtain ⟨v, e1, r1⟩ := q; exact ⟨v, e1, r1.ex ezp⟩
    | own q' es =>
      obtain ⟨e1, n, ws, q1, r1⟩ := q
      obtain ⟨j, hj, hm⟩ := List.mem_iff_getElem.mp m
      have hp' : q' ∈ owns Γ := owns_of (i := j) (ds := es) (by rw [List.getElem?_eq_getElem hj, hm])
      exact ⟨e1, hide_in (List.mem_cons_of_mem _ hp'), ws, e _ _ q1, r1.ex ezp⟩
  refine ⟨hide H' (p :: owns Γ), k1.trans ezp, hide_ex, Paired.setE (show EntOk K _ H' (.own p ds) (some (.ref p)) from ⟨rfl, hide_in List.mem_cons_self, vs, hl, r'⟩) i k3', (owns_set_own hpo k4).1⟩
/-- a list of one's own is changed -/
theorem EnvOk.mutOwn {i : Nat} {p : Addr} {ds es : List D} {ws : List V} (h : EnvOk K Hb Γ σ H) (e : Γ[i]? = some (.own p ds)) (r : RepAll K (hide H (owns Γ)) ws es) :
    EnvOk K Hb (Γ.set i (.own p es)) σ (upd H p (.lst ws)) := by
  obtain ⟨h1, h2, h3, h4⟩ := h.wide
  obtain ⟨o, q, rfl, n, vs, q2, r2⟩ := Paired.getE h3 e
  have e2 : Ex (hide H (owns Γ)) (upd H p (.lst ws)) := Ex.mut h2 n
  have go : ∀ {Γ' : Slots} {σ' : L2.St} {j : Nat}, Paired (EntOk K (hide H (owns Γ)) H) Γ' σ' → Γ'[j]? = some (.own p ds) → (owns Γ').Nodup → Paired (EntOk K (hide H (owns Γ)) (upd H p (.lst ws))) (Γ'.set j (.own p es)) σ' ∧ owns (Γ'.set j (.own p es)) = owns Γ' := by
    have oth : ∀ {Γ' : Slots} {σ' : L2.St}, Paired (EntOk K (hide H (owns Γ)) H) Γ' σ' → p ∉ owns Γ' → Paired (EntOk K (hide H (owns Γ)) (upd H p (.lst ws))) Γ' σ' := fun {Γ' σ'} k np => Paired.mapE k fun a b m q => by
      cases a with
      | any => trivial
      | dat d => exact q
      | own q' fs =>
        obtain ⟨e1, n1, us, q1, r1⟩ := q
        obtain ⟨j, hj, hm⟩ := List.mem_iff_getElem.mp m
        have hp' : q' ∈ owns Γ' := owns_of (i := j) (ds := fs) (by rw [List.getElem?_eq_getElem hj, hm])
        have ne : q' ≠ p := fun z => np (by rw [← z]; exact hp')
        exact ⟨e1, n1, us, by rw [upd_ne ne]; exact q1, r1⟩
    intro Γ'
    induction Γ' with
    | nil => intro σ' j _ z; simp at z
    | cons a rr ih =>
      intro σ' j k z nd
      cases k with
      | cons k1 k2 =>
        cases j with
        | zero =>
          simp at z
          subst z
          have nd' := List.nodup_cons.mp (show (p :: owns rr).Nodup from nd)
          obtain ⟨e1, _, _⟩ := k1
          exact ⟨.cons ⟨e1, n, ws, upd_same, r⟩ (oth k2 nd'.1), rfl⟩
        | succ j =>
          have z' : rr[j]? = some (.own p ds) := by simpa using z
          have pin : p ∈ owns rr := owns_of z'
          cases a with
          | any =>
            obtain ⟨u1, u2⟩ := ih k2 z' nd
            exact ⟨.cons trivial u1, u2⟩
          | dat d =>
            obtain ⟨u1, u2⟩ := ih k2 z' nd
            exact ⟨.cons k1 u1, u2⟩
          | own q' fs =>
            have nd' := List.nodup_cons.mp (show (q' :: owns rr).Nodup from nd)
            obtain ⟨u1, u2⟩ := ih k2 z' nd'.2
            obtain ⟨e1, n1, us, q1, r1⟩ := k1
            refine ⟨.cons ⟨e1, n1, us, ?_, r1⟩ u1, congrArg (q' :: ·) u2⟩
            have ne : q' ≠ p := fun z => nd'.1 (by rw [z]; exact pin)
            rw [upd_ne ne]
            exact q1
  obtain ⟨u1, u2⟩ := go h3 e h4
  exact ⟨_, h1, e2, u1, by rw [u2]; exact h4⟩
end
end L3

namespace L3
open PySem PySem.Spec PyProof.Rows L2

/-! ### what a piece of syntax does -/
structure SemEP (X : Cx) (e : Expr) (σ : L2.St) (H : Hp) (Q : VK) : Prop where
  run : ∀ pins s, Inv X pins σ H s → wpAny (model X.prog X.w) X.A (eval e X.env) (EP X pins σ Q) X.xe s
structure SemTP (X : Cx) (e : Expr) (σ : L2.St) (H : Hp) (Q : Bool → Hp → Prop) : Prop where
  run : ∀ pins s, Inv X pins σ H s → wpAny (model X.prog X.w) X.A (isTrue e X.env (eval e X.env)) (TP X pins σ Q) X.xe s
structure SemWP (X : Cx) (e : Expr) (σ : L2.St) (H : Hp) (Q : Bool → Hp → Prop) : Prop where
  run : ∀ wh pins s, Inv X pins σ H s → wpAny (model X.prog X.w) X.A (isTrue e X.env wh) (TP X pins σ Q) X.xe s
structure SemAP (X : Cx) (es : List Expr) (σ : L2.St) (H : Hp) (Q : List V → Hp → Prop) : Prop where
  run : ∀ pos pins s, Inv X pins σ H s → wpAny (model X.prog X.w) X.A (spliced (backTo pos (starEach es X.env))) (AP X pins σ Q) X.xe s
structure SemSsP (X : Cx) (sts : List Stmt) (D : Ends) (σ : L2.St) (H : Hp) : Prop where
  run : ∀ pins s, Inv X pins σ H s → wpAny (model X.prog X.w) X.A (execs sts X.env) (SP X pins D) X.xe s
structure SemSP (X : Cx) (st : Stmt) (D : Ends) (σ : L2.St) (H : Hp) : Prop where
  run : ∀ pins s, Inv X pins σ H s → wpAny (model X.prog X.w) X.A (exec st X.env) (SP X pins D) X.xe s
abbrev SemE (X : Cx) (e : Expr) : TE := fun σ H Q => SemEP X e σ H Q
abbrev SemT (X : Cx) (e : Expr) : TT := fun σ H Q => SemTP X e σ H Q
abbrev SemW (X : Cx) (e : Expr) : TT := fun σ H Q => SemWP X e σ H Q
abbrev SemA (X : Cx) (es : List Expr) : TA := fun σ H Q => SemAP X es σ H Q
abbrev SemSs (X : Cx) (sts : List Stmt) : TS := fun D σ H => SemSsP X sts D σ H
abbrev SemS (X : Cx) (st : Stmt) : TS := fun D σ H => SemSP X st D σ H
theorem semE (X : Cx) (e : Expr) : PE X e (SemE X e) := ⟨fun pins s _ _ _ I h => h.run pins s I⟩
theorem semT (X : Cx) (e : Expr) : PT X e (SemT X e) := ⟨fun pins s _ _ _ I h => h.run pins s I⟩
theorem semW (X : Cx) (e : Expr) : PW X e (SemW X e) := ⟨fun wh pins s _ _ _ I h => h.run wh pins s I⟩
theorem semA (X : Cx) (es : List Expr) : PA X es (SemA X es) := ⟨fun pos pins s _ _ _ I h => h.run pos pins s I⟩
theorem semSs (X : Cx) (sts : List Stmt) : PSs X sts (SemSs X sts) := ⟨fun pins s _ _ _ I h => h.run pins s I⟩
theorem semS (X : Cx) (st : Stmt) : PS X st (SemS X st) := ⟨fun pins s _ _ _ I h => h.run pins s I⟩
section
variable {X : Cx} {e : Expr} {es : List Expr} {σ : L2.St} {H : Hp}
theorem SemE.of {t : TE} {Q : VK} (h : PE X e t) (q : t σ H Q) : SemE X e σ H Q := ⟨fun pins s I => h.run pins s σ H Q I q⟩
theorem SemT.of {t : TT} {Q : Bool → Hp → Prop} (h : PT X e t) (q : t σ H Q) : SemT X e σ H Q := ⟨fun pins s I => h.run pins s σ H Q I q⟩
theorem SemW.of {t : TT} {Q : Bool → Hp → Prop} (h : PW X e t) (q : t σ H Q) : SemW X e σ H Q := ⟨fun wh pins s I => h.run wh pins s σ H Q I q⟩
theorem SemA.of {t : TA} {Q : List V → Hp → Prop} (h : PA X es t) (q : t σ H Q) : SemA X es σ H Q := ⟨fun pos pins s I => h.run pos pins s σ H Q I q⟩
theorem SemSs.of {sts : List Stmt} {t : TS} {D : Ends} (h : PSs X sts t) (q : t D σ H) : SemSs X sts D σ H := ⟨fun pins s I => h.run pins s σ H D I q⟩
theorem SemS.of {st : Stmt} {t : TS} {D : Ends} (h : PS X st t) (q : t D σ H) : SemS X st D σ H := ⟨fun pins s I => h.run pins s σ H D I q⟩
theorem SemE.mono {Q Q' : VK} (h : SemE X e σ H Q) (f : ∀ v H', Q v H' → Q' v H') : SemE X e σ H Q' := ⟨fun pins s I => thn (h.run pins s I) fun _ _ ⟨v, H', I', r, q⟩ => ⟨v, H', I', r, f _ _ q⟩⟩
theorem SemT.mono {Q Q' : Bool → Hp → Prop} (h : SemT X e σ H Q) (f : ∀ v H', Q v H' → Q' v H') : SemT X e σ H Q' := ⟨fun pins s I => thn (h.run pins s I) fun _ _ ⟨H', I', q⟩ => ⟨H', I', f _ _ q⟩⟩
theorem SemSs.mono {sts : List Stmt} {D D' : Ends} (h : SemSs X sts D σ H) (f1 : ∀ a b, D.nx a b → D'.nx a b) (f2 : ∀ a b, D.rt a b → D'.rt a b) (f3 : ∀ a b, D.bk a b → D'.bk a b) (f4 : ∀ a b, D.ct a b → D'.ct a b) : SemSs X sts D' σ H :=
  ⟨fun pins s I => thn (h.run pins s I) fun fl _ q => by
    cases fl with
    | next => obtain ⟨a, b, J, q⟩ := q; exact ⟨a, b, J, f1 a b q⟩
    | brk => obtain ⟨a, b, J, q⟩ := q; exact ⟨a, b, J, f3 a b q⟩
    | cont => obtain ⟨a, b, J, q⟩ := q; exact ⟨a, b, J, f4 a b q⟩
    | ret u => obtain ⟨v, a, b, J, r, q⟩ := q; exact ⟨v, a, b, J, r, f2 v b q⟩⟩
end

/-! ### data-level judgements -/
def FreshV (H : Hp) (v : V) : Prop := ∀ p, v = .ref p → H p = none
def isCont : D → Bool
  | .lst _ | .dct _ => true
  | _ => false
/-- a new list or dict, not to be found elsewhere -/
def FreshD (K : PySem.W.Frag) (H H' : Hp) (v : V) : D → Prop
  | .lst ds => ∃ p vs, v = .ref p ∧ H p = none ∧ H' p = some (.lst vs) ∧ RepAll K H' vs ds
  | .dct ds => ∃ p kvs, v = .ref p ∧ H p = none ∧ H' p = some (.dK kvs) ∧ RepKV K H' kvs ds
  | _ => True
theorem FreshD.flat {K : PySem.W.Frag} {H H' : Hp} {v : V} {d : D} (f : isCont d = false) : FreshD K H H' v d := by
  cases d <;> first | trivial | cases f
theorem FreshD.back {K : PySem.W.Frag} {H H1 H' : Hp} {v : V} {d : D} (e : Ex H H1) (f : FreshD K H1 H' v d) : FreshD K H H' v d := by
  cases d with
  | lst ds => obtain ⟨p, vs, h1, h2, h3, h4⟩ := f; exact ⟨p, vs, h1, e.free h2, h3, h4⟩
  | dct ds => obtain ⟨p, vs, h1, h2, h3, h4⟩ := f; exact ⟨p, vs, h1, e.free h2, h3, h4⟩
  | _ => trivial
theorem FreshD.on {K : PySem.W.Frag} {H H1 H' : Hp} {v : V} {d : D} (f : FreshD K H H' v d) (e : Ex H' H1) : FreshD K H H1 v d := by
  cases d with
  | lst ds => obtain ⟨p, vs, h1, h2, h3, h4⟩ := f; exact ⟨p, vs, h1, h2, e _ _ h3, h4.ex e⟩
  | dct ds => obtain ⟨p, vs, h1, h2, h3, h4⟩ := f; exact ⟨p, vs, h1, h2, e _ _ h3, h4.ex e⟩
  | _ => trivial
theorem freshL {K : PySem.W.Frag} {H H1 : Hp} {p : Addr} {vs : List V} {ds : List D} (h : H1 p = none) (e : Ex H H1) (r : RepAll K H1 vs ds) : FreshD K H (upd H1 p (.lst vs)) (.ref p) (.lst ds) :=
  ⟨p, vs, rfl, e.free h, upd_same, r.ex (Ex.new h)⟩
def EvN (X : Cx) (Hb : Hp) (e : Expr) (Γ : Slots) (fr : Bool) (S : D → Prop) : Prop := ∀ σ H, EnvOk X.K Hb Γ σ H → ∀ Q : VK, (∀ v H' d, S d → Ex H H' → Rep X.K H' v d → (fr = true → FreshD X.K H H' v d) → Q v H') → SemE X e σ H Q
abbrev Ev (X : Cx) (Hb : Hp) (e : Expr) (Γ : Slots) (fr : Bool) (d : D) : Prop := EvN X Hb e Γ fr (fun x => x = d)
def EvT (X : Cx) (Hb : Hp) (e : Expr) (Γ : Slots) (S : Bool → Prop) : Prop := ∀ σ H, EnvOk X.K Hb Γ σ H → ∀ Q : Bool → Hp → Prop, (∀ b H', S b → Ex H H' → Q b H') → SemT X e σ H Q
abbrev EvB (X : Cx) (Hb : Hp) (e : Expr) (Γ : Slots) (b : Bool) : Prop := EvT X Hb e Γ (fun x => x = b)
def EvW (X : Cx) (Hb : Hp) (e : Expr) (Γ : Slots) (S : Bool → Prop) : Prop := ∀ σ H, EnvOk X.K Hb Γ σ H → ∀ Q : Bool → Hp → Prop, (∀ b H', S b → Ex H H' → Q b H') → SemW X e σ H Q
def EvA (X : Cx) (Hb : Hp) (es : List Expr) (Γ : Slots) (S : List D → Prop) : Prop := ∀ σ H, EnvOk X.K Hb Γ σ H → ∀ Q : List V → Hp → Prop, (∀ vs H' ds, S ds → Ex H H' → RepAll X.K H' vs ds → Q vs H') → SemA X es σ H Q
abbrev EvAs (X : Cx) (Hb : Hp) (es : List Expr) (Γ : Slots) (ds : List D) : Prop := EvA X Hb es Γ (fun x => x = ds)
/-- a list, a tuple that stays while a loop goes over it -/
def EvI (X : Cx) (Hb : Hp) (e : Expr) (Γ : Slots) (S : List D → Prop) : Prop := ∀ σ H, EnvOk X.K Hb Γ σ H → ∀ Q : VK, (∀ a vs H' ds, S ds → Ex H H' → SqL X.K (hide H' (owns Γ)) a vs → RepAll X.K (hide H' (owns Γ)) vs ds → Q (.ref a) H') → SemE X e σ H Q
def Go (X : Cx) (Hb : Hp) (sts : List Stmt) (D : Ends) (Γ : Slots) : Prop := ∀ σ H, EnvOk X.K Hb Γ σ H → SemSs X sts D σ H
/-- what is handed back: d, all that stood stands, a new list or dict -/
def Rt (K : PySem.W.Frag) (Hb : Hp) (d : D) : VK := fun v H' => Ex Hb H' ∧ Rep K H' v d ∧ FreshD K Hb H' v d

section
variable {X : Cx} {Hb Hb' : Hp} {a b c e : Expr} {es : List Expr} {Γ : Slots} {pos p' : Pos} {d x y : D} {ds : List D} {S S' : D → Prop} {fr : Bool}
theorem EvN.imp (h : EvN X Hb e Γ fr S) (f : ∀ d, S d → S' d) : EvN X Hb e Γ fr S' := fun σ H en Q q => h σ H en Q fun v H' d s => q v H' d (f d s)
theorem EvN.weak (h : EvN X Hb e Γ true S) : EvN X Hb e Γ false S := fun σ H en Q q => h σ H en Q fun v H' d s ex r f => q v H' d s ex r fun z => nomatch z
theorem EvT.imp {S S' : Bool → Prop} (h : EvT X Hb e Γ S) (f : ∀ d, S d → S' d) : EvT X Hb e Γ S' := fun σ H en Q q => h σ H en Q fun b H' s => q b H' (f b s)
theorem ev_dat (i : Nat) {x : Str} (hG : Γ[i]? = some (.dat d) := by rfl) (hN : X.N[i]? = some x := by rfl) (hv : Vis X.env.scope x := by first | exact Or.inl rfl | exact Or.inr (Or.inl rfl) | exact Or.inr (Or.inr rfl)) (hd : (x == ("__debug__" : Str)) = false := by decide)
    (hcd : (x == ("__classdict__" : Str)) = false := by decide) : Ev X Hb (.Name x pos) Γ false d := fun σ H en Q q => by
  obtain ⟨v, hσ, r⟩ := en.dat hG
  exact SemE.of (pe_var hN hv hd hcd) ⟨v, hσ, q v H d rfl Ex.refl r fun z => nomatch z⟩
theorem ev_own (i : Nat) {p : Addr} {x : Str} (hG : Γ[i]? = some (.own p ds) := by rfl) (hN : X.N[i]? = some x := by rfl) (hv : Vis X.env.scope x := by first | exact Or.inl rfl | exact Or.inr (Or.inl rfl) | exact Or.inr (Or.inr rfl)) (hd : (x == ("__debug__" : Str)) = false := by decide)
    (hcd : (x == ("__classdict__" : Str)) = false := by decide) : Ev X Hb (.Name x pos) Γ false (.lst ds) := fun σ H en Q q => by
  obtain ⟨hσ, _, vs, hl, r⟩ := en.own hG
  exact SemE.of (pe_var hN hv hd hcd) ⟨_, hσ, q _ H _ rfl Ex.refl (.lst (SqL.of hl) r) fun z => nomatch z⟩
theorem ev_int {i : Int} {j} : Ev X Hb (.Constant (.int i) j pos) Γ true (.int i) := fun σ H en Q q => SemE.of pe_int (q _ H _ rfl Ex.refl (.int i) fun _ => trivial)
theorem ev_bl {i : Bool} {j} : Ev X Hb (.Constant (.bool i) j pos) Γ true (.bl i) := fun σ H en Q q => SemE.of pe_bl (q _ H _ rfl Ex.refl (.bl i) fun _ => trivial)
theorem ev_non {j} : Ev X Hb (.Constant .none j pos) Γ true .non := fun σ H en Q q => SemE.of pe_non (q _ H _ rfl Ex.refl .non fun _ => trivial)
theorem ev_str {i : Str} {j} : Ev X Hb (.Constant (.str i) j pos) Γ true (.str i) := fun σ H en Q q => SemE.of pe_str (q _ H _ rfl Ex.refl (.str i) fun _ => trivial)
/-- a module's constant that is no container -/
theorem ev_glob {x : Str} {v : V} {u : Value} (hm : X.mg x = some u) (r : RelV v u) (hr : ∀ H, Rep X.K H v d) (hg : Gl X x := by rfl) (hd : (x == ("__debug__" : Str)) = false := by decide) : Ev X Hb (.Name x pos) Γ false d := fun σ H en Q q =>
  SemE.of (pe_glob hg hm r hd) (q v H d rfl Ex.refl (hr H) fun z => nomatch z)

/-! two-place operations on ints -/
theorem evn_op {op : Operator} {C : Int → Int → Prop} {g : Int → Int → V} {h : Int → Int → D} {S1 S2 : Int → Prop} (ho : OpR X (binaryOp op) (rI C g)) (hg : ∀ i j H, Rep X.K H (g i j) (h i j)) (hf : ∀ i j, isCont (h i j) = false)
    (ha : EvN X Hb a Γ fr fun z => ∃ i, z = .int i ∧ S1 i) {fr' : Bool} (hb : EvN X Hb b Γ fr' fun z => ∃ i, z = .int i ∧ S2 i) (hc : ∀ i j, S1 i → S2 j → C i j ∧ S (h i j)) : EvN X Hb (.BinOp a op b pos) Γ true S := fun σ H en Q q =>
  SemE.of (pe_op ho (semE X a) (semE X b)) (ha σ H en _ fun v H1 d1 ⟨i, e1, s1⟩ x1 r1 _ => hb σ H1 (en.ex x1) _ fun w H2 d2 ⟨j, e2, s2⟩ x2 r2 _ => by
    subst e1 e2
    cases r1
    cases r2
    obtain ⟨k, s⟩ := hc i j s1 s2
    exact ⟨i, j, rfl, rfl, k, q _ H2 _ s (x1.trans x2) (hg i j H2) fun _ => FreshD.flat (hf i j)⟩)
theorem ev_op {op : Operator} {C : Int → Int → Prop} {g : Int → Int → V} {h : Int → Int → D} {i j : Int} (ho : OpR X (binaryOp op) (rI C g)) (hg : ∀ i j H, Rep X.K H (g i j) (h i j)) (hf : ∀ i j, isCont (h i j) = false)
    (ha : Ev X Hb a Γ fr (.int i)) {fr' : Bool} (hb : Ev X Hb b Γ fr' (.int j)) (hc : C i j) : Ev X Hb (.BinOp a op b pos) Γ true (h i j) :=
  evn_op (S1 := (· = i)) (S2 := (· = j)) ho hg hf (ha.imp fun _ z => ⟨i, z, rfl⟩) (hb.imp fun _ z => ⟨j, z, rfl⟩) fun i' j' e1 e2 => by subst e1 e2; exact ⟨hc, rfl⟩
theorem opI0' {f : Value → Value → Sem Value} {g : Int → Int → V} (h : OpR X f (rI0 g)) : OpR X f (rI (fun _ _ => True) g) := fun pins s σ H x y v u Q I r1 r2 ⟨i, j, e1, e2, _, q⟩ => h pins s σ H x y v u Q I r1 r2 ⟨i, j, e1, e2, q⟩
theorem ev_add {i j : Int} {fr' : Bool} (ha : Ev X Hb a Γ fr (.int i)) (hb : Ev X Hb b Γ fr' (.int j)) : Ev X Hb (.BinOp a .Add b pos) Γ true (.int (i + j)) := ev_op (h := fun i j => .int (i + j)) (opI0' op_add) (fun _ _ _ => .int _) (fun _ _ => rfl) ha hb trivial
theorem ev_sub {i j : Int} {fr' : Bool} (ha : Ev X Hb a Γ fr (.int i)) (hb : Ev X Hb b Γ fr' (.int j)) : Ev X Hb (.BinOp a .Sub b pos) Γ true (.int (i - j)) := ev_op (h := fun i j => .int (i - j)) (opI0' op_sub) (fun _ _ _ => .int _) (fun _ _ => rfl) ha hb trivial
theorem ev_mul {i j : Int} {fr' : Bool} (ha : Ev X Hb a Γ fr (.int i)) (hb : Ev X Hb b Γ fr' (.int j)) (hc : IntMulOk i j) : Ev X Hb (.BinOp a .Mult b pos) Γ true (.int (i * j)) :=
  ev_op (h := fun i j => .int (i * j)) (C := IntMulOk) (g := fun i j => .int (i * j)) (opI fun _ _ _ _ _ _ _ hc q => mul_int q hc) (fun _ _ _ => .int _) (fun _ _ => rfl) ha hb hc
/-- // and %, the divisor not 0 -/
def CDivX (i j : Int) : Prop := j ≠ 0 ∧ Builtin.divisionGoesByPylong i j = false
theorem op_fdivX : OpR X (binaryOp .FloorDiv) (rI CDivX fun i j => .int (i.fdiv j)) := opI fun _ _ _ _ _ _ _ hc q => floordiv_int hc.1 q (.inl hc.2)
theorem ev_fdiv {i j : Int} {fr' : Bool} (ha : Ev X Hb a Γ fr (.int i)) (hb : Ev X Hb b Γ fr' (.int j)) (hc : CDivX i j) : Ev X Hb (.BinOp a .FloorDiv b pos) Γ true (.int (i.fdiv j)) :=
  ev_op (h := fun i j => .int (i.fdiv j)) op_fdivX (fun _ _ _ => .int _) (fun _ _ => rfl) ha hb hc
theorem ev_mod {i j : Int} {fr' : Bool} (ha : Ev X Hb a Γ fr (.int i)) (hb : Ev X Hb b Γ fr' (.int j)) (hc : j ≠ 0) : Ev X Hb (.BinOp a .Mod b pos) Γ true (.int (i.fmod j)) :=
  ev_op (h := fun i j => .int (i.fmod j)) op_modN (fun _ _ _ => .int _) (fun _ _ => rfl) ha hb hc
/-- a power, its size within the line -/
theorem op_powX : OpR X (binaryOp .Pow) (rI (fun i j => 0 ≤ j ∧ (Builtin.Int.intBits i : Int) * j ≤ 2 ^ 27) fun i j => .int (i ^ j.toNat)) := opI fun _ _ _ _ _ _ _ hc q => pow_int hc.1 hc.2 q
theorem ev_pow {i j : Int} {fr' : Bool} (ha : Ev X Hb a Γ fr (.int i)) (hb : Ev X Hb b Γ fr' (.int j)) (h0 : 0 ≤ j) (h1 : (Builtin.Int.intBits i : Int) * j ≤ 2 ^ 27) : Ev X Hb (.BinOp a .Pow b pos) Γ true (.int (i ^ j.toNat)) :=
  ev_op (h := fun i j => .int (i ^ j.toNat)) op_powX (fun _ _ _ => .int _) (fun _ _ => rfl) ha hb ⟨h0, h1⟩
theorem ev_neg {i : Int} (ha : Ev X Hb a Γ fr (.int i)) : Ev X Hb (.UnaryOp .USub a pos) Γ true (.int (-i)) := fun σ H en Q q =>
  SemE.of (pe_un un_neg (semE X a)) (ha σ H en _ fun v H1 d1 e1 x1 r1 _ => by
    subst e1
    cases r1
    exact ⟨i, rfl, q _ H1 _ rfl x1 (.int _) fun _ => FreshD.flat rfl⟩)

/-! comparisons of ints -/
theorem ev_cmp {op : CmpOp} {g : Int → Int → Bool} {i j : Int} {fr' : Bool} (ho : OpR X (compareOp op) (rI0 fun i j => .bl (g i j))) (hm : behindInMarks op b = false) (ha : Ev X Hb a Γ fr (.int i)) (hb : Ev X Hb b Γ fr' (.int j)) :
    Ev X Hb (.Compare a [op] [b] pos) Γ true (.bl (g i j)) := fun σ H en Q q =>
  SemE.of (pe_cmpR ho (semE X a) (semE X b) hm) (ha σ H en _ fun v H1 d1 e1 x1 r1 _ => hb σ H1 (en.ex x1) _ fun w H2 d2 e2 x2 r2 _ => by
    subst e1 e2
    cases r1
    cases r2
    exact ⟨i, j, rfl, rfl, q _ H2 _ rfl (x1.trans x2) (.bl _) fun _ => FreshD.flat rfl⟩)
theorem evt_cmp {op : CmpOp} {g : Int → Int → Bool} {i j : Int} {fr' : Bool} (ho : OpR X (compareOp op) (rI0 fun i j => .bl (g i j))) (hm : behindInMarks op b = false) (ha : Ev X Hb a Γ fr (.int i)) (hb : Ev X Hb b Γ fr' (.int j)) :
    EvB X Hb (.Compare a [op] [b] pos) Γ (g i j) := fun σ H en Q q =>
  SemT.of (pt_cmpR ho (semE X a) (semE X b) hm) (ha σ H en _ fun v H1 d1 e1 x1 r1 _ => hb σ H1 (en.ex x1) _ fun w H2 d2 e2 x2 r2 _ => by
    subst e1 e2
    cases r1
    cases r2
    exact ⟨i, j, rfl, rfl, _, rfl, q _ H2 rfl (x1.trans x2)⟩)
theorem evt_lt {i j : Int} {fr' : Bool} (ha : Ev X Hb a Γ fr (.int i)) (hb : Ev X Hb b Γ fr' (.int j)) : EvB X Hb (.Compare a [.Lt] [b] pos) Γ (decide (i < j)) := evt_cmp op_lt (nomark _) ha hb
theorem evt_le {i j : Int} {fr' : Bool} (ha : Ev X Hb a Γ fr (.int i)) (hb : Ev X Hb b Γ fr' (.int j)) : EvB X Hb (.Compare a [.LtE] [b] pos) Γ (decide (i ≤ j)) := evt_cmp op_le (nomark _) ha hb
theorem evt_gt {i j : Int} {fr' : Bool} (ha : Ev X Hb a Γ fr (.int i)) (hb : Ev X Hb b Γ fr' (.int j)) : EvB X Hb (.Compare a [.Gt] [b] pos) Γ (decide (j < i)) := evt_cmp op_gt (nomark _) ha hb
theorem evt_ge {i j : Int} {fr' : Bool} (ha : Ev X Hb a Γ fr (.int i)) (hb : Ev X Hb b Γ fr' (.int j)) : EvB X Hb (.Compare a [.GtE] [b] pos) Γ (decide (j ≤ i)) := evt_cmp op_ge (nomark _) ha hb
theorem ev_lt {i j : Int} {fr' : Bool} (ha : Ev X Hb a Γ fr (.int i)) (hb : Ev X Hb b Γ fr' (.int j)) : Ev X Hb (.Compare a [.Lt] [b] pos) Γ true (.bl (decide (i < j))) := ev_cmp op_lt (nomark _) ha hb
theorem ev_le {i j : Int} {fr' : Bool} (ha : Ev X Hb a Γ fr (.int i)) (hb : Ev X Hb b Γ fr' (.int j)) : Ev X Hb (.Compare a [.LtE] [b] pos) Γ true (.bl (decide (i ≤ j))) := ev_cmp op_le (nomark _) ha hb
theorem ev_gt {i j : Int} {fr' : Bool} (ha : Ev X Hb a Γ fr (.int i)) (hb : Ev X Hb b Γ fr' (.int j)) : Ev X Hb (.Compare a [.Gt] [b] pos) Γ true (.bl (decide (j < i))) := ev_cmp op_gt (nomark _) ha hb
theorem ev_ge {i j : Int} {fr' : Bool} (ha : Ev X Hb a Γ fr (.int i)) (hb : Ev X Hb b Γ fr' (.int j)) : Ev X Hb (.Compare a [.GtE] [b] pos) Γ true (.bl (decide (j ≤ i))) := ev_cmp op_ge (nomark _) ha hb
theorem opEqI : OpR X (compareOp .Eq) (rI0 fun i j => .bl (decide (i = j))) := fun pins s σ H x y v u Q I r1 r2 ⟨i, j, e1, e2, q⟩ => op_eq pins s σ H x y v u Q I r1 r2 (by
  subst e1 e2
  exact ⟨rfl, by rw [show decide (V.int i = V.int j) = decide (i = j) from by simp]; exact q⟩)
theorem opNeI : OpR X (compareOp .NotEq) (rI0 fun i j => .bl (!decide (i = j))) := fun pins s σ H x y v u Q I r1 r2 ⟨i, j, e1, e2, q⟩ => op_ne pins s σ H x y v u Q I r1 r2 (by
  subst e1 e2
  exact ⟨rfl, by rw [show decide (V.int i = V.int j) = decide (i = j) from by simp]; exact q⟩)
theorem evt_eqI {i j : Int} {fr' : Bool} (ha : Ev X Hb a Γ fr (.int i)) (hb : Ev X Hb b Γ fr' (.int j)) : EvB X Hb (.Compare a [.Eq] [b] pos) Γ (decide (i = j)) := evt_cmp opEqI (nomark _) ha hb
theorem evt_neI {i j : Int} {fr' : Bool} (ha : Ev X Hb a Γ fr (.int i)) (hb : Ev X Hb b Γ fr' (.int j)) : EvB X Hb (.Compare a [.NotEq] [b] pos) Γ (!decide (i = j)) := evt_cmp opNeI (nomark _) ha hb
theorem ev_eqI {i j : Int} {fr' : Bool} (ha : Ev X Hb a Γ fr (.int i)) (hb : Ev X Hb b Γ fr' (.int j)) : Ev X Hb (.Compare a [.Eq] [b] pos) Γ true (.bl (decide (i = j))) := ev_cmp opEqI (nomark _) ha hb
theorem ev_neI {i j : Int} {fr' : Bool} (ha : Ev X Hb a Γ fr (.int i)) (hb : Ev X Hb b Γ fr' (.int j)) : Ev X Hb (.Compare a [.NotEq] [b] pos) Γ true (.bl (!decide (i = j))) := ev_cmp opNeI (nomark _) ha hb

/-! tests -/
theorem evt_val {S : Bool → Prop} (h : EvN X Hb e Γ fr fun z => ∃ k, z = .bl k ∧ S k) (he : ∀ whole, isTrue e X.env whole = (do let v ← whole; standAt e.pos; holding [v] (truthy v)) := by intro _; rfl) : EvT X Hb e Γ S := fun σ H en Q q =>
  SemT.of (pt_val (semE X e) he) (h σ H en _ fun v H1 d1 ⟨k, e1, s⟩ x1 r1 _ => by
    subst e1
    cases r1
    exact ⟨k, rfl, q _ _ s x1⟩)
theorem evt_valD {k : Bool} (h : Ev X Hb e Γ fr (.bl k)) (he : ∀ whole, isTrue e X.env whole = (do let v ← whole; standAt e.pos; holding [v] (truthy v)) := by intro _; rfl) : EvB X Hb e Γ k := evt_val (h.imp fun _ z => ⟨k, z, rfl⟩) he
theorem evt_not {S : Bool → Prop} (h : EvT X Hb e Γ fun b => S (!b)) : EvT X Hb (.UnaryOp .Not e pos) Γ S := fun σ H en Q q =>
  SemT.of (pt_not (semT X e)) (h σ H en _ fun b H1 s x1 => q _ _ s x1)
theorem evt_notD {k : Bool} (h : EvB X Hb e Γ k) : EvB X Hb (.UnaryOp .Not e pos) Γ (!k) := evt_not (h.imp fun _ z => by rw [z])
theorem evw_and1 {S : Bool → Prop} (h : EvT X Hb a Γ S) : EvW X Hb (.BoolOp .And [a] pos) Γ S := fun σ H en Q q => SemW.of (pw_and1 (semT X a)) (h σ H en _ q)
theorem evw_or1 {S : Bool → Prop} (h : EvT X Hb a Γ S) : EvW X Hb (.BoolOp .Or [a] pos) Γ S := fun σ H en Q q => SemW.of (pw_or1 (semT X a)) (h σ H en _ q)
theorem evw_and {S S1 : Bool → Prop} (h : EvT X Hb a Γ S1) (hb : S1 true → EvW X Hb (.BoolOp .And (b :: es) pos) Γ S) (hf : S1 false → S false) : EvW X Hb (.BoolOp .And (a :: b :: es) pos) Γ S := fun σ H en Q q =>
  SemW.of (pw_and (semT X a) (semW X _)) (h σ H en _ fun k H1 s x1 => by
    cases k with
    | true => exact hb s σ H1 (en.ex x1) Q fun b' H2 s2 x2 => q b' H2 s2 (x1.trans x2)
    | false => exact q _ _ (hf s) x1)
theorem evw_or {S S1 : Bool → Prop} (h : EvT X Hb a Γ S1) (hb : S1 false → EvW X Hb (.BoolOp .Or (b :: es) pos) Γ S) (hf : S1 true → S true) : EvW X Hb (.BoolOp .Or (a :: b :: es) pos) Γ S := fun σ H en Q q =>
  SemW.of (pw_or (semT X a) (semW X _)) (h σ H en _ fun k H1 s x1 => by
    cases k with
    | false => exact hb s σ H1 (en.ex x1) Q fun b' H2 s2 x2 => q b' H2 s2 (x1.trans x2)
    | true => exact q _ _ (hf s) x1)
theorem evw_andD {k k' : Bool} (h : EvB X Hb a Γ k) (hb : k = true → EvW X Hb (.BoolOp .And (b :: es) pos) Γ (· = k')) : EvW X Hb (.BoolOp .And (a :: b :: es) pos) Γ (· = (k && k')) :=
  evw_and h (fun z => by subst z; exact hb rfl) fun z => by subst z; rfl
theorem evw_orD {k k' : Bool} (h : EvB X Hb a Γ k) (hb : k = false → EvW X Hb (.BoolOp .Or (b :: es) pos) Γ (· = k')) : EvW X Hb (.BoolOp .Or (a :: b :: es) pos) Γ (· = (k || k')) :=
  evw_or h (fun z => by subst z; exact hb rfl) fun z => by subst z; rfl
theorem EvW.t {S : Bool → Prop} (h : EvW X Hb e Γ S) : EvT X Hb e Γ S := fun σ H en Q q => ⟨fun pins s I => (h σ H en Q q).run _ pins s I⟩
/-! and, or, not as values -/
theorem ev_one {op} (h : EvN X Hb a Γ fr S) : EvN X Hb (.BoolOp op [a] pos) Γ fr S := fun σ H en Q q => SemE.of (pe_one (semE X a)) (h σ H en Q q)
theorem evn_and {S1 : Bool → Prop} (ha : EvN X Hb a Γ fr fun z => ∃ k, z = .bl k ∧ S1 k) (hb : S1 true → EvN X Hb (.BoolOp .And (b :: es) pos) Γ true S) (hf : S1 false → S (.bl false)) : EvN X Hb (.BoolOp .And (a :: b :: es) pos) Γ true S := fun σ H en Q q =>
  SemE.of (pe_and (semE X a) (semE X _)) (ha σ H en _ fun v H1 d1 ⟨k, e1, s⟩ x1 r1 _ => by
    subst e1
    cases r1
    refine ⟨k, rfl, ?_⟩
    cases k with
    | true => exact hb s σ H1 (en.ex x1) Q fun v H2 d s2 x2 r f => q v H2 d s2 (x1.trans x2) r fun z => (f z).back x1
    | false => exact q _ _ _ (hf s) x1 (.bl false) fun _ => FreshD.flat rfl)
theorem evn_or {S1 : Bool → Prop} (ha : EvN X Hb a Γ fr fun z => ∃ k, z = .bl k ∧ S1 k) (hb : S1 false → EvN X Hb (.BoolOp .Or (b :: es) pos) Γ true S) (hf : S1 true → S (.bl true)) : EvN X Hb (.BoolOp .Or (a :: b :: es) pos) Γ true S := fun σ H en Q q =>
  SemE.of (pe_or (semE X a) (semE X _)) (ha σ H en _ fun v H1 d1 ⟨k, e1, s⟩ x1 r1 _ => by
    subst e1
    cases r1
    refine ⟨k, rfl, ?_⟩
    cases k with
    | false => exact hb s σ H1 (en.ex x1) Q fun v H2 d s2 x2 r f => q v H2 d s2 (x1.trans x2) r fun z => (f z).back x1
    | true => exact q _ _ _ (hf s) x1 (.bl true) fun _ => FreshD.flat rfl)
theorem ev_andD {k k' : Bool} (h : Ev X Hb a Γ fr (.bl k)) (hb : k = true → Ev X Hb (.BoolOp .And (b :: es) pos) Γ true (.bl k')) : Ev X Hb (.BoolOp .And (a :: b :: es) pos) Γ true (.bl (k && k')) :=
  evn_and (S1 := (· = k)) (h.imp fun _ z => ⟨k, z, rfl⟩) (fun z => by rw [← z] at hb ⊢; exact hb rfl) fun z => by rw [← z]; rfl
theorem ev_orD {k k' : Bool} (h : Ev X Hb a Γ fr (.bl k)) (hb : k = false → Ev X Hb (.BoolOp .Or (b :: es) pos) Γ true (.bl k')) : Ev X Hb (.BoolOp .Or (a :: b :: es) pos) Γ true (.bl (k || k')) :=
  evn_or (S1 := (· = k)) (h.imp fun _ z => ⟨k, z, rfl⟩) (fun z => by rw [← z] at hb ⊢; exact hb rfl) fun z => by rw [← z]; rfl
/-- a scalar's newness is nothing -/
theorem EvN.scal (h : EvN X Hb e Γ fr S) (hs : ∀ d, S d → isCont d = false) : EvN X Hb e Γ true S := fun σ H en Q q => h σ H en Q fun v H' d s ex r _ => q v H' d s ex r fun _ => FreshD.flat (hs d s)
theorem Ev.bl' {k : Bool} (h : Ev X Hb e Γ fr (.bl k)) : Ev X Hb e Γ true (.bl k) := h.scal fun _ z => by rw [z]; rfl
theorem ev_not {k : Bool} (h : Ev X Hb a Γ fr (.bl k)) : Ev X Hb (.UnaryOp .Not a pos) Γ true (.bl (!k)) := fun σ H en Q q =>
  SemE.of (pe_not (semE X a)) (h σ H en _ fun v H1 d1 e1 x1 r1 _ => by
    subst e1
    cases r1
    exact ⟨k, rfl, q _ _ _ rfl x1 (.bl _) fun _ => FreshD.flat rfl⟩)
theorem ev_if {k : Bool} (hc : EvB X Hb c Γ k) (ha : k = true → EvN X Hb a Γ fr S) (hb : k = false → EvN X Hb b Γ fr S) : EvN X Hb (.IfExp c a b pos) Γ fr S := fun σ H en Q q =>
  SemE.of (pe_ifExp (semT X c) (semE X a) (semE X b)) (hc σ H en _ fun z H1 e1 x1 => by
    subst e1
    cases z with
    | true => exact ha rfl σ H1 (en.ex x1) Q fun v H2 d s2 x2 r f => q v H2 d s2 (x1.trans x2) r fun z => (f z).back x1
    | false => exact hb rfl σ H1 (en.ex x1) Q fun v H2 d s2 x2 r f => q v H2 d s2 (x1.trans x2) r fun z => (f z).back x1)

/-! argument lists, displays -/
theorem eva_nil : EvAs X Hb [] Γ [] := fun σ H en Q q => SemA.of pa_nil (q [] H [] rfl Ex.refl .nil)
theorem eva_consN {S1 : D → Prop} {S2 S : List D → Prop} (ha : EvN X Hb e Γ fr S1) (hr : EvA X Hb es Γ S2) (hS : ∀ d ds, S1 d → S2 ds → S (d :: ds)) (hs : starEach (e :: es) X.env = (false, eval e X.env) :: starEach es X.env := by rfl) : EvA X Hb (e :: es) Γ S := fun σ H en Q q =>
  SemA.of (pa_cons (semE X e) (semA X es) hs) (ha σ H en _ fun v H1 d1 s1 x1 r1 _ => hr σ H1 (en.ex x1) _ fun vs H2 ds s2 x2 r2 => q _ H2 _ (hS _ _ s1 s2) (x1.trans x2) (.cons (r1.ex x2) r2))
theorem eva_cons (ha : Ev X Hb e Γ fr d) (hr : EvAs X Hb es Γ ds) (hs : starEach (e :: es) X.env = (false, eval e X.env) :: starEach es X.env := by rfl) : EvAs X Hb (e :: es) Γ (d :: ds) :=
  eva_consN ha hr (fun _ _ a b => by rw [a, b]) hs
theorem EvA.imp {S S' : List D → Prop} (h : EvA X Hb es Γ S) (f : ∀ d, S d → S' d) : EvA X Hb es Γ S' := fun σ H en Q q => h σ H en Q fun v H' d s => q v H' d (f d s)
theorem evn_tup {S : List D → Prop} {x1} (h : EvA X Hb es Γ S) (hl : es.length ≤ 1000) (hn : ∀ ds, S ds → ds.length = es.length) : EvN X Hb (.Tuple es x1 pos) Γ true (fun z => ∃ ds, z = .tup ds ∧ S ds) := fun σ H en Q q =>
  SemE.of (pe_tup (semA X es)) (h σ H en _ fun vs H1 ds s x1 r => ⟨by rw [r.length, hn ds s]; exact Nat.le_trans hl (by decide), fun p hp => q _ _ _ ⟨ds, rfl, s⟩ (x1.trans (Ex.new hp)) (.tup (SqT.of upd_same) (r.ex (Ex.new hp))) fun _ => FreshD.flat rfl⟩)
theorem ev_tup {x1} (h : EvAs X Hb es Γ ds) (hl : ds.length ≤ 1000 := by exact Nat.le_of_ble_eq_true rfl) : Ev X Hb (.Tuple es x1 pos) Γ true (.tup ds) := fun σ H en Q q =>
  SemE.of (pe_tup (semA X es)) (h σ H en _ fun vs H1 ds' s x1 r => by
    subst s
    exact ⟨by rw [r.length]; exact Nat.le_trans hl (by decide), fun p hp => q _ _ _ rfl (x1.trans (Ex.new hp)) (.tup (SqT.of upd_same) (r.ex (Ex.new hp))) fun _ => FreshD.flat rfl⟩)
theorem evn_lst {S : List D → Prop} (h : EvA X Hb es Γ S) (hl : ∀ ds, S ds → ds.length ≤ 1000) : EvN X Hb (.List es pos) Γ true (fun z => ∃ ds, z = .lst ds ∧ S ds) := fun σ H en Q q =>
  SemE.of (pe_lst (semA X es)) (h σ H en _ fun vs H1 ds s x1 r => ⟨by rw [r.length]; exact Nat.le_trans (hl ds s) (by decide), fun p hp => q _ _ _ ⟨ds, rfl, s⟩ (x1.trans (Ex.new hp)) (.lst (SqL.of upd_same) (r.ex (Ex.new hp))) fun _ => freshL hp x1 r⟩)
theorem ev_lst (h : EvAs X Hb es Γ ds) (hl : ds.length ≤ 1000 := by exact Nat.le_of_ble_eq_true rfl) : Ev X Hb (.List es pos) Γ true (.lst ds) := fun σ H en Q q =>
  SemE.of (pe_lst (semA X es)) (h σ H en _ fun vs H1 ds' s x1 r => by
    subst s
    exact ⟨by rw [r.length]; exact Nat.le_trans hl (by decide), fun p hp => q _ _ _ rfl (x1.trans (Ex.new hp)) (.lst (SqL.of upd_same) (r.ex (Ex.new hp))) fun _ => freshL hp x1 r⟩)

/-! items, slices -/
theorem atI_rep {H : Hp} {vs : List V} (r : RepAll X.K H vs ds) {i : Int} (h : atI ds i = some d) : ∃ v, atI vs i = some v ∧ Rep X.K H v d := by
  unfold atI at h ⊢
  rw [r.length]
  cases e : ixN ds.length i with
  | none => rw [e] at h; cases h
  | some j =>
    rw [e] at h
    exact r.get h
theorem evn_ixT {S1 : List D → Prop} {S2 : Int → Prop} {fr' : Bool} (ha : EvN X Hb a Γ fr fun z => ∃ ds, z = .tup ds ∧ S1 ds) (hb : EvN X Hb b Γ fr' fun z => ∃ i, z = .int i ∧ S2 i) (h : ∀ ds i, S1 ds → S2 i → ∃ d, atI ds i = some d ∧ S d) (hs : PlainIx b := by intro _ _; rfl) :
    EvN X Hb (.Subscript a b pos) Γ false S := fun σ H en Q q =>
  SemE.of (pe_ix ix_tup (semE X a) (semE X b) hs) (ha σ H en _ fun v H1 d1 ⟨ds, e1, s1⟩ x1 r1 _ => hb σ H1 (en.ex x1) _ fun w H2 d2 ⟨i, e2, s2⟩ x2 r2 _ => by
    subst e1 e2
    obtain ⟨d, hd, sd⟩ := h ds i s1 s2
    cases r1 with
    | tup hq ra =>
      cases r2
      obtain ⟨v, hv, rv⟩ := atI_rep ra hd
      exact ⟨_, _, i, v, rfl, rfl, SqT.ex x2 hq, hv, q v H2 d sd (x1.trans x2) (rv.ex x2) fun z => nomatch z⟩)
theorem ev_ixT {i : Int} {fr' : Bool} (ha : Ev X Hb a Γ fr (.tup ds)) (hb : Ev X Hb b Γ fr' (.int i)) (h : atI ds i = some d) (hs : PlainIx b := by intro _ _; rfl) : Ev X Hb (.Subscript a b pos) Γ false d :=
  evn_ixT (S1 := (· = ds)) (S2 := (· = i)) (ha.imp fun _ z => ⟨_, z, rfl⟩) (hb.imp fun _ z => ⟨_, z, rfl⟩) (fun _ _ e1 e2 => by subst e1 e2; exact ⟨d, h, rfl⟩) hs
theorem evn_ixL {S1 : List D → Prop} {S2 : Int → Prop} {fr' : Bool} (ha : EvN X Hb a Γ fr fun z => ∃ ds, z = .lst ds ∧ S1 ds) (hb : EvN X Hb b Γ fr' fun z => ∃ i, z = .int i ∧ S2 i) (h : ∀ ds i, S1 ds → S2 i → ∃ d, atI ds i = some d ∧ S d) (hs : PlainIx b := by intro _ _; rfl) :
    EvN X Hb (.Subscript a b pos) Γ false S := fun σ H en Q q =>
  SemE.of (pe_ix ix_list (semE X a) (semE X b) hs) (ha σ H en _ fun v H1 d1 ⟨ds, e1, s1⟩ x1 r1 _ => hb σ H1 (en.ex x1) _ fun w H2 d2 ⟨i, e2, s2⟩ x2 r2 _ => by
    subst e1 e2
    obtain ⟨d, hd, sd⟩ := h ds i s1 s2
    cases r1 with
    | lst hq ra =>
      cases r2
      obtain ⟨v, hv, rv⟩ := atI_rep ra hd
      exact ⟨_, _, i, v, rfl, rfl, SqL.ex x2 hq, hv, q v H2 d sd (x1.trans x2) (rv.ex x2) fun z => nomatch z⟩)
theorem ev_ixL {i : Int} {fr' : Bool} (ha : Ev X Hb a Γ fr (.lst ds)) (hb : Ev X Hb b Γ fr' (.int i)) (h : atI ds i = some d) (hs : PlainIx b := by intro _ _; rfl) : Ev X Hb (.Subscript a b pos) Γ false d :=
  evn_ixL (S1 := (· = ds)) (S2 := (· = i)) (ha.imp fun _ z => ⟨_, z, rfl⟩) (hb.imp fun _ z => ⟨_, z, rfl⟩) (fun _ _ e1 e2 => by subst e1 e2; exact ⟨d, h, rfl⟩) hs
/-- a part of a slice -/
def EvO (X : Cx) (Hb : Hp) (o : Option Expr) (Γ : Slots) (S : Option Int → Prop) : Prop := ∃ t, PO X o t ∧ ∀ σ H, EnvOk X.K Hb Γ σ H → ∀ Q : Option Int → Hp → Prop, (∀ k H', S k → Ex H H' → Q k H') → t σ H Q
theorem evo_none : EvO X Hb none Γ (· = none) := ⟨_, po_none, fun σ H en Q q => q none H rfl Ex.refl⟩
theorem evo_some {S : Int → Prop} (h : EvN X Hb e Γ fr fun z => ∃ i, z = .int i ∧ S i) : EvO X Hb (some e) Γ (fun o => ∃ i, o = some i ∧ S i) := ⟨_, po_some (semE X e), fun σ H en Q q => h σ H en _ fun v H1 d1 ⟨i, e1, s⟩ x1 r1 _ => by
  subst e1
  cases r1
  exact ⟨i, rfl, q _ _ ⟨i, rfl, s⟩ x1⟩⟩
theorem evo_D {i : Int} (h : Ev X Hb e Γ fr (.int i)) : EvO X Hb (some e) Γ (· = some i) := by
  obtain ⟨t, p, f⟩ := evo_some (S := (· = i)) (h.imp fun _ z => ⟨i, z, rfl⟩)
  exact ⟨t, p, fun σ H en Q q => f σ H en Q fun k H' ⟨j, e1, e2⟩ => q k H' (by rw [e1, e2])⟩
def dcut (xs : List D) (lo hi : Option Int) : List D := (xs.drop (HT.sIx xs.length 0 lo)).take (HT.sIx xs.length xs.length hi - HT.sIx xs.length 0 lo)
theorem RepAll.cut {H : Hp} {vs : List V} (r : RepAll X.K H vs ds) (lo hi : Option Int) : RepAll X.K H (cutV vs lo hi) (dcut ds lo hi) := by
  unfold cutV dcut
  rw [r.length]
  exact (r.drop _).take _
theorem evn_slL {lo hi : Option Expr} {p2 : Pos} {S1 : List D → Prop} {S2 S3 : Option Int → Prop} (ha : EvN X Hb a Γ fr fun z => ∃ ds, z = .lst ds ∧ S1 ds) (hl : EvO X Hb lo Γ S2) (hu : EvO X Hb hi Γ S3) (hS : ∀ ds o o', S1 ds → S2 o → S3 o' → S (.lst (dcut ds o o'))) :
    EvN X Hb (.Subscript a (.Slice lo hi none p2) pos) Γ true S := fun σ H en Q q => by
  obtain ⟨t1, p1, f1⟩ := hl
  obtain ⟨t2, p2, f2⟩ := hu
  refine SemE.of (pe_slice sl_list (semE X a) p1 p2) (ha σ H en _ fun v H1 d1 ⟨ds, e1, s1⟩ x1 r1 _ => f1 σ H1 (en.ex x1) _ fun o H2 s2 x2 => f2 σ H2 (en.ex (x1.trans x2)) _ fun o' H3 s3 x3 => ?_)
  subst e1
  cases r1 with
  | lst hq ra => exact ⟨_, _, rfl, SqL.ex (x2.trans x3) hq, fun p hp => q _ _ _ (hS ds o o' s1 s2 s3) (((x1.trans x2).trans x3).trans (Ex.new hp)) (.lst (SqL.of upd_same) ((ra.ex ((x2.trans x3).trans (Ex.new hp))).cut o o')) fun _ => freshL hp ((x1.trans x2).trans x3) ((ra.ex (x2.trans x3)).cut o o')⟩
theorem ev_slL {lo hi : Option Expr} {p2 : Pos} {o o' : Option Int} (ha : Ev X Hb a Γ fr (.lst ds)) (hl : EvO X Hb lo Γ (· = o)) (hu : EvO X Hb hi Γ (· = o')) : Ev X Hb (.Subscript a (.Slice lo hi none p2) pos) Γ true (.lst (dcut ds o o')) :=
  evn_slL (S1 := (· = ds)) (ha.imp fun _ z => ⟨_, z, rfl⟩) hl hu fun _ _ _ e1 e2 e3 => by rw [e1, e2, e3]
theorem dcut_whole {lo hi : Option Int} (h : HT.sIx ds.length 0 lo = 0 ∧ HT.sIx ds.length ds.length hi = ds.length) : dcut ds lo hi = ds := by
  unfold dcut
  rw [h.1, h.2]
  simp
theorem evn_slT {lo hi : Option Expr} {p2 : Pos} {S1 : List D → Prop} {S2 S3 : Option Int → Prop} (ha : EvN X Hb a Γ fr fun z => ∃ ds, z = .tup ds ∧ S1 ds) (hl : EvO X Hb lo Γ S2) (hu : EvO X Hb hi Γ S3) (hS : ∀ ds o o', S1 ds → S2 o → S3 o' → S (.tup (dcut ds o o'))) :
    EvN X Hb (.Subscript a (.Slice lo hi none p2) pos) Γ true (fun z => S z ∧ ∃ ds, z = .tup ds) := fun σ H en Q q => by
  obtain ⟨t1, p1, f1⟩ := hl
  obtain ⟨t2, p2, f2⟩ := hu
  refine SemE.of (pe_slice sl_tupA (semE X a) p1 p2) (ha σ H en _ fun v H1 d1 ⟨ds, e1, s1⟩ x1 r1 _ => f1 σ H1 (en.ex x1) _ fun o H2 s2 x2 => f2 σ H2 (en.ex (x1.trans x2)) _ fun o' H3 s3 x3 => ?_)
  subst e1
  have s := hS ds o o' s1 s2 s3
  have xx := (x1.trans x2).trans x3
  cases r1 with
  | tup hq ra =>
    refine ⟨_, _, rfl, SqT.ex (x2.trans x3) hq, fun hw => ?_, fun hw p hp => ?_⟩
    · refine q _ _ _ ⟨s, _, rfl⟩ xx ?_ fun _ => FreshD.flat rfl
      rw [ra.length] at hw
      rw [dcut_whole hw]
      exact .tup (SqT.ex (x2.trans x3) hq) (ra.ex (x2.trans x3))
    · exact q _ _ _ ⟨s, _, rfl⟩ (xx.trans (Ex.new hp)) (.tup (SqT.of upd_same) ((ra.ex ((x2.trans x3).trans (Ex.new hp))).cut o o')) fun _ => FreshD.flat rfl
theorem ev_slT {lo hi : Option Expr} {p2 : Pos} {o o' : Option Int} (ha : Ev X Hb a Γ fr (.tup ds)) (hl : EvO X Hb lo Γ (· = o)) (hu : EvO X Hb hi Γ (· = o')) : Ev X Hb (.Subscript a (.Slice lo hi none p2) pos) Γ true (.tup (dcut ds o o')) :=
  (evn_slT (S1 := (· = ds)) (S := (· = .tup (dcut ds o o'))) (ha.imp fun _ z => ⟨_, z, rfl⟩) hl hu fun _ _ _ e1 e2 e3 => by rw [e1, e2, e3]).imp fun _ z => z.1
/-- t + u -/
theorem evn_catT {S1 S2 : List D → Prop} {fr' : Bool} (ha : EvN X Hb a Γ fr fun z => ∃ ds, z = .tup ds ∧ S1 ds) (hb : EvN X Hb b Γ fr' fun z => ∃ ds, z = .tup ds ∧ S2 ds) (hS : ∀ x y, S1 x → S2 y → x.length + y.length ≤ 100000 ∧ S (.tup (x ++ y))) :
    EvN X Hb (.BinOp a .Add b pos) Γ true (fun z => S z ∧ isCont z = false) := fun σ H en Q q =>
  SemE.of (pe_op op_catA (semE X a) (semE X b)) (ha σ H en _ fun v H1 d1 ⟨xs, e1, s1⟩ x1 r1 _ => hb σ H1 (en.ex x1) _ fun w H2 d2 ⟨ys, e2, s2⟩ x2 r2 _ => by
    subst e1 e2
    obtain ⟨hl, s⟩ := hS xs ys s1 s2
    have xx := x1.trans x2
    cases r1 with
    | tup ha ra =>
      cases r2 with
      | tup hb rb =>
        refine ⟨_, _, _, _, rfl, rfl, SqT.ex x2 ha, hb, by rw [ra.length, rb.length]; exact Nat.le_trans hl (by decide), fun e => ?_, fun _ e => ?_, fun _ _ p hp => ?_⟩
        · subst e
          cases ra
          exact q _ _ _ ⟨s, rfl⟩ xx (.tup hb rb) fun _ => FreshD.flat rfl
        · subst e
          cases rb
          refine q _ _ _ ⟨s, rfl⟩ xx ?_ fun _ => FreshD.flat rfl
          rw [List.append_nil]
          exact .tup (SqT.ex x2 ha) (ra.ex x2)
        · exact q _ _ _ ⟨s, rfl⟩ (xx.trans (Ex.new hp)) (.tup (SqT.of upd_same) ((ra.ex (x2.trans (Ex.new hp))).append (rb.ex (Ex.new hp)))) fun _ => FreshD.flat rfl)
theorem ev_catT {xs ys : List D} {fr' : Bool} (ha : Ev X Hb a Γ fr (.tup xs)) (hb : Ev X Hb b Γ fr' (.tup ys)) (hl : xs.length + ys.length ≤ 100000) : Ev X Hb (.BinOp a .Add b pos) Γ true (.tup (xs ++ ys)) :=
  (evn_catT (S1 := (· = xs)) (S2 := (· = ys)) (S := (· = .tup (xs ++ ys))) (ha.imp fun _ z => ⟨_, z, rfl⟩) (hb.imp fun _ z => ⟨_, z, rfl⟩) fun x y e1 e2 => by subst e1 e2; exact ⟨hl, rfl⟩).imp fun _ z => z.1

/-! ### defs -/
abbrev Pr := List D → (D → Prop) → Prop
/-- the promise: of arguments ds the answer is one of S, where P ds S -/
def spN (K : PySem.W.Frag) (P : Pr) : Sp := fun vs H Q _ => ∃ ds S, RepAll K H vs ds ∧ P ds S ∧ ∀ v H' d, S d → Ex H H' → Rep K H' v d → FreshD K H H' v d → Q v H'
/-- the answer is just one -/
def det (R : List D → D → Prop) : Pr := fun ds S => ∃ d, R ds d ∧ S = (· = d)
structure FnP (P : Program) (w : World) (K : PySem.W.Frag) (mg : Str → Option Value) (base : Heap) (x : Str) (k : Nat) (Q : Pr) : Prop where
  ex : ∃ (f : Addr) (fd : FuncData) (ps : List Str), FnOk P w K mg base CX0 k f fd ps (spN K Q) ∧ mg x = some (.ref f) ∧ PySem.W.keepIn K (.ref f) = true ∧ Binds K fd ps []
theorem evn_call {x : Str} {pn : Pos} {k k' : Nat} {P : Pr} {SA : List D → Prop} (F : FnP X.prog X.w X.K X.mg X.base x k P) (hr : Room k' X.A) (hA : EvA X Hb (e :: es) Γ SA) (hP : ∀ ds, SA ds → ∃ S0, P ds S0 ∧ ∀ d, S0 d → S d)
    (hk : k ≤ k' := by decide) (hg : Gl X x := by rfl) (hdb : (x == ("__debug__" : Str)) = false := by decide) (he : starEach (e :: es) X.env = (false, eval e X.env) :: starEach es X.env := by rfl) (hpl : (backTo pos (starEach es X.env)).any (·.1) = false := by rfl) :
    EvN X Hb (.Call (.Name x pn) (e :: es) [] pos) Γ true S := fun σ H en Q q => by
  obtain ⟨f, fd, ps, G, hm, hkp, hb⟩ := F.ex
  refine SemE.of (pe_call G (hr.mono hk) hg hm hkp hb .nil pass0 (semA X (e :: es)) hdb he hpl) (hA σ H en _ fun vs H1 ds s x1 r => ?_)
  obtain ⟨S0, hS0, hS⟩ := hP ds s
  show spN _ _ (vs ++ []) H1 Q E0
  rw [List.append_nil]
  exact ⟨ds, S0, r, hS0, fun v H' d s0 x2 r2 f2 => q v H' d (hS d s0) (x1.trans x2) r2 fun _ => f2.back x1⟩
theorem ev_call {x : Str} {pn : Pos} {k k' : Nat} {R : List D → D → Prop} (F : FnP X.prog X.w X.K X.mg X.base x k (det R)) (hr : Room k' X.A) (hA : EvAs X Hb (e :: es) Γ ds) (hR : R ds d)
    (hk : k ≤ k' := by decide) (hg : Gl X x := by rfl) (hdb : (x == ("__debug__" : Str)) = false := by decide) (he : starEach (e :: es) X.env = (false, eval e X.env) :: starEach es X.env := by rfl) (hpl : (backTo pos (starEach es X.env)).any (·.1) = false := by rfl) :
    Ev X Hb (.Call (.Name x pn) (e :: es) [] pos) Γ true d := evn_call F hr hA (fun ds' e => ⟨(· = d), ⟨d, by rw [e]; exact hR, rfl⟩, fun _ z => z⟩) hk hg hdb he hpl
/-- a built-in by its name -/
theorem evn_B {id : String} {x : Str} {pn : Pos} {r : List V → Hp → VK → Prop} {SA : List D → Prop} (hc : CallR X (.builtin id) r) (hm : X.mg x = none) (hA : EvA X Hb (e :: es) Γ SA)
    (h : ∀ vs H ds Q, SA ds → RepAll X.K H vs ds → (∀ v H' d, S d → Ex H H' → Rep X.K H' v d → FreshD X.K H H' v d → Q v H') → r vs H Q) (hv : bootBuiltins x = some (.builtin id) := by decide +kernel) (hg : Gl X x := by rfl)
    (hn : x ≠ "__name__" := by decide) (hdb : (x == ("__debug__" : Str)) = false := by decide) (he : starEach (e :: es) X.env = (false, eval e X.env) :: starEach es X.env := by rfl) (hpl : (backTo pos (starEach es X.env)).any (·.1) = false := by rfl) :
    EvN X Hb (.Call (.Name x pn) (e :: es) [] pos) Γ true S := fun σ H en Q q =>
  SemE.of (pe_callB hc hg hm hv (semA X (e :: es)) hn hdb he hpl) (hA σ H en _ fun vs H1 ds s x1 r => h vs H1 ds Q s r fun v H' d sd x2 r2 f => q v H' d sd (x1.trans x2) r2 fun _ => f.back x1)
theorem evn_Ty {T : String} {x : Str} {pn : Pos} {r : List V → Hp → VK → Prop} {SA : List D → Prop} (hc : CallR X (.type T) r) (hm : X.mg x = none) (hA : EvA X Hb (e :: es) Γ SA)
    (h : ∀ vs H ds Q, SA ds → RepAll X.K H vs ds → (∀ v H' d, S d → Ex H H' → Rep X.K H' v d → FreshD X.K H H' v d → Q v H') → r vs H Q) (hv : bootBuiltins x = some (.type T) := by decide +kernel) (hg : Gl X x := by rfl)
    (hn : x ≠ "__name__" := by decide) (hdb : (x == ("__debug__" : Str)) = false := by decide) (he : starEach (e :: es) X.env = (false, eval e X.env) :: starEach es X.env := by rfl) (hpl : (backTo pos (starEach es X.env)).any (·.1) = false := by rfl) :
    EvN X Hb (.Call (.Name x pn) (e :: es) [] pos) Γ true S := fun σ H en Q q =>
  SemE.of (pe_callTy hc hg hm hv (semA X (e :: es)) hn hdb he hpl) (hA σ H en _ fun vs H1 ds s x1 r => h vs H1 ds Q s r fun v H' d sd x2 r2 f => q v H' d sd (x1.trans x2) r2 fun _ => f.back x1)
section
variable {hm : X.mg "x" = none}
/-- len of a list, a tuple -/
theorem ev_len {pn : Pos} (hm : X.mg "len" = none) (hA : EvAs X Hb [a] Γ [x]) (hx : x = .lst ds ∨ x = .tup ds) (hg : Gl X "len" := by rfl) (he : starEach (a :: []) X.env = (false, eval a X.env) :: starEach [] X.env := by rfl) (hpl : (backTo pos (starEach [] X.env)).any (·.1) = false := by rfl) :
    Ev X Hb (.Call (.Name "len" pn) [a] [] pos) Γ true (.int ds.length) :=
  evn_B call_len_seq hm hA (fun vs H ds' Q s r k => by
    subst s
    rcases hx with e | e <;> subst e
    · cases r with
      | cons r1 r2 =>
        cases r2
        cases r1 with
        | lst hq ra => exact ⟨_, _, rfl, .inl hq, by rw [ra.length]; exact k _ _ _ rfl Ex.refl (.int _) (FreshD.flat rfl)⟩
    · cases r with
      | cons r1 r2 =>
        cases r2
        cases r1 with
        | tup hq ra => exact ⟨_, _, rfl, .inr hq, by rw [ra.length]; exact k _ _ _ rfl Ex.refl (.int _) (FreshD.flat rfl)⟩) PySem.boot_len hg (by decide) (by decide) he hpl
theorem RepAll.int1 {H : Hp} {vs : List V} {i : Int} (r : RepAll X.K H vs [.int i]) : vs = [.int i] := by
  cases r with
  | cons r1 r2 => cases r2; cases r1; rfl
theorem RepAll.int2 {H : Hp} {vs : List V} {i j : Int} (r : RepAll X.K H vs [.int i, .int j]) : vs = [.int i, .int j] := by
  cases r with
  | cons r1 r2 =>
    cases r1
    rw [r2.int1]
theorem RepAll.lst1 {H : Hp} {vs : List V} (r : RepAll X.K H vs [.lst ds]) : ∃ a ws, vs = [.ref a] ∧ SqL X.K H a ws ∧ RepAll X.K H ws ds := by
  cases r with
  | cons r1 r2 =>
    cases r2
    cases r1 with
    | lst hq ra => exact ⟨_, _, rfl, hq, ra⟩
theorem ev_max2 {pn : Pos} {i j : Int} (hc : X.calm = true) (hm : X.mg "max" = none) (hA : EvAs X Hb [a, b] Γ [.int i, .int j]) (hg : Gl X "max" := by rfl) (he : starEach (a :: [b]) X.env = (false, eval a X.env) :: starEach [b] X.env := by rfl) (hpl : (backTo pos (starEach [b] X.env)).any (·.1) = false := by rfl) :
    Ev X Hb (.Call (.Name "max" pn) [a, b] [] pos) Γ true (.int (max i j)) :=
  evn_B (call_max2 hc) hm hA (fun vs H ds' Q s r k => by
    subst s
    refine ⟨i, j, r.int2, ?_⟩
    rw [show (if j > i then j else i) = max i j from by split <;> omega]
    exact k _ _ _ rfl Ex.refl (.int _) (FreshD.flat rfl)) (by decide +kernel) hg (by decide) (by decide) he hpl
theorem ev_min2 {pn : Pos} {i j : Int} (hc : X.calm = true) (hm : X.mg "min" = none) (hA : EvAs X Hb [a, b] Γ [.int i, .int j]) (hg : Gl X "min" := by rfl) (he : starEach (a :: [b]) X.env = (false, eval a X.env) :: starEach [b] X.env := by rfl) (hpl : (backTo pos (starEach [b] X.env)).any (·.1) = false := by rfl) :
    Ev X Hb (.Call (.Name "min" pn) [a, b] [] pos) Γ true (.int (min i j)) :=
  evn_B (call_min2 hc) hm hA (fun vs H ds' Q s r k => by
    subst s
    refine ⟨i, j, r.int2, ?_⟩
    rw [show (if j < i then j else i) = min i j from by split <;> omega]
    exact k _ _ _ rfl Ex.refl (.int _) (FreshD.flat rfl)) (by decide +kernel) hg (by decide) (by decide) he hpl
theorem ev_abs {pn : Pos} {i : Int} (hm : X.mg "abs" = none) (hA : EvAs X Hb [a] Γ [.int i]) (hg : Gl X "abs" := by rfl) (he : starEach (a :: []) X.env = (false, eval a X.env) :: starEach [] X.env := by rfl) (hpl : (backTo pos (starEach [] X.env)).any (·.1) = false := by rfl) :
    Ev X Hb (.Call (.Name "abs" pn) [a] [] pos) Γ true (.int (i.natAbs : Int)) :=
  evn_B call_abs hm hA (fun vs H ds' Q s r k => by
    subst s
    refine ⟨i, r.int1, ?_⟩
    rw [show (if i < 0 then -i else i) = (i.natAbs : Int) from by split <;> omega]
    exact k _ _ _ rfl Ex.refl (.int _) (FreshD.flat rfl)) (by decide +kernel) hg (by decide) (by decide) he hpl
theorem ev_toInt {pn : Pos} {i : Int} (hm : X.mg "int" = none) (hA : EvAs X Hb [a] Γ [.int i]) (hg : Gl X "int" := by rfl) (he : starEach (a :: []) X.env = (false, eval a X.env) :: starEach [] X.env := by rfl) (hpl : (backTo pos (starEach [] X.env)).any (·.1) = false := by rfl) :
    Ev X Hb (.Call (.Name "int" pn) [a] [] pos) Γ true (.int i) :=
  evn_Ty call_int1 hm hA (fun vs H ds' Q s r k => by
    subst s
    exact .inl ⟨i, r.int1, k _ _ _ rfl Ex.refl (.int _) (FreshD.flat rfl)⟩) (by decide +kernel) hg (by decide) (by decide) he hpl
theorem ev_sumL {pn : Pos} {ns : List Int} (hc : X.calm = true) (hm : X.mg "sum" = none) (hA : EvAs X Hb [a] Γ [.lst (ns.map .int)]) (hg : Gl X "sum" := by rfl) (he : starEach (a :: []) X.env = (false, eval a X.env) :: starEach [] X.env := by rfl) (hpl : (backTo pos (starEach [] X.env)).any (·.1) = false := by rfl) :
    Ev X Hb (.Call (.Name "sum" pn) [a] [] pos) Γ true (.int ns.sum) :=
  evn_B (cr_sum hc) hm hA (fun vs H ds' Q s r k => by
    subst s
    obtain ⟨p, ws, e, hq, ra⟩ := r.lst1
    rw [ra.ints] at hq
    exact ⟨p, ns, e, hq, k _ _ _ rfl Ex.refl (.int _) (FreshD.flat rfl)⟩) (by decide +kernel) hg (by decide) (by decide) he hpl
theorem ev_maxL {pn : Pos} {ns : List Int} {m : Int} (hc : X.calm = true) (hm : X.mg "max" = none) (hA : EvAs X Hb [a] Γ [.lst (ns.map .int)]) (h1 : m ∈ ns) (h2 : ∀ y ∈ ns, y ≤ m) (hg : Gl X "max" := by rfl) (he : starEach (a :: []) X.env = (false, eval a X.env) :: starEach [] X.env := by rfl) (hpl : (backTo pos (starEach [] X.env)).any (·.1) = false := by rfl) :
    Ev X Hb (.Call (.Name "max" pn) [a] [] pos) Γ true (.int m) :=
  evn_B (cr_max hc) hm hA (fun vs H ds' Q s r k => by
    subst s
    obtain ⟨p, ws, e, hq, ra⟩ := r.lst1
    rw [ra.ints] at hq
    refine ⟨p, ns, e, hq, List.length_pos_of_mem h1, fun m' h3 h4 => ?_⟩
    have e1 : m' = m := Int.le_antisymm (h2 m' h3) (h4 m h1)
    rw [e1]
    exact k _ _ _ rfl Ex.refl (.int _) (FreshD.flat rfl)) (by decide +kernel) hg (by decide) (by decide) he hpl
theorem ev_minL {pn : Pos} {ns : List Int} {m : Int} (hc : X.calm = true) (hm : X.mg "min" = none) (hA : EvAs X Hb [a] Γ [.lst (ns.map .int)]) (h1 : m ∈ ns) (h2 : ∀ y ∈ ns, m ≤ y) (hg : Gl X "min" := by rfl) (he : starEach (a :: []) X.env = (false, eval a X.env) :: starEach [] X.env := by rfl) (hpl : (backTo pos (starEach [] X.env)).any (·.1) = false := by rfl) :
    Ev X Hb (.Call (.Name "min" pn) [a] [] pos) Γ true (.int m) :=
  evn_B (cr_min hc) hm hA (fun vs H ds' Q s r k => by
    subst s
    obtain ⟨p, ws, e, hq, ra⟩ := r.lst1
    rw [ra.ints] at hq
    refine ⟨p, ns, e, hq, List.length_pos_of_mem h1, fun m' h3 h4 => ?_⟩
    have e1 : m' = m := Int.le_antisymm (h4 m h1) (h2 m' h3)
    rw [e1]
    exact k _ _ _ rfl Ex.refl (.int _) (FreshD.flat rfl)) (by decide +kernel) hg (by decide) (by decide) he hpl
theorem ev_all {pn : Pos} {ns : List Bool} (hc : X.calm = true) (hm : X.mg "all" = none) (hA : EvAs X Hb [a] Γ [.lst (ns.map .bl)]) (hg : Gl X "all" := by rfl) (he : starEach (a :: []) X.env = (false, eval a X.env) :: starEach [] X.env := by rfl) (hpl : (backTo pos (starEach [] X.env)).any (·.1) = false := by rfl) :
    Ev X Hb (.Call (.Name "all" pn) [a] [] pos) Γ true (.bl (ns.all id)) :=
  evn_B (cr_all hc) hm hA (fun vs H ds' Q s r k => by
    subst s
    obtain ⟨p, ws, e, hq, ra⟩ := r.lst1
    rw [ra.bls] at hq
    exact ⟨p, ns, e, hq, k _ _ _ rfl Ex.refl (.bl _) (FreshD.flat rfl)⟩) (by decide +kernel) hg (by decide) (by decide) he hpl
theorem ev_any {pn : Pos} {ns : List Bool} (hc : X.calm = true) (hm : X.mg "any" = none) (hA : EvAs X Hb [a] Γ [.lst (ns.map .bl)]) (hg : Gl X "any" := by rfl) (he : starEach (a :: []) X.env = (false, eval a X.env) :: starEach [] X.env := by rfl) (hpl : (backTo pos (starEach [] X.env)).any (·.1) = false := by rfl) :
    Ev X Hb (.Call (.Name "any" pn) [a] [] pos) Γ true (.bl (ns.any id)) :=
  evn_B (cr_any hc) hm hA (fun vs H ds' Q s r k => by
    subst s
    obtain ⟨p, ws, e, hq, ra⟩ := r.lst1
    rw [ra.bls] at hq
    exact ⟨p, ns, e, hq, k _ _ _ rfl Ex.refl (.bl _) (FreshD.flat rfl)⟩) (by decide +kernel) hg (by decide) (by decide) he hpl
/-- list(xs), list(t) -/
theorem ev_list {pn : Pos} (hm : X.mg "list" = none) (hA : EvAs X Hb [a] Γ [x]) (hx : x = .lst ds ∨ x = .tup ds) (hg : Gl X "list" := by rfl) (he : starEach (a :: []) X.env = (false, eval a X.env) :: starEach [] X.env := by rfl) (hpl : (backTo pos (starEach [] X.env)).any (·.1) = false := by rfl) :
    Ev X Hb (.Call (.Name "list" pn) [a] [] pos) Γ true (.lst ds) :=
  evn_Ty call_list_of hm hA (fun vs H ds' Q s r k => by
    subst s
    cases r with
    | cons r1 r2 =>
      cases r2
      rcases hx with e | e <;> subst e
      · cases r1 with
        | lst hq ra => exact ⟨_, _, rfl, .inl hq, fun l hl => k _ _ _ rfl (Ex.new hl) (.lst (SqL.of upd_same) (ra.ex (Ex.new hl))) (freshL hl Ex.refl ra)⟩
      · cases r1 with
        | tup hq ra => exact ⟨_, _, rfl, .inr hq, fun l hl => k _ _ _ rfl (Ex.new hl) (.lst (SqL.of upd_same) (ra.ex (Ex.new hl))) (freshL hl Ex.refl ra)⟩) (by decide +kernel) hg (by decide) (by decide) he hpl
/-- tuple(xs) -/
theorem ev_tuple {pn : Pos} (hm : X.mg "tuple" = none) (hA : EvAs X Hb [a] Γ [.lst ds]) (hg : Gl X "tuple" := by rfl) (he : starEach (a :: []) X.env = (false, eval a X.env) :: starEach [] X.env := by rfl) (hpl : (backTo pos (starEach [] X.env)).any (·.1) = false := by rfl) :
    Ev X Hb (.Call (.Name "tuple" pn) [a] [] pos) Γ true (.tup ds) :=
  evn_Ty call_tuple_of hm hA (fun vs H ds' Q s r k => by
    subst s
    obtain ⟨p, ws, e, hq, ra⟩ := r.lst1
    exact ⟨p, ws, e, .inl ⟨hq, fun l hl => k _ _ _ rfl (Ex.new hl) (.tup (SqT.of upd_same) (ra.ex (Ex.new hl))) (FreshD.flat rfl)⟩⟩) (by decide +kernel) hg (by decide) (by decide) he hpl
end
end
end L3

namespace L3
open PySem PySem.Spec PyProof.Rows L2
section
variable {X : Cx} {Hb Hb' : Hp} {a b c e : Expr} {es : List Expr} {Γ : Slots} {pos p' : Pos} {d x y : D} {ds : List D} {S S' : D → Prop} {fr : Bool} {D0 : Ends} {rest sts : List Stmt} {st : Stmt}
theorem SemSs.cons {t : TS} {σ : L2.St} {H : Hp} (h : PS X st t) (q : t { D0 with nx := fun σ' H' => SemSs X rest D0 σ' H' } σ H) : SemSs X (st :: rest) D0 σ H :=
  SemSs.of (pss_cons h (semSs X rest)) q
theorem go_nil (h : ∀ σ H, EnvOk X.K Hb Γ σ H → D0.nx σ H) : Go X Hb [] D0 Γ := fun σ H en => SemSs.of pss_nil (h σ H en)
theorem go_weak {Γ' : Slots} (h : ∀ σ H, EnvOk X.K Hb Γ σ H → EnvOk X.K Hb Γ' σ H) (g : Go X Hb sts D0 Γ') : Go X Hb sts D0 Γ := fun σ H en => g σ H (h σ H en)
theorem go_forget (i : Nat) (g : Go X Hb sts D0 (Γ.set i .any)) : Go X Hb sts D0 Γ := go_weak (fun _ _ h => h.forget) g
/-- return e -/
theorem go_retN (h : EvN X Hb e Γ fr S) (hd : ∀ v H' d, S d → Ex Hb H' → Rep X.K H' v d → (fr = true → FreshD X.K Hb H' v d) → D0.rt v H') : Go X Hb (.Return (some e) pos :: rest) D0 Γ := fun σ H en =>
  SemSs.cons (ps_ret (semE X e)) (h σ H en _ fun v H' d s x r f => hd v H' d s (en.base.trans x) r fun z => (f z).back en.base)
theorem go_ret (h : Ev X Hb e Γ fr d) (hf : isCont d = false ∨ fr = true) (hd : ∀ v H', Rt X.K Hb d v H' → D0.rt v H') : Go X Hb (.Return (some e) pos :: rest) D0 Γ :=
  go_retN h fun v H' d' s x r f => by
    subst s
    refine hd v H' ⟨x, r, ?_⟩
    rcases hf with z | z
    · exact FreshD.flat z
    · exact f z
/-- return xs, xs a list of one's own -/
theorem go_retOwn (i : Nat) {p : Addr} {xn : Str} (hd : ∀ v H', Rt X.K Hb (.lst ds) v H' → D0.rt v H') (hG : Γ[i]? = some (.own p ds) := by rfl) (hN : X.N[i]? = some xn := by rfl) (hv : Vis X.env.scope xn := by first | exact Or.inl rfl | exact Or.inr (Or.inl rfl) | exact Or.inr (Or.inr rfl)) (hdb : (xn == ("__debug__" : Str)) = false := by decide)
    (hcd : (xn == ("__classdict__" : Str)) = false := by decide) : Go X Hb (.Return (some (.Name xn p')) pos :: rest) D0 Γ := fun σ H en => by
  obtain ⟨hσ, hb, vs, hl, r⟩ := en.own hG
  exact SemSs.cons (ps_ret (pe_var hN hv hdb hcd)) ⟨_, hσ, hd _ _ ⟨en.base, .lst (SqL.of hl) r, p, vs, rfl, hb, hl, r⟩⟩
theorem go_retNone (hd : ∀ v H', Rt X.K Hb .non v H' → D0.rt v H') : Go X Hb (.Return none pos :: rest) D0 Γ := fun σ H en =>
  SemSs.cons ps_retN (hd _ _ ⟨en.base, .non, FreshD.flat rfl⟩)
/-- an expression whose value is dropped -/
theorem go_expr (h : EvN X Hb e Γ fr S) (g : ∀ d, S d → Go X Hb rest D0 Γ) (hs : swapsWith e none pos.line X.env = pure false := by rfl) : Go X Hb (.Expr e pos :: rest) D0 Γ := fun σ H en =>
  SemSs.cons (ps_expr (semE X e) hs) (h σ H en _ fun v H' d s x r f => g d s σ H' (en.ex x))
/-- x = e -/
theorem go_setN (i : Nat) {xn : Str} (h : EvN X Hb e Γ fr S) (hs : ∀ d, S d → Sto Γ d) (g : ∀ d, S d → Go X Hb rest D0 (Γ.set i (.dat d))) (nd : X.N.Nodup) (hi : X.N[i]? = some xn := by rfl) (hx : Loc X.env.scope xn := by first | exact Or.inl rfl | exact Or.inr rfl)
    (hsw : swapsWith e (some (.Name xn p')) pos.line X.env = pure false := by rfl) (hf : X.fn xn = true ∨ X.env.scope.names.lookup xn = some .local := by first | exact .inl rfl | exact .inr rfl) : Go X Hb (.Assign [.Name xn p'] e pos :: rest) D0 Γ := fun σ H en =>
  SemSs.cons (ps_set nd hi hx (semE X e) hsw hf) (h σ H en _ fun v H' d s x r f => g d s _ H' ((en.ex x).setDat r (hs d s)))
theorem go_set (i : Nat) {xn : Str} (h : Ev X Hb e Γ fr d) (hs : Sto Γ d) (g : Go X Hb rest D0 (Γ.set i (.dat d))) (nd : X.N.Nodup) (hi : X.N[i]? = some xn := by rfl) (hx : Loc X.env.scope xn := by first | exact Or.inl rfl | exact Or.inr rfl)
    (hsw : swapsWith e (some (.Name xn p')) pos.line X.env = pure false := by rfl) (hf : X.fn xn = true ∨ X.env.scope.names.lookup xn = some .local := by first | exact .inl rfl | exact .inr rfl) : Go X Hb (.Assign [.Name xn p'] e pos :: rest) D0 Γ :=
  go_setN i h (fun _ z => by rw [z]; exact hs) (fun _ z => by rw [z]; exact g) nd hi hx hsw hf
/-- x = e, a new list, to be changed -/
theorem go_setOwnN (i : Nat) {xn : Str} {SL : List D → Prop} (h : EvN X Hb e Γ true fun z => ∃ ds, z = .lst ds ∧ SL ds) (hfl : ∀ ds, SL ds → D.flatAll ds = true) (g : ∀ p ds, SL ds → Go X Hb rest D0 (Γ.set i (.own p ds))) (nd : X.N.Nodup) (hi : X.N[i]? = some xn := by rfl)
    (hx : Loc X.env.scope xn := by first | exact Or.inl rfl | exact Or.inr rfl) (hsw : swapsWith e (some (.Name xn p')) pos.line X.env = pure false := by rfl) (hf : X.fn xn = true ∨ X.env.scope.names.lookup xn = some .local := by first | exact .inl rfl | exact .inr rfl) :
    Go X Hb (.Assign [.Name xn p'] e pos :: rest) D0 Γ := fun σ H en =>
  SemSs.cons (ps_set nd hi hx (semE X e) hsw hf) (h σ H en _ fun v H' d ⟨ds, e1, s⟩ x r f => by
    subst e1
    obtain ⟨p, vs, rfl, hp, hl, ra⟩ := f rfl
    exact g p ds s _ H' (en.setOwn hp x hl ra (hfl ds s)))
/-! ### if, while, for -/
theorem go_ifN {as bs : List Stmt} {S : Bool → Prop} (h : EvT X Hb c Γ S) (ha : S true → Go X Hb as { D0 with nx := fun σ H => SemSs X rest D0 σ H } Γ) (hb : S false → Go X Hb bs { D0 with nx := fun σ H => SemSs X rest D0 σ H } Γ) : Go X Hb (.If c as bs pos :: rest) D0 Γ := fun σ H en =>
  SemSs.cons (ps_if (semT X c) (semSs X as) (semSs X bs)) (h σ H en _ fun k H' s x => by
    cases k with
    | true => exact ha s σ H' (en.ex x)
    | false => exact hb s σ H' (en.ex x))
theorem go_if {as bs : List Stmt} {k : Bool} (h : EvB X Hb c Γ k) (ha : k = true → Go X Hb as { D0 with nx := fun σ H => SemSs X rest D0 σ H } Γ) (hb : k = false → Go X Hb bs { D0 with nx := fun σ H => SemSs X rest D0 σ H } Γ) : Go X Hb (.If c as bs pos :: rest) D0 Γ :=
  go_ifN h (fun z => ha z.symm) fun z => hb z.symm
/-- the end of a branch: what stands behind the if -/
theorem go_join (g : Go X Hb rest D0 Γ) : Go X Hb [] { D0 with nx := fun σ H => SemSs X rest D0 σ H } Γ := go_nil fun σ H en => g σ H en
theorem go_joinF (f : Slots → Slots) (hf : ∀ σ H, EnvOk X.K Hb Γ σ H → EnvOk X.K Hb (f Γ) σ H) (g : Go X Hb rest D0 (f Γ)) : Go X Hb [] { D0 with nx := fun σ H => SemSs X rest D0 σ H } Γ := go_nil fun σ H en => g σ H (hf σ H en)
theorem go_break (h : ∀ σ H, EnvOk X.K Hb Γ σ H → D0.bk σ H) : Go X Hb (.Break pos :: rest) D0 Γ := fun σ H en => SemSs.cons ps_break (h σ H en)
theorem go_continue (h : ∀ σ H, EnvOk X.K Hb Γ σ H → D0.ct σ H) : Go X Hb (.Continue pos :: rest) D0 Γ := fun σ H en => SemSs.cons ps_continue (h σ H en)
theorem go_pass (g : Go X Hb rest D0 Γ) : Go X Hb (.Pass pos :: rest) D0 Γ := fun σ H en => SemSs.cons ps_pass (g σ H en)
theorem EnvOk.wb {K : PySem.W.Frag} {σ : L2.St} {H : Hp} (e : Ex Hb Hb') (h : EnvOk K Hb' Γ σ H) : EnvOk K Hb Γ σ H := let ⟨Hz, h1, h2⟩ := h; ⟨Hz, e.trans h1, h2⟩
/-- I m Γ: what the slots may be, m what falls -/
theorem go_while {body : List Stmt} (I : Nat → Slots → Prop) (h0 : ∃ m, I m Γ)
    (hs : ∀ m Γ', I m Γ' → ∃ S : Bool → Prop, EvT X Hb c Γ' S ∧ (S true → Go X Hb body { D0 with nx := fun σ H => ∃ m' Γ'', m' < m ∧ I m' Γ'' ∧ EnvOk X.K Hb Γ'' σ H, ct := fun σ H => ∃ m' Γ'', m' < m ∧ I m' Γ'' ∧ EnvOk X.K Hb Γ'' σ H, bk := fun σ H => SemSs X rest D0 σ H } Γ') ∧ (S false → Go X Hb rest D0 Γ'))
    (hp : PassesOwn (model X.prog X.w) X.A X.env X.xe) : Go X Hb (.While c body [] pos :: rest) D0 Γ := fun σ H en => by
  refine SemSs.cons (ps_while hp (semT X c) (semSs X body)) ?_
  obtain ⟨m, h0⟩ := h0
  refine ⟨fun m σ H => ∃ Γ', I m Γ' ∧ EnvOk X.K Hb Γ' σ H, ⟨m, Γ, h0, en⟩, ?_⟩
  rintro m σ H ⟨Γ', hI, en⟩
  obtain ⟨S, ht, h1, h2⟩ := hs m Γ' hI
  refine ht σ H en _ fun k H' s x => ?_
  cases k with
  | true =>
    exact ⟨fun σ H => ∃ m' Γ'', m' < m ∧ I m' Γ'' ∧ EnvOk X.K Hb Γ'' σ H, fun σ' H' ⟨m', Γ'', a, b, c⟩ => ⟨m', a, Γ'', b, c⟩, h1 s σ H' (en.ex x)⟩
  | false => exact h2 s σ H' (en.ex x)
/-- the end of a while's turn -/
theorem go_turn {I : Nat → Slots → Prop} {m m' : Nat} {Γ' : Slots} {D1 : Ends} (hD : ∀ σ H, (∃ m' Γ'', m' < m ∧ I m' Γ'' ∧ EnvOk X.K Hb Γ'' σ H) → D1.nx σ H) (hI : I m' Γ') (hm : m' < m) (hw : ∀ σ H, EnvOk X.K Hb Γ σ H → EnvOk X.K Hb Γ' σ H) : Go X Hb [] D1 Γ :=
  go_nil fun σ H en => hD σ H ⟨m', Γ', hm, hI, hw σ H en⟩

/-! what a loop goes over -/
theorem evi_dat (i : Nat) {xn : Str} (hG : Γ[i]? = some (.dat (.lst ds)) := by rfl) (hN : X.N[i]? = some xn := by rfl) (hv : Vis X.env.scope xn := by first | exact Or.inl rfl | exact Or.inr (Or.inl rfl) | exact Or.inr (Or.inr rfl)) (hd : (xn == ("__debug__" : Str)) = false := by decide)
    (hcd : (xn == ("__classdict__" : Str)) = false := by decide) : EvI X Hb (.Name xn pos) Γ (· = ds) := fun σ H en Q q => by
  obtain ⟨h1, h2, h3, h4⟩ := en.wide
  obtain ⟨o, hσ, v, rfl, r⟩ := Paired.getE h3 hG
  cases r with
  | lst hq ra => exact SemE.of (pe_var hN hv hd hcd) ⟨_, hσ, q _ _ H _ rfl Ex.refl hq ra⟩
theorem evi_free (h : EvN X Hb e Γ fr fun z => ∃ ds, z = .lst ds ∧ S' (.lst ds)) (ho : owns Γ = []) : EvI X Hb e Γ (fun ds => S' (.lst ds)) := fun σ H en Q q =>
  h σ H en _ fun v H' d ⟨ds, e1, s⟩ x r _ => by
    subst e1
    have z : hide H' (owns Γ) = H' := by
      funext a
      rw [ho]
      exact hide_out (by simp)
    cases r with
    | lst hq ra => exact q _ _ H' ds s x (by rw [z]; exact hq) (by rw [z]; exact ra)
theorem evi_new (h : EvN X Hb e Γ true fun z => ∃ ds, z = .lst ds ∧ S' (.lst ds)) (hf : ∀ ds, S' (.lst ds) → D.flatAll ds = true) : EvI X Hb e Γ (fun ds => S' (.lst ds)) := fun σ H en Q q =>
  h σ H en _ fun v H' d ⟨ds, e1, s⟩ x r f => by
    subst e1
    obtain ⟨p, vs, rfl, hp, hl, ra⟩ := f rfl
    have hpo : p ∉ owns Γ := fun z => by
      obtain ⟨Hz, _, _, q3, _⟩ := en
      obtain ⟨xs, q⟩ := owns_lsts q3 p z
      rw [hp] at q; cases q
    obtain ⟨_, _, k3, _⟩ := (en.ex x).wide
    exact q _ vs H' ds s x (.inl (.inl (by rw [hide_out hpo]; exact hl))) (ra.hide (owns_lsts k3) (hf ds s))
theorem evi_freeD (h : Ev X Hb e Γ fr (.lst ds)) (ho : owns Γ = []) : EvI X Hb e Γ (· = ds) := fun σ H en Q q =>
  evi_free (S' := (· = .lst ds)) (h.imp fun _ z => ⟨ds, z, rfl⟩) ho σ H en Q fun a vs H' ds' s => q a vs H' ds' (by cases s; rfl)
theorem evi_newD (h : Ev X Hb e Γ true (.lst ds)) (hf : D.flatAll ds = true) : EvI X Hb e Γ (· = ds) := fun σ H en Q q =>
  evi_new (S' := (· = .lst ds)) (h.imp fun _ z => ⟨ds, z, rfl⟩) (fun ds' z => by cases z; exact hf) σ H en Q fun a vs H' ds' s => q a vs H' ds' (by cases s; rfl)
/-- the state between two turns -/
abbrev Btw (X : Cx) (Hb : Hp) (I : Slots → Prop) : L2.St → Hp → Prop := fun σ H => ∃ Γ', I Γ' ∧ EnvOk X.K Hb Γ' σ H
theorem go_btw {I : Slots → Prop} {Γ' : Slots} {D1 : Ends} (hI : I Γ') (hw : ∀ σ H, EnvOk X.K Hb Γ σ H → EnvOk X.K Hb Γ' σ H) (hD : ∀ σ H, Btw X Hb I σ H → D1.nx σ H) : Go X Hb [] D1 Γ := go_nil fun σ H en => hD σ H ⟨Γ', hI, hw σ H en⟩
/-- for x in a list -/
theorem go_forN {body : List Stmt} (ix : Nat) {xn : Str} {S1 : List D → Prop} (I : List D → Nat → Slots → Prop) (hit : EvI X Hb e Γ S1) (h0 : ∀ ds, S1 ds → I ds 0 Γ) (hst : ∀ ds i x Γ', S1 ds → ds[i]? = some x → I ds i Γ' → Sto Γ' x)
    (hs : ∀ Hb', Ex Hb Hb' → ∀ ds i x Γ', S1 ds → ds[i]? = some x → I ds i Γ' → Go X Hb' body { D0 with nx := Btw X Hb' (I ds (i + 1)), ct := Btw X Hb' (I ds (i + 1)), bk := fun σ H => SemSs X rest D0 σ H } (Γ'.set ix (.dat x)))
    (hd : ∀ ds Γ', S1 ds → I ds ds.length Γ' → Go X Hb rest D0 Γ') (hp : PassesOwn (model X.prog X.w) X.A X.env X.xe) (hc : X.calm = true) (nd : X.N.Nodup) (hi : X.N[ix]? = some xn := by rfl) (hx : Loc X.env.scope xn := by first | exact Or.inl rfl | exact Or.inr rfl)
    (hfs : ∀ x, foldedSetIterable e X.env x = pure x := by intro _; rfl) (hf : X.fn xn = true ∨ X.env.scope.names.lookup xn = some .local := by first | exact .inl rfl | exact .inr rfl) :
    Go X Hb (.For (.Name xn p') e body [] pos :: rest) D0 Γ := fun σ H en => by
  refine SemSs.cons (ps_for hp hc (pi_list (semE X e)) (pg_name nd hi hx hf) (semSs X body) hfs) ?_
  refine hit σ H en _ fun a vs H' ds s x hq ra => ?_
  have en' := en.ex x
  have eb : Ex Hb (hide H' (owns Γ)) := en'.wide.1
  refine ⟨a, rfl, ⟨_, SqL.ex hide_ex hq⟩, for_list (K := X.K) (a := a) (xs := vs) (fun i σ H => Btw X (hide H' (owns Γ)) (I ds i) σ H) ⟨Γ, h0 ds s, ⟨_, Ex.refl, en'.wide.2⟩⟩ (fun i σ H _ ⟨Γ', _, en2⟩ => SqL.ex en2.base hq) ?_ ?_⟩
  · rintro i v σ2 H2 hv ⟨Γ', hI, en2⟩
    obtain ⟨x, hx', rx⟩ := ra.get' hv
    exact hs _ eb ds i x Γ' s hx' hI _ H2 (en2.setDat (rx.ex en2.base) (hst ds i x Γ' s hx' hI))
  · rintro σ2 H2 ⟨Γ', hI, en2⟩
    rw [ra.length] at hI
    exact hd ds Γ' s hI _ H2 (en2.wb eb)
theorem go_for {body : List Stmt} (ix : Nat) {xn : Str} (I : Nat → Slots → Prop) (hit : EvI X Hb e Γ (· = ds)) (h0 : I 0 Γ) (hst : ∀ i x Γ', ds[i]? = some x → I i Γ' → Sto Γ' x)
    (hs : ∀ Hb', Ex Hb Hb' → ∀ i x Γ', ds[i]? = some x → I i Γ' → Go X Hb' body { D0 with nx := Btw X Hb' (I (i + 1)), ct := Btw X Hb' (I (i + 1)), bk := fun σ H => SemSs X rest D0 σ H } (Γ'.set ix (.dat x)))
    (hd : ∀ Γ', I ds.length Γ' → Go X Hb rest D0 Γ') (hp : PassesOwn (model X.prog X.w) X.A X.env X.xe) (hc : X.calm = true) (nd : X.N.Nodup) (hi : X.N[ix]? = some xn := by rfl) (hx : Loc X.env.scope xn := by first | exact Or.inl rfl | exact Or.inr rfl)
    (hfs : ∀ x, foldedSetIterable e X.env x = pure x := by intro _; rfl) (hf : X.fn xn = true ∨ X.env.scope.names.lookup xn = some .local := by first | exact .inl rfl | exact .inr rfl) :
    Go X Hb (.For (.Name xn p') e body [] pos :: rest) D0 Γ :=
  go_forN ix (fun _ i => I i) hit (fun _ _ => h0) (fun _ i x Γ' s hx hI => hst i x Γ' (by rw [← s]; exact hx) hI) (fun Hb' eb _ i x Γ' s hx hI => hs Hb' eb i x Γ' (by rw [← s]; exact hx) hI) (fun ds' Γ' s hI => hd Γ' (by rw [← s]; exact hI)) hp hc nd hi hx hfs hf
/-- for x in range(n), range(a, b) -/
def EvR (X : Cx) (Hb : Hp) (e : Expr) (Γ : Slots) (S : Int → Nat → Prop) : Prop := ∃ wi, (∀ tg, PI X tg e wi) ∧ ∀ σ H, EnvOk X.K Hb Γ σ H → ∀ R : It → Hp → Prop, (∀ lo n H', S lo n → Ex H H' → R (Itr lo n) H') → wi σ H R
theorem evr_1N {pn : Pos} {S1 : Int → Prop} (h : EvA X Hb [a] Γ fun z => ∃ i, z = [.int i] ∧ S1 i) (hb : ∀ i, S1 i → -(2 ^ 62) ≤ i ∧ i < 2 ^ 62) (hm : X.mg "range" = none) (hg : Gl X "range" := by rfl) (hs : starEach [a] X.env = [(false, eval a X.env)] := by rfl) :
    EvR X Hb (.Call (.Name "range" pn) [a] [] pos) Γ (fun lo n => lo = 0 ∧ ∃ i, S1 i ∧ n = i.toNat) :=
  ⟨_, fun tg => pi_range1 hg hm (semA X [a]) hs, fun σ H en R q => h σ H en _ fun vs H' ds ⟨i, e1, s⟩ x r => by
    subst e1
    exact ⟨i, r.int1, (hb i s).1, (hb i s).2, q 0 _ H' ⟨rfl, i, s, rfl⟩ x⟩⟩
theorem evr_1 {pn : Pos} {i : Int} (h : EvAs X Hb [a] Γ [.int i]) (hb : -(2 ^ 62) ≤ i ∧ i < 2 ^ 62) (hm : X.mg "range" = none) (hg : Gl X "range" := by rfl) (hs : starEach [a] X.env = [(false, eval a X.env)] := by rfl) :
    EvR X Hb (.Call (.Name "range" pn) [a] [] pos) Γ (fun lo n => lo = 0 ∧ n = i.toNat) :=
  ⟨_, fun tg => pi_range1 hg hm (semA X [a]) hs, fun σ H en R q => h σ H en _ fun vs H' ds e1 x r => by
    subst e1
    exact ⟨i, r.int1, hb.1, hb.2, q 0 _ H' ⟨rfl, rfl⟩ x⟩⟩
theorem evr_2 {pn : Pos} {i j : Int} (h : EvAs X Hb [a, b] Γ [.int i, .int j]) (hb : -(2 ^ 62) ≤ i ∧ i < 2 ^ 62 ∧ -(2 ^ 62) ≤ j ∧ j < 2 ^ 62) (hm : X.mg "range" = none) (hg : Gl X "range" := by rfl) (hs : starEach [a, b] X.env = [(false, eval a X.env), (false, eval b X.env)] := by rfl) (hs2 : starEach [b] X.env = [(false, eval b X.env)] := by rfl) :
    EvR X Hb (.Call (.Name "range" pn) [a, b] [] pos) Γ (fun lo n => lo = i ∧ n = (j - i).toNat) :=
  ⟨_, fun tg => pi_range2 hg hm (semA X [a, b]) hs hs2, fun σ H en R q => h σ H en _ fun vs H' ds e1 x r => by
    subst e1
    exact ⟨i, j, r.int2, hb, q i _ H' ⟨rfl, rfl⟩ x⟩⟩
theorem go_forR {body : List Stmt} (ix : Nat) {xn : Str} {S1 : Int → Nat → Prop} (I : Int → Nat → Nat → Slots → Prop) (hit : EvR X Hb e Γ S1) (h0 : ∀ lo n, S1 lo n → I lo n 0 Γ)
    (hs : ∀ lo n i Γ', S1 lo n → i < n → I lo n i Γ' → Go X Hb body { D0 with nx := Btw X Hb (I lo n (i + 1)), ct := Btw X Hb (I lo n (i + 1)), bk := fun σ H => SemSs X rest D0 σ H } (Γ'.set ix (.dat (.int (lo + i)))))
    (hd : ∀ lo n Γ', S1 lo n → I lo n n Γ' → Go X Hb rest D0 Γ') (hp : PassesOwn (model X.prog X.w) X.A X.env X.xe) (hc : X.calm = true) (nd : X.N.Nodup) (hi : X.N[ix]? = some xn := by rfl) (hx : Loc X.env.scope xn := by first | exact Or.inl rfl | exact Or.inr rfl)
    (hfs : ∀ x, foldedSetIterable e X.env x = pure x := by intro _; rfl) (hf : X.fn xn = true ∨ X.env.scope.names.lookup xn = some .local := by first | exact .inl rfl | exact .inr rfl) :
    Go X Hb (.For (.Name xn p') e body [] pos :: rest) D0 Γ := fun σ H en => by
  obtain ⟨wi, hpi, hw⟩ := hit
  refine SemSs.cons (ps_for hp hc (hpi _) (pg_name nd hi hx hf) (semSs X body) hfs) ?_
  refine hw σ H en _ fun lo n H' s x => ?_
  refine for_range (lo := lo) (n := n) (fun i σ H => Btw X Hb (I lo n i) σ H) ⟨Γ, h0 lo n s, en.ex x⟩ ?_ ?_
  · rintro i σ2 H2 hin ⟨Γ', hI, en2⟩
    exact hs lo n i Γ' s hin hI _ H2 (en2.setDat (.int _) (.inl rfl))
  · rintro σ2 H2 ⟨Γ', hI, en2⟩
    exact hd lo n Γ' s hI _ H2 en2
end
end L3

namespace L3
open PySem PySem.Spec PyProof.Rows L2
section
variable {X : Cx} {Hb Hb' : Hp} {a b c e : Expr} {es : List Expr} {Γ : Slots} {pos p' apos cpos : Pos} {d x y : D} {ds : List D} {S S' : D → Prop} {fr : Bool} {D0 : Ends} {rest sts : List Stmt} {st : Stmt}
theorem EnvOk.ownW {K : PySem.W.Frag} {σ : L2.St} {H : Hp} {i : Nat} {p : Addr} (h : EnvOk K Hb Γ σ H) (e : Γ[i]? = some (.own p ds)) : σ[i]? = some (some (.ref p)) ∧ ∃ vs, H p = some (.lst vs) ∧ RepAll K (hide H (owns Γ)) vs ds ∧ Lsts H (owns Γ) := by
  obtain ⟨h1, h2, h3, h4⟩ := h.wide
  obtain ⟨o, q, rfl, n, vs, q2, r2⟩ := Paired.getE h3 e
  exact ⟨q, vs, q2, r2, owns_lsts h3⟩
/-- xs.append(e), xs a list of one's own -/
theorem go_appendN (i : Nat) {p : Addr} {xn : Str} (h : EvN X Hb e Γ fr S) (hG : Γ[i]? = some (.own p ds) := by rfl) (hf : ∀ d, S d → d.flat = true) (hl : ds.length ≤ 100000) (g : ∀ d, S d → Go X Hb rest D0 (Γ.set i (.own p (ds ++ [d])))) (hN : X.N[i]? = some xn := by rfl)
    (hv : Vis X.env.scope xn := by first | exact Or.inl rfl | exact Or.inr (Or.inl rfl) | exact Or.inr (Or.inr rfl)) (hdb : (xn == ("__debug__" : Str)) = false := by decide) (hcd : (xn == ("__classdict__" : Str)) = false := by decide)
    (hbase : attributeBase (.Name xn p') "append" X.env (eval (.Name xn p') X.env) = eval (.Name xn p') X.env := by rfl)
    (hfew : ((backTo cpos (starEach (e :: []) X.env)).all (fun x => !x.1) && (backToKw cpos (keywordEach [] X.env)).all (fun x => x.1.isSome) && decide ((e :: []).length + ([] : List Keyword).length + (if ([] : List Keyword).isEmpty then 0 else 1) < 30)) = true := by rfl)
    (hline : (apos.endLine == cpos.line) = true := by rfl) (hs : starEach (e :: []) X.env = (false, eval e X.env) :: starEach [] X.env := by rfl) (hplain : (backTo cpos (starEach [] X.env)).any (·.1) = false := by rfl)
    (hsw : swapsWith (.Call (.Attribute (.Name xn p') "append" apos) [e] [] cpos) none pos.line X.env = pure false := by rfl) :
    Go X Hb (.Expr (.Call (.Attribute (.Name xn p') "append" apos) [e] [] cpos) pos :: rest) D0 Γ := fun σ H en => by
  obtain ⟨hσ, vs, hl1, _, _⟩ := en.ownW hG
  refine SemSs.cons (ps_expr (pe_bm PySem.F.plainAttrs_list PySem.F.slot_list_append PySem.F.type_list_append mt_append (pe_var hN hv hdb hcd) (pa_cons (semE X e) pa_nil hs) hbase hfew hline hs hplain) hsw) ?_
  refine ⟨_, hσ, .inl ⟨rfl, _, SqL.of hl1⟩, h σ H en _ fun v H' d s x r _ => ?_⟩
  have en' := en.ex x
  obtain ⟨_, ws, hl2, rw, ls⟩ := en'.ownW hG
  refine ⟨p, ws, v, rfl, rfl, hl2, by rw [rw.length]; exact Nat.lt_of_le_of_lt hl (by decide), ?_⟩
  exact g d s σ _ (en'.mutOwn hG (rw.append (.cons (r.hide ls (hf d s)) .nil)))
theorem go_append (i : Nat) {p : Addr} {xn : Str} (h : Ev X Hb e Γ fr d) (hG : Γ[i]? = some (.own p ds) := by rfl) (hf : d.flat = true) (hl : ds.length ≤ 100000) (g : Go X Hb rest D0 (Γ.set i (.own p (ds ++ [d])))) (hN : X.N[i]? = some xn := by rfl)
    (hv : Vis X.env.scope xn := by first | exact Or.inl rfl | exact Or.inr (Or.inl rfl) | exact Or.inr (Or.inr rfl)) (hdb : (xn == ("__debug__" : Str)) = false := by decide) (hcd : (xn == ("__classdict__" : Str)) = false := by decide)
    (hbase : attributeBase (.Name xn p') "append" X.env (eval (.Name xn p') X.env) = eval (.Name xn p') X.env := by rfl)
    (hfew : ((backTo cpos (starEach (e :: []) X.env)).all (fun x => !x.1) && (backToKw cpos (keywordEach [] X.env)).all (fun x => x.1.isSome) && decide ((e :: []).length + ([] : List Keyword).length + (if ([] : List Keyword).isEmpty then 0 else 1) < 30)) = true := by rfl)
    (hline : (apos.endLine == cpos.line) = true := by rfl) (hs : starEach (e :: []) X.env = (false, eval e X.env) :: starEach [] X.env := by rfl) (hplain : (backTo cpos (starEach [] X.env)).any (·.1) = false := by rfl)
    (hsw : swapsWith (.Call (.Attribute (.Name xn p') "append" apos) [e] [] cpos) none pos.line X.env = pure false := by rfl) :
    Go X Hb (.Expr (.Call (.Attribute (.Name xn p') "append" apos) [e] [] cpos) pos :: rest) D0 Γ :=
  go_appendN i h hG (fun _ z => by rw [z]; exact hf) hl (fun _ z => by rw [z]; exact g) hN hv hdb hcd hbase hfew hline hs hplain hsw
/-- x op= e, ints -/
theorem go_aug (i : Nat) {xn : Str} {op : Operator} {C : Int → Int → Prop} {gg : Int → Int → Int} {k j : Int} (ho : OpR X (inplaceOp op) (rI C fun i j => .int (gg i j))) (h : Ev X Hb e Γ fr (.int j)) (hc : C k j) (g : Go X Hb rest D0 (Γ.set i (.dat (.int (gg k j))))) (nd : X.N.Nodup) (hG : Γ[i]? = some (.dat (.int k)) := by rfl)
    (hi : X.N[i]? = some xn := by rfl) (hx : Loc X.env.scope xn := by first | exact Or.inl rfl | exact Or.inr rfl) (hf : X.fn xn = true ∨ X.env.scope.names.lookup xn = some .local := by first | exact .inl rfl | exact .inr rfl) :
    Go X Hb (.AugAssign (.Name xn p') op e pos :: rest) D0 Γ := fun σ H en => by
  obtain ⟨v, hσ, r0⟩ := en.dat hG
  refine SemSs.cons (ps_aug (ti := rI C fun i j => .int (gg i j)) nd hi hx (semE X e) (fun pins s σ H x y v u Q I r1 r2 q => ho pins s σ H x y v u Q I r1 r2 q) hf) ?_
  refine ⟨v, hσ, h σ H en _ fun w H' d s x r _ => ?_⟩
  subst s
  cases r0
  cases r
  exact ⟨k, j, rfl, rfl, hc, g _ H' ((en.ex x).setDat (.int _) (.inl rfl))⟩
theorem iopI0' {f : Value → Value → Sem Value} {g : Int → Int → V} (h : OpR X f (rI0 g)) : OpR X f (rI (fun _ _ => True) g) := fun pins s σ H x y v u Q I r1 r2 ⟨i, j, e1, e2, _, q⟩ => h pins s σ H x y v u Q I r1 r2 ⟨i, j, e1, e2, q⟩
/-- a, b = e1, e2 -/
theorem go_parN (i j : Nat) {xn yn : Str} {px py pt : Pos} {kt k2 : Nat} {pt2 : Pos} {S2 : D → D → Prop} (h : EvA X Hb [a, b] Γ fun z => ∃ d1 d2, z = [d1, d2] ∧ S2 d1 d2) (hs1 : ∀ d1 d2, S2 d1 d2 → Sto Γ d1 ∧ Sto (Γ.set i (.dat d1)) d2)
    (g : ∀ d1 d2, S2 d1 d2 → Go X Hb rest D0 ((Γ.set i (.dat d1)).set j (.dat d2))) (hc : X.calm = true) (nd : X.N.Nodup) (hw : swappedStores [.Tuple [.Name xn px, .Name yn py] kt pt] (.Tuple [a, b] k2 pt2) X.env = pure (some [xn, yn]))
    (hi : X.N[i]? = some xn := by rfl) (hj : X.N[j]? = some yn := by rfl) (hij : i ≠ j := by decide) (hx : X.env.scope.names.lookup xn = some .local := by rfl) (hy : X.env.scope.names.lookup yn = some .local := by rfl)
    (hsw : swapsWithSole [.Tuple [.Name xn px, .Name yn py] kt pt] (.Tuple [a, b] k2 pt2) pos.line X.env = pure false := by rfl) :
    Go X Hb (.Assign [.Tuple [.Name xn px, .Name yn py] kt pt] (.Tuple [a, b] k2 pt2) pos :: rest) D0 Γ := fun σ H en => by
  refine SemSs.cons (ps_par hc nd hi hj hij hx hy (semA X [a, b]) hw hsw) ?_
  refine h σ H en _ fun vs H' ds ⟨d1, d2, e1, s⟩ x r => ?_
  subst e1
  cases r with
  | cons r1 r2 =>
    cases r2 with
    | cons r2 r3 =>
      cases r3
      exact ⟨_, _, rfl, g d1 d2 s _ H' (((en.ex x).setDat r1 (hs1 d1 d2 s).1).setDat r2 (hs1 d1 d2 s).2)⟩
theorem go_par (i j : Nat) {xn yn : Str} {px py pt : Pos} {kt k2 : Nat} {pt2 : Pos} {d1 d2 : D} (h : EvAs X Hb [a, b] Γ [d1, d2]) (hs1 : Sto Γ d1) (hs2 : Sto (Γ.set i (.dat d1)) d2)
    (g : Go X Hb rest D0 ((Γ.set i (.dat d1)).set j (.dat d2))) (hc : X.calm = true) (nd : X.N.Nodup) (hw : swappedStores [.Tuple [.Name xn px, .Name yn py] kt pt] (.Tuple [a, b] k2 pt2) X.env = pure (some [xn, yn]))
    (hi : X.N[i]? = some xn := by rfl) (hj : X.N[j]? = some yn := by rfl) (hij : i ≠ j := by decide) (hx : X.env.scope.names.lookup xn = some .local := by rfl) (hy : X.env.scope.names.lookup yn = some .local := by rfl)
    (hsw : swapsWithSole [.Tuple [.Name xn px, .Name yn py] kt pt] (.Tuple [a, b] k2 pt2) pos.line X.env = pure false := by rfl) :
    Go X Hb (.Assign [.Tuple [.Name xn px, .Name yn py] kt pt] (.Tuple [a, b] k2 pt2) pos :: rest) D0 Γ :=
  go_parN i j (S2 := fun u v => u = d1 ∧ v = d2) (h.imp fun _ z => ⟨d1, d2, z, rfl, rfl⟩) (fun _ _ ⟨e1, e2⟩ => by rw [e1, e2]; exact ⟨hs1, hs2⟩) (fun _ _ ⟨e1, e2⟩ => by rw [e1, e2]; exact g) hc nd hw hi hj hij hx hy hsw
/-- targets: a name; several names of a tuple -/
def TgOk (X : Cx) (Hb : Hp) (tg : Expr) (f : D → Slots → Slots → Prop) : Prop := ∃ g, PG X tg g ∧ ∀ d Γ Γ' σ H v, f d Γ Γ' → EnvOk X.K Hb Γ σ H → Rep X.K H v d → ∀ Q : L2.St → Hp → Prop, (∀ σ', EnvOk X.K Hb Γ' σ' H → Q σ' H) → g v σ H Q
def TgsOk (X : Cx) (Hb : Hp) (tgs : List Expr) (f : List D → Slots → Slots → Prop) : Prop := ∃ g, PGs X tgs g ∧ ∀ ds Γ Γ' σ H vs, f ds Γ Γ' → EnvOk X.K Hb Γ σ H → RepAll X.K H vs ds → ∀ Q : L2.St → Hp → Prop, (∀ σ', EnvOk X.K Hb Γ' σ' H → Q σ' H) → g vs σ H Q
theorem tg_name (i : Nat) {xn : Str} (nd : X.N.Nodup) (hi : X.N[i]? = some xn := by rfl) (hx : Loc X.env.scope xn := by first | exact Or.inl rfl | exact Or.inr rfl) (hf : X.fn xn = true ∨ X.env.scope.names.lookup xn = some .local := by first | exact .inl rfl | exact .inr rfl) :
    TgOk X Hb (.Name xn pos) (fun d Γ Γ' => Sto Γ d ∧ Γ' = Γ.set i (.dat d)) := ⟨_, pg_name nd hi hx hf, fun d Γ Γ' σ H v ⟨h1, h2⟩ en r Q q => by
  subst h2
  exact q _ (en.setDat r h1)⟩
theorem tgs_nil : TgsOk X Hb [] (fun ds Γ Γ' => ds = [] ∧ Γ' = Γ) := ⟨_, pgs_nil, fun ds Γ Γ' σ H vs ⟨h1, h2⟩ en r Q q => by
  subst h1 h2
  cases r
  exact ⟨rfl, q σ en⟩⟩
theorem tgs_cons {tg : Expr} {tgs : List Expr} {f : D → Slots → Slots → Prop} {fs : List D → Slots → Slots → Prop} (h1 : TgOk X Hb tg f) (h2 : TgsOk X Hb tgs fs) (hs : (assignEach (tg :: tgs) X.env).map (·.2) = assign tg X.env :: (assignEach tgs X.env).map (·.2) := by rfl) :
    TgsOk X Hb (tg :: tgs) (fun ds Γ Γ' => ∃ d dr Γ1, ds = d :: dr ∧ f d Γ Γ1 ∧ fs dr Γ1 Γ') := by
  obtain ⟨g1, p1, k1⟩ := h1
  obtain ⟨g2, p2, k2⟩ := h2
  refine ⟨_, pgs_cons p1 p2 hs, fun ds Γ Γ' σ H vs ⟨d, dr, Γ1, e, a1, a2⟩ en r Q q => ?_⟩
  subst e
  cases r with
  | cons r1 r2 =>
    refine ⟨_, _, rfl, k1 d Γ Γ1 σ H _ a1 en r1 _ fun σ' en' => ?_⟩
    exact k2 dr Γ1 Γ' σ' H _ a2 en' r2 Q q
theorem tg_tup {tgs : List Expr} {kk : Nat} {fs : List D → Slots → Slots → Prop} {n : Nat} (hc : X.calm = true) (h : TgsOk X Hb tgs fs) (hn : (assignEach tgs X.env).length = n := by rfl) (hst : (assignEach tgs X.env).findIdx? (·.1) = none := by rfl) :
    TgOk X Hb (.Tuple tgs kk pos) (fun d Γ Γ' => ∃ ds, d = .tup ds ∧ ds.length = n ∧ fs ds Γ Γ') := by
  obtain ⟨g, p, k⟩ := h
  refine ⟨_, pg_tup hc p hn hst, fun d Γ Γ' σ H v ⟨ds, e, hl, a⟩ en r Q q => ?_⟩
  subst e
  cases r with
  | tup hq ra => exact ⟨_, _, rfl, hq, by rw [ra.length, hl], k ds Γ Γ' σ H _ a en ra Q q⟩
/-- target = e -/
theorem go_asg {tg : Expr} {f : D → Slots → Slots → Prop} (h : EvN X Hb e Γ fr S) (ht : TgOk X Hb tg f) (hf : ∀ d, S d → ∃ Γ', f d Γ Γ' ∧ Go X Hb rest D0 Γ') (hs : swapsWithSole [tg] e pos.line X.env = pure false := by rfl) (hw : swappedStores [tg] e X.env = pure none := by rfl)
    (h1 : (assignEach [tg] X.env).map (·.2) = [assign tg X.env] := by rfl) : Go X Hb (.Assign [tg] e pos :: rest) D0 Γ := fun σ H en => by
  obtain ⟨g, p, k⟩ := ht
  refine SemSs.cons (ps_asg (semE X e) p hs hw h1) ?_
  refine h σ H en _ fun v H' d s x r _ => ?_
  obtain ⟨Γ', a, go⟩ := hf d s
  exact k d Γ Γ' σ H' v a (en.ex x) r _ fun σ' en' => go σ' H' en'
end

/-! ### a def of the text -/
section
variable {P : Program} {w : World} {K : PySem.W.Frag} {mg : Str → Option Value} {base : Heap}
/-- where a def's body stands -/
abbrev bodyCx (P : Program) (w : World) (K : PySem.W.Frag) (mg : Str → Option Value) (base : Heap) (N : List Str) (qual : Str) (sc : Scope) (f : Addr) (cdv : Value) (A : Around) (outer : List Env) (s : Shared) (H : Hp) (E : XK) : Cx := (cxOf CX0 P w K mg base N qual sc f cdv A outer s H E).nox
def slots0 (N : List Str) (ds : List D) : Slots := ds.map .dat ++ List.replicate (N.length - ds.length) .any
theorem paired_any {Hz H : Hp} : ∀ n : Nat, Paired (EntOk K Hz H) (List.replicate n .any) (List.replicate n none)
  | 0 => .nil
  | n + 1 => .cons trivial (paired_any n)
theorem paired_start {H : Hp} (n : Nat) : ∀ {vs : List V} {ds : List D}, RepAll K H vs ds → Paired (EntOk K H H) (ds.map .dat ++ List.replicate n .any) (vs.map some ++ List.replicate n none)
  | _, _, .nil => paired_any n
  | _, _, .cons h r => .cons ⟨_, rfl, h⟩ (paired_start n r)
theorem owns_start (n : Nat) : ∀ ds : List D, owns (ds.map .dat ++ List.replicate n .any) = []
  | d :: ds => owns_start n ds
  | [] => by
    induction n with
    | zero => rfl
    | succ n ih => exact ih
theorem env_start {N : List Str} {H : Hp} {vs : List V} {ds : List D} (r : RepAll K H vs ds) : EnvOk K H (slots0 N ds) (L2.start N vs) H := by
  refine ⟨H, Ex.refl, Ex.refl, ?_, ?_⟩
  · unfold slots0 L2.start
    rw [r.length]
    exact paired_start _ r
  · unfold slots0
    rw [owns_start]
    exact List.nodup_nil
/-- THE RULE for a def: nothing is raised, the answer is one of S -/
theorem fnP_of {x qual : Str} {st : Stmt} {f : Addr} {fd : FuncData} {N ps : List Str} {k : Nat} {Q : Pr} (F : Fun K x qual st f fd) (Sc : FnScope N ps (defScope st)) (hm : mg x = some (.ref f)) (hb : Binds K fd ps []) (har : ∀ ds S, Q ds S → ds.length = ps.length)
    (hbody : ∀ (cdv : Value) (A : Around) (outer : List Env) (s : Shared) (H : Hp) (E : XK), Room k (A.deeper (envOfC qual (defScope st) s.heap.objs.size f cdv)) → ∀ ds S, Q ds S →
      Go (bodyCx P w K mg base N qual (defScope st) f cdv A outer s H E) H (defBody st) { nx := fun _ H' => S .non ∧ Ex H H', rt := fun v H' => ∃ d, S d ∧ Rt K H d v H' } (slots0 N ds)) : FnP P w K mg base x (k + 1) Q := by
  refine ⟨f, fd, ps, F.ok Sc (fun vs H Q' E h => ?_) (fun cdv A outer s H vs Q' E hr h => ?_), hm, F.kp, hb⟩
  · obtain ⟨ds, S, r, q, _⟩ := h
    rw [r.length]
    exact har ds S q
  · obtain ⟨ds, S, r, q, hk⟩ := h
    refine ⟨_, semSs _ _, ?_⟩
    have go := hbody cdv A outer s H E hr ds S q _ _ (env_start (N := N) r)
    exact go.mono (fun σ' H' ⟨sd, x⟩ => hk .non H' .non sd x .non trivial) (fun v H' ⟨d, sd, x, rp, f⟩ => hk v H' d sd x rp f) (fun _ _ h => h) fun _ _ h => h
end
end L3

namespace L3
open PySem PySem.Spec PyProof.Rows L2
section
variable {X : Cx} {Hb Hb' : Hp} {a b c e : Expr} {es : List Expr} {Γ : Slots} {pos p' apos cpos : Pos} {d x y : D} {ds : List D} {S S' : D → Prop} {fr : Bool} {D0 : Ends} {rest sts : List Stmt} {st : Stmt}
/-- the end of a turn: the slots are as Γ' says -/
theorem go_end {Γ' : Slots} (h : ∀ σ H, EnvOk X.K Hb Γ σ H → EnvOk X.K Hb Γ' σ H) (hD : ∀ σ H, EnvOk X.K Hb Γ' σ H → D0.nx σ H := by exact fun _ _ h => h) : Go X Hb [] D0 Γ := go_nil fun σ H en => hD σ H (h σ H en)
theorem go_endF (i : Nat) {Γ' : Slots} (h : Γ.set i .any = Γ') (hD : ∀ σ H, EnvOk X.K Hb Γ' σ H → D0.nx σ H := by exact fun _ _ h => h) : Go X Hb [] D0 Γ := go_nil fun σ H en => hD σ H (by rw [← h]; exact en.forget)
/-- for x in a list: the slots by a state that each item turns -/
theorem go_fold {α β : Type} {body : List Stmt} (ix : Nat) {xn : Str} (f : α → D) (xs : List α) (G : β → Slots) (step : β → α → β) (s0 : β) (hit : EvI X Hb e Γ (· = xs.map f)) (h0 : Γ = G s0) (hst : ∀ s a, a ∈ xs → Sto (G s) (f a))
    (hs : ∀ Hb', Ex Hb Hb' → ∀ pre a post, xs = pre ++ a :: post → Go X Hb' body { D0 with nx := fun σ H => EnvOk X.K Hb' (G (step (pre.foldl step s0) a)) σ H, ct := fun σ H => EnvOk X.K Hb' (G (step (pre.foldl step s0) a)) σ H, bk := fun σ H => SemSs X rest D0 σ H } ((G (pre.foldl step s0)).set ix (.dat (f a))))
    (hd : Go X Hb rest D0 (G (xs.foldl step s0))) (hp : PassesOwn (model X.prog X.w) X.A X.env X.xe) (hc : X.calm = true) (nd : X.N.Nodup) (hi : X.N[ix]? = some xn := by rfl) (hx : Loc X.env.scope xn := by first | exact Or.inl rfl | exact Or.inr rfl)
    (hfs : ∀ x, foldedSetIterable e X.env x = pure x := by intro _; rfl) (hf : X.fn xn = true ∨ X.env.scope.names.lookup xn = some .local := by first | exact .inl rfl | exact .inr rfl) :
    Go X Hb (.For (.Name xn p') e body [] pos :: rest) D0 Γ := by
  have get : ∀ {i : Nat} {x : D}, (xs.map f)[i]? = some x → ∃ a, xs[i]? = some a ∧ x = f a := fun {i x} h => by
    rw [List.getElem?_map] at h
    cases q : xs[i]? with
    | none => rw [q] at h; cases h
    | some a => rw [q] at h; cases h; exact ⟨a, rfl, rfl⟩
  refine go_for ix (fun i Γ' => Γ' = G ((xs.take i).foldl step s0)) hit (by rw [h0]; rfl) (fun i x Γ' hx' hI => ?_) (fun Hb' eb i x Γ' hx' hI => ?_) (fun Γ' hI => ?_) hp hc nd hi hx hfs hf
  · obtain ⟨a, ha, rfl⟩ := get hx'
    rw [hI]
    exact hst _ a (List.mem_of_getElem? ha)
  · obtain ⟨a, ha, rfl⟩ := get hx'
    subst hI
    obtain ⟨hl, hv⟩ := List.getElem?_eq_some_iff.mp ha
    have e1 : xs = xs.take i ++ a :: xs.drop (i + 1) := by
      rw [← hv, List.getElem_cons_drop, List.take_append_drop]
    have e2 : xs.take (i + 1) = xs.take i ++ [a] := by rw [List.take_add_one, ha]; rfl
    have k := hs Hb' eb (xs.take i) a (xs.drop (i + 1)) e1
    intro σ H en
    have go : ∀ σ' H', EnvOk X.K Hb' (G (step ((xs.take i).foldl step s0) a)) σ' H' → Btw X Hb' (fun Γ' => Γ' = G ((xs.take (i + 1)).foldl step s0)) σ' H' := fun σ' H' en' => ⟨_, rfl, by
      rw [e2, List.foldl_append]
      exact en'⟩
    exact (k σ H en).mono go (fun _ _ h => h) (fun _ _ h => h) go
  · rw [hI, List.length_map, List.take_length]
    exact hd
end
end L3

namespace L3
open PySem PySem.Spec PyProof.Rows L2
section
variable {P : Program} {w : World} {K : PySem.W.Frag} {mg : Str → Option Value} {base : Heap}
/-- a promise kept where no repr is under way -/
structure FnG (P : Program) (w : World) (K : PySem.W.Frag) (mg : Str → Option Value) (base : Heap) (k : Nat) (f : Addr) (fd : FuncData) (ps : List Str) (sp : Sp) : Prop where
  ar : ∀ vs H Q E, sp vs H Q E → vs.length = ps.length
  go : ∀ A outer s H args us vs Q, A.guards = some [] → Room k A → Env0 P w K mg base A outer s H → BindsTo s fd args (ps.zip us) → Vals vs us → sp vs H Q E0 →
    codeAny (model P w) A (.call (.ref f) args) (CR CX0 outer P w H s Q E0) s
theorem deeper_guards {A : Around} {env : Env} (h : A.guards = some []) : (A.deeper env).guards = some [] := h
theorem fnG_of {x qual : Str} {st : Stmt} {f : Addr} {fd : FuncData} {N ps : List Str} {k : Nat} {sp : Sp} (F : Fun K x qual st f fd) (Sc : FnScope N ps (defScope st)) (ar : ∀ vs H Q E, sp vs H Q E → vs.length = ps.length)
    (hbody : ∀ cdv A outer s H vs Q, (A.deeper (envOfC qual (defScope st) s.heap.objs.size f cdv)).guards = some [] → Room k (A.deeper (envOfC qual (defScope st) s.heap.objs.size f cdv)) → sp vs H Q E0 →
      SemSs (bodyCx P w K mg base N qual (defScope st) f cdv A outer s H E0) (defBody st) { nx := fun _ H' => Q .non H', rt := Q } (L2.start N vs) H) : FnG P w K mg base (k + 1) f fd ps sp := by
  obtain ⟨oc, od, kV, doc, pm, an, cdv, ct, osl, efd, lk, hcd⟩ := F.ex
  subst efd
  refine ⟨ar, fun A outer s H args us vs Q hgd hr e0 hb r hsp => ?_⟩
  have kin := e0.mod.kin.keeps fun b o e => (e0.bs b o e).1
  have nolim := e0.mod.nolimit.keeps fun b o e => (e0.bs b o e).1
  have kinds : ∀ y ∈ ps.zip us, (defScope st).names.lookup y.1 = some .local ∨ ((defScope st).names.lookup y.1 = some .cell ∧ ((cellsFrom (s.heap.objs.size + 1) (defScope st).names []).lookup y.1).isSome = true) := by
    rintro ⟨n, v⟩ hy
    refine (Sc.par n (List.of_mem_zip hy).1).imp id fun q => ⟨q, ?_⟩
    exact PySem.W.cellsFrom_some _ _ _ (.inl q)
  refine codeAny_call_function hr.depth (kin f _ lk) rfl Sc.co Sc.gen rfl (PySem.W.codeRec_of kin hcd) (hb _ _ _ _ ?_)
  refine wpAny_newFunctionEnv_cells Sc.kind kinds fun env ee s1 ic => ?_
  subst ee
  refine ⟨nolim.keeps ic.toInCall.keep, codeAny_func ?_⟩
  have body := hbody cdv A outer s H vs Q (deeper_guards hgd) (hr.deeper _) hsp
  have I0 := inv_start (CX := CX0) (E := E0) Sc hr.hd e0 (ar _ _ _ _ hsp) r ic
  have fin : ∀ {σ' : L2.St} {H' : Hp} {v : V} {u : Value} {s' : Shared}, Inv (bodyCx P w K mg base N qual (defScope st) f cdv A outer s H E0) [] σ' H' s' → RelV v u → Q v H' → CE outer P w H s Q u s' :=
    fun J rv q => ⟨_, _, J.os, J.bare, J.base, J.hok, rv, q⟩
  refine wpAny_mono (body.run [] s1 (I0.wish _)) (fun fl s' hs => ?_) fun e s' hs => (show False from hs).elim
  cases fl with
  | next => obtain ⟨σ', H', J, q⟩ := hs; exact fin (v := V.non) (u := Value.none) J rfl q
  | ret u => obtain ⟨v, σ', H', J, rv, q⟩ := hs; exact fin J rv q
  | brk => obtain ⟨_, _, _, q⟩ := hs; exact q.elim
  | cont => obtain ⟨_, _, _, q⟩ := hs; exact q.elim
/-- the script's list, and nothing else, is known at a law's call -/
def OnlyS (H : Hp) : Prop := ∀ b u, H b = some u → ∃ o xs, u = .frz o (.lst xs)
theorem lawG {k : Nat} {fa a : Addr} {fd : FuncData} {x : Str} {sp : Sp} {mb : Str → Option Value} {s₁ : Shared} {vs : List Value} {ns : List Int} (kin : K.In s₁.heap) (glob : s₁.heap.Ns mainGlobals mg) (bl : s₁.heap.Ns builtinsNs mb) (blb : ∀ y : Str, y ≠ "__name__" → mb y = bootBuiltins y) (lim : s₁.heap.NoLimit) (nogen : s₁.gens = #[])
    (obj : s₁.heap.get? a = some { cls := .type "list", data := .seq vs.toArray }) (hints : IntsAre vs ns) (few : ns.length ≤ sizeLine) (hr : Room k callerA) (F : ∀ base : Heap, K.In base → base.Ns mainGlobals mg → FnG P w K mg base k fa fd [x] sp)
    (bind : ∀ (s : Shared) (u : Value), BindsTo s fd ⟨[u], []⟩ [(x, u)]) (hsp : ∀ H : Hp, OnlyS H → SqL K H a (ns.map V.int) → sp [.ref a] H (fun v _ => v = .bl true) E0) :
    codeAny (model P w) callerA (.call (.ref fa) ⟨[.ref a], []⟩) (fun r s' => r = .ok (.ret (.bool true)) ∧ OldK s₁.heap s'.heap ∧ s'.os = s₁.os ∧ AllBare s'.gens) s₁ := by
  have vals := vals_of_ints hints
  -- Ht: what is tracked, the script at a at most
  have main : ∀ Ht : Hp, (∀ b u, Ht b = some u → b = a ∧ u = .frz { cls := .type "list", data := .seq vs.toArray } (.lst (ns.map V.int)) ∧ K.lookup a = none) → SqL K Ht a (ns.map V.int) →
      codeAny (model P w) callerA (.call (.ref fa) ⟨[.ref a], []⟩) (fun r s' => r = .ok (.ret (.bool true)) ∧ OldK s₁.heap s'.heap ∧ s'.os = s₁.os ∧ AllBare s'.gens) s₁ := by
    intro Ht only sq
    have hok : HOk P w Ht s₁.heap := fun b u e => by
      obtain ⟨e1, e2, _⟩ := only b u e
      subst e1 e2
      exact ⟨obj, by rw [List.length_map]; exact few, vs, _, vals, obj⟩
    have stays : ∀ {b o}, s₁.heap.get? b = some o → Ht b = none → (hidT s₁.heap Ht).get? b = some o := hidT_get
    have nsIn : ∀ {b m}, s₁.heap.Ns b m → (hidT s₁.heap Ht).Ns b m := fun {b m} hns => by
      obtain ⟨o, ens, ep, e, dd, rr⟩ := hns
      refine ⟨o, ens, ep, stays e ?_, dd, rr⟩
      cases q : Ht b with
      | none => rfl
      | some u =>
        obtain ⟨e1, _, _⟩ := only b u q
        rw [e1, obj] at e
        cases e
        exact absurd (show Data.seq vs.toArray _ = Data.dict ens ep from dd) nofun
    have kinH : K.In (hidT s₁.heap Ht) := fun b o e => stays (kin b o e) (by
      cases q : Ht b with
      | none => rfl
      | some u =>
        obtain ⟨e1, _, e3⟩ := only b u q
        rw [e1, e3] at e
        cases e)
    obtain ⟨mc, lim1, lim2⟩ := lim
    have e0 : Env0 P w K mg (hidT s₁.heap Ht) callerA [] s₁ Ht := { frames := rfl, mod := ⟨kinH, nsIn glob, ⟨mb, nsIn bl, blb⟩, mc, nsIn lim1, lim2⟩, bs := fun b o e => of_hidT e, bsz := Nat.le_of_eq (hidT_size _ _), funs := trivial, frf := nofun, hok := hok, bare := .of_eq nogen }
    have osl : OnlyS Ht := fun b u e => ⟨_, _, (only b u e).2.1⟩
    refine codeAny_mono ((F _ kinH (nsIn glob)).go callerA [] s₁ Ht ⟨[.ref a], []⟩ [.ref a] [.ref a] _ rfl hr e0 (bind s₁ _) (.cons rfl .nil) (hsp Ht osl sq)) fun r s' h => ?_
    cases r with
    | error e => exact (show False from h).elim
    | ok fl =>
      cases fl with
      | ret u =>
        obtain ⟨v, H', os, bare, un, hok', rv, q⟩ := h
        have ev : v = .bl true := q
        rw [ev] at rv
        have eu : u = Value.bool true := rv
        refine ⟨by rw [eu], OldK.of_keep fun b o e => ?_, os, bare⟩
        cases q2 : Ht b with
        | none => exact un.keep b o e q2 nofun nofun
        | some y =>
          obtain ⟨o2, xs, ey⟩ := osl b y q2
          rw [ey] at q2
          have t1 := (hok b _ q2).1
          have t2 := (hok' b _ (un.frzs b _ _ q2)).1
          rw [t2, ← t1, e]
      | next => exact (show False from h).elim
      | brk => exact (show False from h).elim
      | cont => exact (show False from h).elim
  cases lk : K.lookup a with
  | none =>
    refine main (fun b => if b = a then some (.frz { cls := .type "list", data := .seq vs.toArray } (.lst (ns.map V.int))) else none) (fun b u e => ?_) (.inl (.inr ⟨_, if_pos rfl⟩))
    by_cases eb : b = a
    · exact ⟨eb, (Option.some.inj ((if_pos eb).symm.trans e)).symm, lk⟩
    · exact absurd ((if_neg eb).symm.trans e) nofun
  | some o =>
    have e := kin a o lk
    rw [obj] at e
    have eo : ({ cls := .type "list", data := .seq vs.toArray } : Obj) = o := Option.some.inj e
    refine main (fun _ => none) (fun b u e => absurd e nofun) (.inr ⟨o, vs.toArray, 0, lk, ?_, ?_, ?_, ?_, vals⟩)
    · rw [← eo]
    · rw [← eo]
    · rw [← eo]
    · rw [List.size_toArray, hints.length]; exact few
theorem walkG {l : PySem.W.OpenLaw} {n k : Nat} {q : Program} {loose : List Str} {XP : (Str → Option Value) → Heap → Prop} {YP : World → Heap → Prop} {dr : DefRec} {KK : Params → PySem.W.Frag} {sp : PySem.W.Frag → Sp} {x : Str} (most : l.most = some n) (few : n ≤ sizeLine) (nodef : dr.params.defaults = []) (hr : Room k callerA)
    (hY : ∀ w h, YP w h → (KK w.params).In h)
    (F : ∀ w mg fa h, (KK w.params).In h → h.Ns mainGlobals mg → mg dr.name = some (.ref fa) → ∃ fd : FuncData, (∀ s u, BindsTo s fd ⟨[u], []⟩ [(x, u)]) ∧ ∀ base : Heap, (KK w.params).In base → base.Ns mainGlobals mg → FnG l.prog w (KK w.params) mg base k fa fd [x] (sp (KK w.params)))
    (hsp : ∀ (K : PySem.W.Frag) (H : Hp) (a : Addr) (ns : List Int), ns.length ≤ n → OnlyS H → SqL K H a (ns.map V.int) → sp K [.ref a] H (fun v _ => v = .bl true) E0) : PySem.W.WalkO q loose XP YP l.row.toRowW dr [] (fun f vs => PySem.call f vs) := by
  refine Att.attach_call most nodef fun w s₀ s₁ mg mb fa o pm cd doc a vs ns G Y _ _ _ hmg obj hints len nogen => ?_
  obtain ⟨fd, bind, FF⟩ := F w mg fa _ (hY w _ Y) G.T.g hmg
  exact lawG (hY w _ Y) G.T.g G.T.b G.T.builtins G.T.nolimit nogen obj hints (Nat.le_trans len few) hr FF bind fun H hO hS => hsp _ H a ns len hO hS
end
end L3

namespace L3
open PySem PySem.Spec PyProof.Rows L2
def keyP : Key → PyData
  | .inl i => .int i
  | .inr x => .str x
mutual
/-- the data of the model -/
def D.py : D → PyData
  | .non => .none
  | .bl b => .bool b
  | .int i => .int i
  | .str x => .str x
  | .lst xs => .list (D.pyAll xs)
  | .tup xs => .tuple (D.pyAll xs)
  | .dct kvs => .dict (D.pyKV kvs)
  | .ext _ => .none
def D.pyAll : List D → List PyData
  | [] => []
  | x :: xs => D.py x :: D.pyAll xs
def D.pyKV : List (Key × D) → List (PyData × PyData)
  | [] => []
  | (k, d) :: r => (keyP k, D.py d) :: D.pyKV r
end
mutual
/-- nothing opaque -/
def D.ok : D → Bool
  | .ext _ => false
  | .lst xs | .tup xs => D.okAll xs
  | .dct kvs => D.okKV kvs
  | _ => true
def D.okAll : List D → Bool
  | [] => true
  | x :: xs => D.ok x && D.okAll xs
def D.okKV : List (Key × D) → Bool
  | [] => true
  | (_, d) :: r => D.ok d && D.okKV r
end
mutual
def D.noLst : D → Bool
  | .lst _ => false
  | .tup xs => D.noLstAll xs
  | .dct kvs => D.noLstKV kvs
  | _ => true
def D.noLstAll : List D → Bool
  | [] => true
  | x :: xs => D.noLst x && D.noLstAll xs
def D.noLstKV : List (Key × D) → Bool
  | [] => true
  | (_, d) :: r => D.noLst d && D.noLstKV r
end
section
variable {X : Cx} {pins : List (Addr × Obj)} {σ : L2.St} {H : Hp} {s : Shared}
theorem key_reads : ∀ {k : Key} {u : Value}, keyIs k u = true → Reads s.heap u (keyP k) []
  | k, u, h => by
    rcases keyIs_shape h with ⟨i, t, rfl, rfl⟩ | ⟨x, t, rfl, rfl⟩
    · exact .int i t
    · exact .str x t
theorem pairs_keys {knd : KeyKind X.prog X.w Key} (hk : ∀ k v, knd.is k v = keyIs k v) : ∀ {es : List DictEntry} {vs : List (Key × Value)}, Pairs knd es vs → ReadsAll s.heap (es.map (·.key)) (vs.map fun p => keyP p.1) []
  | _, _, .nil => .nil
  | _, _, .cons h _ r => by
    have h1 := key_reads (s := s) (by rw [← hk]; exact h)
    have := ReadsAll.cons h1 (pairs_keys hk r)
    exact this
theorem pairs_vals {knd : KeyKind X.prog X.w Key} : ∀ {es : List DictEntry} {vs : List (Key × Value)}, Pairs knd es vs → es.map (·.val) = vs.map (·.2)
  | _, _, .nil => rfl
  | _, _, .cons _ h r => by
    rw [List.map_cons, List.map_cons, h, pairs_vals r]
mutual
theorem Rep.reads (I : Inv X pins σ H s) : ∀ (d : D) (v : V) (u : Value), Rep X.K H v d → d.ok = true → RelV v u → ∃ as, Reads s.heap u d.py as ∧ (d.noLst = true → ∀ a ∈ as, (a == sysModules) = false)
  | .non, _, _, h, _, r => by
    cases h; cases r
    exact ⟨[], by rw [D.py]; exact .none, fun _ _ m => nomatch m⟩
  | .bl b, _, _, h, _, r => by
    cases h; cases r
    exact ⟨[], by rw [D.py]; exact .bool b, fun _ _ m => nomatch m⟩
  | .int i, _, _, h, _, r => by
    cases h
    obtain ⟨t, e⟩ := r
    subst e
    exact ⟨[], by rw [D.py]; exact .int i t, fun _ _ m => nomatch m⟩
  | .str x, _, _, h, _, r => by
    cases h
    obtain ⟨t, e⟩ := r
    subst e
    exact ⟨[], by rw [D.py]; exact .str x t, fun _ _ m => nomatch m⟩
  | .lst ds, _, _, h, hok, r => by
    cases h with
    | lst hs ha =>
      cases r
      obtain ⟨its, rv, ⟨o, n, ho, hc, _, hd⟩, _⟩ := I.list hs
      obtain ⟨as, hr, _⟩ := Rep.readsAll I ds _ its ha (by simpa [D.ok] using hok) rv
      exact ⟨_, by rw [D.py]; exact .list ho hc hd hr, fun z => by simp [D.noLst] at z⟩
  | .tup ds, _, _, h, hok, r => by
    cases h with
    | tup hs ha =>
      cases r
      obtain ⟨its, rv, ⟨o, ho, hc, n, hd⟩, _⟩ := I.tuple hs
      obtain ⟨as, hr, k⟩ := Rep.readsAll I ds _ its ha (by simpa [D.ok] using hok) rv
      exact ⟨_, by rw [D.py]; exact .tuple ho hc hd hr, fun z => k (by simpa [D.noLst] using z)⟩
  | .dct ds, _, _, h, hok, r => by
    cases h with
    | dct hs ha =>
      cases r
      obtain ⟨_, hsys, vs, kv, o, es, ep, ho, ex, hd, _, pr, _⟩ := hs.ok I.hok
      obtain ⟨as, hr, k⟩ := Rep.readsKV I ds _ vs ha (by simpa [D.ok] using hok) kv
      have e1 : ReadsAll s.heap (es.toList.map (·.key)) ((D.pyKV ds).map (·.1)) [] := by
        have q := pairs_keys (X := X) (s := s) (mixKind_is X.prog X.w) pr
        rw [hr.2] at q
        exact q
      have e2 : ReadsAll s.heap (es.toList.map (·.val)) ((D.pyKV ds).map (·.2)) as := by
        rw [pairs_vals pr]
        exact hr.1
      refine ⟨_, by rw [D.py]; exact .dict ho ex.1 hd e1 e2, fun z a m => ?_⟩
      rcases List.mem_append.mp m with m | m
      · rcases List.mem_cons.mp m with m | m
        · rw [m]; exact hsys
        · exact nomatch m
      · exact k (by simpa [D.noLst] using z) a m
  | .ext _, _, _, _, hok, _ => by simp [D.ok] at hok
theorem Rep.readsAll (I : Inv X pins σ H s) : ∀ (ds : List D) (vs : List V) (us : List Value), RepAll X.K H vs ds → D.okAll ds = true → Vals vs us → ∃ as, ReadsAll s.heap us (D.pyAll ds) as ∧ (D.noLstAll ds = true → ∀ a ∈ as, (a == sysModules) = false)
  | [], _, _, h, _, r => by
    cases h; cases r
    exact ⟨[], by rw [D.pyAll]; exact .nil, fun _ _ m => nomatch m⟩
  | d :: ds, _, _, h, hok, r => by
    cases h with
    | cons h1 h2 =>
      cases r with
      | cons r1 r2 =>
        obtain ⟨o1, o2⟩ := Bool.and_eq_true_iff.mp (show (d.ok && D.okAll ds) = true from hok)
        obtain ⟨as, q1, k1⟩ := Rep.reads I d _ _ h1 o1 r1
        obtain ⟨bs, q2, k2⟩ := Rep.readsAll I ds _ _ h2 o2 r2
        refine ⟨_, by rw [D.pyAll]; exact .cons q1 q2, fun z a m => ?_⟩
        obtain ⟨z1, z2⟩ := Bool.and_eq_true_iff.mp (show (d.noLst && D.noLstAll ds) = true from z)
        exact (List.mem_append.mp m).elim (k1 z1 a) (k2 z2 a)
theorem Rep.readsKV (I : Inv X pins σ H s) : ∀ (ds : List (Key × D)) (kvs : List (Key × V)) (vs : List (Key × Value)), RepKV X.K H kvs ds → D.okKV ds = true → KV kvs vs →
    ∃ as, (ReadsAll s.heap (vs.map (·.2)) ((D.pyKV ds).map (·.2)) as ∧ (vs.map fun p => keyP p.1) = (D.pyKV ds).map (·.1)) ∧ (D.noLstKV ds = true → ∀ a ∈ as, (a == sysModules) = false)
  | [], _, _, h, _, r => by
    cases h; cases r
    exact ⟨[], ⟨by rw [D.pyKV]; exact .nil, by rw [D.pyKV]; rfl⟩, fun _ _ m => nomatch m⟩
  | (k, d) :: ds, _, _, h, hok, r => by
    cases h with
    | cons h1 h2 =>
      cases r with
      | cons r1 r2 =>
        rename_i q vs
        obtain ⟨qk, qv⟩ := q
        have e1 : k = qk := r1.1
        obtain ⟨o1, o2⟩ := Bool.and_eq_true_iff.mp (show (d.ok && D.okKV ds) = true from hok)
        obtain ⟨as, q1, k1⟩ := Rep.reads I d _ _ h1 o1 r1.2
        obtain ⟨bs, ⟨q2, q3⟩, k2⟩ := Rep.readsKV I ds _ _ h2 o2 r2
        refine ⟨as ++ bs, ⟨by rw [D.pyKV]; exact .cons q1 q2, by rw [D.pyKV, List.map_cons, List.map_cons, q3, e1]⟩, fun z a m => ?_⟩
        obtain ⟨z1, z2⟩ := Bool.and_eq_true_iff.mp (show (d.noLst && D.noLstKV ds) = true from z)
        exact (List.mem_append.mp m).elim (k1 z1 a) (k2 z2 a)
end
end
/-! ### what may be shown, and how long its text is -/
mutual
def D.noDct : D → Bool
  | .dct _ => false
  | .lst xs | .tup xs => D.noDctAll xs
  | _ => true
def D.noDctAll : List D → Bool
  | [] => true
  | x :: xs => D.noDct x && D.noDctAll xs
end
mutual
theorem noDct_py : ∀ d : D, d.noDct = true → d.py.hasDict = false
  | .non, _ | .bl _, _ | .int _, _ | .str _, _ | .ext _, _ => by simp [D.py, PyData.hasDict]
  | .lst ds, h | .tup ds, h => by
    simp only [D.py, PyData.hasDict]
    exact noDct_pyAll ds (by simpa [D.noDct] using h)
  | .dct _, h => by simp [D.noDct] at h
theorem noDct_pyAll : ∀ ds : List D, D.noDctAll ds = true → PyData.hasDictAll (D.pyAll ds) = false
  | [], _ => by simp [D.pyAll, PyData.hasDictAll]
  | d :: ds, h => by
    obtain ⟨h1, h2⟩ := Bool.and_eq_true_iff.mp (show (d.noDct && D.noDctAll ds) = true from h)
    rw [D.pyAll, PyData.hasDictAll, noDct_py d h1, noDct_pyAll ds h2]
    rfl
end
/-- d may be shown: its nesting at most n, its text at most c signs -/
structure Sh (n c : Nat) (d : D) : Prop where
  ok : d.ok = true
  kind : d.noDct = true ∨ d.noLst = true
  can : d.py.showable = true
  deep : d.py.depth ≤ n
  len : d.py.shown.length ≤ c
def reprD (d : D) : Str := d.py.shown
theorem Sh.mono {n c n' c' : Nat} {d : D} (h : Sh n c d) (hn : n ≤ n') (hc : c ≤ c') : Sh n' c' d := ⟨h.ok, h.kind, h.can, Nat.le_trans h.deep hn, Nat.le_trans h.len hc⟩
theorem sh_non : Sh 0 4 .non := ⟨rfl, .inl rfl, rfl, Nat.le_refl _, by show ("None" : Str).length ≤ 4; decide +kernel⟩
theorem sh_bl (b : Bool) : Sh 0 5 (.bl b) := ⟨rfl, .inl rfl, rfl, Nat.le_refl _, by cases b <;> decide +kernel⟩
theorem log2_small {n k : Nat} (hk : 0 < k) (h : n < 2 ^ k) : n.log2 < k := by
  by_cases z : n = 0
  · rw [z]; exact hk
  · exact (Nat.log2_lt z).mpr h
theorem sh_int {i : Int} {k : Nat} (h : i.natAbs < 2 ^ k) (h0 : 0 < k) (hk : k ≤ 1920) : Sh 0 (k + 1) (.int i) := by
  have hl := log2_small h0 h
  refine ⟨rfl, .inl rfl, by show decide (i.natAbs.log2 < 1920) = true; exact decide_eq_true (Nat.lt_of_lt_of_le hl hk), Nat.le_refl _, ?_⟩
  have e : (Str.ofString (toString i)).length ≤ k + 1 := by rw [PySem.ofString_length]; exact int_text_length_le h0 hl
  exact e
theorem allPy {p : PyData → Bool} {pa : List PyData → Bool} (h0 : pa [] = true) (h1 : ∀ x xs, pa (x :: xs) = (p x && pa xs)) : ∀ ds : List D, (∀ d ∈ ds, p d.py = true) → pa (D.pyAll ds) = true
  | [], _ => by rw [D.pyAll, h0]
  | d :: ds, h => by rw [D.pyAll, h1, h d List.mem_cons_self, allPy h0 h1 ds fun x m => h x (List.mem_cons_of_mem _ m)]; rfl
theorem allD {p : D → Bool} {pa : List D → Bool} (h0 : pa [] = true) (h1 : ∀ x xs, pa (x :: xs) = (p x && pa xs)) : ∀ ds : List D, (∀ d ∈ ds, p d = true) → pa ds = true
  | [], _ => h0
  | d :: ds, h => by rw [h1, h d List.mem_cons_self, allD h0 h1 ds fun x m => h x (List.mem_cons_of_mem _ m)]; rfl
theorem deepAll {n : Nat} : ∀ ds : List D, (∀ d ∈ ds, d.py.depth ≤ n) → PyData.depthAll (D.pyAll ds) ≤ n
  | [], _ => by rw [D.pyAll, PyData.depthAll]; exact Nat.zero_le _
  | d :: ds, h => by
    rw [D.pyAll, PyData.depthAll]
    exact Nat.max_le.mpr ⟨h d List.mem_cons_self, deepAll ds fun x m => h x (List.mem_cons_of_mem _ m)⟩
theorem lenAll {c : Nat} : ∀ ds : List D, (∀ d ∈ ds, d.py.shown.length ≤ c) → ((PyData.shownAll (D.pyAll ds)).map (·.length)).sum ≤ c * ds.length ∧ (PyData.shownAll (D.pyAll ds)).length = ds.length
  | [], _ => by rw [D.pyAll, PyData.shownAll]; exact ⟨Nat.zero_le _, rfl⟩
  | d :: ds, h => by
    obtain ⟨h1, h2⟩ := lenAll ds fun x m => h x (List.mem_cons_of_mem _ m)
    have h3 := h d List.mem_cons_self
    rw [D.pyAll, PyData.shownAll, List.map_cons, List.sum_cons, List.length_cons, List.length_cons, h2, Nat.mul_succ]
    exact ⟨by omega, rfl⟩
theorem sh_lst {n c : Nat} {ds : List D} (h : ∀ d ∈ ds, Sh n c d) (hk : D.noDctAll ds = true) : Sh (n + 1) ((c + 2) * ds.length + 3) (.lst ds) := by
  refine ⟨by rw [D.ok]; exact allD (pa := D.okAll) rfl (fun _ _ => rfl) ds fun d m => (h d m).ok, .inl (by rw [D.noDct]; exact hk), ?_, ?_, ?_⟩
  · rw [D.py, PyData.showable]; exact allPy (pa := PyData.showableAll) rfl (fun _ _ => rfl) ds fun d m => (h d m).can
  · rw [D.py, PyData.depth]; exact Nat.succ_le_succ (deepAll ds fun d m => (h d m).deep)
  · rw [D.py, PyData.shown]
    obtain ⟨h1, h2⟩ := lenAll ds fun d m => (h d m).len
    refine Nat.le_trans (listText_len_le _) ?_
    rw [h2, Nat.add_mul]
    omega
theorem sh_tup {n c : Nat} {ds : List D} (h : ∀ d ∈ ds, Sh n c d) (hk : D.noDctAll ds = true ∨ D.noLstAll ds = true) : Sh (n + 1) ((c + 2) * ds.length + 3) (.tup ds) := by
  refine ⟨by rw [D.ok]; exact allD (pa := D.okAll) rfl (fun _ _ => rfl) ds fun d m => (h d m).ok, hk.imp (fun z => by rw [D.noDct]; exact z) fun z => by rw [D.noLst]; exact z, ?_, ?_, ?_⟩
  · rw [D.py, PyData.showable]; exact allPy (pa := PyData.showableAll) rfl (fun _ _ => rfl) ds fun d m => (h d m).can
  · rw [D.py, PyData.depth]; exact Nat.succ_le_succ (deepAll ds fun d m => (h d m).deep)
  · rw [D.py, PyData.shown]
    obtain ⟨h1, h2⟩ := lenAll ds fun d m => (h d m).len
    refine Nat.le_trans (tupleText_len_le _) ?_
    rw [h2, Nat.add_mul]
    omega
section
variable {X : Cx} {Hb Hb' : Hp} {a b c e : Expr} {es : List Expr} {Γ : Slots} {pos p' apos cpos : Pos} {d x y : D} {ds : List D} {S S' : D → Prop} {fr : Bool} {D0 : Ends} {rest sts : List Stmt} {st : Stmt}
/-- repr of data -/
theorem call_reprD (hg : X.A.guards = some []) (hu : X.A.units + 64 < cLine) : CallR X (.builtin "repr") (fun xs H Q => ∃ v d, xs = [v] ∧ Rep X.K H v d ∧ Sh 40 10000000 d ∧ Q (.str (reprD d)) H) := by
  intro pins s σ H xs us Q I r h
  obtain ⟨v, d, rfl, rp, sh, q⟩ := h
  obtain ⟨u, rfl, ru⟩ := vals1 r
  obtain ⟨as, rd, hn⟩ := Rep.reads I d v u rp sh.ok ru
  have hlen : d.py.shown.length ≤ sizeLine := Nat.le_trans sh.len (by decide)
  have hsm : d.py.hasDict = true → sysModules ∉ as := fun z m => by
    rcases sh.kind with k | k
    · rw [noDct_py d k] at z; cases z
    · have := hn k sysModules m
      simp at this
  have fin : ∀ {u2 : Tok} {tk : Tok} {h' : Heap}, (∀ b o, s.heap.get? b = some o → h'.get? b = some o) → EP X pins σ Q (.str d.py.shown u2) { s with heap := h', toks := tk } := fun {u2 tk h'} k => ⟨.str (reprD d), H, I.kept k, ⟨_, rfl⟩, q⟩
  have tok : ∀ {x : Str} {u2 : Tok} {s' : Shared}, s' = { s with toks := s'.toks } → x = d.py.shown → EP X pins σ Q (.str x u2) s' := fun {x u2 s'} e1 e2 => by
    rw [e1, e2]
    exact fin (h' := s.heap) fun _ _ z => z
  cases ru' : v with
  | ref a =>
    subst ru'
    cases (show u = Value.ref a from ru)
    refine PySem.repr_of_reads' rd sh.can hsm hg (by have := sh.deep; omega) (fun _ _ z => z) (fun h' u2 tk k => fin k) hlen
  | non =>
    subst ru'
    cases ru
    cases rp
    exact PySem.P.repr_of_none (tok rfl rfl)
  | bl k =>
    subst ru'
    cases ru
    cases rp
    exact PySem.P.repr_of_bool (tok rfl (by cases k <;> rfl))
  | int i =>
    subst ru'
    obtain ⟨t, rfl⟩ := ru
    cases rp
    exact PySem.P.repr_of_int (by have := sh.can; exact of_decide_eq_true this) (tok rfl rfl)
  | str z =>
    subst ru'
    obtain ⟨t, rfl⟩ := ru
    cases rp
    exact PySem.P.repr_of_str (tok rfl rfl) hlen
  | byt _ => subst ru'; cases rp
  | flt _ => subst ru'; cases rp
  | ty _ => subst ru'; cases rp
theorem evn_repr {pn : Pos} {S1 : D → Prop} (hg : X.A.guards = some []) {k : Nat} (hr : Room k X.A) (hm : X.mg "repr" = none) (h : EvN X Hb a Γ fr S1) (hs : ∀ d, S1 d → Sh 40 10000000 d) (hgl : Gl X "repr" := by rfl) (he : starEach (a :: []) X.env = (false, eval a X.env) :: starEach [] X.env := by rfl) (hpl : (backTo pos (starEach [] X.env)).any (·.1) = false := by rfl) :
    EvN X Hb (.Call (.Name "repr" pn) [a] [] pos) Γ true (fun z => ∃ d, z = .str (reprD d) ∧ S1 d) :=
  evn_B (call_reprD hg hr.units) hm (eva_consN (S := fun z => ∃ d, z = [d] ∧ S1 d) h eva_nil (fun d ds s1 e => ⟨d, by rw [e], s1⟩) he) (fun vs H ds Q ⟨d, e1, s⟩ r k => by
    subst e1
    cases r with
    | cons r1 r2 =>
      cases r2
      exact ⟨_, d, rfl, r1, hs d s, k _ _ _ ⟨d, rfl, s⟩ Ex.refl (.str _) (FreshD.flat rfl)⟩) boot_repr hgl (by decide) (by decide) he hpl
theorem ev_repr {pn : Pos} (hg : X.A.guards = some []) {k : Nat} (hr : Room k X.A) (hm : X.mg "repr" = none) (h : Ev X Hb a Γ fr d) (hs : Sh 40 10000000 d) (hgl : Gl X "repr" := by rfl) (he : starEach (a :: []) X.env = (false, eval a X.env) :: starEach [] X.env := by rfl) (hpl : (backTo pos (starEach [] X.env)).any (·.1) = false := by rfl) :
    Ev X Hb (.Call (.Name "repr" pn) [a] [] pos) Γ true (.str (reprD d)) :=
  (evn_repr hg hr hm h (fun _ z => by rw [z]; exact hs) hgl he hpl).imp fun _ ⟨d', e, z⟩ => by rw [e, z]
/-- texts compared -/
theorem opNeS : OpR X (compareOp .NotEq) (fun x y H Q => ∃ i j, x = .str i ∧ y = .str j ∧ Q (.bl (!decide (i = j))) H) := fun pins s σ H x y v u Q I r1 r2 ⟨i, j, e1, e2, q⟩ => op_ne pins s σ H x y v u Q I r1 r2 (by
  subst e1 e2
  exact ⟨rfl, by rw [show decide (V.str i = V.str j) = decide (i = j) from by simp]; exact q⟩)
theorem opEqS : OpR X (compareOp .Eq) (fun x y H Q => ∃ i j, x = .str i ∧ y = .str j ∧ Q (.bl (decide (i = j))) H) := fun pins s σ H x y v u Q I r1 r2 ⟨i, j, e1, e2, q⟩ => op_eq pins s σ H x y v u Q I r1 r2 (by
  subst e1 e2
  exact ⟨rfl, by rw [show decide (V.str i = V.str j) = decide (i = j) from by simp]; exact q⟩)
theorem evt_neS {i j : Str} {fr' : Bool} (ha : Ev X Hb a Γ fr (.str i)) (hb : Ev X Hb b Γ fr' (.str j)) : EvB X Hb (.Compare a [.NotEq] [b] pos) Γ (!decide (i = j)) := fun σ H en Q q =>
  SemT.of (pt_cmpR opNeS (semE X a) (semE X b) (nomark _)) (ha σ H en _ fun v H1 d1 e1 x1 r1 _ => hb σ H1 (en.ex x1) _ fun w H2 d2 e2 x2 r2 _ => by
    subst e1 e2
    cases r1
    cases r2
    exact ⟨i, j, rfl, rfl, _, rfl, q _ H2 rfl (x1.trans x2)⟩)
theorem evt_eqS {i j : Str} {fr' : Bool} (ha : Ev X Hb a Γ fr (.str i)) (hb : Ev X Hb b Γ fr' (.str j)) : EvB X Hb (.Compare a [.Eq] [b] pos) Γ (decide (i = j)) := fun σ H en Q q =>
  SemT.of (pt_cmpR opEqS (semE X a) (semE X b) (nomark _)) (ha σ H en _ fun v H1 d1 e1 x1 r1 _ => hb σ H1 (en.ex x1) _ fun w H2 d2 e2 x2 r2 _ => by
    subst e1 e2
    cases r1
    cases r2
    exact ⟨i, j, rfl, rfl, _, rfl, q _ H2 rfl (x1.trans x2)⟩)
/-- data compared -/
theorem pyNoDct_shaped : ∀ d : D, d.noDct = true → d.ok = true → True := fun _ _ _ => trivial
theorem op_eqR (hu : X.A.units + 64 < cLine) : OpR X (compareOp .Eq) (fun x y H Q => ∃ d e, Rep X.K H x d ∧ Rep X.K H y e ∧ d.ok = true ∧ e.ok = true ∧ SeqAt.shaped d.py = true ∧ SeqAt.shaped e.py = true ∧ Q (.bl (PyData.eqv d.py e.py)) H) := by
  intro pins s σ H x y v u Q I rx ry h
  obtain ⟨d, e, hd, he, o1, o2, sd, se, q⟩ := h
  obtain ⟨as, r1, _⟩ := Rep.reads I d x v hd o1 rx
  obtain ⟨bs, r2, _⟩ := Rep.reads I e y u he o2 ry
  exact SeqAt.compareEq_shaped r1 r2 sd se hu ⟨.bl _, H, I, rfl, q⟩
theorem op_neR (hu : X.A.units + 64 < cLine) : OpR X (compareOp .NotEq) (fun x y H Q => ∃ d e, Rep X.K H x d ∧ Rep X.K H y e ∧ d.ok = true ∧ e.ok = true ∧ SeqAt.shaped d.py = true ∧ SeqAt.shaped e.py = true ∧ Q (.bl (!PyData.eqv d.py e.py)) H) := by
  intro pins s σ H x y v u Q I rx ry h
  obtain ⟨d, e, hd, he, o1, o2, sd, se, q⟩ := h
  obtain ⟨as, r1, _⟩ := Rep.reads I d x v hd o1 rx
  obtain ⟨bs, r2, _⟩ := Rep.reads I e y u he o2 ry
  exact SeqAt.compareNe_shaped r1 r2 sd se hu ⟨.bl _, H, I, rfl, q⟩
end
end L3

namespace L3
open PySem PySem.Spec PyProof.Rows L2
/-! ### a source of draws: a list of two ints, of which only bounds are known -/
/-- the bits that an int of a script may have, and some more -/
def bigB : Nat := 1100000
/-- what the k-th int of a source may be -/
def DrawB (k : Int) (i : Int) : Prop := 0 ≤ i ∧ ((k = 0 ∧ i.natAbs < 2 ^ bigB) ∨ (k = 1 ∧ i < 2147483648))
def DrawAt (a : Addr) : Heap → Prop := fun h => ∃ (d s : Int) (t u : Tok) (n : Nat), h.get? a = some { cls := .type "list", data := .seq [Value.int d t, Value.int s u].toArray n } ∧ DrawB 0 d ∧ DrawB 1 s
abbrev dDraw : D := .ext DrawAt
section
variable {X : Cx} {pins : List (Addr × Obj)} {σ : L2.St} {H : Hp} {s : Shared} {a : Addr}
theorem draw_open (I : Inv X pins σ H s) (h : H a = some (.ext (DrawAt a))) : ∃ d z, DrawB 0 d ∧ DrawB 1 z ∧ Inv X pins σ (upd H a (.lst [.int d, .int z])) s := by
  obtain ⟨⟨d, z, t, u, n, e, b0, b1⟩, _, _⟩ := I.hok a _ h
  refine ⟨d, z, b0, b1, I.write (t' := s.toks) (h' := s.heap) (by rw [h]; trivial) (.inl rfl) (fun _ _ _ q => q) ⟨_, e⟩ ⟨by show 2 ≤ sizeLine; decide, _, n, .cons ⟨t, rfl⟩ (.cons ⟨u, rfl⟩ .nil), e⟩⟩
theorem draw_close {d z : Int} (I : Inv X pins σ H s) (h : H a = some (.lst [.int d, .int z])) (b0 : DrawB 0 d) (b1 : DrawB 1 z) : Inv X pins σ (upd H a (.ext (DrawAt a))) s := by
  obtain ⟨_, its, n, r, e⟩ := I.hok a _ h
  obtain ⟨u1, u2, rfl, ⟨t1, r1⟩, ⟨t2, r2⟩⟩ : ∃ u1 u2, its = [u1, u2] ∧ RelV (.int d) u1 ∧ RelV (.int z) u2 := by
    cases r with
    | cons p q =>
      cases q with
      | cons p' q' => cases q'; exact ⟨_, _, rfl, p, p'⟩
  subst r1 r2
  refine I.write (t' := s.toks) (h' := s.heap) (by rw [h]; trivial) (.inl rfl) (fun _ _ _ q => q) ⟨_, e⟩ ⟨⟨d, z, t1, t2, n, e, b0, b1⟩, ⟨_, e⟩, fun h1 h2 p k => ?_⟩
  obtain ⟨d', z', t', u', n', e', k0, k1⟩ := p
  exact ⟨d', z', t', u', n', k _ e', k0, k1⟩
theorem upd_back {o : HO} (h : H a = some o) {u : HO} : upd (upd H a u) a o = H := by
  funext b
  by_cases e : b = a
  · rw [e, upd_same, h]
  · rw [upd_ne e, upd_ne e]
theorem ix_draw : IxR X (fun x y H Q => ∃ a k, x = .ref a ∧ y = .int k ∧ (k = 0 ∨ k = 1) ∧ H a = some (.ext (DrawAt a)) ∧ ∀ w, DrawB k w → Q (.int w) H) := by
  intro value slice pins s σ H x y v u Q I rx ry h hsub
  obtain ⟨a, k, rfl, rfl, hk, ha, q⟩ := h
  obtain ⟨d, z, b0, b1, I2⟩ := draw_open I ha
  refine thn (ix_list value slice pins s σ _ _ _ v u (fun (v : V) (H' : Hp) => H' = upd H a (.lst [.int d, .int z]) ∧ v = if k = 0 then .int d else .int z) I2 rx ry ⟨a, [.int d, .int z], k, if k = 0 then .int d else .int z, rfl, rfl, SqL.of upd_same, ?_, rfl, rfl⟩ hsub) fun r s1 ⟨w, H', I3, rw', e1, e2⟩ => ?_
  · rcases hk with e | e <;> subst e <;> rfl
  · subst e1
    have I4 := draw_close I3 upd_same b0 b1
    rw [upd_back ha] at I4
    rcases hk with e | e
    · subst e
      exact ⟨_, H, I4, by rw [e2] at rw'; exact rw', q d b0⟩
    · subst e
      exact ⟨_, H, I4, by rw [e2] at rw'; exact rw', q z b1⟩
theorem set_draw : PSet X (fun o i v H Q => ∃ a k w, o = .ref a ∧ i = .int k ∧ (k = 0 ∨ k = 1) ∧ v = .int w ∧ DrawB k w ∧ H a = some (.ext (DrawAt a)) ∧ Q H) := by
  intro pins s σ H o i v ov iv u Q I ro ri rv h
  obtain ⟨a, k, w, rfl, rfl, hk, rfl, bw, ha, q⟩ := h
  obtain ⟨d, z, b0, b1, I2⟩ := draw_open I ha
  refine thn (set_list pins s σ _ _ _ _ ov iv u (fun H' => H' = upd (upd H a (.lst [.int d, .int z])) a (.lst ([V.int d, V.int z].set k.toNat (.int w)))) I2 ro ri rv ⟨a, [.int d, .int z], k, k.toNat, rfl, rfl, upd_same, ?_, rfl⟩) fun r s1 ⟨H', I3, e1⟩ => ?_
  · rcases hk with e | e <;> subst e <;> rfl
  · subst e1
    refine ⟨H, ?_, q⟩
    rcases hk with e | e
    · subst e
      have I4 := draw_close (d := w) (z := z) I3 upd_same bw b1
      rw [upd_upd, upd_back ha] at I4
      exact I4
    · subst e
      have I4 := draw_close (d := d) (z := w) I3 upd_same b0 bw
      rw [upd_upd, upd_back ha] at I4
      exact I4
end
section
variable {X : Cx} {Hb Hb' : Hp} {a b c e : Expr} {es : List Expr} {Γ : Slots} {pos p' apos cpos : Pos} {d x y : D} {ds : List D} {S S' : D → Prop} {fr : Bool} {D0 : Ends} {rest sts : List Stmt} {st : Stmt}
theorem evn_drawIx {k : Int} {fr' : Bool} (ha : Ev X Hb a Γ fr dDraw) (hb : Ev X Hb b Γ fr' (.int k)) (hk : k = 0 ∨ k = 1) (hs : PlainIx b := by intro _ _; rfl) : EvN X Hb (.Subscript a b pos) Γ true (fun z => ∃ w, z = .int w ∧ DrawB k w) := fun σ H en Q q =>
  SemE.of (pe_ix ix_draw (semE X a) (semE X b) hs) (ha σ H en _ fun v H1 d1 e1 x1 r1 _ => hb σ H1 (en.ex x1) _ fun w H2 d2 e2 x2 r2 _ => by
    subst e1 e2
    cases r1 with
    | ext hx =>
      cases r2
      exact ⟨_, k, rfl, rfl, hk, x2 _ _ hx, fun w bw => q _ H2 _ ⟨w, rfl, bw⟩ (x1.trans x2) (.int _) fun _ => trivial⟩)
/-- s[k] = e -/
theorem go_drawSet {ix : Expr} {p3 : Pos} {k : Int} {fr' fr'' : Bool} (he : EvN X Hb e Γ fr fun z => ∃ w, z = .int w ∧ DrawB k w) (ha : Ev X Hb a Γ fr' dDraw) (hb : Ev X Hb ix Γ fr'' (.int k)) (hk : k = 0 ∨ k = 1) (g : Go X Hb rest D0 Γ)
    (hs : swapsWithSole [.Subscript a ix p3] e pos.line X.env = pure false := by rfl) (hw : swappedStores [.Subscript a ix p3] e X.env = pure none := by rfl) (h1 : (assignEach [.Subscript a ix p3] X.env).map (·.2) = [assign (.Subscript a ix p3) X.env] := by rfl)
    (hsub : ∀ v, assign (.Subscript a ix p3) X.env v = (do
      let ov ← holding [v] (eval a X.env)
      let iv ← holding [v, ov] (eval ix X.env)
      standAt p3
      holding [v, ov, iv] (setItem ov iv v)
      release [v, ov, iv] []) := by intro _; rfl) : Go X Hb (.Assign [.Subscript a ix p3] e pos :: rest) D0 Γ := fun σ H en =>
  SemSs.cons (ps_asg (semE X e) (pg_sub (semE X a) (semE X ix) set_draw hsub) hs hw h1) (he σ H en _ fun v H1 d1 ⟨w, e1, bw⟩ x1 r1 _ => ha σ H1 (en.ex x1) _ fun o H2 d2 e2 x2 r2 _ => hb σ H2 (en.ex (x1.trans x2)) _ fun i H3 d3 e3 x3 r3 _ => by
    subst e1 e2 e3
    cases r1
    cases r3
    cases r2 with
    | ext hx => exact ⟨_, k, w, rfl, rfl, hk, rfl, bw, x3 _ _ hx, g σ H3 (en.ex ((x1.trans x2).trans x3))⟩)
/-- return [d, s]: a new source -/
theorem go_retDraw {p3 : Pos} {S1 : Int → Prop} {S2 : Int → Prop} (h : EvA X Hb [a, b] Γ fun z => ∃ i j, z = [.int i, .int j] ∧ DrawB 0 i ∧ DrawB 1 j) (hd : ∀ v H', Rt X.K Hb dDraw v H' → D0.rt v H') : Go X Hb (.Return (some (.List [a, b] p3)) pos :: rest) D0 Γ := fun σ H en => by
  refine SemSs.cons (ps_ret (semE X _)) ⟨fun pins s I => ?_⟩
  have k := h σ H en (fun vs H1 => vs.length ≤ sizeLine ∧ ∀ p, H1 p = none → (fun (v : V) (H2 : Hp) => ∃ (p : Addr) (i j : Int) (H1 : Hp), v = V.ref p ∧ H1 p = none ∧ Ex H H1 ∧ H2 = upd H1 p (.lst [.int i, .int j]) ∧ DrawB 0 i ∧ DrawB 1 j) (V.ref p) (upd H1 p (.lst vs))) fun vs H1 ds ⟨i, j, e1, b0, b1⟩ x r => by
    subst e1
    rw [r.int2]
    exact ⟨by show 2 ≤ sizeLine; decide, fun p hp => ⟨p, i, j, H1, rfl, hp, x, rfl, b0, b1⟩⟩
  have k2 := (pe_lst (pos := p3) (semA X [a, b])).run pins s σ H (fun (v : V) (H2 : Hp) => ∃ (p : Addr) (i j : Int) (H1 : Hp), v = V.ref p ∧ H1 p = none ∧ Ex H H1 ∧ H2 = upd H1 p (.lst [.int i, .int j]) ∧ DrawB 0 i ∧ DrawB 1 j) I k
  refine thn k2 fun u s1 hh => ?_
  obtain ⟨v, H2, I2, rv, p, i, j, H1, ev, hp, x, e2, b0, b1⟩ := hh
  subst e2 ev
  have I3 := draw_close I2 upd_same b0 b1
  rw [upd_upd] at I3
  exact ⟨_, _, I3, rv, hd _ _ ⟨en.base.trans (x.trans (Ex.new hp)), .ext upd_same, trivial⟩⟩
end
theorem intBits_natAbs {i : Int} {k : Nat} (h : Builtin.Int.intBits i ≤ k) : i.natAbs < 2 ^ k := by
  unfold Builtin.Int.intBits at h
  split at h
  · rename_i z
    have : i = 0 := by simpa using z
    rw [this]
    exact Nat.two_pow_pos k
  · exact Nat.lt_of_lt_of_le Nat.lt_log2_self (Nat.pow_le_pow_right (by decide) h)
end L3

namespace L3
open PySem PySem.Spec PyProof.Rows L2
/-! ### comprehensions -/
def wipeG (Γ : Slots) : List Nat → Slots
  | [] => Γ
  | v :: vs => (wipeG Γ vs).set v .any
theorem wipe_env {K : PySem.W.Frag} {Hb H : Hp} {Γ : Slots} {σ : L2.St} (h : EnvOk K Hb Γ σ H) : ∀ vs : List Nat, EnvOk K Hb (wipeG Γ vs) (wipe σ vs) H
  | [] => h
  | v :: vs => (wipe_env h vs).setAny
/-- where a comprehension's inside stands -/
abbrev inCx (X : Cx) (scope : Scope) (s : Shared) (H : Hp) (C : Addr) (cl : List (Str × Addr)) (fp : List Addr) : Cx := X.blk s H scope (compEnvC scope cl C X.env) fp
def AllIn (X : Cx) (scope : Scope) (f : Cx → Prop) : Prop := ∀ (s : Shared) (H : Hp) (C : Addr) (cl : List (Str × Addr)) (fp : List Addr), f (inCx X scope s H C cl fp)
def tIn (X : Cx) (scope : Scope) (e : Expr) : TE := fun σ H Q => AllIn X scope fun Y => SemE Y e σ H Q
def tInT (X : Cx) (scope : Scope) (e : Expr) : TT := fun σ H Q => AllIn X scope fun Y => SemT Y e σ H Q
theorem Rep.hide1 {K : PySem.W.Frag} {H : Hp} {p : Addr} {vs : List V} {v : V} {d : D} (hp : H p = some (.lst vs)) (r : Rep K H v d) (f : d.flat = true) : Rep K (L3.hide H [p]) v d :=
  r.hide (fun q hq => by rw [List.mem_singleton.mp hq]; exact ⟨vs, hp⟩) f
theorem hide1_upd {H : Hp} {p : Addr} {o : HO} : hide (upd H p o) [p] = hide H [p] := by
  funext a
  by_cases e : a = p
  · rw [hide_in (by rw [e]; simp), hide_in (by rw [e]; simp)]
  · rw [hide_out (by simpa using e), hide_out (by simpa using e), upd_ne e]
theorem hide1_ex {H H' : Hp} {p : Addr} (e : Ex H H') : Ex (hide H [p]) (hide H' [p]) := fun a o h => by
  by_cases z : a = p
  · rw [hide_in (by rw [z]; simp)] at h; cases h
  · rw [hide_out (by simpa using z)] at h ⊢
    exact e a o h
theorem Paired.snoc {α β : Type} {F : α → β → Prop} {a : α} {b : β} (h : F a b) : ∀ {l₁ : List α} {l₂ : List β}, Paired F l₁ l₂ → Paired F (l₁ ++ [a]) (l₂ ++ [b])
  | _, _, .nil => .cons h .nil
  | _, _, .cons q r => .cons q (Paired.snoc h r)
/-- a comprehension: what its list may be -/
def LcEv (X : Cx) (Hb : Hp) (elt tg iter : Expr) (ifs : List Expr) (scope : Scope) (own : List (Str × Nat)) (Γ : Slots) (S : D → Prop) : Prop :=
  X.calm = true ∧ X.N.Nodup ∧ BlkOk X.N X.env.scope scope own ∧ (∀ x, foldedSetIterable iter X.env x = pure x) ∧ ∃ (wi : TI) (g : TG) (tt : TT) (te : TE), PI X tg iter wi ∧ (AllIn X scope fun Y => PG Y tg g) ∧ (AllIn X scope fun Y => PTs Y ifs tt) ∧ (AllIn X scope fun Y => PE Y elt te) ∧
    ∀ σ H, EnvOk X.K Hb Γ σ H → ∀ Q : VK, (∀ v H' d, S d → Ex H H' → Rep X.K H' v d → FreshD X.K H H' v d → Q v H') → tLc wi g tt te (own.map (·.2)) σ H Q
/-- the new list of a comprehension: what has been made so far -/
def SoFar (K : PySem.W.Frag) (H1 : Hp) (L : Addr) (R : List D → Prop) (H : Hp) : Prop := Ex H1 H ∧ ∃ acc ys, H L = some (.lst acc) ∧ RepAll K (hide H [L]) acc ys ∧ R ys
theorem soFar_start {K : PySem.W.Frag} {H1 : Hp} {L : Addr} {R : List D → Prop} (hL : H1 L = none) (h : R []) : SoFar K H1 L R (upd H1 L (.lst [])) := ⟨Ex.new hL, [], [], upd_same, .nil, h⟩
theorem soFar_more {K : PySem.W.Frag} {H1 H H' : Hp} {L : Addr} {R R' : List D → Prop} {v : V} {d : D} (hL : H1 L = none) (h : SoFar K H1 L R H) (x : Ex H H') (r : Rep K H' v d) (f : d.flat = true) (hl : ∀ ys, R ys → ys.length < 100000) (hR : ∀ ys, R ys → R' (ys ++ [d])) :
    ∃ acc, H' L = some (.lst acc) ∧ acc.length < sizeLine ∧ SoFar K H1 L R' (upd H' L (.lst (acc ++ [v]))) := by
  obtain ⟨e, acc, ys, h1, h2, h3⟩ := h
  have h4 := x _ _ h1
  refine ⟨acc, h4, by rw [h2.length]; exact Nat.lt_of_lt_of_le (hl ys h3) (by decide), Ex.mut (e.trans x) hL, acc ++ [v], ys ++ [d], upd_same, ?_, hR ys h3⟩
  rw [hide1_upd]
  exact (h2.ex (hide1_ex x)).append (.cons (r.hide1 h4 f) .nil)
section
variable {X : Cx} {Hb Hb' : Hp} {a b c e elt iter : Expr} {es ifs : List Expr} {Γ : Slots} {pos p' apos cpos : Pos} {d x y : D} {ds : List D} {S S' : D → Prop} {fr : Bool} {scope : Scope} {own : List (Str × Nat)}
theorem soFar_done {K : PySem.W.Frag} {H H1 H2 : Hp} {L : Addr} {R : List D → Prop} (hL : H1 L = none) (x : Ex H H1) (h : SoFar K H1 L R H2) : ∃ ys, R ys ∧ Ex H H2 ∧ Rep K H2 (.ref L) (.lst ys) ∧ FreshD K H H2 (.ref L) (.lst ys) := by
  obtain ⟨e, acc, ys, h1, h2, h3⟩ := h
  have r := h2.ex hide_ex
  exact ⟨ys, h3, x.trans e, .lst (SqL.of h1) r, L, acc, rfl, x.free hL, h1, r⟩
/-- [elt for x in xs if t] -/
theorem lcvIf {α : Type} (ix : Nat) (f : α → D) (t : α → Bool) (SE : α → D → Prop) (xs : List α) {xn : Str} {tst : Expr} (hit : EvI X Hb iter Γ (· = xs.map f)) (hst : ∀ a ∈ xs, Sto (wipeG Γ (own.map (·.2))) (f a))
    (ht : ∀ a ∈ xs, AllIn X scope fun Y => EvB Y Hb tst ((wipeG Γ (own.map (·.2))).set ix (.dat (f a))) (t a))
    (he : ∀ a ∈ xs, t a = true → AllIn X scope fun Y => EvN Y Hb elt ((wipeG Γ (own.map (·.2))).set ix (.dat (f a))) fr (SE a)) (hfl : ∀ a d, SE a d → d.flat = true) (hlen : xs.length < 100000)
    (hc : X.calm = true) (nd : X.N.Nodup) (ok : BlkOk X.N X.env.scope scope own) (hi : X.N[ix]? = some xn := by rfl) (hw : ∀ (σ : L2.St) (v : Option V), wipe ((wipe σ (own.map (·.2))).set ix v) (own.map (·.2)) = wipe σ (own.map (·.2)))
    (hg : AllIn X scope fun Y => PG Y (.Name xn p') (gName ix)) (hs : ∀ x, foldedSetIterable iter X.env x = pure x := by intro _; rfl) :
    LcEv X Hb elt (.Name xn p') iter [tst] scope own Γ (fun z => ∃ ys, z = .lst ys ∧ Paired SE (xs.filter t) ys) := by
  refine ⟨hc, nd, ok, hs, _, _, _, tIn X scope elt, (pi_list (semE X iter)), hg, (fun s H C cl fp => pts_one (t := tInT X scope tst) ⟨fun pins s' σ H' Q I h => (h s H C cl fp).run pins s' I⟩), fun s H C cl fp => ⟨fun pins s' σ H' Q I h => (h s H C cl fp).run pins s' I⟩, fun σ H en Q q => ?_⟩
  refine hit σ H en _ fun a vs H1 ds e1 x hq ra => ?_
  subst e1
  have en1 := en.ex x
  refine ⟨a, rfl, ⟨_, SqL.ex hide_ex hq⟩, fun L hL => lc_list (K := X.K) (a := a) (xs := vs) (fun i H => SoFar X.K H1 L (fun ys => Paired SE ((xs.take i).filter t) ys) H) (soFar_start hL .nil) (fun i H2 _ h => SqL.ex h.1 (SqL.ex hide_ex hq)) ?_ ?_⟩
  · intro i v H2 hv sf
    obtain ⟨dx, hd, rv⟩ := ra.get' hv
    rw [List.getElem?_map] at hd
    obtain ⟨ax, hax, rfl⟩ : ∃ ax, xs[i]? = some ax ∧ dx = f ax := by
      cases z : xs[i]? with
      | none => rw [z] at hd; cases hd
      | some ax => rw [z] at hd; cases hd; exact ⟨ax, rfl, rfl⟩
    have hm := List.mem_of_getElem? hax
    have et : xs.take (i + 1) = xs.take i ++ [ax] := by rw [List.take_add_one, hax]; rfl
    have rv2 : Rep X.K H2 v (f ax) := (rv.ex hide_ex).ex sf.1
    have en2 : EnvOk X.K Hb ((wipeG Γ (own.map (·.2))).set ix (.dat (f ax))) ((wipe σ (own.map (·.2))).set ix (some v)) H2 := (wipe_env (en1.ex sf.1) _).setDat rv2 (hst ax hm)
    refine ⟨hw σ (some v), fun s0 H0 C cl fp => ht ax hm s0 H0 C cl fp _ H2 en2 _ fun k H3 ek x3 => ?_⟩
    have sf3 : SoFar X.K H1 L (fun ys => Paired SE ((xs.take i).filter t) ys) H3 := by
      obtain ⟨e, acc, ys, h1, h2, h3⟩ := sf
      exact ⟨e.trans x3, acc, ys, x3 _ _ h1, h2.ex (hide1_ex x3), h3⟩
    subst ek
    cases hta : t ax with
    | false =>
      refine if_neg (by simp) |>.mpr ?_
      rw [et, List.filter_append, List.filter_cons, hta]
      simpa using sf3
    | true =>
      refine (if_pos rfl).mpr ?_
      intro s0 H0 C cl fp
      refine he ax hm hta s0 H0 C cl fp _ H3 (en2.ex x3) _ fun w H4 dw sw x4 rw4 _ => ?_
      refine soFar_more hL sf3 x4 rw4 (hfl ax dw sw) (fun ys h => ?_) fun ys h => ?_
      · rw [← Paired.length h]
        refine Nat.lt_of_le_of_lt (List.length_filter_le _ _) ?_
        rw [List.length_take]
        omega
      · rw [et, List.filter_append, List.filter_cons, hta]
        exact Paired.snoc sw h
  · intro H2 sf
    rw [ra.length, List.length_map, List.take_length] at sf
    obtain ⟨ys, h1, h2, h3, h4⟩ := soFar_done hL x sf
    exact q _ _ _ ⟨ys, rfl, h1⟩ h2 h3 h4
theorem yes_of {σ : L2.St} {H : Hp} {Q : Bool → Hp → Prop} (h : Q true H) : tYes σ H Q := h
/-- [elt for x in xs] -/
theorem lcv {α : Type} (ix : Nat) (f : α → D) (SE : α → D → Prop) (xs : List α) {xn : Str} (hit : EvI X Hb iter Γ (· = xs.map f)) (hst : ∀ a ∈ xs, Sto (wipeG Γ (own.map (·.2))) (f a))
    (he : ∀ a ∈ xs, AllIn X scope fun Y => EvN Y Hb elt ((wipeG Γ (own.map (·.2))).set ix (.dat (f a))) fr (SE a)) (hfl : ∀ a d, SE a d → d.flat = true) (hlen : xs.length < 100000)
    (hc : X.calm = true) (nd : X.N.Nodup) (ok : BlkOk X.N X.env.scope scope own) (hi : X.N[ix]? = some xn := by rfl) (hw : ∀ (σ : L2.St) (v : Option V), wipe ((wipe σ (own.map (·.2))).set ix v) (own.map (·.2)) = wipe σ (own.map (·.2)))
    (hg : AllIn X scope fun Y => PG Y (.Name xn p') (gName ix)) (hs : ∀ x, foldedSetIterable iter X.env x = pure x := by intro _; rfl) :
    LcEv X Hb elt (.Name xn p') iter [] scope own Γ (fun z => ∃ ys, z = .lst ys ∧ Paired SE xs ys) := by
  refine ⟨hc, nd, ok, hs, _, _, _, tIn X scope elt, (pi_list (semE X iter)), hg, (fun s H C cl fp => pts_nil), fun s H C cl fp => ⟨fun pins s' σ H' Q I h => (h s H C cl fp).run pins s' I⟩, fun σ H en Q q => ?_⟩
  refine hit σ H en _ fun a vs H1 ds e1 x hq ra => ?_
  subst e1
  have en1 := en.ex x
  refine ⟨a, rfl, ⟨_, SqL.ex hide_ex hq⟩, fun L hL => lc_list (K := X.K) (a := a) (xs := vs) (fun i H => SoFar X.K H1 L (fun ys => Paired SE (xs.take i) ys) H) (soFar_start hL .nil) (fun i H2 _ h => SqL.ex h.1 (SqL.ex hide_ex hq)) ?_ ?_⟩
  · intro i v H2 hv sf
    obtain ⟨dx, hd, rv⟩ := ra.get' hv
    rw [List.getElem?_map] at hd
    obtain ⟨ax, hax, rfl⟩ : ∃ ax, xs[i]? = some ax ∧ dx = f ax := by
      cases z : xs[i]? with
      | none => rw [z] at hd; cases hd
      | some ax => rw [z] at hd; cases hd; exact ⟨ax, rfl, rfl⟩
    have hm := List.mem_of_getElem? hax
    have et : xs.take (i + 1) = xs.take i ++ [ax] := by rw [List.take_add_one, hax]; rfl
    have rv2 : Rep X.K H2 v (f ax) := (rv.ex hide_ex).ex sf.1
    have en2 : EnvOk X.K Hb ((wipeG Γ (own.map (·.2))).set ix (.dat (f ax))) ((wipe σ (own.map (·.2))).set ix (some v)) H2 := (wipe_env (en1.ex sf.1) _).setDat rv2 (hst ax hm)
    refine ⟨hw σ (some v), ?_⟩
    refine yes_of (L2.iteT ?_)
    intro s0 H0 C cl fp
    refine he ax hm s0 H0 C cl fp _ H2 en2 _ fun w H4 dw sw x4 rw4 _ => ?_
    refine soFar_more hL sf x4 rw4 (hfl ax dw sw) (fun ys h => ?_) fun ys h => ?_
    · rw [← Paired.length h, List.length_take]
      omega
    · rw [et]
      exact Paired.snoc sw h
  · intro H2 sf
    rw [ra.length, List.length_map, List.take_length] at sf
    obtain ⟨ys, h1, h2, h3, h4⟩ := soFar_done hL x sf
    exact q _ _ _ ⟨ys, rfl, h1⟩ h2 h3 h4
/-- [elt for i in range(..)] -/
theorem lcvR (ix : Nat) (SE : Int → D → Prop) {SR : Int → Nat → Prop} {xn : Str} (hit : EvR X Hb iter Γ SR)
    (he : ∀ (lo : Int) (n i : Nat), SR lo n → i < n → AllIn X scope fun Y => EvN Y Hb elt ((wipeG Γ (own.map (·.2))).set ix (.dat (.int (lo + i)))) fr (SE (lo + i))) (hfl : ∀ a d, SE a d → d.flat = true) (hlen : ∀ lo n, SR lo n → n < 100000)
    (hc : X.calm = true) (nd : X.N.Nodup) (ok : BlkOk X.N X.env.scope scope own) (hi : X.N[ix]? = some xn := by rfl) (hw : ∀ (σ : L2.St) (v : Option V), wipe ((wipe σ (own.map (·.2))).set ix v) (own.map (·.2)) = wipe σ (own.map (·.2)))
    (hg : AllIn X scope fun Y => PG Y (.Name xn p') (gName ix)) (hs : ∀ x, foldedSetIterable iter X.env x = pure x := by intro _; rfl) :
    LcEv X Hb elt (.Name xn p') iter [] scope own Γ (fun z => ∃ lo n ys, SR lo n ∧ z = .lst ys ∧ Paired (fun (i : Nat) d => SE (lo + i) d) (List.range n) ys) := by
  obtain ⟨wi, hpi, hwi⟩ := hit
  refine ⟨hc, nd, ok, hs, _, _, _, tIn X scope elt, (hpi _), hg, (fun s H C cl fp => pts_nil), fun s H C cl fp => ⟨fun pins s' σ H' Q I h => (h s H C cl fp).run pins s' I⟩, fun σ H en Q q => ?_⟩
  refine hwi σ H en _ fun lo n H1 sr x => ?_
  have en1 := en.ex x
  have hn := hlen lo n sr
  refine fun L hL => lc_range (lo := lo) (n := n) (fun i H => SoFar X.K H1 L (fun ys => Paired (fun (i : Nat) d => SE (lo + i) d) (List.range i) ys) H) (soFar_start hL .nil) ?_ ?_
  · intro i H2 hin sf
    have et : List.range (i + 1) = List.range i ++ [i] := List.range_succ
    have en2 : EnvOk X.K Hb ((wipeG Γ (own.map (·.2))).set ix (.dat (.int (lo + i)))) ((wipe σ (own.map (·.2))).set ix (some (.int (lo + i)))) H2 := (wipe_env (en1.ex sf.1) _).setDat (.int _) (.inl rfl)
    refine ⟨hw σ _, ?_⟩
    refine yes_of (L2.iteT ?_)
    intro s0 H0 C cl fp
    refine he lo n i sr hin s0 H0 C cl fp _ H2 en2 _ fun w H4 dw sw x4 rw4 _ => ?_
    refine soFar_more hL sf x4 rw4 (hfl _ dw sw) (fun ys h => ?_) fun ys h => ?_
    · rw [← Paired.length h, List.length_range]
      omega
    · rw [et]
      exact Paired.snoc (F := fun (i : Nat) d => SE (lo + i) d) sw h
  · intro H2 sf
    obtain ⟨ys, h1, h2, h3, h4⟩ := soFar_done hL x sf
    exact q _ _ _ ⟨lo, n, ys, sr, rfl, h1⟩ h2 h3 h4
theorem lcvRIf (ix : Nat) (t : Int → Bool) (SE : Int → D → Prop) {SR : Int → Nat → Prop} {xn : Str} {tst : Expr} (hit : EvR X Hb iter Γ SR)
    (ht : ∀ (lo : Int) (n i : Nat), SR lo n → i < n → AllIn X scope fun Y => EvB Y Hb tst ((wipeG Γ (own.map (·.2))).set ix (.dat (.int (lo + i)))) (t (lo + i)))
    (he : ∀ (lo : Int) (n i : Nat), SR lo n → i < n → t (lo + i) = true → AllIn X scope fun Y => EvN Y Hb elt ((wipeG Γ (own.map (·.2))).set ix (.dat (.int (lo + i)))) fr (SE (lo + i))) (hfl : ∀ a d, SE a d → d.flat = true) (hlen : ∀ lo n, SR lo n → n < 100000)
    (hc : X.calm = true) (nd : X.N.Nodup) (ok : BlkOk X.N X.env.scope scope own) (hi : X.N[ix]? = some xn := by rfl) (hw : ∀ (σ : L2.St) (v : Option V), wipe ((wipe σ (own.map (·.2))).set ix v) (own.map (·.2)) = wipe σ (own.map (·.2)))
    (hg : AllIn X scope fun Y => PG Y (.Name xn p') (gName ix)) (hs : ∀ x, foldedSetIterable iter X.env x = pure x := by intro _; rfl) :
    LcEv X Hb elt (.Name xn p') iter [tst] scope own Γ (fun z => ∃ lo n ys, SR lo n ∧ z = .lst ys ∧ Paired (fun (i : Nat) d => SE (lo + i) d) ((List.range n).filter fun (i : Nat) => t (lo + i)) ys) := by
  obtain ⟨wi, hpi, hwi⟩ := hit
  refine ⟨hc, nd, ok, hs, _, _, _, tIn X scope elt, (hpi _), hg, (fun s H C cl fp => pts_one (t := tInT X scope tst) ⟨fun pins s' σ H' Q I h => (h s H C cl fp).run pins s' I⟩), fun s H C cl fp => ⟨fun pins s' σ H' Q I h => (h s H C cl fp).run pins s' I⟩, fun σ H en Q q => ?_⟩
  refine hwi σ H en _ fun lo n H1 sr x => ?_
  have en1 := en.ex x
  have hn := hlen lo n sr
  refine fun L hL => lc_range (lo := lo) (n := n) (fun i H => SoFar X.K H1 L (fun ys => Paired (fun (i : Nat) d => SE (lo + i) d) ((List.range i).filter fun (i : Nat) => t (lo + i)) ys) H) (soFar_start hL .nil) ?_ ?_
  · intro i H2 hin sf
    have et : List.range (i + 1) = List.range i ++ [i] := List.range_succ
    have en2 : EnvOk X.K Hb ((wipeG Γ (own.map (·.2))).set ix (.dat (.int (lo + i)))) ((wipe σ (own.map (·.2))).set ix (some (.int (lo + i)))) H2 := (wipe_env (en1.ex sf.1) _).setDat (.int _) (.inl rfl)
    refine ⟨hw σ _, fun s0 H0 C cl fp => ht lo n i sr hin s0 H0 C cl fp _ H2 en2 _ fun k H3 ek x3 => ?_⟩
    have sf3 : SoFar X.K H1 L (fun ys => Paired (fun (i : Nat) d => SE (lo + i) d) ((List.range i).filter fun (i : Nat) => t (lo + i)) ys) H3 := by
      obtain ⟨e, acc, ys, h1, h2, h3⟩ := sf
      exact ⟨e.trans x3, acc, ys, x3 _ _ h1, h2.ex (hide1_ex x3), h3⟩
    subst ek
    cases hta : t (lo + i) with
    | false =>
      refine if_neg (by simp) |>.mpr ?_
      rw [et, List.filter_append, List.filter_cons, hta]
      simpa using sf3
    | true =>
      refine (if_pos rfl).mpr ?_
      intro s0 H0 C cl fp
      refine he lo n i sr hin hta s0 H0 C cl fp _ H3 (en2.ex x3) _ fun w H4 dw sw x4 rw4 _ => ?_
      refine soFar_more hL sf3 x4 rw4 (hfl _ dw sw) (fun ys h => ?_) fun ys h => ?_
      · rw [← Paired.length h]
        refine Nat.lt_of_le_of_lt (List.length_filter_le _ _) ?_
        rw [List.length_range]
        omega
      · rw [et, List.filter_append, List.filter_cons, hta]
        exact Paired.snoc (F := fun (i : Nat) d => SE (lo + i) d) sw h
  · intro H2 sf
    obtain ⟨ys, h1, h2, h3, h4⟩ := soFar_done hL x sf
    exact q _ _ _ ⟨lo, n, ys, sr, rfl, h1⟩ h2 h3 h4
theorem LcEv.ev {tg : Expr} (h : LcEv X Hb elt tg iter ifs scope own Γ S) : EvN X Hb (.ListComp elt [⟨tg, iter, ifs, 0⟩] scope pos) Γ true S := fun σ H en Q q => by
  obtain ⟨hc, nd, ok, hs, wi, g, tt, te, h1, h2, h3, h4, h5⟩ := h
  exact SemE.of (pe_lc hc nd h1 ok h2 h3 h4 hs) (h5 σ H en Q fun v H' d s x r f => q v H' d s x r fun _ => f)
theorem LcEv.imp {tg : Expr} (h : LcEv X Hb elt tg iter ifs scope own Γ S) (f : ∀ d, S d → S' d) : LcEv X Hb elt tg iter ifs scope own Γ S' := by
  obtain ⟨hc, nd, ok, hs, wi, g, tt, te, h1, h2, h3, h4, h5⟩ := h
  exact ⟨hc, nd, ok, hs, wi, g, tt, te, h1, h2, h3, h4, fun σ H en Q q => h5 σ H en Q fun v H' d s x r fd => q v H' d (f d s) x r fd⟩
/-- y = [..], y a plain local -/
theorem go_setLc {tg : Expr} (i : Nat) {yn : Str} {py spos : Pos} {D0 : Ends} {rest : List Stmt} (h : LcEv X Hb elt tg iter ifs scope own Γ S) (hsto : ∀ d, S d → Sto Γ d) (go : ∀ d, S d → Go X Hb rest D0 (Γ.set i (.dat d))) (hsw : swapsWith (.ListComp elt [⟨tg, iter, ifs, 0⟩] scope pos) (some (.Name yn py)) spos.line X.env = pure true)
    (hy : X.N[i]? = some yn := by rfl) (hyl : X.env.scope.names.lookup yn = some .local := by rfl) : Go X Hb (.Assign [.Name yn py] (.ListComp elt [⟨tg, iter, ifs, 0⟩] scope pos) spos :: rest) D0 Γ := fun σ H en => by
  obtain ⟨hc, nd, ok, hs, wi, g, tt, te, h1, h2, h3, h4, h5⟩ := h
  exact SemSs.cons (ps_setLc hc nd hy hyl hsw h1 ok h2 h3 h4 hs) (h5 σ H en _ fun v H' d s x r _ => go d s _ H' ((en.ex x).setDat r (hsto d s)))
theorem go_setLcOwn {tg : Expr} (i : Nat) {yn : Str} {py spos : Pos} {D0 : Ends} {rest : List Stmt} {SL : List D → Prop} (h : LcEv X Hb elt tg iter ifs scope own Γ fun z => ∃ ds, z = .lst ds ∧ SL ds) (hfl : ∀ ds, SL ds → D.flatAll ds = true) (go : ∀ p ds, SL ds → Go X Hb rest D0 (Γ.set i (.own p ds)))
    (hsw : swapsWith (.ListComp elt [⟨tg, iter, ifs, 0⟩] scope pos) (some (.Name yn py)) spos.line X.env = pure true) (hy : X.N[i]? = some yn := by rfl) (hyl : X.env.scope.names.lookup yn = some .local := by rfl) : Go X Hb (.Assign [.Name yn py] (.ListComp elt [⟨tg, iter, ifs, 0⟩] scope pos) spos :: rest) D0 Γ := fun σ H en => by
  obtain ⟨hc, nd, ok, hs, wi, g, tt, te, h1, h2, h3, h4, h5⟩ := h
  refine SemSs.cons (ps_setLc hc nd hy hyl hsw h1 ok h2 h3 h4 hs) (h5 σ H en _ fun v H' d ⟨ds, e1, s⟩ x r f => ?_)
  subst e1
  obtain ⟨p, vs, rfl, hp, hl, ra⟩ := f
  exact go p ds s _ H' (en.setOwn hp x hl ra (hfl ds s))
theorem paired_det {α : Type} {g : α → D} : ∀ {l : List α} {ys : List D}, Paired (fun a d => d = g a) l ys → ys = l.map g
  | _, _, .nil => rfl
  | _, _, .cons h r => by rw [h, paired_det r]; rfl
theorem paired_all {α : Type} {F : α → D → Prop} {P : D → Prop} (h : ∀ a d, F a d → P d) : ∀ {l : List α} {ys : List D}, Paired F l ys → ∀ y ∈ ys, P y
  | _, _, .nil => fun _ m => nomatch m
  | _, _, .cons q r => fun y m => by
    rcases List.mem_cons.mp m with e | m
    · rw [e]; exact h _ _ q
    · exact paired_all h r y m
/-- texts of ints: a list drawn -/
theorem ints_of {P : Int → Prop} : ∀ {ys : List D}, (∀ y ∈ ys, ∃ i, y = .int i ∧ P i) → ∃ ns : List Int, ys = ns.map .int ∧ ∀ i ∈ ns, P i
  | [], _ => ⟨[], rfl, fun _ m => nomatch m⟩
  | y :: ys, h => by
    obtain ⟨i, rfl, hi⟩ := h y List.mem_cons_self
    obtain ⟨ns, rfl, hn⟩ := ints_of (ys := ys) fun z m => h z (List.mem_cons_of_mem _ m)
    exact ⟨i :: ns, rfl, fun j m => by rcases List.mem_cons.mp m with e | m; exact e ▸ hi; exact hn j m⟩
end
end L3

namespace L3
open PySem PySem.Spec PyProof.Rows L2
section
variable {X : Cx} {Hb Hb' : Hp} {a b c e : Expr} {es : List Expr} {Γ : Slots} {pos p' apos cpos : Pos} {d x y : D} {ds : List D} {S S' : D → Prop} {fr fr' : Bool} {D0 : Ends} {rest sts : List Stmt} {st : Stmt}
/-- an int of which S holds -/
abbrev EvI1 (X : Cx) (Hb : Hp) (e : Expr) (Γ : Slots) (fr : Bool) (S : Int → Prop) : Prop := EvN X Hb e Γ fr fun z => ∃ i, z = .int i ∧ S i
theorem EvN.int1 {i : Int} (h : Ev X Hb e Γ fr (.int i)) : EvI1 X Hb e Γ fr (· = i) := h.imp fun _ z => ⟨i, z, rfl⟩
theorem EvN.int1' {i : Int} {S : Int → Prop} (h : Ev X Hb e Γ fr (.int i)) (hs : S i) : EvI1 X Hb e Γ fr S := h.imp fun _ z => ⟨i, z, hs⟩
theorem EvN.mono1 {S S' : Int → Prop} (h : EvI1 X Hb e Γ fr S) (f : ∀ i, S i → S' i) : EvI1 X Hb e Γ fr S' := h.imp fun _ ⟨i, e, s⟩ => ⟨i, e, f i s⟩
section
variable {S1 S2 S3 : Int → Prop}
theorem evi_add (ha : EvI1 X Hb a Γ fr S1) (hb : EvI1 X Hb b Γ fr' S2) (h : ∀ i j, S1 i → S2 j → S3 (i + j)) : EvI1 X Hb (.BinOp a .Add b pos) Γ true S3 :=
  evn_op (h := fun i j => .int (i + j)) (opI0' op_add) (fun _ _ _ => .int _) (fun _ _ => rfl) ha hb fun i j s1 s2 => ⟨trivial, _, rfl, h i j s1 s2⟩
theorem evi_sub (ha : EvI1 X Hb a Γ fr S1) (hb : EvI1 X Hb b Γ fr' S2) (h : ∀ i j, S1 i → S2 j → S3 (i - j)) : EvI1 X Hb (.BinOp a .Sub b pos) Γ true S3 :=
  evn_op (h := fun i j => .int (i - j)) (opI0' op_sub) (fun _ _ _ => .int _) (fun _ _ => rfl) ha hb fun i j s1 s2 => ⟨trivial, _, rfl, h i j s1 s2⟩
theorem evi_mul (ha : EvI1 X Hb a Γ fr S1) (hb : EvI1 X Hb b Γ fr' S2) (h : ∀ i j, S1 i → S2 j → IntMulOk i j ∧ S3 (i * j)) : EvI1 X Hb (.BinOp a .Mult b pos) Γ true S3 :=
  evn_op (h := fun i j => .int (i * j)) (C := IntMulOk) (g := fun i j => .int (i * j)) (opI fun _ _ _ _ _ _ _ hc q => mul_int q hc) (fun _ _ _ => .int _) (fun _ _ => rfl) ha hb fun i j s1 s2 => ⟨(h i j s1 s2).1, _, rfl, (h i j s1 s2).2⟩
theorem evi_fdiv (ha : EvI1 X Hb a Γ fr S1) (hb : EvI1 X Hb b Γ fr' S2) (h : ∀ i j, S1 i → S2 j → CDivX i j ∧ S3 (i.fdiv j)) : EvI1 X Hb (.BinOp a .FloorDiv b pos) Γ true S3 :=
  evn_op (h := fun i j => .int (i.fdiv j)) op_fdivX (fun _ _ _ => .int _) (fun _ _ => rfl) ha hb fun i j s1 s2 => ⟨(h i j s1 s2).1, _, rfl, (h i j s1 s2).2⟩
theorem evi_mod (ha : EvI1 X Hb a Γ fr S1) (hb : EvI1 X Hb b Γ fr' S2) (h : ∀ i j, S1 i → S2 j → j ≠ 0 ∧ S3 (i.fmod j)) : EvI1 X Hb (.BinOp a .Mod b pos) Γ true S3 :=
  evn_op (h := fun i j => .int (i.fmod j)) op_modN (fun _ _ _ => .int _) (fun _ _ => rfl) ha hb fun i j s1 s2 => ⟨(h i j s1 s2).1, _, rfl, (h i j s1 s2).2⟩
theorem evi_pow (ha : EvI1 X Hb a Γ fr S1) (hb : EvI1 X Hb b Γ fr' S2) (h : ∀ i j, S1 i → S2 j → (0 ≤ j ∧ (Builtin.Int.intBits i : Int) * j ≤ 2 ^ 27) ∧ S3 (i ^ j.toNat)) : EvI1 X Hb (.BinOp a .Pow b pos) Γ true S3 :=
  evn_op (h := fun i j => .int (i ^ j.toNat)) op_powX (fun _ _ _ => .int _) (fun _ _ => rfl) ha hb fun i j s1 s2 => ⟨(h i j s1 s2).1, _, rfl, (h i j s1 s2).2⟩
theorem evi_toInt {pn : Pos} (hm : X.mg "int" = none) (h : EvI1 X Hb a Γ fr S1) (hg : Gl X "int" := by rfl) (he : starEach (a :: []) X.env = (false, eval a X.env) :: starEach [] X.env := by rfl) (hpl : (backTo pos (starEach [] X.env)).any (·.1) = false := by rfl) :
    EvI1 X Hb (.Call (.Name "int" pn) [a] [] pos) Γ true S1 :=
  evn_Ty call_int1 hm (eva_consN (S := fun z => ∃ i, z = [.int i] ∧ S1 i) h eva_nil (fun d ds ⟨i, e1, s⟩ e => ⟨i, by rw [e, e1], s⟩) he) (fun vs H ds' Q ⟨i, e1, s⟩ r k => by
    subst e1
    exact .inl ⟨i, r.int1, k _ _ _ ⟨i, rfl, s⟩ Ex.refl (.int _) (FreshD.flat rfl)⟩) (by decide +kernel) hg (by decide) (by decide) he hpl
/-- a comparison of ints of which bounds are known: both ways -/
theorem evt_cmpN {op : CmpOp} {g : Int → Int → Bool} {SB : Bool → Prop} (ho : OpR X (compareOp op) (rI0 fun i j => .bl (g i j))) (hm : behindInMarks op b = false) (ha : EvI1 X Hb a Γ fr S1) (hb : EvI1 X Hb b Γ fr' S2) (h : ∀ i j, S1 i → S2 j → SB (g i j)) :
    EvT X Hb (.Compare a [op] [b] pos) Γ SB := fun σ H en Q q =>
  SemT.of (pt_cmpR ho (semE X a) (semE X b) hm) (ha σ H en _ fun v H1 d1 ⟨i, e1, s1⟩ x1 r1 _ => hb σ H1 (en.ex x1) _ fun w H2 d2 ⟨j, e2, s2⟩ x2 r2 _ => by
    subst e1 e2
    cases r1
    cases r2
    exact ⟨i, j, rfl, rfl, _, rfl, q _ H2 (h i j s1 s2) (x1.trans x2)⟩)
end
theorem eva_consS {S1 : D → Prop} {S2 : List D → Prop} (ha : EvN X Hb e Γ fr S1) (hr : EvA X Hb es Γ S2) (hs : starEach (e :: es) X.env = (false, eval e X.env) :: starEach es X.env := by rfl) : EvA X Hb (e :: es) Γ (fun z => ∃ d ds, z = d :: ds ∧ S1 d ∧ S2 ds) :=
  eva_consN ha hr (fun d ds a b => ⟨d, ds, rfl, a, b⟩) hs
theorem evn_lstS {SA : List D → Prop} (h : EvA X Hb es Γ SA) (hl : ∀ ds, SA ds → ds.length ≤ 1000) : EvN X Hb (.List es pos) Γ true (fun z => ∃ ds, z = .lst ds ∧ SA ds) := evn_lst h hl
/-- the size of an int's square and more -/
theorem natAbs_add_lt {x y : Int} {n : Nat} (hx : x.natAbs < 2 ^ n) (hy : y.natAbs < 2 ^ n) : (x + y).natAbs < 2 ^ (n + 1) := by
  have := Int.natAbs_add_le x y
  rw [Nat.pow_succ]
  omega
theorem mulOk_bits {i j : Int} {a b : Nat} (hi : i.natAbs < 2 ^ a) (hj : j.natAbs < 2 ^ b) (h : a + b ≤ 134217728) : IntMulOk i j :=
  mulOk_of_bits (intBits_le hi) (intBits_le hj) h
theorem natAbs_mul_lt {x y : Int} {n m : Nat} (hx : x.natAbs < 2 ^ n) (hy : y.natAbs < 2 ^ m) : (x * y).natAbs < 2 ^ (n + m) := wide_lt hx hy
theorem natAbs_mono {x : Int} {n m : Nat} (h : n ≤ m) (hx : x.natAbs < 2 ^ n) : x.natAbs < 2 ^ m := Nat.lt_of_lt_of_le hx (Nat.pow_le_pow_right (by decide) h)
/-- a divisor of at most 9000 bits -/
theorem divX {i j : Int} {n : Nat} (h0 : j ≠ 0) (h : j.natAbs < 2 ^ n) (hn : n ≤ 9000) (h1 : 0 < n) : CDivX i j := ⟨h0, PyProof.noPylong_of_log2 (Nat.lt_of_lt_of_le (log2_small h1 h) hn)⟩
theorem fdiv_natAbs {i j : Int} (hi : 0 ≤ i) (hj : 0 < j) : 0 ≤ i.fdiv j ∧ (i.fdiv j).natAbs ≤ i.natAbs := by
  rw [Int.fdiv_eq_ediv_of_nonneg i (Int.le_of_lt hj)]
  have h0 := Int.ediv_nonneg hi (Int.le_of_lt hj)
  have h1 := Int.ediv_le_self j hi
  exact ⟨h0, by omega⟩
theorem fmod_range {i j : Int} (hj : 0 < j) : 0 ≤ i.fmod j ∧ i.fmod j < j := by
  rw [Int.fmod_eq_emod_of_nonneg i (Int.le_of_lt hj)]
  exact ⟨Int.emod_nonneg i (by omega), Int.emod_lt_of_pos i hj⟩
end
end L3

namespace L3
open PySem PySem.Spec PyProof.Rows L2
/-- a script's ints -/
def ScriptB (ns : List Int) : Prop := ∀ n ∈ ns, n.natAbs < 2 ^ (bigB - 1)
/-- a law's promise: True comes out -/
def spLaw (K : PySem.W.Frag) : Sp := fun vs H Q _ => ∃ (a : Addr) (ns : List Int), vs = [.ref a] ∧ SqL K H a (ns.map V.int) ∧ ns.length ≤ 63 ∧ ScriptB ns ∧ ∀ H', Q (.bl true) H'
/-- where the law ends well -/
abbrev lawEnds : Ends := { nx := fun _ _ => False, rt := fun v _ => v = .bl true }
section
variable {P : Program} {w : World} {K : PySem.W.Frag} {mg : Str → Option Value} {base : Heap}
theorem fnG_law {st : Stmt} {f : Addr} {fd : FuncData} {N : List Str} {x : Str} {k : Nat} (F : Fun K "law" "law" st f fd) (Sc : FnScope N [x] (defScope st))
    (hbody : ∀ cdv A outer s H, (A.deeper (envOfC "law" (defScope st) s.heap.objs.size f cdv)).guards = some [] → Room k (A.deeper (envOfC "law" (defScope st) s.heap.objs.size f cdv)) → ∀ ns : List Int, ns.length ≤ 63 → ScriptB ns →
      Go (bodyCx P w K mg base N "law" (defScope st) f cdv A outer s H E0) H (defBody st) lawEnds (slots0 N [.lst (ns.map .int)])) : FnG P w K mg base (k + 1) f fd [x] (spLaw K) := by
  refine fnG_of F Sc (fun vs H Q E h => ?_) (fun cdv A outer s H vs Q hg hr h => ?_)
  · obtain ⟨a, ns, e, _⟩ := h
    rw [e]; rfl
  · obtain ⟨a, ns, e, hq, hl, hb, hk⟩ := h
    subst e
    have go := hbody cdv A outer s H hg hr ns hl hb _ _ (env_start (N := N) (.cons (.lst hq (repAll_ints ns)) .nil))
    exact go.mono (fun _ _ h => h.elim) (fun v H' q => by rw [show v = .bl true from q]; exact hk H') (fun _ _ h => h) fun _ _ h => h
theorem walkLaw {l : PySem.W.OpenLaw} {k : Nat} {q : Program} {loose : List Str} {XP : (Str → Option Value) → Heap → Prop} {YP : World → Heap → Prop} {dr : DefRec} {KK : Params → PySem.W.Frag} {x : Str} (most : l.most = some 63) (nodef : dr.params.defaults = []) (hr : Room k callerA)
    (hY : ∀ w h, YP w h → (KK w.params).In h)
    (F : ∀ w mg fa h, (KK w.params).In h → h.Ns mainGlobals mg → mg dr.name = some (.ref fa) → ∃ fd : FuncData, (∀ s u, BindsTo s fd ⟨[u], []⟩ [(x, u)]) ∧ ∀ base : Heap, (KK w.params).In base → base.Ns mainGlobals mg → FnG l.prog w (KK w.params) mg base k fa fd [x] (spLaw (KK w.params))) :
    PySem.W.WalkO q loose XP YP l.row.toRowW dr [] (fun f vs => PySem.call f vs) := by
  refine Att.attach_callB most nodef fun w s₀ s₁ mg mb fa o pm cd doc a vs ns G Y _ _ _ hmg obj hints len bits nogen => ?_
  obtain ⟨fd, bind, FF⟩ := F w mg fa _ (hY w _ Y) G.T.g hmg
  refine lawG (hY w _ Y) G.T.g G.T.b G.T.builtins G.T.nolimit nogen obj hints (Nat.le_trans len (by decide)) hr FF bind fun H hO hS => ⟨a, ns, rfl, hS, len, fun n hn => ?_, fun _ => rfl⟩
  have hb := intBits_natAbs (bits n hn)
  exact natAbs_mono (by show 1048576 ≤ bigB - 1; decide) hb
end
end L3

namespace L3
open PySem PySem.Spec PyProof.Rows L2
section
variable {X : Cx} {Hb Hb' : Hp} {a b c e : Expr} {es : List Expr} {Γ : Slots} {pos p' apos cpos : Pos} {d x y : D} {ds : List D} {S S' : D → Prop} {fr fr' : Bool} {D0 : Ends} {rest sts : List Stmt} {st : Stmt}
def isNon : D → Bool
  | .non => true
  | _ => false
theorem Rep.isNon {K : PySem.W.Frag} {H : Hp} {v : V} (r : Rep K H v d) : decide (v = .non) = L3.isNon d := by
  cases r <;> rfl
/-- x is None, x is not None -/
theorem ev_isN {j : Nat} {p2 : Pos} (ha : Ev X Hb a Γ fr d) : Ev X Hb (.Compare a [.Is] [.Constant .none j p2] pos) Γ true (.bl (isNon d)) := fun σ H en Q q =>
  SemE.of (pe_cmpR op_isN (semE X a) pe_non (nomark _)) (ha σ H en _ fun v H1 d1 e1 x1 r1 _ => by
    subst e1
    refine ⟨rfl, ?_⟩
    rw [r1.isNon]
    exact q _ H1 _ rfl x1 (.bl _) fun _ => trivial)
theorem ev_notN {j : Nat} {p2 : Pos} (ha : Ev X Hb a Γ fr d) : Ev X Hb (.Compare a [.IsNot] [.Constant .none j p2] pos) Γ true (.bl (!isNon d)) := fun σ H en Q q =>
  SemE.of (pe_cmpR op_notN (semE X a) pe_non (nomark _)) (ha σ H en _ fun v H1 d1 e1 x1 r1 _ => by
    subst e1
    refine ⟨rfl, ?_⟩
    rw [r1.isNon]
    exact q _ H1 _ rfl x1 (.bl _) fun _ => trivial)
theorem evt_isN {j : Nat} {p2 : Pos} (ha : Ev X Hb a Γ fr d) : EvB X Hb (.Compare a [.Is] [.Constant .none j p2] pos) Γ (isNon d) := fun σ H en Q q =>
  SemT.of (pt_cmpR op_isN (semE X a) pe_non (nomark _)) (ha σ H en _ fun v H1 d1 e1 x1 r1 _ => by
    subst e1
    refine ⟨rfl, ?_⟩
    rw [r1.isNon]
    exact ⟨_, rfl, q _ H1 rfl x1⟩)
theorem evt_notN {j : Nat} {p2 : Pos} (ha : Ev X Hb a Γ fr d) : EvB X Hb (.Compare a [.IsNot] [.Constant .none j p2] pos) Γ (!isNon d) := fun σ H en Q q =>
  SemT.of (pt_cmpR op_notN (semE X a) pe_non (nomark _)) (ha σ H en _ fun v H1 d1 e1 x1 r1 _ => by
    subst e1
    refine ⟨rfl, ?_⟩
    rw [r1.isNon]
    exact ⟨_, rfl, q _ H1 rfl x1⟩)
/-- bools compared -/
theorem evt_neB {i j : Bool} (ha : Ev X Hb a Γ fr (.bl i)) (hb : Ev X Hb b Γ fr' (.bl j)) : EvB X Hb (.Compare a [.NotEq] [b] pos) Γ (!decide (i = j)) := fun σ H en Q q =>
  SemT.of (pt_cmpR op_ne (semE X a) (semE X b) (nomark _)) (ha σ H en _ fun v H1 d1 e1 x1 r1 _ => hb σ H1 (en.ex x1) _ fun w H2 d2 e2 x2 r2 _ => by
    subst e1 e2
    cases r1
    cases r2
    refine ⟨rfl, ?_⟩
    rw [show decide (V.bl i = V.bl j) = decide (i = j) from by simp]
    exact ⟨_, rfl, q _ H2 rfl (x1.trans x2)⟩)
theorem evt_eqB {i j : Bool} (ha : Ev X Hb a Γ fr (.bl i)) (hb : Ev X Hb b Γ fr' (.bl j)) : EvB X Hb (.Compare a [.Eq] [b] pos) Γ (decide (i = j)) := fun σ H en Q q =>
  SemT.of (pt_cmpR op_eq (semE X a) (semE X b) (nomark _)) (ha σ H en _ fun v H1 d1 e1 x1 r1 _ => hb σ H1 (en.ex x1) _ fun w H2 d2 e2 x2 r2 _ => by
    subst e1 e2
    cases r1
    cases r2
    refine ⟨rfl, ?_⟩
    rw [show decide (V.bl i = V.bl j) = decide (i = j) from by simp]
    exact ⟨_, rfl, q _ H2 rfl (x1.trans x2)⟩)
/-- data compared, no dict within -/
theorem evt_neD {k : Nat} {d1 d2 : D} (hr : Room k X.A) (ha : Ev X Hb a Γ fr d1) (hb : Ev X Hb b Γ fr' d2) (o1 : d1.ok = true) (o2 : d2.ok = true) (s1 : SeqAt.shaped d1.py = true) (s2 : SeqAt.shaped d2.py = true) : EvB X Hb (.Compare a [.NotEq] [b] pos) Γ (!PyData.eqv d1.py d2.py) := fun σ H en Q q =>
  SemT.of (pt_cmpR (op_neR hr.units) (semE X a) (semE X b) (nomark _)) (ha σ H en _ fun v H1 e1 z1 x1 r1 _ => hb σ H1 (en.ex x1) _ fun w H2 e2 z2 x2 r2 _ => by
    subst z1 z2
    exact ⟨_, _, r1.ex x2, r2, o1, o2, s1, s2, _, rfl, q _ H2 rfl (x1.trans x2)⟩)
theorem evt_eqD {k : Nat} {d1 d2 : D} (hr : Room k X.A) (ha : Ev X Hb a Γ fr d1) (hb : Ev X Hb b Γ fr' d2) (o1 : d1.ok = true) (o2 : d2.ok = true) (s1 : SeqAt.shaped d1.py = true) (s2 : SeqAt.shaped d2.py = true) : EvB X Hb (.Compare a [.Eq] [b] pos) Γ (PyData.eqv d1.py d2.py) := fun σ H en Q q =>
  SemT.of (pt_cmpR (op_eqR hr.units) (semE X a) (semE X b) (nomark _)) (ha σ H en _ fun v H1 e1 z1 x1 r1 _ => hb σ H1 (en.ex x1) _ fun w H2 e2 z2 x2 r2 _ => by
    subst z1 z2
    exact ⟨_, _, r1.ex x2, r2, o1, o2, s1, s2, _, rfl, q _ H2 rfl (x1.trans x2)⟩)
theorem ev_neD {k : Nat} {d1 d2 : D} (hr : Room k X.A) (ha : Ev X Hb a Γ fr d1) (hb : Ev X Hb b Γ fr' d2) (o1 : d1.ok = true) (o2 : d2.ok = true) (s1 : SeqAt.shaped d1.py = true) (s2 : SeqAt.shaped d2.py = true) : Ev X Hb (.Compare a [.NotEq] [b] pos) Γ true (.bl (!PyData.eqv d1.py d2.py)) := fun σ H en Q q =>
  SemE.of (pe_cmpR (op_neR hr.units) (semE X a) (semE X b) (nomark _)) (ha σ H en _ fun v H1 e1 z1 x1 r1 _ => hb σ H1 (en.ex x1) _ fun w H2 e2 z2 x2 r2 _ => by
    subst z1 z2
    exact ⟨_, _, r1.ex x2, r2, o1, o2, s1, s2, q _ H2 _ rfl (x1.trans x2) (.bl _) fun _ => trivial⟩)
theorem ev_eqD {k : Nat} {d1 d2 : D} (hr : Room k X.A) (ha : Ev X Hb a Γ fr d1) (hb : Ev X Hb b Γ fr' d2) (o1 : d1.ok = true) (o2 : d2.ok = true) (s1 : SeqAt.shaped d1.py = true) (s2 : SeqAt.shaped d2.py = true) : Ev X Hb (.Compare a [.Eq] [b] pos) Γ true (.bl (PyData.eqv d1.py d2.py)) := fun σ H en Q q =>
  SemE.of (pe_cmpR (op_eqR hr.units) (semE X a) (semE X b) (nomark _)) (ha σ H en _ fun v H1 e1 z1 x1 r1 _ => hb σ H1 (en.ex x1) _ fun w H2 e2 z2 x2 r2 _ => by
    subst z1 z2
    exact ⟨_, _, r1.ex x2, r2, o1, o2, s1, s2, q _ H2 _ rfl (x1.trans x2) (.bl _) fun _ => trivial⟩)
/-- a <= b <= c, ints -/
theorem evt_chain {op op' : CmpOp} {g g' : Int → Int → Bool} {i j k : Int} {fr'' : Bool} (ho : OpR X (compareOp op) (rI0 fun i j => .bl (g i j))) (ho' : OpR X (compareOp op') (rI0 fun i j => .bl (g' i j))) (ha : Ev X Hb a Γ fr (.int i)) (hb : Ev X Hb b Γ fr' (.int j)) (hc : Ev X Hb c Γ fr'' (.int k))
    (hm : lastMarks [op, op'] [b, c] = false := by with_unfolding_all rfl) : EvB X Hb (.Compare a [op, op'] [b, c] pos) Γ (g i j && g' j k) := fun σ H en Q q =>
  SemT.of (pt_chain ho ho' (semE X a) (semE X b) (semE X c) hm) (ha σ H en _ fun v H1 e1 z1 x1 r1 _ => hb σ H1 (en.ex x1) _ fun w H2 e2 z2 x2 r2 _ => by
    subst z1 z2
    cases r1
    cases r2
    refine ⟨i, j, rfl, rfl, g i j, rfl, ?_⟩
    cases hg : g i j with
    | true =>
      refine iteT ?_
      refine hc σ H2 (en.ex (x1.trans x2)) _ fun u H3 e3 z3 x3 r3 _ => ?_
      subst z3
      cases r3
      exact ⟨j, k, rfl, rfl, _, rfl, q _ H3 (by rw [hg]; rfl) ((x1.trans x2).trans x3)⟩
    | false =>
      refine iteF ?_
      exact ⟨_, rfl, q _ H2 (by rw [hg]; rfl) (x1.trans x2)⟩)
/-! isinstance of a built-in class -/
/-- the type's name of data -/
def tyD : D → String
  | .non => "NoneType"
  | .bl _ => "bool"
  | .int _ => "int"
  | .str _ => "str"
  | .lst _ => "list"
  | .tup _ => "tuple"
  | .dct _ => "dict"
  | .ext _ => ""
theorem Rep.ty {K : PySem.W.Frag} {H : Hp} {v : V} (r : Rep K H v d) (ho : d.ok = true) : TyX K H v (.type (tyD d)) := by
  cases r with
  | non => exact .base .non
  | bl b => exact .base (.bl b)
  | int i => exact .base (.int i)
  | str x => exact .base (.str x)
  | lst hq _ =>
    rcases hq with (h | ⟨o, h⟩) | ⟨o, its, n, h, hc, _⟩
    · exact .base (.lst h)
    · exact .base (.frz h)
    · exact .kList h hc
  | tup hq _ =>
    rcases hq with (h | ⟨o, h⟩) | ⟨o, its, n, h, hc, _⟩
    · exact .base (.tup h)
    · exact .fTuple h
    · exact .kTuple h hc
  | dct hq _ =>
    rcases hq with h | ⟨o, h⟩
    · exact .base (.dK h)
    · exact .fDict h
  | ext _ => simp [D.ok] at ho
theorem evn_isI {S1 : D → Prop} {SB : Bool → Prop} {T x : Str} {Ts : String} {pn p2 : Pos} (hm : X.mg "isinstance" = none) (hm2 : X.mg x = none) (ha : EvN X Hb a Γ fr S1) (h : ∀ d, S1 d → d.ok = true ∧ ∃ k, kitB (tyD d) Ts = some k ∧ SB k) (hv : bootBuiltins x = some (.type Ts) := by decide +kernel)
    (hg : Gl X "isinstance" := by rfl) (hg2 : Gl X x := by rfl) (hn : x ≠ "__name__" := by decide) (hd : (x == ("__debug__" : Str)) = false := by decide) (he : starEach (a :: [.Name x p2]) X.env = (false, eval a X.env) :: starEach [.Name x p2] X.env := by rfl) (he2 : starEach ([.Name x p2]) X.env = (false, eval (.Name x p2) X.env) :: starEach [] X.env := by rfl) (hpl : (backTo pos (starEach [.Name x p2] X.env)).any (·.1) = false := by rfl) :
    EvN X Hb (.Call (.Name "isinstance" pn) [a, .Name x p2] [] pos) Γ true (fun z => ∃ k, z = .bl k ∧ SB k) := fun σ H en Q q =>
  SemE.of (pe_callB call_isi hg hm (by decide +kernel) (pa_cons (semE X a) (pa_cons (pe_bltn (v := .ty Ts) hg2 hm2 hv rfl hn hd) pa_nil he2) he) (by decide) (by decide) he hpl) (ha σ H en _ fun v H1 d1 s x1 r1 _ => by
    obtain ⟨ho, k, hk, sb⟩ := h d1 s
    exact ⟨v, .ty Ts, .type (tyD d1), .type Ts, k, rfl, .ty Ts, r1.ty ho, kit_ty hk, q _ H1 _ ⟨k, rfl, sb⟩ x1 (.bl k) fun _ => trivial⟩)
theorem ev_isI {x : Str} {Ts : String} {k : Bool} {pn p2 : Pos} (hm : X.mg "isinstance" = none) (hm2 : X.mg x = none) (ha : Ev X Hb a Γ fr d) (ho : d.ok = true) (hk : kitB (tyD d) Ts = some k) (hv : bootBuiltins x = some (.type Ts) := by decide +kernel)
    (hg : Gl X "isinstance" := by rfl) (hg2 : Gl X x := by rfl) (hn : x ≠ "__name__" := by decide) (hd : (x == ("__debug__" : Str)) = false := by decide) (he : starEach (a :: [.Name x p2]) X.env = (false, eval a X.env) :: starEach [.Name x p2] X.env := by rfl) (he2 : starEach ([.Name x p2]) X.env = (false, eval (.Name x p2) X.env) :: starEach [] X.env := by rfl) (hpl : (backTo pos (starEach [.Name x p2] X.env)).any (·.1) = false := by rfl) :
    Ev X Hb (.Call (.Name "isinstance" pn) [a, .Name x p2] [] pos) Γ true (.bl k) :=
  (evn_isI (SB := (· = k)) (T := x) hm hm2 ha (fun d' e => by rw [e]; exact ⟨ho, k, hk, rfl⟩) hv hg hg2 hn hd he he2 hpl).imp fun _ ⟨k', e1, e2⟩ => by rw [e1, e2]
theorem kit_tt : kitB "tuple" "tuple" = some true := by decide +kernel
theorem kit_nt : kitB "NoneType" "tuple" = some false := by decide +kernel
theorem kit_lt : kitB "list" "tuple" = some false := by decide +kernel
theorem kit_it : kitB "int" "tuple" = some false := by decide +kernel
theorem kit_bt : kitB "bool" "tuple" = some false := by decide +kernel
theorem kit_st : kitB "str" "tuple" = some false := by decide +kernel
theorem kit_dt : kitB "dict" "tuple" = some false := by decide +kernel
theorem kit_ii : kitB "int" "int" = some true := by decide +kernel
theorem kit_bi : kitB "bool" "int" = some true := by decide +kernel
theorem kit_ni : kitB "NoneType" "int" = some false := by decide +kernel
theorem kit_si : kitB "str" "int" = some false := by decide +kernel
theorem kit_li : kitB "list" "int" = some false := by decide +kernel
theorem kit_ti : kitB "tuple" "int" = some false := by decide +kernel
theorem kit_di : kitB "dict" "int" = some false := by decide +kernel
theorem kit_ib : kitB "int" "bool" = some false := by decide +kernel
theorem kit_bb : kitB "bool" "bool" = some true := by decide +kernel
theorem kit_nb : kitB "NoneType" "bool" = some false := by decide +kernel
theorem kit_sb : kitB "str" "bool" = some false := by decide +kernel
theorem kit_lb : kitB "list" "bool" = some false := by decide +kernel
theorem kit_tb : kitB "tuple" "bool" = some false := by decide +kernel
theorem kit_db : kitB "dict" "bool" = some false := by decide +kernel
end
end L3

namespace L3
open PySem PySem.Spec PyProof.Rows L2
/-- some slots alone are still told -/
def keepG : List Bool → Slots → Slots
  | _, [] => []
  | [], _ :: r => .any :: keepG [] r
  | true :: ks, e :: r => e :: keepG ks r
  | false :: ks, _ :: r => .any :: keepG ks r
theorem keep_paired {K : PySem.W.Frag} {Hz H : Hp} : ∀ {ks : List Bool} {Γ : Slots} {σ : L2.St}, Paired (EntOk K Hz H) Γ σ → Paired (EntOk K Hz H) (keepG ks Γ) σ
  | _, _, _, .nil => by cases ‹List Bool› <;> exact .nil
  | [], _, _, .cons _ r => .cons trivial (keep_paired r)
  | true :: _, _, _, .cons h r => .cons h (keep_paired r)
  | false :: _, _, _, .cons _ r => .cons trivial (keep_paired r)
theorem keep_owns : ∀ {ks : List Bool} {Γ : Slots}, (owns (keepG ks Γ)).Sublist (owns Γ)
  | ks, [] => by cases ks <;> exact List.Sublist.refl _
  | [], .own p d :: r => (keep_owns (ks := []) (Γ := r)).cons p
  | [], .any :: r => keep_owns (ks := []) (Γ := r)
  | [], .dat _ :: r => keep_owns (ks := []) (Γ := r)
  | true :: ks, .own p d :: r => (keep_owns (ks := ks) (Γ := r)).cons₂ p
  | true :: ks, .any :: r => keep_owns (ks := ks) (Γ := r)
  | true :: ks, .dat _ :: r => keep_owns (ks := ks) (Γ := r)
  | false :: ks, .own p d :: r => (keep_owns (ks := ks) (Γ := r)).cons p
  | false :: ks, .any :: r => keep_owns (ks := ks) (Γ := r)
  | false :: ks, .dat _ :: r => keep_owns (ks := ks) (Γ := r)
theorem EnvOk.keep {K : PySem.W.Frag} {Hb H : Hp} {Γ : Slots} {σ : L2.St} (ks : List Bool) (h : EnvOk K Hb Γ σ H) : EnvOk K Hb (keepG ks Γ) σ H := by
  obtain ⟨Hz, h1, h2, h3, h4⟩ := h
  exact ⟨Hz, h1, h2, keep_paired h3, List.Nodup.sublist keep_owns h4⟩
section
variable {X : Cx} {Hb Hb' : Hp} {a b c e : Expr} {es : List Expr} {Γ : Slots} {pos p' apos cpos : Pos} {d x y : D} {ds : List D} {S S' : D → Prop} {fr fr' : Bool} {D0 : Ends} {rest sts : List Stmt} {st : Stmt}
/-- the end of a turn: some slots are kept -/
theorem go_endK (ks : List Bool) {Γ' : Slots} (h : keepG ks Γ = Γ') (hD : ∀ σ H, EnvOk X.K Hb Γ' σ H → D0.nx σ H := by exact fun _ _ h => h) : Go X Hb [] D0 Γ := go_nil fun σ H en => hD σ H (by rw [← h]; exact en.keep ks)
theorem go_keep (ks : List Bool) {Γ' : Slots} (h : keepG ks Γ = Γ') (g : Go X Hb sts D0 Γ') : Go X Hb sts D0 Γ := go_weak (fun _ _ en => by rw [← h]; exact en.keep ks) g
/-- for i in range(..), nothing carried from turn to turn -/
theorem go_rep {body : List Stmt} (ix : Nat) {xn : Str} {SR : Int → Nat → Prop} (ks : List Bool) {Γ0 : Slots} (h0 : keepG ks Γ = Γ0) (hit : EvR X Hb e Γ SR)
    (hs : ∀ (lo : Int) (n i : Nat), SR lo n → i < n → Go X Hb body { D0 with nx := fun σ H => EnvOk X.K Hb Γ0 σ H, ct := fun σ H => EnvOk X.K Hb Γ0 σ H, bk := fun σ H => SemSs X rest D0 σ H } (Γ0.set ix (.dat (.int (lo + i)))))
    (hd : Go X Hb rest D0 Γ0) (hp : PassesOwn (model X.prog X.w) X.A X.env X.xe) (hc : X.calm = true) (nd : X.N.Nodup) (hi : X.N[ix]? = some xn := by rfl) (hx : Loc X.env.scope xn := by first | exact Or.inl rfl | exact Or.inr rfl)
    (hfs : ∀ x, foldedSetIterable e X.env x = pure x := by intro _; rfl) (hf : X.fn xn = true ∨ X.env.scope.names.lookup xn = some .local := by first | exact .inl rfl | exact .inr rfl) :
    Go X Hb (.For (.Name xn p') e body [] pos :: rest) D0 Γ := by
  intro σ H en
  have en0 : EnvOk X.K Hb Γ0 σ H := by rw [← h0]; exact en.keep ks
  obtain ⟨wi, hpi, hw⟩ := hit
  refine SemSs.cons (ps_for hp hc (hpi _) (pg_name nd hi hx hf) (semSs X body) hfs) ?_
  refine hw σ H en _ fun lo n H' s x => ?_
  refine for_range (lo := lo) (n := n) (fun i σ H => EnvOk X.K Hb Γ0 σ H) (en0.ex x) ?_ ?_
  · intro i σ2 H2 hin en2
    exact hs lo n i s hin _ H2 (en2.setDat (.int _) (.inl rfl))
  · intro σ2 H2 en2
    exact hd _ H2 en2
/-- for i in range(..), the slots by the turn -/
theorem go_forG {body : List Stmt} (ix : Nat) {xn : Str} {lo : Int} {n : Nat} (G : Nat → Slots) (ks : List Bool) (h0 : keepG ks Γ = G 0) (hit : EvR X Hb e Γ (fun lo' n' => lo' = lo ∧ n' = n))
    (hs : ∀ i : Nat, i < n → Go X Hb body { D0 with nx := fun σ H => EnvOk X.K Hb (G (i + 1)) σ H, ct := fun σ H => EnvOk X.K Hb (G (i + 1)) σ H, bk := fun σ H => SemSs X rest D0 σ H } ((G i).set ix (.dat (.int (lo + i)))))
    (hd : Go X Hb rest D0 (G n)) (hp : PassesOwn (model X.prog X.w) X.A X.env X.xe) (hc : X.calm = true) (nd : X.N.Nodup) (hi : X.N[ix]? = some xn := by rfl) (hx : Loc X.env.scope xn := by first | exact Or.inl rfl | exact Or.inr rfl)
    (hfs : ∀ x, foldedSetIterable e X.env x = pure x := by intro _; rfl) (hf : X.fn xn = true ∨ X.env.scope.names.lookup xn = some .local := by first | exact .inl rfl | exact .inr rfl) :
    Go X Hb (.For (.Name xn p') e body [] pos :: rest) D0 Γ := by
  intro σ H en
  have en0 : EnvOk X.K Hb (G 0) σ H := by rw [← h0]; exact en.keep ks
  obtain ⟨wi, hpi, hw⟩ := hit
  refine SemSs.cons (ps_for hp hc (hpi _) (pg_name nd hi hx hf) (semSs X body) hfs) ?_
  refine hw σ H en _ fun lo' n' H' ⟨e1, e2⟩ x => ?_
  subst e1 e2
  refine for_range (lo := lo') (n := n') (fun i σ H => EnvOk X.K Hb (G i) σ H) (en0.ex x) ?_ ?_
  · intro i σ2 H2 hin en2
    exact hs i hin _ H2 (en2.setDat (.int _) (.inl rfl))
  · intro σ2 H2 en2
    exact hd _ H2 en2
/-- for x in a list, nothing carried -/
theorem go_repL {body : List Stmt} (ix : Nat) {xn : Str} {S1 : List D → Prop} (ks : List Bool) {Γ0 : Slots} (h0 : keepG ks Γ = Γ0) (hit : EvI X Hb e Γ S1) (hst : ∀ ds x, S1 ds → x ∈ ds → Sto Γ0 x)
    (hs : ∀ Hb', Ex Hb Hb' → ∀ ds x, S1 ds → x ∈ ds → Go X Hb' body { D0 with nx := fun σ H => EnvOk X.K Hb' Γ0 σ H, ct := fun σ H => EnvOk X.K Hb' Γ0 σ H, bk := fun σ H => SemSs X rest D0 σ H } (Γ0.set ix (.dat x)))
    (hd : Go X Hb rest D0 Γ0) (hp : PassesOwn (model X.prog X.w) X.A X.env X.xe) (hc : X.calm = true) (nd : X.N.Nodup) (hi : X.N[ix]? = some xn := by rfl) (hx : Loc X.env.scope xn := by first | exact Or.inl rfl | exact Or.inr rfl)
    (hfs : ∀ x, foldedSetIterable e X.env x = pure x := by intro _; rfl) (hf : X.fn xn = true ∨ X.env.scope.names.lookup xn = some .local := by first | exact .inl rfl | exact .inr rfl) :
    Go X Hb (.For (.Name xn p') e body [] pos :: rest) D0 Γ := fun σ H en => by
  refine SemSs.cons (ps_for hp hc (pi_list (semE X e)) (pg_name nd hi hx hf) (semSs X body) hfs) ?_
  refine hit σ H en _ fun a vs H' ds s x hq ra => ?_
  have en' := en.ex x
  have eb : Ex Hb (hide H' (owns Γ)) := en'.wide.1
  have en1 : EnvOk X.K (hide H' (owns Γ)) Γ0 σ H' := by
    rw [← h0]
    exact EnvOk.keep ks ⟨_, Ex.refl, en'.wide.2⟩
  refine ⟨a, rfl, ⟨_, SqL.ex hide_ex hq⟩, for_list (K := X.K) (a := a) (xs := vs) (fun i σ H => EnvOk X.K (hide H' (owns Γ)) Γ0 σ H) en1 (fun i σ2 H2 _ en2 => SqL.ex en2.base hq) ?_ ?_⟩
  · intro i v σ2 H2 hv en2
    obtain ⟨x, hx', rx⟩ := ra.get' hv
    have hm := List.mem_of_getElem? hx'
    exact hs _ eb ds x s hm _ H2 (en2.setDat (rx.ex en2.base) (hst ds x s hm))
  · intro σ2 H2 en2
    exact hd _ H2 (en2.wb eb)
end
end L3

namespace L3
open PySem PySem.Spec PyProof.Rows L2
theorem EvR.imp {X : Cx} {Hb : Hp} {e : Expr} {Γ : Slots} {SR SR' : Int → Nat → Prop} (h : EvR X Hb e Γ SR) (hs : ∀ lo n, SR lo n → SR' lo n) : EvR X Hb e Γ SR' :=
  let ⟨wi, h1, h2⟩ := h
  ⟨wi, h1, fun σ H en R q => h2 σ H en R fun lo n H' s x => q lo n H' (hs lo n s) x⟩
section
variable {X : Cx} {Hb Hb' : Hp} {a b c e : Expr} {es : List Expr} {Γ : Slots} {pos p' apos cpos : Pos} {d x y : D} {ds : List D} {S S' : D → Prop} {fr fr' : Bool} {D0 : Ends} {rest sts : List Stmt} {st : Stmt}
/-- return True -/
theorem go_retT {j : Nat} {p2 : Pos} (h : ∀ H', D0.rt (.bl true) H') : Go X Hb (.Return (some (.Constant (.bool true) j p2)) pos :: rest) D0 Γ := go_ret ev_bl (.inl rfl) fun v H' ⟨_, r, _⟩ => by cases r; exact h H'
end
end L3

namespace L3
open PySem PySem.Spec PyProof.Rows L2
section
variable {X : Cx} {Hb Hb' : Hp} {a b c e : Expr} {es : List Expr} {Γ : Slots} {pos p' apos cpos : Pos} {d x y : D} {ds : List D} {S S' : D → Prop} {fr fr' : Bool} {D0 : Ends} {rest sts : List Stmt} {st : Stmt}
/-- x is True -/
theorem ev_isB {i k : Bool} (ha : Ev X Hb a Γ fr (.bl i)) (hb : Ev X Hb b Γ fr' (.bl k)) : Ev X Hb (.Compare a [.Is] [b] pos) Γ true (.bl (decide (i = k))) := fun σ H en Q q =>
  SemE.of (pe_cmpR op_is_bl (semE X a) (semE X b) (nomark _)) (ha σ H en _ fun v H1 d1 e1 x1 r1 _ => hb σ H1 (en.ex x1) _ fun w H2 d2 e2 x2 r2 _ => by
    subst e1 e2
    cases r1
    cases r2
    exact ⟨i, k, rfl, rfl, q _ H2 _ rfl (x1.trans x2) (.bl _) fun _ => FreshD.flat rfl⟩)
theorem ev_notB {i k : Bool} (ha : Ev X Hb a Γ fr (.bl i)) (hb : Ev X Hb b Γ fr' (.bl k)) : Ev X Hb (.Compare a [.IsNot] [b] pos) Γ true (.bl (!decide (i = k))) := fun σ H en Q q =>
  SemE.of (pe_cmpR op_isnot_bl (semE X a) (semE X b) (nomark _)) (ha σ H en _ fun v H1 d1 e1 x1 r1 _ => hb σ H1 (en.ex x1) _ fun w H2 d2 e2 x2 r2 _ => by
    subst e1 e2
    cases r1
    cases r2
    exact ⟨i, k, rfl, rfl, q _ H2 _ rfl (x1.trans x2) (.bl _) fun _ => FreshD.flat rfl⟩)
theorem evt_isB {i k : Bool} (ha : Ev X Hb a Γ fr (.bl i)) (hb : Ev X Hb b Γ fr' (.bl k)) : EvB X Hb (.Compare a [.Is] [b] pos) Γ (decide (i = k)) := fun σ H en Q q =>
  SemT.of (pt_cmpR op_is_bl (semE X a) (semE X b) (nomark _)) (ha σ H en _ fun v H1 d1 e1 x1 r1 _ => hb σ H1 (en.ex x1) _ fun w H2 d2 e2 x2 r2 _ => by
    subst e1 e2
    cases r1
    cases r2
    exact ⟨i, k, rfl, rfl, _, rfl, q _ H2 rfl (x1.trans x2)⟩)
theorem evt_notB {i k : Bool} (ha : Ev X Hb a Γ fr (.bl i)) (hb : Ev X Hb b Γ fr' (.bl k)) : EvB X Hb (.Compare a [.IsNot] [b] pos) Γ (!decide (i = k)) := fun σ H en Q q =>
  SemT.of (pt_cmpR op_isnot_bl (semE X a) (semE X b) (nomark _)) (ha σ H en _ fun v H1 d1 e1 x1 r1 _ => hb σ H1 (en.ex x1) _ fun w H2 d2 e2 x2 r2 _ => by
    subst e1 e2
    cases r1
    cases r2
    exact ⟨i, k, rfl, rfl, _, rfl, q _ H2 rfl (x1.trans x2)⟩)
end
end L3

namespace L3
open PySem PySem.Spec PyProof.Rows L2
/-! ### targets: a name, a tuple of targets -/
inductive Tg where
  | nm (i : Nat)
  | tp (ts : List Tg)
mutual
def Tg.g (K : PySem.W.Frag) : Tg → TG
  | .nm i => gName i
  | .tp ts => gTup K ts.length (Tg.gs K ts)
def Tg.gs (K : PySem.W.Frag) : List Tg → TGs
  | [] => gNil
  | t :: ts => gCons (Tg.g K t) (Tg.gs K ts)
end
mutual
def Tg.slots : Tg → List Nat
  | .nm i => [i]
  | .tp ts => Tg.slotsAll ts
def Tg.slotsAll : List Tg → List Nat
  | [] => []
  | t :: ts => Tg.slots t ++ Tg.slotsAll ts
end
mutual
def Put : Tg → D → Slots → Slots → Prop
  | .nm i, d, Γ, Γ' => Sto Γ d ∧ Γ' = Γ.set i (.dat d)
  | .tp ts, d, Γ, Γ' => ∃ ds, d = .tup ds ∧ Puts ts ds Γ Γ'
def Puts : List Tg → List D → Slots → Slots → Prop
  | [], ds, Γ, Γ' => ds = [] ∧ Γ' = Γ
  | t :: ts, ds, Γ, Γ' => ∃ d dr Γ1, ds = d :: dr ∧ Put t d Γ Γ1 ∧ Puts ts dr Γ1 Γ'
end
theorem Puts.length : ∀ {ts : List Tg} {ds : List D} {Γ Γ' : Slots}, Puts ts ds Γ Γ' → ds.length = ts.length
  | [], _, _, _, h => by rw [h.1]; rfl
  | t :: ts, ds, Γ, Γ', h => by
    obtain ⟨d, dr, Γ1, e, _, h2⟩ := h
    rw [e, List.length_cons, List.length_cons, Puts.length h2]
theorem set_wipe {i : Nat} {v : Option V} : ∀ {own : List Nat} {σ : L2.St}, i ∈ own → wipe (σ.set i v) own = wipe σ own
  | j :: own, σ, h => by
    unfold wipe
    by_cases e : i ∈ own
    · rw [set_wipe e]
    · have hij : i = j := by rcases List.mem_cons.mp h with h | h; exact h; exact absurd h e
      subst hij
      have key : ∀ (own : List Nat) (σ : L2.St), i ∉ own → wipe (σ.set i v) own = (wipe σ own).set i v := by
        intro own
        induction own with
        | nil => intro σ _; rfl
        | cons k own ih =>
          intro σ hk
          unfold wipe
          rw [ih σ fun z => hk (List.mem_cons_of_mem _ z), List.set_comm _ _ fun z => hk (by rw [z]; exact List.mem_cons_self)]
      rw [key own σ e, List.set_set]
theorem wipe_wipe : ∀ (own : List Nat) (σ : L2.St), wipe (wipe σ own) own = wipe σ own := by
  have key : ∀ (vs own : List Nat) (σ : L2.St), (∀ i ∈ vs, i ∈ own) → wipe (wipe σ vs) own = wipe σ own := by
    intro vs
    induction vs with
    | nil => intro own σ _; rfl
    | cons v vs ih =>
      intro own σ h
      show wipe ((wipe σ vs).set v none) own = _
      rw [set_wipe (h v List.mem_cons_self), ih own σ fun i m => h i (List.mem_cons_of_mem _ m)]
  exact fun own σ => key own own σ fun _ h => h
mutual
theorem put_ok {K : PySem.W.Frag} {Hb H : Hp} {own : List Nat} : ∀ {t : Tg} {d : D} {Γ Γ' : Slots} {σ : L2.St} {v : V}, Put t d Γ Γ' → (∀ i ∈ t.slots, i ∈ own) → EnvOk K Hb Γ σ H → Rep K H v d → ∀ Q : L2.St → Hp → Prop, (∀ σ', EnvOk K Hb Γ' σ' H → wipe σ' own = wipe σ own → Q σ' H) → t.g K v σ H Q
  | .nm i, d, Γ, Γ', σ, v, ⟨h1, h2⟩, ho, en, r, Q, q => by
    subst h2
    exact q _ (en.setDat r h1) (set_wipe (ho i List.mem_cons_self))
  | .tp ts, d, Γ, Γ', σ, v, ⟨ds, e, h⟩, ho, en, r, Q, q => by
    subst e
    cases r with
    | tup hq ra => exact ⟨_, _, rfl, hq, by rw [ra.length]; exact Puts.length h, puts_ok h ho en ra Q q⟩
theorem puts_ok {K : PySem.W.Frag} {Hb H : Hp} {own : List Nat} : ∀ {ts : List Tg} {ds : List D} {Γ Γ' : Slots} {σ : L2.St} {vs : List V}, Puts ts ds Γ Γ' → (∀ i ∈ Tg.slotsAll ts, i ∈ own) → EnvOk K Hb Γ σ H → RepAll K H vs ds → ∀ Q : L2.St → Hp → Prop, (∀ σ', EnvOk K Hb Γ' σ' H → wipe σ' own = wipe σ own → Q σ' H) → Tg.gs K ts vs σ H Q
  | [], ds, Γ, Γ', σ, vs, ⟨e1, e2⟩, _, en, r, Q, q => by
    subst e1 e2
    cases r
    exact ⟨rfl, q σ en rfl⟩
  | t :: ts, ds, Γ, Γ', σ, vs, ⟨d, dr, Γ1, e, h1, h2⟩, ho, en, r, Q, q => by
    subst e
    cases r with
    | cons r1 r2 => exact ⟨_, _, rfl, put_ok h1 (fun i m => ho i (List.mem_append_left _ m)) en r1 _ fun σ' en' w' => puts_ok h2 (fun i m => ho i (List.mem_append_right _ m)) en' r2 Q fun σ'' en'' w'' => q σ'' en'' (w''.trans w')⟩
end
/-- two names -/
theorem pg_two {X : Cx} {i j k : Nat} {x y : Str} {p1 p2 p3 : Pos} (hc : X.calm = true) (h1 : PG X (.Name x p1) (gName i)) (h2 : PG X (.Name y p2) (gName j)) : PG X (.Tuple [.Name x p1, .Name y p2] k p3) (Tg.g X.K (.tp [.nm i, .nm j])) :=
  pg_tup hc (pgs_cons h1 (pgs_cons h2 pgs_nil))
theorem pg_three {X : Cx} {i j l k : Nat} {x y z : Str} {p1 p2 p3 p4 : Pos} (hc : X.calm = true) (h1 : PG X (.Name x p1) (gName i)) (h2 : PG X (.Name y p2) (gName j)) (h3 : PG X (.Name z p3) (gName l)) : PG X (.Tuple [.Name x p1, .Name y p2, .Name z p3] k p4) (Tg.g X.K (.tp [.nm i, .nm j, .nm l])) :=
  pg_tup hc (pgs_cons h1 (pgs_cons h2 (pgs_cons h3 pgs_nil)))
/-! ### what a loop goes over, of any kind -/
def Jt (K : PySem.W.Frag) (Hz : Hp) (J : It) (ds : List D) : Prop :=
  ∃ (G : Hp → Prop) (Y : Nat → Hp → V → Hp → Prop), Walk J ds.length G Y ∧ (∀ H2, Ex Hz H2 → G H2) ∧ ∀ i H2 v H3, i < ds.length → Ex Hz H2 → Y i H2 v H3 → Ex H2 H3 ∧ ∃ d, ds[i]? = some d ∧ Rep K H3 v d
def EvJ (X : Cx) (Hb : Hp) (tg e : Expr) (Γ : Slots) (S : List D → Prop) : Prop :=
  ∃ wi : TI, PI X tg e wi ∧ ∀ σ H, EnvOk X.K Hb Γ σ H → ∀ R : It → Hp → Prop, (∀ J H' ds, S ds → Ex H H' → Jt X.K (hide H' (owns Γ)) J ds → R J H') → wi σ H R
/-- a tuple that stays -/
def EvIT (X : Cx) (Hb : Hp) (e : Expr) (Γ : Slots) (S : List D → Prop) : Prop := ∀ σ H, EnvOk X.K Hb Γ σ H → ∀ Q : VK, (∀ a vs H' ds, S ds → Ex H H' → SqT X.K (hide H' (owns Γ)) a vs → RepAll X.K (hide H' (owns Γ)) vs ds → Q (.ref a) H') → SemE X e σ H Q
section
variable {X : Cx} {Hb Hb' : Hp} {a b c e tg : Expr} {es : List Expr} {Γ : Slots} {pos p' apos cpos : Pos} {d x y : D} {ds : List D} {S S' : D → Prop} {fr fr' : Bool} {D0 : Ends} {rest sts : List Stmt} {st : Stmt}
theorem EvJ.imp {S1 S2 : List D → Prop} (h : EvJ X Hb tg e Γ S1) (f : ∀ ds, S1 ds → S2 ds) : EvJ X Hb tg e Γ S2 := let ⟨wi, h1, h2⟩ := h; ⟨wi, h1, fun σ H en R q => h2 σ H en R fun J H' ds s x j => q J H' ds (f ds s) x j⟩
theorem jt_list {K : PySem.W.Frag} {Hz : Hp} {p : Addr} {vs : List V} (hq : SqL K Hz p vs) (ra : RepAll K Hz vs ds) : Jt K Hz (Itl K p) ds := by
  refine ⟨_, _, ra.length ▸ walk_list (xs := vs), fun H2 e => SqL.ex e hq, fun i H2 v H3 hi e y => ?_⟩
  obtain ⟨rfl, hv⟩ := y
  obtain ⟨d, hd, r⟩ := ra.get' hv
  exact ⟨Ex.refl, d, hd, r.ex e⟩
theorem jt_tup {K : PySem.W.Frag} {Hz : Hp} {p : Addr} {vs : List V} (hq : SqT K Hz p vs) (ra : RepAll K Hz vs ds) : Jt K Hz (Itt K p) ds := by
  refine ⟨_, _, ra.length ▸ walk_tup (xs := vs), fun H2 e => SqT.ex e hq, fun i H2 v H3 hi e y => ?_⟩
  obtain ⟨rfl, hv⟩ := y
  obtain ⟨d, hd, r⟩ := ra.get' hv
  exact ⟨Ex.refl, d, hd, r.ex e⟩
theorem jt_range {K : PySem.W.Frag} {Hz : Hp} (lo : Int) (n : Nat) : Jt K Hz (Itr lo n) ((List.range n).map fun (i : Nat) => D.int (lo + i)) := by
  refine ⟨fun _ => True, YFn fun i => .int (lo + i), ?_, fun _ _ => trivial, fun i H2 v H3 hi e y => ?_⟩
  · rw [List.length_map, List.length_range]; exact walk_range
  · obtain ⟨rfl, rfl⟩ := y
    rw [List.length_map, List.length_range] at hi
    exact ⟨Ex.refl, _, by rw [List.getElem?_map, List.getElem?_range hi]; rfl, .int _⟩
theorem jt_enum {K : PySem.W.Frag} {Hz : Hp} {p : Addr} {vs : List V} (hq : SqL K Hz p vs) (ra : RepAll K Hz vs ds) : Jt K Hz (Ite K p) (ds.mapIdx fun i d => D.tup [.int (i : Nat), d]) := by
  refine ⟨_, _, by rw [List.length_mapIdx]; exact ra.length ▸ walk_enum (xs := vs), fun H2 e => SqL.ex e hq, fun i H2 v H3 hi e y => ?_⟩
  obtain ⟨T, x, y, rfl, hT, rfl, hx, hy⟩ := y
  cases hx
  obtain ⟨d, hd, r⟩ := ra.get' hy
  refine ⟨Ex.new hT, .tup [.int (i : Nat), d], by rw [List.getElem?_mapIdx, hd]; rfl, .tup (SqT.of upd_same) (.cons (.int _) (.cons ((r.ex e).ex (Ex.new hT)) .nil))⟩
theorem jt_zip {K : PySem.W.Frag} {Hz : Hp} {p q : Addr} {vs ws : List V} {es : List D} (hq : SqL K Hz p vs) (ra : RepAll K Hz vs ds) (hq2 : SqL K Hz q ws) (ra2 : RepAll K Hz ws es) : Jt K Hz (Itz K p q) (List.zipWith (fun a b => D.tup [a, b]) ds es) := by
  refine ⟨_, _, walk_zip (xs := vs) (ys := ws) (by rw [List.length_zipWith, ra.length, ra2.length]), fun H2 e => ⟨SqL.ex e hq, SqL.ex e hq2⟩, fun i H2 v H3 hi e y => ?_⟩
  obtain ⟨T, x, y, rfl, hT, rfl, hx, hy⟩ := y
  obtain ⟨d, hd, r⟩ := ra.get' hx
  obtain ⟨d2, hd2, r2⟩ := ra2.get' hy
  refine ⟨Ex.new hT, .tup [d, d2], by rw [List.getElem?_zipWith, hd, hd2], .tup (SqT.of upd_same) (.cons ((r.ex e).ex (Ex.new hT)) (.cons ((r2.ex e).ex (Ex.new hT)) .nil))⟩
theorem evj_i {S1 : List D → Prop} (h : EvI X Hb e Γ S1) : EvJ X Hb tg e Γ S1 := ⟨_, pi_list (semE X e), fun σ H en R q => h σ H en _ fun a vs H' ds s x hq ra => ⟨a, rfl, ⟨_, SqL.ex hide_ex hq⟩, q _ H' ds s x (jt_list hq ra)⟩⟩
theorem evj_t {S1 : List D → Prop} (h : EvIT X Hb e Γ S1) : EvJ X Hb tg e Γ S1 := ⟨_, pi_tup (semE X e), fun σ H en R q => h σ H en _ fun a vs H' ds s x hq ra => ⟨a, rfl, ⟨_, SqT.ex hide_ex hq⟩, q _ H' ds s x (jt_tup hq ra)⟩⟩
theorem evj_r {lo : Int} {n : Nat} (h : EvR X Hb e Γ fun lo' n' => lo' = lo ∧ n' = n) : EvJ X Hb tg e Γ (· = (List.range n).map fun (i : Nat) => D.int (lo + i)) :=
  let ⟨wi, h1, h2⟩ := h
  ⟨wi, h1 _, fun σ H en R q => h2 σ H en R fun lo' n' H' ⟨e1, e2⟩ x => by subst e1 e2; exact q _ H' _ rfl x (jt_range _ _)⟩
theorem evj_enum {S1 : List D → Prop} {pn : Pos} {elts : List Expr} {kk : Nat} {tpos : Pos} (hm : X.mg "enumerate" = none) (h : EvI X Hb e Γ S1) (hg : Gl X "enumerate" := by rfl) (hs : starEach [e] X.env = [(false, eval e X.env)] := by rfl) :
    EvJ X Hb (.Tuple elts kk tpos) (.Call (.Name "enumerate" pn) [e] [] pos) Γ (fun z => ∃ ds, z = ds.mapIdx (fun i d => D.tup [.int (i : Nat), d]) ∧ S1 ds) :=
  ⟨_, pi_enum hg hm (pa_cons (semE X e) pa_nil hs) hs, fun σ H en R q => h σ H en _ fun a vs H' ds s x hq ra => ⟨a, vs, rfl, SqL.ex hide_ex hq, q _ H' _ ⟨ds, rfl, s⟩ x (jt_enum hq ra)⟩⟩
theorem evj_zip {S1 S2 : List D → Prop} {pn : Pos} {elts : List Expr} {kk : Nat} {tpos : Pos} (hm : X.mg "zip" = none) (h : EvI X Hb a Γ S1) (h2 : EvI X Hb b Γ S2) (hg : Gl X "zip" := by rfl) (hs : starEach [a, b] X.env = (false, eval a X.env) :: starEach [b] X.env := by rfl) (hs2 : starEach [b] X.env = [(false, eval b X.env)] := by rfl) (hpl : (backTo pos (starEach [b] X.env)).any (·.1) = false := by rfl) :
    EvJ X Hb (.Tuple elts kk tpos) (.Call (.Name "zip" pn) [a, b] [] pos) Γ (fun z => ∃ ds es, z = List.zipWith (fun a b => D.tup [a, b]) ds es ∧ S1 ds ∧ S2 es) :=
  ⟨_, pi_zip hg hm (pa_cons (semE X a) (pa_cons (semE X b) pa_nil hs2) hs) hs hpl, fun σ H en R q => h σ H en _ fun a vs H' ds s x hq ra => h2 σ H' (en.ex x) _ fun b ws H2 es s2 x2 hq2 ra2 => by
    have xh : Ex (hide H' (owns Γ)) (hide H2 (owns Γ)) := fun p o e => by
      by_cases m : p ∈ owns Γ
      · rw [hide_in m] at e; cases e
      · rw [hide_out m] at e ⊢; exact x2 _ _ e
    exact ⟨a, b, vs, ws, rfl, SqL.ex x2 (SqL.ex hide_ex hq), SqL.ex hide_ex hq2, q _ H2 _ ⟨ds, es, rfl, s, s2⟩ (x.trans x2) (jt_zip (SqL.ex xh hq) (ra.ex xh) hq2 ra2)⟩⟩
theorem evit_dat (i : Nat) {xn : Str} (hG : Γ[i]? = some (.dat (.tup ds)) := by rfl) (hN : X.N[i]? = some xn := by rfl) (hv : Vis X.env.scope xn := by first | exact Or.inl rfl | exact Or.inr (Or.inl rfl) | exact Or.inr (Or.inr rfl)) (hd : (xn == ("__debug__" : Str)) = false := by decide)
    (hcd : (xn == ("__classdict__" : Str)) = false := by decide) : EvIT X Hb (.Name xn pos) Γ (· = ds) := fun σ H en Q q => by
  obtain ⟨h1, h2, h3, h4⟩ := en.wide
  obtain ⟨o, hσ, v, rfl, r⟩ := Paired.getE h3 hG
  cases r with
  | tup hq ra => exact SemE.of (pe_var hN hv hd hcd) ⟨_, hσ, q _ _ H _ rfl Ex.refl hq ra⟩
theorem evit_free {S1 : List D → Prop} (h : EvN X Hb e Γ fr fun z => ∃ ds, z = .tup ds ∧ S1 ds) (ho : owns Γ = []) : EvIT X Hb e Γ S1 := fun σ H en Q q =>
  h σ H en _ fun v H' d ⟨ds, e1, s⟩ x r _ => by
    subst e1
    have z : hide H' (owns Γ) = H' := by
      funext a
      rw [ho]
      exact hide_out (by simp)
    cases r with
    | tup hq ra => exact q _ _ H' ds s x (by rw [z]; exact hq) (by rw [z]; exact ra)
theorem evit_flat {S1 : List D → Prop} (h : EvN X Hb e Γ fr fun z => ∃ ds, z = .tup ds ∧ S1 ds) (hf : ∀ ds, S1 ds → D.flatAll ds = true) : EvIT X Hb e Γ S1 := fun σ H en Q q =>
  h σ H en _ fun v H' d ⟨ds, e1, s⟩ x r _ => by
    subst e1
    obtain ⟨_, _, k3, _⟩ := (en.ex x).wide
    cases r with
    | tup hq ra => exact q _ _ H' ds s x (SqT.hide (owns_lsts k3) hq) (ra.hide (owns_lsts k3) (hf ds s))
/-! ### loops over them -/
theorem go_forJ {body : List Stmt} (t : Tg) {S1 : List D → Prop} (I : List D → Nat → Slots → Prop) (hit : EvJ X Hb tg e Γ S1) (h0 : ∀ ds, S1 ds → I ds 0 Γ)
    (hs : ∀ Hb', Ex Hb Hb' → ∀ ds i x Γ', S1 ds → ds[i]? = some x → I ds i Γ' → ∃ Γ2, Put t x Γ' Γ2 ∧ Go X Hb' body { D0 with nx := Btw X Hb' (I ds (i + 1)), ct := Btw X Hb' (I ds (i + 1)), bk := fun σ H => SemSs X rest D0 σ H } Γ2)
    (hd : ∀ ds Γ', S1 ds → I ds ds.length Γ' → Go X Hb rest D0 Γ') (hp : PassesOwn (model X.prog X.w) X.A X.env X.xe) (hc : X.calm = true) (hg : PG X tg (t.g X.K))
    (hfs : ∀ x, foldedSetIterable e X.env x = pure x := by intro _; rfl) :
    Go X Hb (.For tg e body [] pos :: rest) D0 Γ := fun σ H en => by
  obtain ⟨wi, hpi, hw⟩ := hit
  refine SemSs.cons (ps_for hp hc hpi hg (semSs X body) hfs) ?_
  refine hw σ H en _ fun J H' ds s x ⟨G, Y, w, hG, hY⟩ => ?_
  have en' := en.ex x
  have eb : Ex Hb (hide H' (owns Γ)) := en'.wide.1
  refine for_it w (fun i σ H => Btw X (hide H' (owns Γ)) (I ds i) σ H) ⟨Γ, h0 ds s, ⟨_, Ex.refl, en'.wide.2⟩⟩ (fun i σ H _ ⟨Γ', _, en2⟩ => hG _ en2.base) ?_ ?_
  · rintro i v σ2 H2 H3 hi ⟨Γ', hI, en2⟩ y
    obtain ⟨x3, d, hd, r⟩ := hY i H2 v H3 hi en2.base y
    obtain ⟨Γ2, hput, go⟩ := hs _ eb ds i d Γ' s hd hI
    exact put_ok (own := t.slots) hput (fun _ m => m) (en2.ex x3) r _ fun σ' en' _ => go σ' H3 en'
  · rintro σ2 H2 ⟨Γ', hI, en2⟩
    exact hd ds Γ' s hI _ H2 (en2.wb eb)
/-- a state, by the things before -/
theorem go_foldJ {α β : Type} {body : List Stmt} (t : Tg) (f : α → D) (xs : List α) (G : β → Slots) (step : β → α → β) (s0 : β) (hit : EvJ X Hb tg e Γ (· = xs.map f)) (h0 : Γ = G s0) (Γe : β → α → Slots) (hput : ∀ s a, a ∈ xs → Put t (f a) (G s) (Γe s a))
    (hs : ∀ Hb', Ex Hb Hb' → ∀ pre a post, xs = pre ++ a :: post → Go X Hb' body { D0 with nx := fun σ H => EnvOk X.K Hb' (G (step (pre.foldl step s0) a)) σ H, ct := fun σ H => EnvOk X.K Hb' (G (step (pre.foldl step s0) a)) σ H, bk := fun σ H => SemSs X rest D0 σ H } (Γe (pre.foldl step s0) a))
    (hd : Go X Hb rest D0 (G (xs.foldl step s0))) (hp : PassesOwn (model X.prog X.w) X.A X.env X.xe) (hc : X.calm = true) (hg : PG X tg (t.g X.K))
    (hfs : ∀ x, foldedSetIterable e X.env x = pure x := by intro _; rfl) : Go X Hb (.For tg e body [] pos :: rest) D0 Γ := by
  refine go_forJ t (fun ds i Γ' => Γ' = G ((xs.take i).foldl step s0)) hit (fun _ _ => h0) (fun Hb' eb ds i x Γ' s hx hI => ?_) (fun ds Γ' s hI => ?_) hp hc hg hfs
  · subst s hI
    rw [List.getElem?_map] at hx
    obtain ⟨a, ha, rfl⟩ : ∃ a, xs[i]? = some a ∧ x = f a := by
      cases z : xs[i]? with
      | none => rw [z] at hx; cases hx
      | some a => rw [z] at hx; cases hx; exact ⟨a, rfl, rfl⟩
    refine ⟨_, hput _ a (List.mem_of_getElem? ha), ?_⟩
    have e1 : xs = xs.take i ++ a :: xs.drop (i + 1) := by
      have hi := (List.getElem?_eq_some_iff.mp ha).1
      conv => lhs; rw [← List.take_append_drop i xs]
      rw [List.drop_eq_getElem_cons hi, (List.getElem?_eq_some_iff.mp ha).2]
    have e2 : (xs.take (i + 1)).foldl step s0 = step ((xs.take i).foldl step s0) a := by
      rw [List.take_add_one, ha, List.foldl_append]; rfl
    exact fun σ H en => (hs Hb' eb _ a _ e1 σ H en).mono (fun σ H h => ⟨_, rfl, by rw [e2]; exact h⟩) (fun _ _ h => h) (fun _ _ h => h) fun σ H h => ⟨_, rfl, by rw [e2]; exact h⟩
  · subst s hI
    rw [List.length_map, List.take_length]
    exact hd
/-- nothing carried -/
theorem go_repJ {body : List Stmt} (t : Tg) {S1 : List D → Prop} (ks : List Bool) {Γ0 : Slots} (h0 : keepG ks Γ = Γ0) (hit : EvJ X Hb tg e Γ S1)
    (hs : ∀ Hb', Ex Hb Hb' → ∀ (ds : List D) (i : Nat) (x : D), S1 ds → ds[i]? = some x → ∃ Γ2, Put t x Γ0 Γ2 ∧ Go X Hb' body { D0 with nx := fun σ H => EnvOk X.K Hb' Γ0 σ H, ct := fun σ H => EnvOk X.K Hb' Γ0 σ H, bk := fun σ H => SemSs X rest D0 σ H } Γ2)
    (hd : Go X Hb rest D0 Γ0) (hp : PassesOwn (model X.prog X.w) X.A X.env X.xe) (hc : X.calm = true) (hg : PG X tg (t.g X.K))
    (hfs : ∀ x, foldedSetIterable e X.env x = pure x := by intro _; rfl) : Go X Hb (.For tg e body [] pos :: rest) D0 Γ := fun σ H en => by
  obtain ⟨wi, hpi, hw⟩ := hit
  refine SemSs.cons (ps_for hp hc hpi hg (semSs X body) hfs) ?_
  refine hw σ H en _ fun J H' ds s x ⟨G, Y, w, hG, hY⟩ => ?_
  have en' := en.ex x
  have eb : Ex Hb (hide H' (owns Γ)) := en'.wide.1
  have en1 : EnvOk X.K (hide H' (owns Γ)) Γ0 σ H' := by
    rw [← h0]
    exact EnvOk.keep ks ⟨_, Ex.refl, en'.wide.2⟩
  refine for_it w (fun i σ H => EnvOk X.K (hide H' (owns Γ)) Γ0 σ H) en1 (fun i σ H _ en2 => hG _ en2.base) ?_ ?_
  · intro i v σ2 H2 H3 hi en2 y
    obtain ⟨x3, d, hd, r⟩ := hY i H2 v H3 hi en2.base y
    obtain ⟨Γ2, hput, go⟩ := hs _ eb ds i d s hd
    exact put_ok (own := t.slots) hput (fun _ m => m) (en2.ex x3) r _ fun σ' en' _ => go σ' H3 en'
  · intro σ2 H2 en2
    exact hd _ H2 (en2.wb eb)
end
/-! ### comprehensions over them -/
section
variable {X : Cx} {Hb Hb' : Hp} {a b c e elt iter tg : Expr} {es ifs : List Expr} {Γ : Slots} {pos p' apos cpos : Pos} {d x y : D} {ds : List D} {S S' : D → Prop} {fr : Bool} {scope : Scope} {own : List (Str × Nat)}
/-- [elt for t in xs] -/
theorem lcJ {α : Type} (t : Tg) (f : α → D) (SE : α → D → Prop) (xs : List α) (Γe : α → Slots) (hit : EvJ X Hb tg iter Γ (· = xs.map f)) (hput : ∀ a ∈ xs, Put t (f a) (wipeG Γ (own.map (·.2))) (Γe a))
    (he : ∀ a ∈ xs, AllIn X scope fun Y => EvN Y Hb elt (Γe a) fr (SE a)) (hfl : ∀ a d, SE a d → d.flat = true) (hlen : xs.length < 100000)
    (hc : X.calm = true) (nd : X.N.Nodup) (ok : BlkOk X.N X.env.scope scope own) (hown : ∀ i ∈ t.slots, i ∈ own.map (·.2))
    (hg : AllIn X scope fun Y => PG Y tg (t.g X.K)) (hs : ∀ x, foldedSetIterable iter X.env x = pure x := by intro _; rfl) :
    LcEv X Hb elt tg iter [] scope own Γ (fun z => ∃ ys, z = .lst ys ∧ Paired SE xs ys) := by
  obtain ⟨wi, hpi, hw⟩ := hit
  refine ⟨hc, nd, ok, hs, _, _, _, tIn X scope elt, hpi, hg, (fun s H C cl fp => pts_nil), fun s H C cl fp => ⟨fun pins s' σ H' Q I h => (h s H C cl fp).run pins s' I⟩, fun σ H en Q q => ?_⟩
  refine hw σ H en _ fun J H1 ds e1 x ⟨G, Y, w, hG, hY⟩ => ?_
  subst e1
  have en1 := en.ex x
  rw [List.length_map] at w hY
  refine fun L hL => lc_it w (fun i H => SoFar X.K H1 L (fun ys => Paired SE (xs.take i) ys) H) (soFar_start hL .nil) (fun i H2 _ h => hG _ (hide_ex.trans h.1)) ?_ ?_
  · intro i v H2 H3 hi sf y
    obtain ⟨x3, dx, hd, rv⟩ := hY i H2 v H3 hi (hide_ex.trans sf.1) y
    rw [List.getElem?_map] at hd
    obtain ⟨ax, hax, rfl⟩ : ∃ ax, xs[i]? = some ax ∧ dx = f ax := by
      cases z : xs[i]? with
      | none => rw [z] at hd; cases hd
      | some ax => rw [z] at hd; cases hd; exact ⟨ax, rfl, rfl⟩
    have hm := List.mem_of_getElem? hax
    have et : xs.take (i + 1) = xs.take i ++ [ax] := by rw [List.take_add_one, hax]; rfl
    have sf3 : SoFar X.K H1 L (fun ys => Paired SE (xs.take i) ys) H3 := by
      obtain ⟨e, acc, ys, h1, h2, h3⟩ := sf
      exact ⟨e.trans x3, acc, ys, x3 _ _ h1, h2.ex (hide1_ex x3), h3⟩
    refine put_ok (own := own.map (·.2)) (hput ax hm) hown (wipe_env (en1.ex sf3.1) _) rv _ fun σ' en2 hwp => ?_
    refine ⟨hwp.trans (wipe_wipe _ _) ▸ by rw [hwp, wipe_wipe], ?_⟩
    refine yes_of (L2.iteT ?_)
    intro s0 H0 C cl fp
    refine he ax hm s0 H0 C cl fp _ H3 en2 _ fun w H4 dw sw x4 rw4 _ => ?_
    refine soFar_more hL sf3 x4 rw4 (hfl ax dw sw) (fun ys h => ?_) fun ys h => ?_
    · rw [← Paired.length h, List.length_take]
      omega
    · rw [et]
      exact Paired.snoc sw h
  · intro H2 sf
    rw [List.take_length] at sf
    obtain ⟨ys, h1, h2, h3, h4⟩ := soFar_done hL x sf
    exact q _ _ _ ⟨ys, rfl, h1⟩ h2 h3 h4
/-- [elt for t in xs if test] -/
theorem lcJIf {α : Type} {tst : Expr} (t : Tg) (f : α → D) (p : α → Bool) (SE : α → D → Prop) (xs : List α) (Γe : α → Slots) (hit : EvJ X Hb tg iter Γ (· = xs.map f)) (hput : ∀ a ∈ xs, Put t (f a) (wipeG Γ (own.map (·.2))) (Γe a))
    (ht : ∀ a ∈ xs, AllIn X scope fun Y => EvB Y Hb tst (Γe a) (p a))
    (he : ∀ a ∈ xs, p a = true → AllIn X scope fun Y => EvN Y Hb elt (Γe a) fr (SE a)) (hfl : ∀ a d, SE a d → d.flat = true) (hlen : xs.length < 100000)
    (hc : X.calm = true) (nd : X.N.Nodup) (ok : BlkOk X.N X.env.scope scope own) (hown : ∀ i ∈ t.slots, i ∈ own.map (·.2))
    (hg : AllIn X scope fun Y => PG Y tg (t.g X.K)) (hs : ∀ x, foldedSetIterable iter X.env x = pure x := by intro _; rfl) :
    LcEv X Hb elt tg iter [tst] scope own Γ (fun z => ∃ ys, z = .lst ys ∧ Paired SE (xs.filter p) ys) := by
  obtain ⟨wi, hpi, hw⟩ := hit
  refine ⟨hc, nd, ok, hs, _, _, _, tIn X scope elt, hpi, hg, (fun s H C cl fp => pts_one (t := tInT X scope tst) ⟨fun pins s' σ H' Q I h => (h s H C cl fp).run pins s' I⟩), fun s H C cl fp => ⟨fun pins s' σ H' Q I h => (h s H C cl fp).run pins s' I⟩, fun σ H en Q q => ?_⟩
  refine hw σ H en _ fun J H1 ds e1 x ⟨G, Y, w, hG, hY⟩ => ?_
  subst e1
  have en1 := en.ex x
  rw [List.length_map] at w hY
  refine fun L hL => lc_it w (fun i H => SoFar X.K H1 L (fun ys => Paired SE ((xs.take i).filter p) ys) H) (soFar_start hL .nil) (fun i H2 _ h => hG _ (hide_ex.trans h.1)) ?_ ?_
  · intro i v H2 H3 hi sf y
    obtain ⟨x3, dx, hd, rv⟩ := hY i H2 v H3 hi (hide_ex.trans sf.1) y
    rw [List.getElem?_map] at hd
    obtain ⟨ax, hax, rfl⟩ : ∃ ax, xs[i]? = some ax ∧ dx = f ax := by
      cases z : xs[i]? with
      | none => rw [z] at hd; cases hd
      | some ax => rw [z] at hd; cases hd; exact ⟨ax, rfl, rfl⟩
    have hm := List.mem_of_getElem? hax
    have et : xs.take (i + 1) = xs.take i ++ [ax] := by rw [List.take_add_one, hax]; rfl
    have sf3 : SoFar X.K H1 L (fun ys => Paired SE ((xs.take i).filter p) ys) H3 := by
      obtain ⟨e, acc, ys, h1, h2, h3⟩ := sf
      exact ⟨e.trans x3, acc, ys, x3 _ _ h1, h2.ex (hide1_ex x3), h3⟩
    refine put_ok (own := own.map (·.2)) (hput ax hm) hown (wipe_env (en1.ex sf3.1) _) rv _ fun σ' en2 hwp => ?_
    refine ⟨hwp.trans (wipe_wipe _ _) ▸ by rw [hwp, wipe_wipe], fun s0 H0 C cl fp => ht ax hm s0 H0 C cl fp _ H3 en2 _ fun k H4 ek x4 => ?_⟩
    have sf4 : SoFar X.K H1 L (fun ys => Paired SE ((xs.take i).filter p) ys) H4 := by
      obtain ⟨e, acc, ys, h1, h2, h3⟩ := sf3
      exact ⟨e.trans x4, acc, ys, x4 _ _ h1, h2.ex (hide1_ex x4), h3⟩
    subst ek
    cases hta : p ax with
    | false =>
      refine if_neg (by simp) |>.mpr ?_
      rw [et, List.filter_append, List.filter_cons, hta]
      simpa using sf4
    | true =>
      refine (if_pos rfl).mpr ?_
      intro s0 H0 C cl fp
      refine he ax hm hta s0 H0 C cl fp _ H4 (en2.ex x4) _ fun w H5 dw sw x5 rw5 _ => ?_
      refine soFar_more hL sf4 x5 rw5 (hfl ax dw sw) (fun ys h => ?_) fun ys h => ?_
      · rw [← Paired.length h]
        refine Nat.lt_of_le_of_lt (List.length_filter_le _ _) ?_
        rw [List.length_take]
        omega
      · rw [et, List.filter_append, List.filter_cons, hta]
        exact Paired.snoc sw h
  · intro H2 sf
    rw [List.take_length] at sf
    obtain ⟨ys, h1, h2, h3, h4⟩ := soFar_done hL x sf
    exact q _ _ _ ⟨ys, rfl, h1⟩ h2 h3 h4
end
end L3

namespace L3
open PySem PySem.Spec PyProof.Rows L2
/-- list + list, of any lists that are read -/
def rCatP (K : PySem.W.Frag) : R2 := fun x y H Q => ∃ l b xs zs, x = .ref l ∧ y = .ref b ∧ SqL K H l xs ∧ SqL K H b zs ∧ xs.length + zs.length ≤ sizeLine ∧ ∀ p, H p = none → Q (.ref p) (upd H p (.lst (xs ++ zs)))
theorem op_catP {X : Cx} : OpR X (binaryOp .Add) (rCatP X.K) := by
  intro pins s σ H x y v u Q I rx ry h
  obtain ⟨l, b, xs, zs, rfl, rfl, hl, hb, hz, q⟩ := h
  cases rx
  cases ry
  obtain ⟨its, r, ⟨⟨cls, dd, data, sl⟩, n, ho, hc, hd, he⟩, _⟩ := I.list hl
  obtain ⟨its2, r2, ⟨⟨cls2, dd2, data2, sl2⟩, n2, ho2, hc2, hd2, he2⟩, _⟩ := I.list hb
  simp only at hc hd he hc2 hd2 he2
  subst hc he hc2 he2
  have ea : its.toArray ++ its2.toArray = (its ++ its2).toArray := by simp
  refine concat_meets ⟨_, ho, rfl⟩ ⟨_, ho2, rfl⟩ noFill_list_add seq_list_add PySem.F.slot_list_add PySem.F.entry_list_add (PySem.F.args_list_add_2 _ _) (list_addW l b its.toArray its2.toArray n n2 dd dd2 sl sl2 (by rw [List.size_toArray, List.size_toArray, ← r.length, ← r2.length]; exact hz)) ⟨ho, ho2, ?_⟩
  rw [ea]
  exact ⟨.ref _, _, I.lnew (t' := s.toks) (r.append r2) (by rw [List.length_append]; omega), rfl, q _ I.fresh⟩
section
variable {X : Cx} {Hb Hb' : Hp} {a b c e : Expr} {es : List Expr} {Γ : Slots} {pos p' apos cpos : Pos} {d x y : D} {ds : List D} {S S' : D → Prop} {fr fr' : Bool} {D0 : Ends} {rest sts : List Stmt} {st : Stmt}
theorem evn_catL {S1 S2 : List D → Prop} (ha : EvN X Hb a Γ fr fun z => ∃ ds, z = .lst ds ∧ S1 ds) (hb : EvN X Hb b Γ fr' fun z => ∃ ds, z = .lst ds ∧ S2 ds) (hS : ∀ x y, S1 x → S2 y → x.length + y.length ≤ 100000 ∧ S (.lst (x ++ y))) :
    EvN X Hb (.BinOp a .Add b pos) Γ true S := fun σ H en Q q =>
  SemE.of (pe_op op_catP (semE X a) (semE X b)) (ha σ H en _ fun v H1 d1 ⟨xs, e1, s1⟩ x1 r1 _ => hb σ H1 (en.ex x1) _ fun w H2 d2 ⟨ys, e2, s2⟩ x2 r2 _ => by
    subst e1 e2
    obtain ⟨hl, s⟩ := hS xs ys s1 s2
    have xx := x1.trans x2
    cases r1 with
    | lst ha ra =>
      cases r2 with
      | lst hb rb =>
        refine ⟨_, _, _, _, rfl, rfl, SqL.ex x2 ha, hb, by rw [ra.length, rb.length]; exact Nat.le_trans hl (by decide), fun p hp => ?_⟩
        have r3 := (ra.ex x2).append rb
        exact q _ _ _ s (xx.trans (Ex.new hp)) (.lst (SqL.of upd_same) (r3.ex (Ex.new hp))) fun _ => freshL hp xx r3)
theorem ev_catL {xs ys : List D} (ha : Ev X Hb a Γ fr (.lst xs)) (hb : Ev X Hb b Γ fr' (.lst ys)) (hl : xs.length + ys.length ≤ 100000) : Ev X Hb (.BinOp a .Add b pos) Γ true (.lst (xs ++ ys)) :=
  evn_catL (S1 := (· = xs)) (S2 := (· = ys)) (ha.imp fun _ z => ⟨_, z, rfl⟩) (hb.imp fun _ z => ⟨_, z, rfl⟩) fun x y e1 e2 => by subst e1 e2; exact ⟨hl, rfl⟩
/-- a new list, so many times -/
theorem evn_repL {S1 : List D → Prop} {S2 : Int → Prop} (ha : EvN X Hb a Γ true fun z => ∃ ds, z = .lst ds ∧ S1 ds) (hb : EvI1 X Hb b Γ fr' S2) (hS : ∀ x k, S1 x → S2 k → k < 1000 ∧ -1000 ≤ k ∧ x.length * k.toNat ≤ 100000 ∧ S (.lst (List.replicate k.toNat x).flatten)) :
    EvN X Hb (.BinOp a .Mult b pos) Γ true S := fun σ H en Q q =>
  SemE.of (pe_op op_rep (semE X a) (semE X b)) (ha σ H en _ fun v H1 d1 ⟨xs, e1, s1⟩ x1 r1 f1 => hb σ H1 (en.ex x1) _ fun w H2 d2 ⟨k, e2, s2⟩ x2 r2 _ => by
    subst e1 e2
    obtain ⟨p, vs, rfl, hp, hl, ra⟩ := f1 rfl
    obtain ⟨h1, h0, hl2, s⟩ := hS xs k s1 s2
    have xx := x1.trans x2
    cases r2
    refine ⟨p, k, vs, rfl, rfl, x2 _ _ hl, by omega, by omega, by rw [ra.length]; exact Nat.le_trans hl2 (by decide), fun q' hq' => ?_⟩
    have r3 : ∀ n, RepAll X.K H2 (List.replicate n vs).flatten (List.replicate n xs).flatten := fun n => by
      induction n with
      | zero => exact .nil
      | succ n ih => rw [List.replicate_succ, List.replicate_succ, List.flatten_cons, List.flatten_cons]; exact (ra.ex x2).append ih
    exact q _ _ _ s (xx.trans (Ex.new hq')) (.lst (SqL.of upd_same) ((r3 _).ex (Ex.new hq'))) fun _ => freshL hq' xx (r3 _))
/-- {} -/
theorem ev_dct0 : Ev X Hb (.Dict [] [] pos) Γ true (.dct []) := fun σ H en Q q =>
  SemE.of pe_dnewK fun p hp => q _ _ _ rfl (Ex.new hp) (.dct (.inl upd_same) .nil) fun _ => ⟨p, [], rfl, hp, upd_same, .nil⟩
/-- xs.insert(i, e), xs a list of one's own -/
theorem go_insertN (i : Nat) {p : Addr} {xn : Str} {S1 : Int → Prop} (ha : EvI1 X Hb a Γ fr S1) (h : EvN X Hb b Γ fr' S) (hG : Γ[i]? = some (.own p ds) := by rfl) (hi0 : ∀ k, S1 k → 0 ≤ k ∧ k ≤ ds.length) (hf : ∀ d, S d → d.flat = true) (hl : ds.length ≤ 100000) (g : ∀ k d, S1 k → S d → Go X Hb rest D0 (Γ.set i (.own p (ds.take k.toNat ++ [d] ++ ds.drop k.toNat)))) (hN : X.N[i]? = some xn := by rfl)
    (hv : Vis X.env.scope xn := by first | exact Or.inl rfl | exact Or.inr (Or.inl rfl) | exact Or.inr (Or.inr rfl)) (hdb : (xn == ("__debug__" : Str)) = false := by decide) (hcd : (xn == ("__classdict__" : Str)) = false := by decide)
    (hbase : attributeBase (.Name xn p') "insert" X.env (eval (.Name xn p') X.env) = eval (.Name xn p') X.env := by rfl)
    (hfew : ((backTo cpos (starEach (a :: [b]) X.env)).all (fun x => !x.1) && (backToKw cpos (keywordEach [] X.env)).all (fun x => x.1.isSome) && decide ((a :: [b]).length + ([] : List Keyword).length + (if ([] : List Keyword).isEmpty then 0 else 1) < 30)) = true := by rfl)
    (hline : (apos.endLine == cpos.line) = true := by rfl) (hs : starEach (a :: [b]) X.env = (false, eval a X.env) :: starEach [b] X.env := by rfl) (hs2 : starEach (b :: []) X.env = (false, eval b X.env) :: starEach [] X.env := by rfl) (hplain : (backTo cpos (starEach [b] X.env)).any (·.1) = false := by rfl)
    (hsw : swapsWith (.Call (.Attribute (.Name xn p') "insert" apos) [a, b] [] cpos) none pos.line X.env = pure false := by rfl) :
    Go X Hb (.Expr (.Call (.Attribute (.Name xn p') "insert" apos) [a, b] [] cpos) pos :: rest) D0 Γ := fun σ H en => by
  obtain ⟨hσ, vs, hl1, _, _⟩ := en.ownW hG
  refine SemSs.cons (ps_expr (pe_bm PySem.F.plainAttrs_list PySem.F.slot_list_insert PySem.F.type_list_insert mt_insert (pe_var hN hv hdb hcd) (pa_cons (semE X a) (pa_cons (semE X b) pa_nil hs2) hs) hbase hfew hline hs hplain) hsw) ?_
  refine ⟨_, hσ, .inl ⟨rfl, _, SqL.of hl1⟩, ha σ H en _ fun v1 H1 d1 ⟨k, e1, s1⟩ x1 r1 _ => h σ H1 (en.ex x1) _ fun v H' d s x r _ => ?_⟩
  subst e1
  cases r1
  have en' := (en.ex x1).ex x
  obtain ⟨_, ws, hl2, rw, ls⟩ := en'.ownW hG
  obtain ⟨k0, k1⟩ := hi0 k s1
  refine ⟨p, ws, k, v, rfl, rfl, hl2, by rw [rw.length]; exact Nat.lt_of_le_of_lt hl (by decide), k0, by omega, ?_⟩
  exact g k d s1 s σ _ (en'.mutOwn hG (((rw.take _).append (.cons (r.hide ls (hf d s)) .nil)).append (rw.drop _)))
/-- a list of one's own that is changed no more -/
theorem EnvOk.freeze {K : PySem.W.Frag} {σ : L2.St} {H : Hp} {i : Nat} {p : Addr} (h : EnvOk K Hb Γ σ H) (e : Γ[i]? = some (.own p ds)) : EnvOk K Hb (Γ.set i (.dat (.lst ds))) σ H := by
  obtain ⟨h1, h2, h3, h4⟩ := h.wide
  obtain ⟨o, q, rfl, n, vs, q2, r2⟩ := Paired.getE h3 e
  have hno : p ∉ owns (Γ.set i .any) := by
    have key : ∀ {Γ : Slots} {i : Nat}, Γ[i]? = some (.own p ds) → (owns Γ).Nodup → p ∉ owns (Γ.set i .any) := by
      intro Γ
      induction Γ with
      | nil => intro i e; simp at e
      | cons x r ih =>
        intro i e nd
        cases i with
        | zero =>
          simp at e
          subst e
          exact (List.nodup_cons.mp nd).1
        | succ i =>
          have e' : r[i]? = some (.own p ds) := by simpa using e
          cases x with
          | any => exact ih e' nd
          | dat d => exact ih e' nd
          | own q' fs =>
            have nd' := List.nodup_cons.mp nd
            intro m
            rcases List.mem_cons.mp m with z | z
            · exact nd'.1 (z ▸ owns_of e')
            · exact ih e' nd'.2 z
    exact key e h4
  have en1 : EnvOk K Hb (Γ.set i .any) σ H := h.forget
  obtain ⟨g1, g2, g3, g4⟩ := en1.wide
  have ez : Ex (hide H (owns Γ)) (hide H (owns (Γ.set i .any))) := fun a u ea => by
    have hm : a ∉ owns (Γ.set i .any) := fun z => by
      have := (owns_set_sub (Γ := Γ) (i := i) (e := .any) fun _ _ z => nomatch z).subset z
      rw [hide_in this] at ea; cases ea
    rw [hide_out hm]
    exact hide_ex a u ea
  have hp' : (hide H (owns (Γ.set i .any))) p = some (.lst vs) := by rw [hide_out hno]; exact q2
  have hs : (Γ.set i .any).set i (.dat (.lst ds)) = Γ.set i (.dat (.lst ds)) := List.set_set ..
  have hσ : σ.set i (some (.ref p)) = σ := by
    obtain ⟨hi, he⟩ := List.getElem?_eq_some_iff.mp q
    rw [← he]
    exact List.set_getElem_self hi
  have := Paired.setE (show EntOk K (hide H (owns (Γ.set i .any))) H (.dat (.lst ds)) (some (.ref p)) from ⟨_, rfl, .lst (SqL.of hp') (r2.ex ez)⟩) i g3
  rw [hs, hσ] at this
  refine ⟨_, g1, g2, this, ?_⟩
  rw [← hs]
  exact List.Nodup.sublist (owns_set_sub fun _ _ z => nomatch z) g4
theorem go_freeze (i : Nat) {p : Addr} (g : Go X Hb rest D0 (Γ.set i (.dat (.lst ds)))) (hG : Γ[i]? = some (.own p ds) := by rfl) : Go X Hb rest D0 Γ := go_weak (fun _ _ h => h.freeze hG) g
end
/-! ### defs whose answer need not be new -/
def spL (K : PySem.W.Frag) (P : Pr) : Sp := fun vs H Q _ => ∃ ds S, RepAll K H vs ds ∧ P ds S ∧ ∀ v H' d, S d → Ex H H' → Rep K H' v d → Q v H'
structure FnL (P : Program) (w : World) (K : PySem.W.Frag) (mg : Str → Option Value) (base : Heap) (x : Str) (k : Nat) (Q : Pr) : Prop where
  ex : ∃ (f : Addr) (fd : FuncData) (ps : List Str), FnOk P w K mg base CX0 k f fd ps (spL K Q) ∧ mg x = some (.ref f) ∧ PySem.W.keepIn K (.ref f) = true ∧ Binds K fd ps []
section
variable {X : Cx} {Hb Hb' : Hp} {a b c e : Expr} {es : List Expr} {Γ : Slots} {pos p' apos cpos : Pos} {d x y : D} {ds : List D} {S S' : D → Prop} {fr fr' : Bool}
theorem evn_callL {x : Str} {pn : Pos} {k k' : Nat} {P : Pr} {SA : List D → Prop} (F : FnL X.prog X.w X.K X.mg X.base x k P) (hr : Room k' X.A) (hA : EvA X Hb (e :: es) Γ SA) (hP : ∀ ds, SA ds → ∃ S0, P ds S0 ∧ ∀ d, S0 d → S d)
    (hk : k ≤ k' := by decide) (hg : Gl X x := by rfl) (hdb : (x == ("__debug__" : Str)) = false := by decide) (he : starEach (e :: es) X.env = (false, eval e X.env) :: starEach es X.env := by rfl) (hpl : (backTo pos (starEach es X.env)).any (·.1) = false := by rfl) :
    EvN X Hb (.Call (.Name x pn) (e :: es) [] pos) Γ false S := fun σ H en Q q => by
  obtain ⟨f, fd, ps, G, hm, hkp, hb⟩ := F.ex
  refine SemE.of (pe_call G (hr.mono hk) hg hm hkp hb .nil pass0 (semA X (e :: es)) hdb he hpl) (hA σ H en _ fun vs H1 ds s x1 r => ?_)
  obtain ⟨S0, hS0, hS⟩ := hP ds s
  show spL _ _ (vs ++ []) H1 Q E0
  rw [List.append_nil]
  exact ⟨ds, S0, r, hS0, fun v H' d s0 x2 r2 => q v H' d (hS d s0) (x1.trans x2) r2 fun z => nomatch z⟩
end
section
variable {P : Program} {w : World} {K : PySem.W.Frag} {mg : Str → Option Value} {base : Heap}
theorem fnL_of {x qual : Str} {st : Stmt} {f : Addr} {fd : FuncData} {N ps : List Str} {k : Nat} {Q : Pr} (F : Fun K x qual st f fd) (Sc : FnScope N ps (defScope st)) (hm : mg x = some (.ref f)) (hb : Binds K fd ps []) (har : ∀ ds S, Q ds S → ds.length = ps.length)
    (hbody : ∀ (cdv : Value) (A : Around) (outer : List Env) (s : Shared) (H : Hp) (E : XK), Room k (A.deeper (envOfC qual (defScope st) s.heap.objs.size f cdv)) → ∀ ds S, Q ds S →
      Go (bodyCx P w K mg base N qual (defScope st) f cdv A outer s H E) H (defBody st) { nx := fun _ H' => S .non ∧ Ex H H', rt := fun v H' => ∃ d, S d ∧ Ex H H' ∧ Rep K H' v d } (slots0 N ds)) : FnL P w K mg base x (k + 1) Q := by
  refine ⟨f, fd, ps, F.ok Sc (fun vs H Q' E h => ?_) (fun cdv A outer s H vs Q' E hr h => ?_), hm, F.kp, hb⟩
  · obtain ⟨ds, S, r, q, _⟩ := h
    rw [r.length]
    exact har ds S q
  · obtain ⟨ds, S, r, q, hk⟩ := h
    refine ⟨_, semSs _ _, ?_⟩
    have go := hbody cdv A outer s H E hr ds S q _ _ (env_start (N := N) r)
    exact go.mono (fun σ' H' ⟨sd, x⟩ => hk .non H' .non sd x .non) (fun v H' ⟨d, sd, x, rp⟩ => hk v H' d sd x rp) (fun _ _ h => h) fun _ _ h => h
end
end L3

namespace L3
open PySem PySem.Spec PyProof.Rows L2
section
variable {X : Cx} {Hb Hb' : Hp} {a b c e elt iter tg : Expr} {es ifs : List Expr} {Γ : Slots} {pos p' apos cpos : Pos} {d x y : D} {ds : List D} {S S' : D → Prop} {fr fr' : Bool} {D0 : Ends} {rest sts : List Stmt} {st : Stmt} {scope : Scope} {own : List (Str × Nat)}
theorem evn_tuple {pn : Pos} {S1 : List D → Prop} (hm : X.mg "tuple" = none) (h : EvN X Hb a Γ fr fun z => ∃ ds, z = .lst ds ∧ S1 ds) (hg : Gl X "tuple" := by rfl) (he : starEach (a :: []) X.env = (false, eval a X.env) :: starEach [] X.env := by rfl) (hpl : (backTo pos (starEach [] X.env)).any (·.1) = false := by rfl) :
    EvN X Hb (.Call (.Name "tuple" pn) [a] [] pos) Γ true (fun z => ∃ ds, z = .tup ds ∧ S1 ds) :=
  evn_Ty call_tuple_of hm (eva_consN (S := fun z => ∃ ds, z = [.lst ds] ∧ S1 ds) h eva_nil (fun d ds ⟨xs, e1, s⟩ e2 => ⟨xs, by rw [e1, e2], s⟩) he) (fun vs H ds' Q ⟨ds, e1, s⟩ r k => by
    subst e1
    obtain ⟨p, ws, e, hq, ra⟩ := r.lst1
    exact ⟨p, ws, e, .inl ⟨hq, fun l hl => k _ _ _ ⟨ds, rfl, s⟩ (Ex.new hl) (.tup (SqT.of upd_same) (ra.ex (Ex.new hl))) (FreshD.flat rfl)⟩⟩) (by decide +kernel) hg (by decide) (by decide) he hpl
theorem eva_one {S1 : D → Prop} {S : List D → Prop} (h : EvN X Hb a Γ fr S1) (hS : ∀ d, S1 d → S [d]) (he : starEach (a :: []) X.env = (false, eval a X.env) :: starEach [] X.env := by rfl) : EvA X Hb [a] Γ S :=
  eva_consN (S := S) h eva_nil (fun d ds s1 e => by rw [e]; exact hS d s1) he
/-- what a filter goes over: the things stand already -/
def JtS (K : PySem.W.Frag) (Hz : Hp) (J : It) (ds : List D) : Prop :=
  ∃ (G : Hp → Prop) (Y : Nat → Hp → V → Hp → Prop), Walk J ds.length G Y ∧ (∀ H2, Ex Hz H2 → G H2) ∧ ∀ i H2 v H3, i < ds.length → Ex Hz H2 → Y i H2 v H3 → H3 = H2 ∧ ∃ d, ds[i]? = some d ∧ Rep K Hz v d
def EvJS (X : Cx) (Hb : Hp) (tg e : Expr) (Γ : Slots) (S : List D → Prop) : Prop :=
  ∃ wi : TI, PI X tg e wi ∧ ∀ σ H, EnvOk X.K Hb Γ σ H → ∀ R : It → Hp → Prop, (∀ J H' ds, S ds → Ex H H' → JtS X.K (hide H' (owns Γ)) J ds → R J H') → wi σ H R
theorem jts_list {K : PySem.W.Frag} {Hz : Hp} {p : Addr} {vs : List V} (hq : SqL K Hz p vs) (ra : RepAll K Hz vs ds) : JtS K Hz (Itl K p) ds := by
  refine ⟨_, _, ra.length ▸ walk_list (xs := vs), fun H2 e => SqL.ex e hq, fun i H2 v H3 hi e y => ?_⟩
  obtain ⟨rfl, hv⟩ := y
  obtain ⟨d, hd, r⟩ := ra.get' hv
  exact ⟨rfl, d, hd, r⟩
theorem jts_tup {K : PySem.W.Frag} {Hz : Hp} {p : Addr} {vs : List V} (hq : SqT K Hz p vs) (ra : RepAll K Hz vs ds) : JtS K Hz (Itt K p) ds := by
  refine ⟨_, _, ra.length ▸ walk_tup (xs := vs), fun H2 e => SqT.ex e hq, fun i H2 v H3 hi e y => ?_⟩
  obtain ⟨rfl, hv⟩ := y
  obtain ⟨d, hd, r⟩ := ra.get' hv
  exact ⟨rfl, d, hd, r⟩
theorem evjs_i {S1 : List D → Prop} (h : EvI X Hb e Γ S1) : EvJS X Hb tg e Γ S1 := ⟨_, pi_list (semE X e), fun σ H en R q => h σ H en _ fun a vs H' ds s x hq ra => ⟨a, rfl, ⟨_, SqL.ex hide_ex hq⟩, q _ H' ds s x (jts_list hq ra)⟩⟩
theorem evjs_t {S1 : List D → Prop} (h : EvIT X Hb e Γ S1) : EvJS X Hb tg e Γ S1 := ⟨_, pi_tup (semE X e), fun σ H en R q => h σ H en _ fun a vs H' ds s x hq ra => ⟨a, rfl, ⟨_, SqT.ex hide_ex hq⟩, q _ H' ds s x (jts_tup hq ra)⟩⟩
theorem EnvOk.len {K : PySem.W.Frag} {σ : L2.St} {H : Hp} (h : EnvOk K Hb Γ σ H) : Γ.length = σ.length := let ⟨_, _, _, h3, _⟩ := h; Paired.length h3
theorem wipeG_len : ∀ (Γ : Slots) (vs : List Nat), (wipeG Γ vs).length = Γ.length
  | _, [] => rfl
  | Γ, v :: vs => by unfold wipeG; rw [List.length_set, wipeG_len]
theorem soFar_moreOld {K : PySem.W.Frag} {H1 H : Hp} {L : Addr} {R R' : List D → Prop} {v : V} {d : D} (hL : H1 L = none) (h : SoFar K H1 L R H) (r : Rep K H1 v d) (hl : ∀ ys, R ys → ys.length < 100000) (hR : ∀ ys, R ys → R' (ys ++ [d])) :
    ∃ acc, H L = some (.lst acc) ∧ acc.length < sizeLine ∧ SoFar K H1 L R' (upd H L (.lst (acc ++ [v]))) := by
  obtain ⟨e, acc, ys, h1, h2, h3⟩ := h
  refine ⟨acc, h1, by rw [h2.length]; exact Nat.lt_of_le_of_lt (Nat.le_of_lt (hl ys h3)) (by decide), Ex.mut e hL, acc ++ [v], ys ++ [d], upd_same, ?_, hR ys h3⟩
  rw [hide1_upd]
  have x1 : Ex H1 (hide H [L]) := fun a o ea => by
    have : a ∉ [L] := fun m => by rw [List.mem_singleton.mp m, hL] at ea; cases ea
    rw [hide_out this]
    exact e a o ea
  exact h2.append (.cons (r.ex x1) .nil)
/-- [x for x in xs if test] -/
theorem lcF {α : Type} {tst : Expr} {xn : Str} {q1 q2 : Pos} (ix : Nat) (f : α → D) (p : α → Bool) (xs : List α) (hit : EvJS X Hb (.Name xn q1) iter Γ (· = xs.map f)) (hst : ∀ a ∈ xs, Sto (wipeG Γ (own.map (·.2))) (f a))
    (ht : ∀ a ∈ xs, AllIn X scope fun Y => EvB Y Hb tst ((wipeG Γ (own.map (·.2))).set ix (.dat (f a))) (p a)) (hlen : xs.length < 100000) (hΓ : ix < Γ.length)
    (hc : X.calm = true) (nd : X.N.Nodup) (ok : BlkOk X.N X.env.scope scope own) (hown : ix ∈ own.map (·.2))
    (hg : AllIn X scope fun Y => PG Y (.Name xn q1) (gName ix)) (hv : AllIn X scope fun Y => PE Y (.Name xn q2) (tVar ix)) (hs : ∀ x, foldedSetIterable iter X.env x = pure x := by intro _; rfl) :
    LcEv X Hb (.Name xn q2) (.Name xn q1) iter [tst] scope own Γ (fun z => z = .lst ((xs.filter p).map f)) := by
  obtain ⟨wi, hpi, hw⟩ := hit
  refine ⟨hc, nd, ok, hs, _, _, _, tVar ix, hpi, hg, (fun s H C cl fp => pts_one (t := tInT X scope tst) ⟨fun pins s' σ H' Q I h => (h s H C cl fp).run pins s' I⟩), hv, fun σ H en Q q => ?_⟩
  refine hw σ H en _ fun J H1 ds e1 x ⟨G, Y, w, hG, hY⟩ => ?_
  subst e1
  have en1 := en.ex x
  rw [List.length_map] at w hY
  refine fun L hL => lc_it w (fun i H => SoFar X.K H1 L (fun ys => ys = ((xs.take i).filter p).map f) H) (soFar_start hL rfl) (fun i H2 _ h => hG _ (hide_ex.trans h.1)) ?_ ?_
  · intro i v H2 H3 hi sf y
    obtain ⟨rfl, dx, hd, rv⟩ := hY i H2 v H3 hi (hide_ex.trans sf.1) y
    rw [List.getElem?_map] at hd
    obtain ⟨ax, hax, rfl⟩ : ∃ ax, xs[i]? = some ax ∧ dx = f ax := by
      cases z : xs[i]? with
      | none => rw [z] at hd; cases hd
      | some ax => rw [z] at hd; cases hd; exact ⟨ax, rfl, rfl⟩
    have hm := List.mem_of_getElem? hax
    have et : xs.take (i + 1) = xs.take i ++ [ax] := by rw [List.take_add_one, hax]; rfl
    have rv1 : Rep X.K H1 v (f ax) := rv.ex hide_ex
    have en2 : EnvOk X.K Hb ((wipeG Γ (own.map (·.2))).set ix (.dat (f ax))) ((wipe σ (own.map (·.2))).set ix (some v)) H3 := (wipe_env (en1.ex sf.1) _).setDat (rv1.ex sf.1) (hst ax hm)
    refine ⟨by rw [set_wipe hown, wipe_wipe], fun s0 H0 C cl fp => ht ax hm s0 H0 C cl fp _ H3 en2 _ fun k H4 ek x4 => ?_⟩
    have sf4 : SoFar X.K H1 L (fun ys => ys = ((xs.take i).filter p).map f) H4 := by
      obtain ⟨e, acc, ys, h1, h2, h3⟩ := sf
      exact ⟨e.trans x4, acc, ys, x4 _ _ h1, h2.ex (hide1_ex x4), h3⟩
    subst ek
    cases hta : p ax with
    | false =>
      refine if_neg (by simp) |>.mpr ?_
      rw [et, List.filter_append, List.filter_cons, hta]
      simpa using sf4
    | true =>
      refine (if_pos rfl).mpr ?_
      have hlσ : ix < (wipe σ (own.map (·.2))).length := by rw [wipe_length, ← en.len]; exact hΓ
      refine ⟨v, by rw [List.getElem?_set_self hlσ], ?_⟩
      refine soFar_moreOld hL sf4 rv1 (fun ys h => ?_) fun ys h => ?_
      · rw [h, List.length_map]
        refine Nat.lt_of_le_of_lt (List.length_filter_le _ _) ?_
        rw [List.length_take]
        omega
      · rw [et, List.filter_append, List.filter_cons, hta, h, List.map_append]
        rfl
  · intro H2 sf
    rw [List.take_length] at sf
    obtain ⟨ys, h1, h2, h3, h4⟩ := soFar_done hL x sf
    exact q _ _ _ (by rw [h1]) h2 h3 h4
end
end L3

namespace L3
open PySem PySem.Spec PyProof.Rows L2
theorem alln {P : D → Prop} : ∀ x ∈ ([] : List D), P x := fun _ m => nomatch m
theorem allc {P : D → Prop} {a : D} {l : List D} (h : P a) (r : ∀ x ∈ l, P x) : ∀ x ∈ a :: l, P x := fun x m => by
  rcases List.mem_cons.mp m with e | e
  · rw [e]; exact h
  · exact r x e
section
variable {X : Cx} {Hb Hb' : Hp} {a b c e elt iter tg : Expr} {es ifs : List Expr} {Γ : Slots} {pos p' apos cpos : Pos} {d x y : D} {ds : List D} {S S' : D → Prop} {fr fr' : Bool} {D0 : Ends} {rest sts : List Stmt} {st : Stmt} {scope : Scope} {own : List (Str × Nat)}
theorem EvW.imp {S S' : Bool → Prop} (h : EvW X Hb e Γ S) (f : ∀ k, S k → S' k) : EvW X Hb e Γ S' := fun σ H en Q q => h σ H en Q fun b H' s x => q b H' (f b s) x
/-- {1: 2} -/
theorem ev_dct1 {i j : Int} (ha : Ev X Hb a Γ fr (.int i)) (hb : Ev X Hb b Γ fr' (.int j)) : Ev X Hb (.Dict [some a] [b] pos) Γ true (.dct [(.inl i, .int j)]) := fun σ H en Q q =>
  SemE.of (pe_disp (pps_cons (semE X a) (semE X b) pps_nil) rfl rfl (by simp) (by simp)) fun p hp => ha σ _ (en.ex (Ex.new hp)) _ fun v H1 d1 e1 x1 r1 _ => hb σ H1 ((en.ex (Ex.new hp)).ex x1) _ fun w H2 d2 e2 x2 r2 _ => by
    subst e1 e2
    cases r1
    cases r2
    have e3 : H2 p = some (.dK []) := x2 _ _ (x1 _ _ upd_same)
    have xx : Ex H (upd H2 p (.dK [(.inl i, .int j)])) := Ex.mut ((Ex.new hp).trans (x1.trans x2) |> fun h a o e => h a o e) hp
    exact ⟨e3, [(.inl i, .int j)], rfl, by simp, q _ _ _ rfl xx (.dct (.inl upd_same) (.cons (.int j) .nil)) fun _ => ⟨p, _, rfl, hp, upd_same, .cons (.int j) .nil⟩⟩
/-- x, y = a, b, where one of them is a cell -/
theorem go_parC (i j : Nat) {xn yn : Str} {px py pt : Pos} {kt k2 : Nat} {pt2 : Pos} {S2 : D → D → Prop} (h : EvA X Hb [a, b] Γ fun z => ∃ d1 d2, z = [d1, d2] ∧ S2 d1 d2) (hs1 : ∀ d1 d2, S2 d1 d2 → Sto Γ d1 ∧ Sto (Γ.set i (.dat d1)) d2)
    (g : ∀ d1 d2, S2 d1 d2 → Go X Hb rest D0 ((Γ.set i (.dat d1)).set j (.dat d2))) (hc : X.calm = true) (nd : X.N.Nodup) (hw : swappedStores [.Tuple [.Name xn px, .Name yn py] kt pt] (.Tuple [a, b] k2 pt2) X.env = pure none := by rfl)
    (hi : X.N[i]? = some xn := by rfl) (hj : X.N[j]? = some yn := by rfl) (hx : Loc X.env.scope xn := by first | exact Or.inl rfl | exact Or.inr rfl) (hy : Loc X.env.scope yn := by first | exact Or.inl rfl | exact Or.inr rfl)
    (hf : X.fn xn = true ∨ X.env.scope.names.lookup xn = some .local := by first | exact .inl rfl | exact .inr rfl) (hf2 : X.fn yn = true ∨ X.env.scope.names.lookup yn = some .local := by first | exact .inl rfl | exact .inr rfl)
    (hn : (assignEach [.Name xn px, .Name yn py] X.env).length = 2 := by rfl) (hst : (assignEach [.Name xn px, .Name yn py] X.env).findIdx? (·.1) = none := by rfl)
    (hz1 : (assignEach (.Name xn px :: [.Name yn py]) X.env).map (·.2) = assign (.Name xn px) X.env :: (assignEach [.Name yn py] X.env).map (·.2) := by rfl) (hz2 : (assignEach (.Name yn py :: []) X.env).map (·.2) = assign (.Name yn py) X.env :: (assignEach [] X.env).map (·.2) := by rfl)
    (hsw : swapsWithSole [.Tuple [.Name xn px, .Name yn py] kt pt] (.Tuple [a, b] k2 pt2) pos.line X.env = pure false := by rfl) (h1 : (assignEach [.Tuple [.Name xn px, .Name yn py] kt pt] X.env).map (·.2) = [assign (.Tuple [.Name xn px, .Name yn py] kt pt) X.env] := by rfl) :
    Go X Hb (.Assign [.Tuple [.Name xn px, .Name yn py] kt pt] (.Tuple [a, b] k2 pt2) pos :: rest) D0 Γ :=
  go_asg (evn_tup h (by simp) fun ds ⟨d1, d2, e, _⟩ => by rw [e]; rfl) (tg_tup hc (tgs_cons (tg_name i nd hi hx hf) (tgs_cons (tg_name j nd hj hy hf2) tgs_nil hz2) hz1) hn hst) (fun d ⟨ds, e, d1, d2, e2, s⟩ => by
    subst e e2
    exact ⟨_, ⟨_, rfl, rfl, _, _, _, rfl, ⟨(hs1 d1 d2 s).1, rfl⟩, _, _, _, rfl, ⟨(hs1 d1 d2 s).2, rfl⟩, rfl, rfl⟩, g d1 d2 s⟩) hsw hw h1
end
end L3

namespace L3
open PySem PySem.Spec PyProof.Rows L2
/-! ### compared with the empty list, the empty tuple -/
def rEq0 (K : PySem.W.Frag) (f : Bool → Bool) : R2 := fun x y H Q => ∃ a b xs, x = .ref a ∧ y = .ref b ∧ ((SqL K H a xs ∧ SqL K H b []) ∨ (SqT K H a xs ∧ SqT K H b [])) ∧ Q (.bl (f xs.isEmpty)) H
theorem PlainL.isList {h : Heap} {a : Addr} {its : Array Value} (p : PlainL h a its) : h.IsList a its := by
  obtain ⟨o, n, ho, hc, _, hd⟩ := p
  exact ⟨o, ho, hc, n, hd⟩
section
variable {X : Cx}
theorem op_eq0 (hu : X.A.units + 64 < cLine) : OpR X (compareOp .Eq) (rEq0 X.K id) := by
  intro pins s σ H x y v u Q I rx ry h
  obtain ⟨a, b, xs, rfl, rfl, h, q⟩ := h
  cases rx
  cases ry
  rcases h with ⟨ha, hb⟩ | ⟨ha, hb⟩
  · obtain ⟨its, r, p, _⟩ := I.list ha
    obtain ⟨its2, r2, p2, _⟩ := I.list hb
    cases r2
    cases xs with
    | nil =>
      cases r
      exact PySem.SeqAt.eq_listAt (e := fun _ => true) p.isList p2.isList rfl (by omega) (fun j h1 => absurd h1 (Nat.not_lt_zero _)) ⟨.bl true, H, I, rfl, q⟩
    | cons z zs =>
      cases r with
      | cons r1 r2 => exact PySem.SeqAt.eq_list_lengthsAt p.isList p2.isList (by simp) (by omega) ⟨.bl false, H, I, rfl, q⟩
  · obtain ⟨its, r, p, _⟩ := I.tuple ha
    obtain ⟨its2, r2, p2, _⟩ := I.tuple hb
    cases r2
    refine PySem.SeqAt.eq_tupleAt (e := fun _ => true) p p2 (by omega) (fun j _ h1 => absurd h1 (Nat.not_lt_zero _)) ⟨.bl xs.isEmpty, H, I, ?_, q⟩
    cases r with
    | nil => rfl
    | cons r1 r2 => show Value.bool _ = Value.bool false; simp
theorem op_ne0 (hu : X.A.units + 64 < cLine) : OpR X (compareOp .NotEq) (rEq0 X.K (!·)) := by
  intro pins s σ H x y v u Q I rx ry h
  obtain ⟨a, b, xs, rfl, rfl, h, q⟩ := h
  cases rx
  cases ry
  rcases h with ⟨ha, hb⟩ | ⟨ha, hb⟩
  · obtain ⟨its, r, p, _⟩ := I.list ha
    obtain ⟨its2, r2, p2, _⟩ := I.list hb
    cases r2
    cases xs with
    | nil =>
      cases r
      exact PySem.SeqAt.RcNeAt.lists (e := fun _ => true) p.isList p2.isList rfl (by omega) (fun j h1 => absurd h1 (Nat.not_lt_zero _)) _ _ _ _ ⟨.bl false, H, I, rfl, q⟩
    | cons z zs =>
      cases r with
      | cons r1 r2 => exact PySem.SeqAt.RcNeAt.lists_lengths p.isList p2.isList (by simp) (by omega) _ _ _ _ ⟨.bl true, H, I, rfl, q⟩
  · obtain ⟨its, r, p, _⟩ := I.tuple ha
    obtain ⟨its2, r2, p2, _⟩ := I.tuple hb
    cases r2
    refine PySem.SeqAt.RcNeAt.tuples (e := fun _ => true) p p2 (by omega) (fun j _ h1 => absurd h1 (Nat.not_lt_zero _)) _ _ _ _ ⟨.bl (!xs.isEmpty), H, I, ?_, q⟩
    cases r with
    | nil => rfl
    | cons r1 r2 => show Value.bool _ = Value.bool true; simp
end
section
variable {X : Cx} {Hb Hb' : Hp} {a b c e : Expr} {es : List Expr} {Γ : Slots} {pos p' apos cpos : Pos} {d x y : D} {ds : List D} {S S' : D → Prop} {fr fr' : Bool}
theorem sq_of {K : PySem.W.Frag} {H H' : Hp} {v w : V} {d e : D} (hd : (d = .lst ds ∧ e = .lst []) ∨ (d = .tup ds ∧ e = .tup [])) (x : Ex H H') (r : Rep K H v d) (r2 : Rep K H' w e) : ∃ a b xs, v = .ref a ∧ w = .ref b ∧ ((SqL K H' a xs ∧ SqL K H' b []) ∨ (SqT K H' a xs ∧ SqT K H' b [])) ∧ xs.isEmpty = ds.isEmpty := by
  rcases hd with ⟨rfl, rfl⟩ | ⟨rfl, rfl⟩
  · cases r with
    | lst h ra =>
      cases r2 with
      | lst h2 ra2 =>
        cases ra2
        exact ⟨_, _, _, rfl, rfl, .inl ⟨SqL.ex x h, h2⟩, by cases ra <;> rfl⟩
  · cases r with
    | tup h ra =>
      cases r2 with
      | tup h2 ra2 =>
        cases ra2
        exact ⟨_, _, _, rfl, rfl, .inr ⟨SqT.ex x h, h2⟩, by cases ra <;> rfl⟩
theorem evt_eq0 {k : Nat} {d e : D} (hr : Room k X.A) (hd : (d = .lst ds ∧ e = .lst []) ∨ (d = .tup ds ∧ e = .tup [])) (ha : Ev X Hb a Γ fr d) (hb : Ev X Hb b Γ fr' e) : EvB X Hb (.Compare a [.Eq] [b] pos) Γ ds.isEmpty := fun σ H en Q q =>
  SemT.of (pt_cmpR (op_eq0 hr.units) (semE X a) (semE X b) (nomark _)) (ha σ H en _ fun v H1 d1 e1 x1 r1 _ => hb σ H1 (en.ex x1) _ fun w H2 d2 e2 x2 r2 _ => by
    subst e1 e2
    obtain ⟨a, b, xs, q1, q2, q3, q4⟩ := sq_of hd x2 r1 r2
    exact ⟨a, b, xs, q1, q2, q3, _, rfl, q _ H2 q4 (x1.trans x2)⟩)
theorem evt_ne0 {k : Nat} {d e : D} (hr : Room k X.A) (hd : (d = .lst ds ∧ e = .lst []) ∨ (d = .tup ds ∧ e = .tup [])) (ha : Ev X Hb a Γ fr d) (hb : Ev X Hb b Γ fr' e) : EvB X Hb (.Compare a [.NotEq] [b] pos) Γ (!ds.isEmpty) := fun σ H en Q q =>
  SemT.of (pt_cmpR (op_ne0 hr.units) (semE X a) (semE X b) (nomark _)) (ha σ H en _ fun v H1 d1 e1 x1 r1 _ => hb σ H1 (en.ex x1) _ fun w H2 d2 e2 x2 r2 _ => by
    subst e1 e2
    obtain ⟨a, b, xs, q1, q2, q3, q4⟩ := sq_of hd x2 r1 r2
    exact ⟨a, b, xs, q1, q2, q3, _, rfl, q _ H2 (by rw [q4]) (x1.trans x2)⟩)
theorem ev_eq0 {k : Nat} {d e : D} (hr : Room k X.A) (hd : (d = .lst ds ∧ e = .lst []) ∨ (d = .tup ds ∧ e = .tup [])) (ha : Ev X Hb a Γ fr d) (hb : Ev X Hb b Γ fr' e) : Ev X Hb (.Compare a [.Eq] [b] pos) Γ true (.bl ds.isEmpty) := fun σ H en Q q =>
  SemE.of (pe_cmpR (op_eq0 hr.units) (semE X a) (semE X b) (nomark _)) (ha σ H en _ fun v H1 d1 e1 x1 r1 _ => hb σ H1 (en.ex x1) _ fun w H2 d2 e2 x2 r2 _ => by
    subst e1 e2
    obtain ⟨a, b, xs, q1, q2, q3, q4⟩ := sq_of hd x2 r1 r2
    exact ⟨a, b, xs, q1, q2, q3, q _ H2 _ (by rw [q4]; rfl) (x1.trans x2) (.bl _) fun _ => FreshD.flat rfl⟩)
theorem ev_ne0 {k : Nat} {d e : D} (hr : Room k X.A) (hd : (d = .lst ds ∧ e = .lst []) ∨ (d = .tup ds ∧ e = .tup [])) (ha : Ev X Hb a Γ fr d) (hb : Ev X Hb b Γ fr' e) : Ev X Hb (.Compare a [.NotEq] [b] pos) Γ true (.bl (!ds.isEmpty)) := fun σ H en Q q =>
  SemE.of (pe_cmpR (op_ne0 hr.units) (semE X a) (semE X b) (nomark _)) (ha σ H en _ fun v H1 d1 e1 x1 r1 _ => hb σ H1 (en.ex x1) _ fun w H2 d2 e2 x2 r2 _ => by
    subst e1 e2
    obtain ⟨a, b, xs, q1, q2, q3, q4⟩ := sq_of hd x2 r1 r2
    exact ⟨a, b, xs, q1, q2, q3, q _ H2 _ (by rw [q4]) (x1.trans x2) (.bl _) fun _ => FreshD.flat rfl⟩)
end
end L3

namespace L3
open PySem PySem.Spec PyProof.Rows L2
/-- a name of the top that holds d for good -/
def Gv (K : PySem.W.Frag) (mg : Str → Option Value) (x : Str) (d : D) : Prop := ∃ (u : Value) (v : V), mg x = some u ∧ RelV v u ∧ ∀ H, Rep K H v d
theorem gv_tup2 {K : PySem.W.Frag} {mg : Str → Option Value} {x : Str} {c : Addr} {dd : Option Addr} {t1 t2 : Tok} {n : Nat} {sl : Array (Option Value)} {i j : Int} (hm : mg x = some (.ref c)) (hl : K.lookup c = some ⟨.type "tuple", dd, .seq #[.int i t1, .int j t2] n, sl⟩) : Gv K mg x (.tup [.int i, .int j]) :=
  ⟨_, .ref c, hm, rfl, fun H => .tup (xs := [.int i, .int j]) (.inr ⟨_, _, _, hl, rfl, rfl, by show 2 ≤ sizeLine; decide, .cons ⟨t1, rfl⟩ (.cons ⟨t2, rfl⟩ .nil)⟩) (.cons (.int i) (.cons (.int j) .nil))⟩
theorem gv_int {K : PySem.W.Frag} {mg : Str → Option Value} {x : Str} {t : Tok} {i : Int} (hm : mg x = some (.int i t)) : Gv K mg x (.int i) := ⟨_, .int i, hm, ⟨t, rfl⟩, fun _ => .int i⟩
theorem gv_str {K : PySem.W.Frag} {mg : Str → Option Value} {x : Str} {t : Tok} {z : Str} (hm : mg x = some (.str z t)) : Gv K mg x (.str z) := ⟨_, .str z, hm, ⟨t, rfl⟩, fun _ => .str z⟩
theorem ev_gv {X : Cx} {Hb : Hp} {Γ : Slots} {x : Str} {pos : Pos} {d : D} (h : Gv X.K X.mg x d) (hg : Gl X x := by rfl) (hd : (x == ("__debug__" : Str)) = false := by decide) : Ev X Hb (.Name x pos) Γ false d := fun σ H en Q q => by
  obtain ⟨u, v, hm, r, rep⟩ := h
  exact SemE.of (pe_glob hg hm r hd) (q v H d rfl Ex.refl (rep H) fun z => nomatch z)
section
variable {X : Cx} {Hb Hb' : Hp} {a b c e : Expr} {es : List Expr} {Γ : Slots} {pos p' apos cpos : Pos} {d x y : D} {ds : List D} {S S' : D → Prop} {fr fr' : Bool}
theorem ev_chain {op op' : CmpOp} {g g' : Int → Int → Bool} {i j k : Int} {fr'' : Bool} (ho : OpR X (compareOp op) (rI0 fun i j => .bl (g i j))) (ho' : OpR X (compareOp op') (rI0 fun i j => .bl (g' i j))) (ha : Ev X Hb a Γ fr (.int i)) (hb : Ev X Hb b Γ fr' (.int j)) (hc : Ev X Hb c Γ fr'' (.int k))
    (hm : lastMarks [op, op'] [b, c] = false := by with_unfolding_all rfl) : Ev X Hb (.Compare a [op, op'] [b, c] pos) Γ true (.bl (g i j && g' j k)) := fun σ H en Q q =>
  SemE.of (pe_chain ho ho' (semE X a) (semE X b) (semE X c) hm) (ha σ H en _ fun v H1 e1 z1 x1 r1 _ => hb σ H1 (en.ex x1) _ fun w H2 e2 z2 x2 r2 _ => by
    subst z1 z2
    cases r1
    cases r2
    refine ⟨i, j, rfl, rfl, g i j, rfl, ?_⟩
    cases hg : g i j with
    | true =>
      refine iteT ?_
      refine hc σ H2 (en.ex (x1.trans x2)) _ fun u H3 e3 z3 x3 r3 _ => ?_
      subst z3
      cases r3
      exact ⟨j, k, rfl, rfl, q _ H3 _ (by rw [hg]; rfl) ((x1.trans x2).trans x3) (.bl _) fun _ => FreshD.flat rfl⟩
    | false =>
      refine iteF ?_
      exact q _ H2 _ (by rw [hg]; rfl) (x1.trans x2) (.bl _) fun _ => FreshD.flat rfl)
end
end L3

namespace L3
open PySem PySem.Spec PyProof.Rows L2
/-! ### a tuple once: itself -/
theorem tuple_mul1W (l : Addr) (items : Array Value) (n : Nat) (dd : Option Addr) (sl : Array (Option Value)) (x : Int) (u : Tok) (c0 : (decide (x < -(2 ^ 63)) || decide (x ≥ 2 ^ 63)) = false) (c1 : (items.isEmpty || x == 1) = true) :
    Meets (Builtin.«tuple.__mul__» ⟨[.ref l, .int x u], []⟩) (fun _ R s => s.heap.get? l = some { cls := .type "tuple", dict := dd, data := .seq items n, slots := sl } ∧ R (.ok (.ret (Value.ref l))) s) :=
  .of_wp fun prog w A R s h => by
    obtain ⟨hp, g, d, tk, os⟩ := s
    obtain ⟨hl, h⟩ := h
    have f1 := AutoSeq1.idx_int
    wp_walk using wpAny_loadPart' hl
    repeat (first
      | (refine wpAny_ite_false (decide_eq_false (by rw [c0]; exact Bool.false_ne_true)) ?_; wp_walk using wpAny_loadPart' hl)
      | (refine wpAny_ite_true (decide_eq_true c1) ?_; wp_walk using wpAny_loadPart' hl))
    exact ⟨_, rfl, h⟩
def rRepT1 (K : PySem.W.Frag) : R2 := fun x y H Q => ∃ l xs, x = .ref l ∧ y = .int 1 ∧ SqT K H l xs ∧ Q (.ref l) H
theorem op_repT1 {X : Cx} : OpR X (binaryOp .Mult) (rRepT1 X.K) := by
  intro pins s σ H x y v u Q I rx ry h
  obtain ⟨l, xs, rfl, rfl, hT, q⟩ := h
  cases rx
  obtain ⟨t, rfl⟩ := ry
  obtain ⟨its, r, ⟨⟨cls, dd, data, sl⟩, ho, hc, n, hd⟩, hs⟩ := I.tuple hT
  simp only at hc hd
  subst hc hd
  refine wpAny_binaryOp_repeat_ref (T := "tuple") (U := "int") (by decide) ⟨_, ho, rfl⟩ (fun s' => typeIs_int s' 1 t) noFill_tuple_mul F.fills_int_mul F.slot_int_rmul repeat_tuple F.slot_int_index.lookup
    (call_meets F.slot_int_rmul (typeIs_int s 1 t) F.entry_int_rmul (F.args_int_rmul_2 _ _) (int_rmul_tuple 1 t l its.toArray n dd sl)
      ⟨ho, rfl, ⟨_, ho, rfl⟩, call_meets F.slot_tuple_mul ⟨_, ho, rfl⟩ F.entry_tuple_mul (F.args_tuple_mul_2 _ _) (tuple_mul1W l its.toArray n dd sl 1 t rfl (by simp)) ⟨ho, ?_⟩⟩)
  exact ⟨.ref l, H, I, rfl, q⟩
section
variable {X : Cx} {Hb Hb' : Hp} {a b c e : Expr} {es : List Expr} {Γ : Slots} {pos p' apos cpos : Pos} {d x y : D} {ds : List D} {S S' : D → Prop} {fr fr' : Bool}
/-- t * k, k from 1 on -/
theorem evn_repT {S1 : List D → Prop} {S2 : Int → Prop} (ha : EvN X Hb a Γ fr fun z => ∃ ds, z = .tup ds ∧ S1 ds) (hb : EvI1 X Hb b Γ fr' S2) (hS : ∀ x k, S1 x → S2 k → x ≠ [] ∧ x.length ≤ 1000 ∧ 1 ≤ k ∧ k ≤ 1000 ∧ S (.tup (List.replicate k.toNat x).flatten)) :
    EvN X Hb (.BinOp a .Mult b pos) Γ true (fun z => S z ∧ ∃ ds, z = .tup ds) := fun σ H en Q q =>
  SemE.of (pe_op (fun pins s σ H x y v u Q I rx ry h => by
      rcases h with h | h
      · exact op_repT1 pins s σ H x y v u Q I rx ry h
      · exact op_repT pins s σ H x y v u Q I rx ry h) (r := fun x y H Q => rRepT1 X.K x y H Q ∨ rRepT X.K x y H Q) (semE X a) (semE X b)) (ha σ H en _ fun v H1 d1 ⟨xs, e1, s1⟩ x1 r1 _ => hb σ H1 (en.ex x1) _ fun w H2 d2 ⟨k, e2, s2⟩ x2 r2 _ => by
    subst e1 e2
    cases r2
    obtain ⟨h0, hl, h1, h2, s⟩ := hS xs k s1 s2
    have xx := x1.trans x2
    cases r1 with
    | tup hq ra =>
      have hq2 := SqT.ex x2 hq
      have ra2 := ra.ex x2
      by_cases e : k = 1
      · subst e
        have ef : (List.replicate (1 : Int).toNat xs).flatten = xs := by show (List.replicate 1 xs).flatten = xs; simp
        exact .inl ⟨_, _, rfl, rfl, hq2, q _ H2 (.tup xs) ⟨ef ▸ s, xs, rfl⟩ xx (.tup hq2 ra2) fun _ => FreshD.flat rfl⟩
      · have r3 : ∀ n vs, RepAll X.K H2 vs xs → RepAll X.K H2 (List.replicate n vs).flatten (List.replicate n xs).flatten := fun n vs ra => by
          induction n with
          | zero => exact .nil
          | succ n ih => rw [List.replicate_succ, List.replicate_succ, List.flatten_cons, List.flatten_cons]; exact ra.append ih
        refine .inr ⟨_, k, _, rfl, rfl, hq2, fun z => ?_, by omega, h2, by rw [ra2.length]; exact hl, fun p hp => q _ _ _ ⟨s, _, rfl⟩ (xx.trans (Ex.new hp)) (.tup (SqT.of upd_same) ((r3 _ _ ra2).ex (Ex.new hp))) fun _ => FreshD.flat rfl⟩
        have := ra2.length
        rw [z] at this
        exact h0 (List.eq_nil_of_length_eq_zero this.symm))
theorem ev_repT {k : Int} (ha : Ev X Hb a Γ fr (.tup ds)) (hb : Ev X Hb b Γ fr' (.int k)) (h0 : ds ≠ []) (hl : ds.length ≤ 1000) (h1 : 1 ≤ k) (h2 : k ≤ 1000) : Ev X Hb (.BinOp a .Mult b pos) Γ true (.tup (List.replicate k.toNat ds).flatten) :=
  (evn_repT (S1 := (· = ds)) (S2 := (· = k)) (S := (· = .tup (List.replicate k.toNat ds).flatten)) (ha.imp fun _ z => ⟨_, z, rfl⟩) (EvN.int1 hb) fun x j e1 e2 => by subst e1 e2; exact ⟨h0, hl, h1, h2, rfl⟩).imp fun _ z => z.1
end
end L3

namespace L3
open PySem PySem.Spec PyProof.Rows L2
/-! ### sum, max, min of a tuple of ints -/
/-- the walk over a tuple's iterator, whole -/
def TupGo (prog : Program) (w : World) (A : Around) (s s₂ : Shared) (l I : Addr) (its : Array Value) : Prop :=
  Walks prog w A I [I, l] [I] its.size (fun i v => its[i]? = some v) (fun i g => g.IsTupleIter I l i ∧ g.IsTuple l its) ∧ (s₂.heap.IsTupleIter I l 0 ∧ s₂.heap.IsTuple l its) ∧ (∀ c ∈ [I, l], c < s₂.heap.objs.size) ∧
    ∀ g : Heap, (∀ c u, c ∉ [I] → s₂.heap.get? c = some u → g.get? c = some u) → ∀ c u, s.heap.get? c = some u → g.get? c = some u
section
variable {prog : Program} {w : World} {A : Around} {E : Value → Shared → Prop} {s : Shared} {l : Addr} {Q : Value → Shared → Prop}
theorem tup_go {its : Array Value} (free : A.handled = none) (tl : s.heap.IsTuple l its) (k : ∀ s₂ I, True ∧ TupGo prog w A s s₂ l I its → (∃ g, s₂ = { s with heap := g }) → Q (.ref I) s₂) : wpAny (model prog w) A (pyIter (.ref l)) Q E s := by
  have below : l < s.heap.objs.size := tl.elim fun _ z => Heap.lt_size z.1
  have apart : l ≠ s.heap.objs.size := Nat.ne_of_lt below
  refine wpAny_pyIter_tuple tl (k _ _ ⟨trivial, Walks.tuple free _ _ apart its, ⟨⟨_, Heap.get?_push_size _ rfl, rfl, rfl⟩, tl.push _⟩, ?_, ?_⟩ ⟨_, rfl⟩)
  · have grown : (s.heap.push { cls := .type "tuple_iterator", data := .fields #[.ref l, .int 0 0] }).objs.size = s.heap.objs.size + 1 := Heap.size_push ..
    intro c mc
    refine Nat.lt_of_lt_of_eq ?_ grown.symm
    simp only [List.mem_cons, List.not_mem_nil, or_false] at mc
    rcases mc with e | e
    · rw [e]; exact Nat.lt_succ_self _
    · rw [e]; exact Nat.lt_succ_of_lt below
  · intro g keep c u hc
    have hlt : c < s.heap.objs.size := Heap.lt_size hc
    exact keep c u (fun z => Nat.lt_irrefl _ (by rw [List.mem_singleton.mp z] at hlt; exact hlt)) (Heap.get?_push_of_some _ hc)
theorem num_mem {xs : Array (Int × Tok)} {j : Nat} (hj : j < xs.size) : numAt xs j ∈ xs.toList.map (·.1) :=
  List.mem_map.mpr ⟨xs[j], by simp, by unfold numAt; simp [hj]⟩
theorem mem_num {xs : Array (Int × Tok)} {n : Int} (hn : n ∈ xs.toList.map (·.1)) : ∃ j, j < xs.size ∧ numAt xs j = n := by
  obtain ⟨p, hp, e⟩ := List.mem_map.mp hn
  obtain ⟨j, hj, e2⟩ := List.mem_iff_getElem.mp hp
  refine ⟨j, by simpa using hj, ?_⟩
  unfold numAt
  have : xs[j]? = some p := by rw [← Array.getElem?_toList, List.getElem?_eq_getElem hj, e2]
  rw [this]
  exact e
/-- a list of values that are ints, as pairs -/
theorem int_pairs {its : List Value} {ns : List Int} (hi : IntsAre its ns) : ∃ xs : Array (Int × Tok), its.toArray = intItems xs ∧ xs.toList.map (·.1) = ns := by
  obtain ⟨xs, e⟩ := hi.allInts.items
  refine ⟨xs, e, ?_⟩
  rw [← nums_intItems, ← e]
  exact hi.numsOf
theorem sum_tup {its : List Value} {ns : List Int} (free : A.handled = none) (tl : s.heap.IsTuple l its.toArray) (hi : IntsAre its ns)
    (k : ∀ g tk t, (∀ c u, s.heap.get? c = some u → g.get? c = some u) → Q (.int ns.sum t) { s with heap := g, toks := tk }) : wpAny (model prog w) A (call (.builtin "sum") [.ref l]) Q E s := by
  obtain ⟨xs, e, en⟩ := int_pairs hi
  rw [e] at tl
  refine call_sum_walkG (tup_go (A := A.in1) free tl fun s₂ I ⟨_, wk, st, lt, back⟩ ⟨g0, e2⟩ => ⟨I, _, _, _, _, _, numAt xs, rfl, wk, st, lt, fun _ _ hv => intItems_at hv, fun g tk t keep => ?_⟩)
  have key : preSum (numAt xs) (intItems xs).size = ns.sum := by
    rw [preSum_eq, List.take_of_length_le (by simp [intItems]), en]
  rw [key, e2]
  exact k g tk t (back g keep)
theorem max_tup {its : List Value} {ns : List Int} (free : A.handled = none) (tl : s.heap.IsTuple l its.toArray) (hi : IntsAre its ns) (some1 : 0 < ns.length)
    (k : ∀ g tk M t, (∀ c u, s.heap.get? c = some u → g.get? c = some u) → M ∈ ns → (∀ n ∈ ns, n ≤ M) → Q (.int M t) { s with heap := g, toks := tk }) : wpAny (model prog w) A (call (.builtin "max") [.ref l]) Q E s := by
  obtain ⟨xs, e, en⟩ := int_pairs hi
  rw [e] at tl
  have size1 : 0 < xs.size := by rw [← en, List.length_map, Array.length_toList] at some1; exact some1
  refine call_max_walk (tup_go (A := A.in1) free tl fun s₂ I ⟨_, wk, st, lt, back⟩ ⟨g0, e2⟩ => ⟨I, _, _, _, _, _, _, rfl, wk, st, lt, by simpa [intItems] using size1, CmpOf.ints_gt (numAt xs) (fun _ _ hv => intItems_at hv), fun v g tk hv keep => ?_⟩)
  obtain ⟨t, rfl⟩ := intItems_at (show (intItems xs)[argBest _ _]? = some v from hv)
  rw [e2]
  have sz : (intItems xs).size = xs.size := by simp [intItems]
  obtain ⟨b1, b2⟩ := argBest_gt (numAt xs) ((intItems xs).size - 1)
  refine k g tk _ t (back g keep) (en ▸ num_mem (by omega)) fun n hn => ?_
  obtain ⟨j, hj, rfl⟩ := mem_num (en.symm ▸ hn)
  exact b2 j (by omega)
theorem min_tup {its : List Value} {ns : List Int} (free : A.handled = none) (tl : s.heap.IsTuple l its.toArray) (hi : IntsAre its ns) (some1 : 0 < ns.length)
    (k : ∀ g tk M t, (∀ c u, s.heap.get? c = some u → g.get? c = some u) → M ∈ ns → (∀ n ∈ ns, M ≤ n) → Q (.int M t) { s with heap := g, toks := tk }) : wpAny (model prog w) A (call (.builtin "min") [.ref l]) Q E s := by
  obtain ⟨xs, e, en⟩ := int_pairs hi
  rw [e] at tl
  have size1 : 0 < xs.size := by rw [← en, List.length_map, Array.length_toList] at some1; exact some1
  refine call_min_walk (tup_go (A := A.in1) free tl fun s₂ I ⟨_, wk, st, lt, back⟩ ⟨g0, e2⟩ => ⟨I, _, _, _, _, _, _, rfl, wk, st, lt, by simpa [intItems] using size1, CmpOf.ints_lt (numAt xs) (fun _ _ hv => intItems_at hv), fun v g tk hv keep => ?_⟩)
  obtain ⟨t, rfl⟩ := intItems_at (show (intItems xs)[argBest _ _]? = some v from hv)
  rw [e2]
  have sz : (intItems xs).size = xs.size := by simp [intItems]
  obtain ⟨b1, b2⟩ := argBest_lt (numAt xs) ((intItems xs).size - 1)
  refine k g tk _ t (back g keep) (en ▸ num_mem (by omega)) fun n hn => ?_
  obtain ⟨j, hj, rfl⟩ := mem_num (en.symm ▸ hn)
  exact b2 j (by omega)
end
section
variable {X : Cx}
def rTupI (K : PySem.W.Frag) (one : Bool) (C : List Int → Int → Prop) : List V → Hp → VK → Prop := fun vs H Q => ∃ (p : Addr) (ns : List Int), vs = [.ref p] ∧ SqT K H p (ns.map V.int) ∧ (one = true → 0 < ns.length) ∧ ∀ m, C ns m → Q (.int m) H
theorem cr_sumT (calm : X.calm = true) : CallR X (.builtin "sum") (rTupI X.K false fun ns m => m = ns.sum) := fun pins s σ H vs us Q I r ⟨p, ns, e, ht, _, q⟩ => by
  subst e
  obtain ⟨its, rv, tl, _⟩ := I.tuple ht
  rw [Vals.ref1 r]
  exact sum_tup (I.ok.hd calm) tl rv.ints fun _ _ t keep => ⟨.int ns.sum, H, I.kept keep, ⟨t, rfl⟩, q _ rfl⟩
theorem cr_maxT (calm : X.calm = true) : CallR X (.builtin "max") (rTupI X.K true fun ns m => m ∈ ns ∧ ∀ n ∈ ns, n ≤ m) := fun pins s σ H vs us Q I r ⟨p, ns, e, ht, h1, q⟩ => by
  subst e
  obtain ⟨its, rv, tl, _⟩ := I.tuple ht
  rw [Vals.ref1 r]
  exact max_tup (I.ok.hd calm) tl rv.ints (h1 rfl) fun _ _ M t keep g1 g2 => ⟨.int M, H, I.kept keep, ⟨t, rfl⟩, q _ ⟨g1, g2⟩⟩
theorem cr_minT (calm : X.calm = true) : CallR X (.builtin "min") (rTupI X.K true fun ns m => m ∈ ns ∧ ∀ n ∈ ns, m ≤ n) := fun pins s σ H vs us Q I r ⟨p, ns, e, ht, h1, q⟩ => by
  subst e
  obtain ⟨its, rv, tl, _⟩ := I.tuple ht
  rw [Vals.ref1 r]
  exact min_tup (I.ok.hd calm) tl rv.ints (h1 rfl) fun _ _ M t keep g1 g2 => ⟨.int M, H, I.kept keep, ⟨t, rfl⟩, q _ ⟨g1, g2⟩⟩
end
theorem RepAll.tup1 {K : PySem.W.Frag} {H : Hp} {vs : List V} {ds : List D} (r : RepAll K H vs [.tup ds]) : ∃ p ws, vs = [.ref p] ∧ SqT K H p ws ∧ RepAll K H ws ds := by
  cases r with
  | cons r1 r2 =>
    cases r2
    cases r1 with
    | tup h ra => exact ⟨_, _, rfl, h, ra⟩
section
variable {X : Cx} {Hb Hb' : Hp} {a b c e : Expr} {es : List Expr} {Γ : Slots} {pos p' apos cpos : Pos} {d x y : D} {ds : List D} {S S' : D → Prop} {fr fr' : Bool}
theorem ev_sumT {pn : Pos} {ns : List Int} (hc : X.calm = true) (hm : X.mg "sum" = none) (hA : EvAs X Hb [a] Γ [.tup (ns.map .int)]) (hg : Gl X "sum" := by rfl) (he : starEach (a :: []) X.env = (false, eval a X.env) :: starEach [] X.env := by rfl) (hpl : (backTo pos (starEach [] X.env)).any (·.1) = false := by rfl) :
    Ev X Hb (.Call (.Name "sum" pn) [a] [] pos) Γ true (.int ns.sum) :=
  evn_B (cr_sumT hc) hm hA (fun vs H ds' Q s r k => by
    subst s
    obtain ⟨p, ws, e, hq, ra⟩ := r.tup1
    rw [ra.ints] at hq
    exact ⟨p, ns, e, hq, (fun z => nomatch z), fun m z => by subst z; exact k _ _ _ rfl Ex.refl (.int _) (FreshD.flat rfl)⟩) (by decide +kernel) hg (by decide) (by decide) he hpl
theorem ev_maxT {pn : Pos} {ns : List Int} {m : Int} (hc : X.calm = true) (hm : X.mg "max" = none) (hA : EvAs X Hb [a] Γ [.tup (ns.map .int)]) (h1 : m ∈ ns) (h2 : ∀ y ∈ ns, y ≤ m) (hg : Gl X "max" := by rfl) (he : starEach (a :: []) X.env = (false, eval a X.env) :: starEach [] X.env := by rfl) (hpl : (backTo pos (starEach [] X.env)).any (·.1) = false := by rfl) :
    Ev X Hb (.Call (.Name "max" pn) [a] [] pos) Γ true (.int m) :=
  evn_B (cr_maxT hc) hm hA (fun vs H ds' Q s r k => by
    subst s
    obtain ⟨p, ws, e, hq, ra⟩ := r.tup1
    rw [ra.ints] at hq
    exact ⟨p, ns, e, hq, (fun _ => List.length_pos_of_mem h1), fun m' ⟨g1, g2⟩ => by
      have : m' = m := Int.le_antisymm (h2 m' g1) (g2 m h1)
      subst this
      exact k _ _ _ rfl Ex.refl (.int _) (FreshD.flat rfl)⟩) (by decide +kernel) hg (by decide) (by decide) he hpl
theorem ev_minT {pn : Pos} {ns : List Int} {m : Int} (hc : X.calm = true) (hm : X.mg "min" = none) (hA : EvAs X Hb [a] Γ [.tup (ns.map .int)]) (h1 : m ∈ ns) (h2 : ∀ y ∈ ns, m ≤ y) (hg : Gl X "min" := by rfl) (he : starEach (a :: []) X.env = (false, eval a X.env) :: starEach [] X.env := by rfl) (hpl : (backTo pos (starEach [] X.env)).any (·.1) = false := by rfl) :
    Ev X Hb (.Call (.Name "min" pn) [a] [] pos) Γ true (.int m) :=
  evn_B (cr_minT hc) hm hA (fun vs H ds' Q s r k => by
    subst s
    obtain ⟨p, ws, e, hq, ra⟩ := r.tup1
    rw [ra.ints] at hq
    exact ⟨p, ns, e, hq, (fun _ => List.length_pos_of_mem h1), fun m' ⟨g1, g2⟩ => by
      have : m' = m := Int.le_antisymm (g2 m h1) (h2 m' g1)
      subst this
      exact k _ _ _ rfl Ex.refl (.int _) (FreshD.flat rfl)⟩) (by decide +kernel) hg (by decide) (by decide) he hpl
end
end L3

namespace L3
open PySem PySem.Spec PyProof.Rows L2
section
variable {X : Cx} {Hb Hb' : Hp} {a b c e : Expr} {es : List Expr} {Γ : Slots} {pos p' p2 apos apos2 cpos cpos2 : Pos} {d x y : D} {ds es' : List D} {S S' : D → Prop} {fr fr' : Bool} {D0 : Ends} {rest sts : List Stmt} {st : Stmt}
theorem idx_nat {n : Nat} {k : Int} (h0 : 0 ≤ k) (h1 : k < n) : seqIndex? k n = some k.toNat := by
  obtain ⟨j, rfl⟩ := Int.eq_ofNat_of_zero_le h0
  have h2 : ¬ ((j : Int) < 0) := by omega
  show (if (0 ≤ (if (j : Int) < 0 then (j : Int) + n else j) && (if (j : Int) < 0 then (j : Int) + n else j) < n) = true then some (if (j : Int) < 0 then (j : Int) + n else (j : Int)).toNat else none) = _
  rw [if_neg h2, if_pos (by rw [decide_eq_true (by omega), decide_eq_true h1]; rfl)]
/-- x.append(y.pop(e)), both of one's own -/
theorem go_appendPop (i j : Nat) {p q : Addr} {xn yn : Str} {S1 : Int → Prop} (ha : EvI1 X Hb e Γ fr S1) (hG : Γ[i]? = some (.own p ds) := by rfl) (hG2 : Γ[j]? = some (.own q es') := by rfl) (hij : i ≠ j) (hk : ∀ k, S1 k → 0 ≤ k ∧ k < es'.length) (hfl : D.flatAll es' = true) (hl : ds.length ≤ 100000) (hl2 : es'.length ≤ 100000)
    (g : ∀ k d, S1 k → es'[k.toNat]? = some d → Go X Hb rest D0 ((Γ.set j (.own q (es'.eraseIdx k.toNat))).set i (.own p (ds ++ [d])))) (hN : X.N[i]? = some xn := by rfl) (hN2 : X.N[j]? = some yn := by rfl)
    (hv : Vis X.env.scope xn := by first | exact Or.inl rfl | exact Or.inr (Or.inl rfl) | exact Or.inr (Or.inr rfl)) (hdb : (xn == ("__debug__" : Str)) = false := by decide) (hcd : (xn == ("__classdict__" : Str)) = false := by decide)
    (hv2 : Vis X.env.scope yn := by first | exact Or.inl rfl | exact Or.inr (Or.inl rfl) | exact Or.inr (Or.inr rfl)) (hdb2 : (yn == ("__debug__" : Str)) = false := by decide) (hcd2 : (yn == ("__classdict__" : Str)) = false := by decide)
    (hbase : attributeBase (.Name xn p') "append" X.env (eval (.Name xn p') X.env) = eval (.Name xn p') X.env := by rfl) (hbase2 : attributeBase (.Name yn p2) "pop" X.env (eval (.Name yn p2) X.env) = eval (.Name yn p2) X.env := by rfl)
    (hfew : ((backTo cpos (starEach [.Call (.Attribute (.Name yn p2) "pop" apos2) [e] [] cpos2] X.env)).all (fun x => !x.1) && (backToKw cpos (keywordEach [] X.env)).all (fun x => x.1.isSome) && decide (([.Call (.Attribute (.Name yn p2) "pop" apos2) [e] [] cpos2] : List Expr).length + ([] : List Keyword).length + (if ([] : List Keyword).isEmpty then 0 else 1) < 30)) = true := by rfl)
    (hfew2 : ((backTo cpos2 (starEach [e] X.env)).all (fun x => !x.1) && (backToKw cpos2 (keywordEach [] X.env)).all (fun x => x.1.isSome) && decide (([e] : List Expr).length + ([] : List Keyword).length + (if ([] : List Keyword).isEmpty then 0 else 1) < 30)) = true := by rfl)
    (hline : (apos.endLine == cpos.line) = true := by rfl) (hline2 : (apos2.endLine == cpos2.line) = true := by rfl)
    (hs : starEach ([.Call (.Attribute (.Name yn p2) "pop" apos2) [e] [] cpos2] : List Expr) X.env = (false, eval (.Call (.Attribute (.Name yn p2) "pop" apos2) [e] [] cpos2) X.env) :: starEach [] X.env := by rfl) (hs2 : starEach [e] X.env = (false, eval e X.env) :: starEach [] X.env := by rfl)
    (hplain : (backTo cpos (starEach [] X.env)).any (·.1) = false := by rfl) (hplain2 : (backTo cpos2 (starEach [] X.env)).any (·.1) = false := by rfl)
    (hsw : swapsWith (.Call (.Attribute (.Name xn p') "append" apos) [.Call (.Attribute (.Name yn p2) "pop" apos2) [e] [] cpos2] [] cpos) none pos.line X.env = pure false := by rfl) :
    Go X Hb (.Expr (.Call (.Attribute (.Name xn p') "append" apos) [.Call (.Attribute (.Name yn p2) "pop" apos2) [e] [] cpos2] [] cpos) pos :: rest) D0 Γ := fun σ H en => by
  obtain ⟨hσ, vs, hl1, _, _⟩ := en.ownW hG
  obtain ⟨hσ2, us, hu1, _, _⟩ := en.ownW hG2
  have pp := pe_bm (X := X) PySem.F.plainAttrs_list PySem.F.slot_list_pop PySem.F.type_list_pop mt_popAt (pe_var hN2 hv2 hdb2 hcd2) (pa_cons (semE X e) pa_nil hs2) hbase2 hfew2 hline2 hs2 hplain2
  refine SemSs.cons (ps_expr (pe_bm PySem.F.plainAttrs_list PySem.F.slot_list_append PySem.F.type_list_append mt_append (pe_var hN hv hdb hcd) (pa_cons pp pa_nil hs) hbase hfew hline hs hplain) hsw) ?_
  refine ⟨_, hσ, .inl ⟨rfl, _, SqL.of hl1⟩, _, hσ2, .inl ⟨rfl, _, SqL.of hu1⟩, ha σ H en _ fun v H' dk ⟨k, ek, sk⟩ x r _ => ?_⟩
  subst ek
  cases r
  have en' := en.ex x
  obtain ⟨_, ws2, hw2, rw2, ls⟩ := en'.ownW hG2
  obtain ⟨k0, k1⟩ := hk k sk
  have hlen : ws2.length = es'.length := rw2.length
  have hkn : k.toNat < es'.length := by omega
  obtain ⟨z, hz, rz⟩ := rw2.get (List.getElem?_eq_getElem hkn)
  refine ⟨q, ws2, k, k.toNat, z, rfl, rfl, hw2, by omega, by omega, idx_nat k0 (by omega), hz, ?_⟩
  have en2 := en'.mutOwn hG2 (rw2.eraseIdx k.toNat)
  have hG' : (Γ.set j (.own q (es'.eraseIdx k.toNat)))[i]? = some (.own p ds) := by rw [List.getElem?_set_ne (fun z => hij z.symm)]; exact hG
  obtain ⟨_, ws, hw, rw', ls'⟩ := en2.ownW hG'
  refine ⟨p, ws, z, rfl, rfl, hw, by rw [rw'.length]; exact Nat.lt_of_le_of_lt hl (by decide), ?_⟩
  have eh : Ex (hide H' (owns Γ)) (upd H' q (.lst (ws2.eraseIdx k.toNat))) := by
    have : hide H' (owns Γ) q = none := hide_in (owns_of hG2)
    exact Ex.mut hide_ex this
  have fz : (es'[k.toNat]).flat = true := by
    have key : ∀ {l : List D} {n : Nat} (h : n < l.length), D.flatAll l = true → (l[n]).flat = true := by
      intro l
      induction l with
      | nil => intro n h; exact absurd h (Nat.not_lt_zero _)
      | cons a r ih =>
        intro n h f
        have f' : (D.flat a && D.flatAll r) = true := f
        obtain ⟨f1, f2⟩ := Bool.and_eq_true_iff.mp f'
        cases n with
        | zero => exact f1
        | succ n => exact ih (Nat.lt_of_succ_lt_succ h) f2
    exact key hkn hfl
  exact g k _ sk (List.getElem?_eq_getElem hkn) σ _ (en2.mutOwn hG' (rw'.append (.cons ((rz.ex eh).hide ls' fz) .nil)))
end
end L3

namespace L3
open PySem PySem.Spec PyProof.Rows L2
/-! ### slots by their names -/
inductive Look : List Str → Slots → Str → Ent → Prop
  | z {N : List Str} {Γ : Slots} {x : Str} {e : Ent} : Look (x :: N) (e :: Γ) x e
  | s {N : List Str} {Γ : Slots} {x y : Str} {e e' : Ent} : Look N Γ x e → Look (y :: N) (e' :: Γ) x e
inductive Up : List Str → Slots → Str → Ent → Slots → Prop
  | z {N : List Str} {Γ : Slots} {x : Str} {e e' : Ent} : Up (x :: N) (e' :: Γ) x e (e :: Γ)
  | s {N : List Str} {Γ Γ' : Slots} {x y : Str} {e e' : Ent} : Up N Γ x e Γ' → Up (y :: N) (e' :: Γ) x e (e' :: Γ')
theorem Look.ix : ∀ {N : List Str} {Γ : Slots} {x : Str} {e : Ent}, Look N Γ x e → ∃ i : Nat, N[i]? = some x ∧ Γ[i]? = some e
  | _, _, _, _, .z => ⟨0, rfl, rfl⟩
  | _, _, _, _, .s h => let ⟨i, a, b⟩ := Look.ix h; ⟨i + 1, by simpa using a, by simpa using b⟩
theorem Up.ix : ∀ {N : List Str} {Γ Γ' : Slots} {x : Str} {e : Ent}, Up N Γ x e Γ' → ∃ i : Nat, N[i]? = some x ∧ Γ' = Γ.set i e
  | _, _, _, _, _, .z => ⟨0, rfl, rfl⟩
  | _, _, _, _, _, .s h => let ⟨i, a, b⟩ := Up.ix h; ⟨i + 1, by simpa using a, by rw [b]; rfl⟩
section
variable {X : Cx} {Hb Hb' : Hp} {a b c e : Expr} {es : List Expr} {Γ Γ' : Slots} {pos p' p2 apos cpos : Pos} {d x y : D} {ds : List D} {Q S S' : D → Prop} {fr : Bool} {D0 : Ends} {rest sts : List Stmt} {st : Stmt}
/-! ### the walk, by what is wanted behind -/
theorem EvN.fresh (h : EvN X Hb e Γ true S) : EvN X Hb e Γ fr S := by
  cases fr
  · exact h.weak
  · exact h
theorem w_det (h : Ev X Hb e Γ fr d) (q : Q d) : EvN X Hb e Γ fr Q := h.imp fun _ z => by rw [z]; exact q
theorem w_scal (h : EvN X Hb e Γ false fun d => isCont d = false ∧ Q d) : EvN X Hb e Γ true Q := fun σ H en Q' q => h σ H en Q' fun v H' d ⟨hc, s⟩ ex r _ => q v H' d s ex r fun _ => FreshD.flat hc
theorem and2 {A B : Prop} (b : B) (a : A) : A ∧ B := ⟨a, b⟩
theorem w_name {xn : Str} (hL : Look X.N Γ xn (.dat d)) (q : Q d) (hv : Vis X.env.scope xn := by first | exact Or.inl rfl | exact Or.inr (Or.inl rfl) | exact Or.inr (Or.inr rfl)) (hd : (xn == ("__debug__" : Str)) = false := by decide)
    (hcd : (xn == ("__classdict__" : Str)) = false := by decide) : EvN X Hb (.Name xn pos) Γ false Q := by
  obtain ⟨i, hN, hG⟩ := hL.ix
  exact w_det (ev_dat i hG hN hv hd hcd) q
theorem w_own {xn : Str} {p : Addr} (hL : Look X.N Γ xn (.own p ds)) (q : Q (.lst ds)) (hv : Vis X.env.scope xn := by first | exact Or.inl rfl | exact Or.inr (Or.inl rfl) | exact Or.inr (Or.inr rfl)) (hd : (xn == ("__debug__" : Str)) = false := by decide)
    (hcd : (xn == ("__classdict__" : Str)) = false := by decide) : EvN X Hb (.Name xn pos) Γ false Q := by
  obtain ⟨i, hN, hG⟩ := hL.ix
  exact w_det (ev_own i hG hN hv hd hcd) q
theorem w_gv {xn : Str} (h : Gv X.K X.mg xn d) (q : Q d) (hg : Gl X xn := by rfl) (hd : (xn == ("__debug__" : Str)) = false := by decide) : EvN X Hb (.Name xn pos) Γ false Q := w_det (ev_gv h hg hd) q
theorem w_int {i : Int} {j} (q : Q (.int i)) : EvN X Hb (.Constant (.int i) j pos) Γ fr Q := (w_det ev_int q).fresh
theorem w_bl {i : Bool} {j} (q : Q (.bl i)) : EvN X Hb (.Constant (.bool i) j pos) Γ fr Q := (w_det ev_bl q).fresh
theorem w_non {j} (q : Q .non) : EvN X Hb (.Constant .none j pos) Γ fr Q := (w_det ev_non q).fresh
theorem w_str {i : Str} {j} (q : Q (.str i)) : EvN X Hb (.Constant (.str i) j pos) Γ fr Q := (w_det ev_str q).fresh
/-! operators: what is asked of the data -/
/-- what f must do with d1, d2 -/
def OpD (X : Cx) (f : Value → Value → Sem Value) (d1 d2 : D) (Q : D → Prop) : Prop :=
  ∀ (pins : List (Addr × Obj)) (s : Shared) (σ : L2.St) (H : Hp) (x y : V) (v u : Value) (Q' : VK), Inv X pins σ H s → RelV x v → RelV y u → Rep X.K H x d1 → Rep X.K H y d2 → (∀ w H' d, Q d → Ex H H' → Rep X.K H' w d → FreshD X.K H H' w d → Q' w H') →
    wpAny (model X.prog X.w) X.A (f v u) (EP X pins σ Q') X.xe s
theorem OpD.of {f : Value → Value → Sem Value} {r : R2} {d1 d2 : D} (h : OpR X f r) (k : ∀ (x y : V) (H : Hp) (Q' : VK), Rep X.K H x d1 → Rep X.K H y d2 → (∀ w H' d, Q d → Ex H H' → Rep X.K H' w d → FreshD X.K H H' w d → Q' w H') → r x y H Q') : OpD X f d1 d2 Q :=
  fun pins s σ H x y v u Q' I rx ry r1 r2 q => h pins s σ H x y v u Q' I rx ry (k x y H Q' r1 r2 q)
theorem OpD.i {f : Value → Value → Sem Value} {C : Int → Int → Prop} {g : Int → Int → V} {i j : Int} {z : D} (h : OpR X f (rI C g)) (hc : C i j) (hz : ∀ H, Rep X.K H (g i j) z) (hf : isCont z = false) (q : Q z) : OpD X f (.int i) (.int j) Q :=
  OpD.of h fun x y H Q' r1 r2 k => by
    cases r1
    cases r2
    exact ⟨i, j, rfl, rfl, hc, k _ H z q Ex.refl (hz H) (FreshD.flat hf)⟩
def rSem (X : Cx) (f : Value → Value → Sem Value) : R2 := fun x y H Q => ∀ (pins : List (Addr × Obj)) (s : Shared) (σ : L2.St) (v u : Value), Inv X pins σ H s → RelV x v → RelV y u → wpAny (model X.prog X.w) X.A (f v u) (EP X pins σ Q) X.xe s
theorem rSem_op {f : Value → Value → Sem Value} : OpR X f (rSem X f) := fun pins s σ H x y v u Q I rx ry h => h pins s σ v u I rx ry
theorem w_bin {op : Operator} (h : EvN X Hb a Γ false fun d1 => EvN X Hb b Γ false fun d2 => OpD X (binaryOp op) d1 d2 Q) : EvN X Hb (.BinOp a op b pos) Γ fr Q := EvN.fresh fun σ H en Q' q =>
  SemE.of (pe_op rSem_op (semE X a) (semE X b)) (h σ H en _ fun v H1 d1 s1 x1 r1 _ => s1 σ H1 (en.ex x1) _ fun w H2 d2 s2 x2 r2 _ => fun pins s σ' v' u' I rx ry =>
    s2 pins s σ' H2 v w v' u' Q' I rx ry (r1.ex x2) r2 fun u H3 d3 q3 x3 r3 f3 => q u H3 d3 q3 ((x1.trans x2).trans x3) r3 fun _ => f3.back (x1.trans x2))
theorem opd_add {i j : Int} (q : Q (.int (i + j))) : OpD X (binaryOp .Add) (.int i) (.int j) Q := OpD.i (opI0' op_add) trivial (fun _ => .int _) rfl q
theorem opd_sub {i j : Int} (q : Q (.int (i - j))) : OpD X (binaryOp .Sub) (.int i) (.int j) Q := OpD.i (opI0' op_sub) trivial (fun _ => .int _) rfl q
theorem opd_mul {i j : Int} (q : Q (.int (i * j))) (hc : IntMulOk i j) : OpD X (binaryOp .Mult) (.int i) (.int j) Q := OpD.i (C := IntMulOk) (g := fun i j => .int (i * j)) (opI fun _ _ _ _ _ _ _ hc q => mul_int q hc) hc (fun _ => .int _) rfl q
theorem opd_fdiv {i j : Int} (q : Q (.int (i.fdiv j))) (hc : CDivX i j) : OpD X (binaryOp .FloorDiv) (.int i) (.int j) Q := OpD.i op_fdivX hc (fun _ => .int _) rfl q
theorem opd_mod {i j : Int} (q : Q (.int (i.fmod j))) (hc : j ≠ 0) : OpD X (binaryOp .Mod) (.int i) (.int j) Q := OpD.i op_modN hc (fun _ => .int _) rfl q
theorem opd_pow {i j : Int} (q : Q (.int (i ^ j.toNat))) (hc : 0 ≤ j ∧ (Builtin.Int.intBits i : Int) * j ≤ 2 ^ 27) : OpD X (binaryOp .Pow) (.int i) (.int j) Q := OpD.i op_powX hc (fun _ => .int _) rfl q
theorem opd_catL {xs ys : List D} (q : Q (.lst (xs ++ ys))) (hl : xs.length + ys.length ≤ 100000) : OpD X (binaryOp .Add) (.lst xs) (.lst ys) Q := OpD.of op_catP fun x y H Q' r1 r2 k => by
  cases r1 with
  | lst ha ra =>
    cases r2 with
    | lst hb rb =>
      refine ⟨_, _, _, _, rfl, rfl, ha, hb, by rw [ra.length, rb.length]; exact Nat.le_trans hl (by decide), fun p hp => ?_⟩
      have r3 := ra.append rb
      exact k _ _ _ q (Ex.new hp) (.lst (SqL.of upd_same) (r3.ex (Ex.new hp))) (freshL hp Ex.refl r3)
theorem opd_catT {xs ys : List D} (q : Q (.tup (xs ++ ys))) (hl : xs.length + ys.length ≤ 100000) : OpD X (binaryOp .Add) (.tup xs) (.tup ys) Q := OpD.of op_catA fun x y H Q' r1 r2 k => by
  cases r1 with
  | tup ha ra =>
    cases r2 with
    | tup hb rb =>
      refine ⟨_, _, _, _, rfl, rfl, ha, hb, by rw [ra.length, rb.length]; exact Nat.le_trans hl (by decide), fun e => ?_, fun _ e => ?_, fun _ _ p hp => ?_⟩
      · subst e
        cases ra
        exact k _ _ _ q Ex.refl (.tup hb rb) (FreshD.flat rfl)
      · subst e
        cases rb
        refine k _ _ _ q Ex.refl ?_ (FreshD.flat rfl)
        rw [List.append_nil]
        exact .tup ha ra
      · exact k _ _ _ q (Ex.new hp) (.tup (SqT.of upd_same) ((ra.ex (Ex.new hp)).append (rb.ex (Ex.new hp)))) (FreshD.flat rfl)
theorem opd_repT {xs : List D} {k : Int} (q : Q (.tup (List.replicate k.toNat xs).flatten)) (h : xs ≠ [] ∧ xs.length ≤ 1000 ∧ 1 ≤ k ∧ k ≤ 1000) : OpD X (binaryOp .Mult) (.tup xs) (.int k) Q := by
  obtain ⟨h0, hl, h1, h2⟩ := h
  refine OpD.of (r := fun x y H Q => rRepT1 X.K x y H Q ∨ rRepT X.K x y H Q) (fun pins s σ H x y v u Q I rx ry h => by
      rcases h with h | h
      · exact op_repT1 pins s σ H x y v u Q I rx ry h
      · exact op_repT pins s σ H x y v u Q I rx ry h) fun x y H Q' r1 r2 kk => ?_
  cases r2
  cases r1 with
  | tup hq ra =>
    by_cases e : k = 1
    · subst e
      have ef : (List.replicate (1 : Int).toNat xs).flatten = xs := by show (List.replicate 1 xs).flatten = xs; simp
      exact .inl ⟨_, _, rfl, rfl, hq, kk _ H (.tup xs) (ef ▸ q) Ex.refl (.tup hq ra) (FreshD.flat rfl)⟩
    · have r3 : ∀ n vs, RepAll X.K H vs xs → RepAll X.K H (List.replicate n vs).flatten (List.replicate n xs).flatten := fun n vs ra => by
        induction n with
        | zero => exact .nil
        | succ n ih => rw [List.replicate_succ, List.replicate_succ, List.flatten_cons, List.flatten_cons]; exact ra.append ih
      refine .inr ⟨_, k, _, rfl, rfl, hq, fun z => ?_, by omega, h2, by rw [ra.length]; exact hl, fun p hp => kk _ _ _ q (Ex.new hp) (.tup (SqT.of upd_same) ((r3 _ _ ra).ex (Ex.new hp))) (FreshD.flat rfl)⟩
      have := ra.length
      rw [z] at this
      exact h0 (List.eq_nil_of_length_eq_zero this.symm)
theorem w_neg (h : EvN X Hb a Γ false fun d => ∃ i, d = .int i ∧ Q (.int (-i))) : EvN X Hb (.UnaryOp .USub a pos) Γ fr Q := EvN.fresh fun σ H en Q' q =>
  SemE.of (pe_un un_neg (semE X a)) (h σ H en _ fun v H1 d1 ⟨i, e1, s⟩ x1 r1 _ => by
    subst e1
    cases r1
    exact ⟨i, rfl, q _ H1 _ s x1 (.int _) fun _ => FreshD.flat rfl⟩)
/-- a new list, so many times -/
theorem w_repL (h : EvN X Hb a Γ true fun d1 => EvN X Hb b Γ false fun d2 => ∃ xs k, d1 = .lst xs ∧ d2 = .int k ∧ (k < 100000 ∧ -1000 ≤ k ∧ xs.length * k.toNat ≤ 100000) ∧ Q (.lst (List.replicate k.toNat xs).flatten)) : EvN X Hb (.BinOp a .Mult b pos) Γ fr Q := EvN.fresh fun σ H en Q' q =>
  SemE.of (pe_op op_rep (semE X a) (semE X b)) (h σ H en _ fun v H1 d1 s1 x1 r1 f1 => s1 σ H1 (en.ex x1) _ fun w H2 d2 ⟨xs, k, e1, e2, ⟨h1, h0, hl2⟩, s⟩ x2 r2 _ => by
    subst e1 e2
    obtain ⟨p, vs, rfl, hp, hl, ra⟩ := f1 rfl
    have xx := x1.trans x2
    cases r2
    refine ⟨p, k, vs, rfl, rfl, x2 _ _ hl, by omega, by omega, by rw [ra.length]; exact Nat.le_trans hl2 (by decide), fun q' hq' => ?_⟩
    have r3 : ∀ n, RepAll X.K H2 (List.replicate n vs).flatten (List.replicate n xs).flatten := fun n => by
      induction n with
      | zero => exact .nil
      | succ n ih => rw [List.replicate_succ, List.replicate_succ, List.flatten_cons, List.flatten_cons]; exact (ra.ex x2).append ih
    exact q _ _ _ s (xx.trans (Ex.new hq')) (.lst (SqL.of upd_same) ((r3 _).ex (Ex.new hq'))) fun _ => freshL hq' xx (r3 _))
/-! comparisons -/
def CmpD (X : Cx) (op : CmpOp) (d1 d2 : D) (S : Bool → Prop) : Prop :=
  ∀ (pins : List (Addr × Obj)) (s : Shared) (σ : L2.St) (H : Hp) (x y : V) (v u : Value) (Q' : VK), Inv X pins σ H s → RelV x v → RelV y u → Rep X.K H x d1 → Rep X.K H y d2 → (∀ k, S k → Q' (.bl k) H) →
    wpAny (model X.prog X.w) X.A (compareOp op v u) (EP X pins σ Q') X.xe s
theorem CmpD.of {op : CmpOp} {r : R2} {d1 d2 : D} {S : Bool → Prop} (h : OpR X (compareOp op) r) (k : ∀ (x y : V) (H : Hp) (Q' : VK), Rep X.K H x d1 → Rep X.K H y d2 → (∀ k, S k → Q' (.bl k) H) → r x y H Q') : CmpD X op d1 d2 S :=
  fun pins s σ H x y v u Q' I rx ry r1 r2 q => h pins s σ H x y v u Q' I rx ry (k x y H Q' r1 r2 q)
theorem w_cmp {op : CmpOp} (h : EvN X Hb a Γ false fun d1 => EvN X Hb b Γ false fun d2 => CmpD X op d1 d2 fun k => Q (.bl k)) (hm : behindInMarks op b = false := by exact nomark _) : EvN X Hb (.Compare a [op] [b] pos) Γ fr Q := EvN.fresh fun σ H en Q' q =>
  SemE.of (pe_cmpR rSem_op (semE X a) (semE X b) hm) (h σ H en _ fun v H1 d1 s1 x1 r1 _ => s1 σ H1 (en.ex x1) _ fun w H2 d2 s2 x2 r2 _ => fun pins s σ' v' u' I rx ry =>
    s2 pins s σ' H2 v w v' u' Q' I rx ry (r1.ex x2) r2 fun k q3 => q _ H2 _ q3 (x1.trans x2) (.bl k) fun _ => FreshD.flat rfl)
theorem wt_cmp {op : CmpOp} {S : Bool → Prop} (h : EvN X Hb a Γ false fun d1 => EvN X Hb b Γ false fun d2 => CmpD X op d1 d2 S) (hm : behindInMarks op b = false := by exact nomark _) : EvT X Hb (.Compare a [op] [b] pos) Γ S := fun σ H en Q' q =>
  SemT.of (pt_cmpR rSem_op (semE X a) (semE X b) hm) (h σ H en _ fun v H1 d1 s1 x1 r1 _ => s1 σ H1 (en.ex x1) _ fun w H2 d2 s2 x2 r2 _ => fun pins s σ' v' u' I rx ry =>
    s2 pins s σ' H2 v w v' u' _ I rx ry (r1.ex x2) r2 fun k q3 => ⟨k, rfl, q k H2 q3 (x1.trans x2)⟩)
theorem CmpD.i {op : CmpOp} {g : Int → Int → Bool} {i j : Int} {S : Bool → Prop} (h : OpR X (compareOp op) (rI0 fun i j => .bl (g i j))) (q : S (g i j)) : CmpD X op (.int i) (.int j) S :=
  CmpD.of h fun x y H Q' r1 r2 k => by
    cases r1
    cases r2
    exact ⟨i, j, rfl, rfl, k _ q⟩
section
variable {i j : Int} {S : Bool → Prop}
theorem cmp_lt (q : S (decide (i < j))) : CmpD X .Lt (.int i) (.int j) S := CmpD.i op_lt q
theorem cmp_le (q : S (decide (i ≤ j))) : CmpD X .LtE (.int i) (.int j) S := CmpD.i op_le q
theorem cmp_gt (q : S (decide (j < i))) : CmpD X .Gt (.int i) (.int j) S := CmpD.i op_gt q
theorem cmp_ge (q : S (decide (j ≤ i))) : CmpD X .GtE (.int i) (.int j) S := CmpD.i op_ge q
theorem cmp_eqI (q : S (decide (i = j))) : CmpD X .Eq (.int i) (.int j) S := CmpD.i opEqI q
theorem cmp_neI (q : S (!decide (i = j))) : CmpD X .NotEq (.int i) (.int j) S := CmpD.i opNeI q
theorem cmp_eqS {i j : Str} (q : S (decide (i = j))) : CmpD X .Eq (.str i) (.str j) S := CmpD.of opEqS fun x y H Q' r1 r2 k => by
  cases r1; cases r2
  exact ⟨i, j, rfl, rfl, k _ q⟩
theorem cmp_neS {i j : Str} (q : S (!decide (i = j))) : CmpD X .NotEq (.str i) (.str j) S := CmpD.of opNeS fun x y H Q' r1 r2 k => by
  cases r1; cases r2
  exact ⟨i, j, rfl, rfl, k _ q⟩
theorem cmp_isB {i j : Bool} (q : S (decide (i = j))) : CmpD X .Is (.bl i) (.bl j) S := CmpD.of op_is_bl fun x y H Q' r1 r2 k => by
  cases r1; cases r2
  exact ⟨i, j, rfl, rfl, k _ q⟩
theorem cmp_notB {i j : Bool} (q : S (!decide (i = j))) : CmpD X .IsNot (.bl i) (.bl j) S := CmpD.of op_isnot_bl fun x y H Q' r1 r2 k => by
  cases r1; cases r2
  exact ⟨i, j, rfl, rfl, k _ q⟩
theorem cmp_isN (q : S (isNon d)) : CmpD X .Is d .non S := CmpD.of op_isN fun x y H Q' r1 r2 k => by
  cases r2
  refine ⟨rfl, ?_⟩
  rw [r1.isNon]
  exact k _ q
theorem cmp_notN (q : S (!isNon d)) : CmpD X .IsNot d .non S := CmpD.of op_notN fun x y H Q' r1 r2 k => by
  cases r2
  refine ⟨rfl, ?_⟩
  rw [r1.isNon]
  exact k _ q
theorem cmp_eqB {i j : Bool} (q : S (decide (i = j))) : CmpD X .Eq (.bl i) (.bl j) S := CmpD.of op_eq fun x y H Q' r1 r2 k => by
  cases r1; cases r2
  refine ⟨rfl, ?_⟩
  rw [show decide (V.bl i = V.bl j) = decide (i = j) from by simp]
  exact k _ q
theorem cmp_neB {i j : Bool} (q : S (!decide (i = j))) : CmpD X .NotEq (.bl i) (.bl j) S := CmpD.of op_ne fun x y H Q' r1 r2 k => by
  cases r1; cases r2
  refine ⟨rfl, ?_⟩
  rw [show decide (V.bl i = V.bl j) = decide (i = j) from by simp]
  exact k _ q
theorem cmp_eqD {n : Nat} {d1 d2 : D} (hr : Room n X.A) (q : S (PyData.eqv d1.py d2.py)) (h : (d1.ok = true ∧ d2.ok = true) ∧ SeqAt.shaped d1.py = true ∧ SeqAt.shaped d2.py = true) : CmpD X .Eq d1 d2 S := CmpD.of (op_eqR hr.units) fun x y H Q' r1 r2 k => ⟨_, _, r1, r2, h.1.1, h.1.2, h.2.1, h.2.2, k _ q⟩
theorem cmp_neD {n : Nat} {d1 d2 : D} (hr : Room n X.A) (q : S (!PyData.eqv d1.py d2.py)) (h : (d1.ok = true ∧ d2.ok = true) ∧ SeqAt.shaped d1.py = true ∧ SeqAt.shaped d2.py = true) : CmpD X .NotEq d1 d2 S := CmpD.of (op_neR hr.units) fun x y H Q' r1 r2 k => ⟨_, _, r1, r2, h.1.1, h.1.2, h.2.1, h.2.2, k _ q⟩
theorem cmp_eq0L {n : Nat} (hr : Room n X.A) (q : S ds.isEmpty) : CmpD X .Eq (.lst ds) (.lst []) S := CmpD.of (op_eq0 hr.units) fun x y H Q' r1 r2 k => by
  obtain ⟨a, b, xs, q1, q2, q3, q4⟩ := sq_of (.inl ⟨rfl, rfl⟩) Ex.refl r1 r2
  exact ⟨a, b, xs, q1, q2, q3, k _ (by rw [q4]; exact q)⟩
theorem cmp_eq0T {n : Nat} (hr : Room n X.A) (q : S ds.isEmpty) : CmpD X .Eq (.tup ds) (.tup []) S := CmpD.of (op_eq0 hr.units) fun x y H Q' r1 r2 k => by
  obtain ⟨a, b, xs, q1, q2, q3, q4⟩ := sq_of (.inr ⟨rfl, rfl⟩) Ex.refl r1 r2
  exact ⟨a, b, xs, q1, q2, q3, k _ (by rw [q4]; exact q)⟩
theorem cmp_ne0L {n : Nat} (hr : Room n X.A) (q : S (!ds.isEmpty)) : CmpD X .NotEq (.lst ds) (.lst []) S := CmpD.of (op_ne0 hr.units) fun x y H Q' r1 r2 k => by
  obtain ⟨a, b, xs, q1, q2, q3, q4⟩ := sq_of (.inl ⟨rfl, rfl⟩) Ex.refl r1 r2
  exact ⟨a, b, xs, q1, q2, q3, k _ (by rw [q4]; exact q)⟩
theorem cmp_ne0T {n : Nat} (hr : Room n X.A) (q : S (!ds.isEmpty)) : CmpD X .NotEq (.tup ds) (.tup []) S := CmpD.of (op_ne0 hr.units) fun x y H Q' r1 r2 k => by
  obtain ⟨a, b, xs, q1, q2, q3, q4⟩ := sq_of (.inr ⟨rfl, rfl⟩) Ex.refl r1 r2
  exact ⟨a, b, xs, q1, q2, q3, k _ (by rw [q4]; exact q)⟩
end
/-- a <= b <= c, ints -/
theorem w_chain {op op' : CmpOp} {g g' : Int → Int → Bool} (ho : OpR X (compareOp op) (rI0 fun i j => .bl (g i j))) (ho' : OpR X (compareOp op') (rI0 fun i j => .bl (g' i j))) {i j k : Int} (ha : Ev X Hb a Γ false (.int i)) (hb : Ev X Hb b Γ false (.int j)) (hc : Ev X Hb c Γ false (.int k)) (q : Q (.bl (g i j && g' j k)))
    (hm : lastMarks [op, op'] [b, c] = false := by with_unfolding_all rfl) : EvN X Hb (.Compare a [op, op'] [b, c] pos) Γ fr Q := (w_det (ev_chain ho ho' ha hb hc hm) q).fresh
theorem wt_chain {op op' : CmpOp} {g g' : Int → Int → Bool} {S : Bool → Prop} (ho : OpR X (compareOp op) (rI0 fun i j => .bl (g i j))) (ho' : OpR X (compareOp op') (rI0 fun i j => .bl (g' i j))) {i j k : Int} (ha : Ev X Hb a Γ false (.int i)) (hb : Ev X Hb b Γ false (.int j)) (hc : Ev X Hb c Γ false (.int k)) (q : S (g i j && g' j k))
    (hm : lastMarks [op, op'] [b, c] = false := by with_unfolding_all rfl) : EvT X Hb (.Compare a [op, op'] [b, c] pos) Γ S := (evt_chain ho ho' ha hb hc hm).imp fun _ z => by rw [z]; exact q
/-! tests -/
theorem wt_val {S : Bool → Prop} (h : EvN X Hb e Γ false fun z => ∃ k, z = .bl k ∧ S k) (he : ∀ whole, isTrue e X.env whole = (do let v ← whole; standAt e.pos; holding [v] (truthy v)) := by intro _; rfl) : EvT X Hb e Γ S := evt_val h he
theorem wt_not {S : Bool → Prop} (h : EvT X Hb e Γ fun b => S (!b)) : EvT X Hb (.UnaryOp .Not e pos) Γ S := evt_not h
theorem w_not (h : EvN X Hb a Γ false fun d => ∃ k, d = .bl k ∧ Q (.bl (!k))) : EvN X Hb (.UnaryOp .Not a pos) Γ fr Q := EvN.fresh fun σ H en Q' q =>
  SemE.of (pe_not (semE X a)) (h σ H en _ fun v H1 d1 ⟨k, e1, s⟩ x1 r1 _ => by
    subst e1
    cases r1
    exact ⟨k, rfl, q _ _ _ s x1 (.bl _) fun _ => FreshD.flat rfl⟩)
theorem wt_and {k k' : Bool} {S : Bool → Prop} (h : EvB X Hb a Γ k) (hb : k = true → EvW X Hb (.BoolOp .And (b :: es) pos) Γ (· = k')) (q : S (k && k')) : EvT X Hb (.BoolOp .And (a :: b :: es) pos) Γ S := (EvW.t (evw_andD h hb)).imp fun _ z => by rw [z]; exact q
theorem wt_or {k k' : Bool} {S : Bool → Prop} (h : EvB X Hb a Γ k) (hb : k = false → EvW X Hb (.BoolOp .Or (b :: es) pos) Γ (· = k')) (q : S (k || k')) : EvT X Hb (.BoolOp .Or (a :: b :: es) pos) Γ S := (EvW.t (evw_orD h hb)).imp fun _ z => by rw [z]; exact q
theorem w_and {k k' : Bool} (h : Ev X Hb a Γ false (.bl k)) (hb : k = true → Ev X Hb (.BoolOp .And (b :: es) pos) Γ true (.bl k')) (q : Q (.bl (k && k'))) : EvN X Hb (.BoolOp .And (a :: b :: es) pos) Γ fr Q := (w_det (ev_andD h hb) q).fresh
theorem w_or {k k' : Bool} (h : Ev X Hb a Γ false (.bl k)) (hb : k = false → Ev X Hb (.BoolOp .Or (b :: es) pos) Γ true (.bl k')) (q : Q (.bl (k || k'))) : EvN X Hb (.BoolOp .Or (a :: b :: es) pos) Γ fr Q := (w_det (ev_orD h hb) q).fresh
theorem w_if {k : Bool} {d1 d2 : D} (hc : EvB X Hb c Γ k) (ha : k = true → Ev X Hb a Γ fr d1) (hb : k = false → Ev X Hb b Γ fr d2) (q : Q (if k then d1 else d2)) : EvN X Hb (.IfExp c a b pos) Γ fr Q :=
  w_det (ev_if hc (fun z => by subst z; exact ha rfl) (fun z => by subst z; exact hb rfl)) q
theorem w_ifI {k : Bool} {i j : Int} (hc : EvB X Hb c Γ k) (ha : k = true → Ev X Hb a Γ fr (.int i)) (hb : k = false → Ev X Hb b Γ fr (.int j)) (q : Q (.int (if k then i else j))) : EvN X Hb (.IfExp c a b pos) Γ fr Q :=
  w_det (ev_if hc (fun z => by subst z; exact ha rfl) (fun z => by subst z; exact hb rfl)) q
/-! arguments, displays -/
theorem wa_nil {S : List D → Prop} (q : S []) : EvA X Hb [] Γ S := eva_nil.imp fun _ z => by rw [z]; exact q
theorem wa_cons {S : List D → Prop} (h : EvN X Hb e Γ false fun d => EvA X Hb es Γ fun ds => S (d :: ds)) (hs : starEach (e :: es) X.env = (false, eval e X.env) :: starEach es X.env := by rfl) : EvA X Hb (e :: es) Γ S := fun σ H en Q q =>
  SemA.of (pa_cons (semE X e) (semA X es) hs) (h σ H en _ fun v H1 d1 s1 x1 r1 _ => s1 σ H1 (en.ex x1) _ fun vs H2 ds s2 x2 r2 => q _ H2 _ s2 (x1.trans x2) (.cons (r1.ex x2) r2))
theorem w_tup {k : Nat} (h : EvA X Hb es Γ fun ds => ds.length ≤ 1000 ∧ Q (.tup ds)) : EvN X Hb (.Tuple es k pos) Γ fr Q := EvN.fresh fun σ H en Q' q =>
  SemE.of (pe_tup (semA X es)) (h σ H en _ fun vs H1 ds s x1 r => ⟨by rw [r.length]; exact Nat.le_trans s.1 (by decide), fun p hp => q _ _ _ s.2 (x1.trans (Ex.new hp)) (.tup (SqT.of upd_same) (r.ex (Ex.new hp))) fun _ => FreshD.flat rfl⟩)
theorem w_lst (h : EvA X Hb es Γ fun ds => ds.length ≤ 1000 ∧ Q (.lst ds)) : EvN X Hb (.List es pos) Γ fr Q := EvN.fresh fun σ H en Q' q =>
  SemE.of (pe_lst (semA X es)) (h σ H en _ fun vs H1 ds s x1 r => ⟨by rw [r.length]; exact Nat.le_trans s.1 (by decide), fun p hp => q _ _ _ s.2 (x1.trans (Ex.new hp)) (.lst (SqL.of upd_same) (r.ex (Ex.new hp))) fun _ => freshL hp x1 r⟩)
/-! items, slices -/
def IxD (X : Cx) (d1 d2 : D) (Q : D → Prop) : Prop :=
  ∃ r : R2, IxR X r ∧ ∀ (x y : V) (H : Hp) (Q' : VK), Rep X.K H x d1 → Rep X.K H y d2 → (∀ w d, Q d → Rep X.K H w d → Q' w H) → r x y H Q'
def rSemIx (X : Cx) (bx : Expr) : R2 := fun x y H Q => ∀ (value : Expr) (pins : List (Addr × Obj)) (s : Shared) (σ : L2.St) (v u : Value), Inv X pins σ H s → RelV x v → RelV y u → subscripted bx false v u = operate [v, u] (getItem v u) → wpAny (model X.prog X.w) X.A (subscriptTail value bx v u) (EP X pins σ Q) X.xe s
theorem w_ix (h : EvN X Hb a Γ false fun d1 => EvN X Hb b Γ false fun d2 => IxD X d1 d2 Q) (hs : PlainIx b := by intro _ _; rfl) : EvN X Hb (.Subscript a b pos) Γ false Q := fun σ H en Q' q => by
  have pe : PE X (.Subscript a b pos) (tOp (rSemIx X b) (SemE X a) (SemE X b)) := by
    refine ⟨fun pins s σ H Q I h => ?_⟩
    exact Subscript_ (binT (semE X a) (semE X b) I h fun v u s2 x y H2 I2 rx ry q => q a pins s2 σ v u I2 rx ry (hs _ _))
  refine SemE.of pe (h σ H en _ fun v H1 d1 s1 x1 r1 _ => s1 σ H1 (en.ex x1) _ fun w H2 d2 s2 x2 r2 _ => fun value pins s σ' v' u' I rx ry hsub => ?_)
  obtain ⟨r, hr, k⟩ := s2
  exact hr value b pins s σ' H2 v w v' u' Q' I rx ry (k v w H2 Q' (r1.ex x2) r2 fun z d qd rz => q z H2 d qd (x1.trans x2) rz fun z => nomatch z) hsub
theorem ix_T {xs : List D} {i : Int} (h : atI xs i = some d) (q : Q d) : IxD X (.tup xs) (.int i) Q := ⟨_, ix_tup, fun x y H Q' r1 r2 k => by
  cases r1 with
  | tup hq ra =>
    cases r2
    obtain ⟨v, hv, rv⟩ := atI_rep ra h
    exact ⟨_, _, i, v, rfl, rfl, hq, hv, k v d q rv⟩⟩
theorem ix_L {xs : List D} {i : Int} (h : atI xs i = some d) (q : Q d) : IxD X (.lst xs) (.int i) Q := ⟨_, ix_list, fun x y H Q' r1 r2 k => by
  cases r1 with
  | lst hq ra =>
    cases r2
    obtain ⟨v, hv, rv⟩ := atI_rep ra h
    exact ⟨_, _, i, v, rfl, rfl, hq, hv, k v d q rv⟩⟩
structure SemOP (X : Cx) (o : Option Expr) (σ : L2.St) (H : Hp) (Q : Option Int → Hp → Prop) : Prop where
  run : ∃ t, PO X o t ∧ t σ H Q
theorem PO.congr {o : Option Expr} : PO X o (fun σ H Q => SemOP X o σ H Q) := ⟨fun pins s σ H Q I h => by
  obtain ⟨t, p, h⟩ := h.run
  exact p.run pins s σ H Q I h⟩
def EvP (X : Cx) (Hb : Hp) (o : Option Expr) (Γ : Slots) (S : Option Int → Prop) : Prop := ∀ σ H, EnvOk X.K Hb Γ σ H → ∀ Q : Option Int → Hp → Prop, (∀ k H', S k → Ex H H' → Q k H') → SemOP X o σ H Q
theorem wo_none {S : Option Int → Prop} (q : S none) : EvP X Hb none Γ S := fun σ H en Q k => ⟨_, po_none, k none H q Ex.refl⟩
theorem wo_some {S : Option Int → Prop} (h : EvN X Hb e Γ false fun z => ∃ i, z = .int i ∧ S (some i)) : EvP X Hb (some e) Γ S := fun σ H en Q k => ⟨_, po_some (semE X e), h σ H en _ fun v H1 d1 ⟨i, e1, s⟩ x1 r1 _ => by
  subst e1
  cases r1
  exact ⟨i, rfl, k _ _ s x1⟩⟩
def SlD (X : Cx) (d : D) (o o' : Option Int) (Q : D → Prop) : Prop :=
  ∃ r : V → Option Int → Option Int → Hp → VK → Prop, SlR X r ∧ ∀ (x : V) (H : Hp) (Q' : VK), Rep X.K H x d → (∀ w H' d, Q d → Ex H H' → Rep X.K H' w d → FreshD X.K H H' w d → Q' w H') → r x o o' H Q'
def rSemSl (X : Cx) : V → Option Int → Option Int → Hp → VK → Prop := fun x lo hi H Q => ∃ r, SlR X r ∧ r x lo hi H Q
theorem rSemSl_ok : SlR X (rSemSl X) := fun pins s σ H x v vl vu lo hi sl Q I rx hs pl pu ⟨r, hr, q⟩ => hr pins s σ H x v vl vu lo hi sl Q I rx hs pl pu q
theorem w_slice {lo hi : Option Expr} (h : EvN X Hb a Γ false fun d => EvP X Hb lo Γ fun o => EvP X Hb hi Γ fun o' => SlD X d o o' Q) : EvN X Hb (.Subscript a (.Slice lo hi none p2) pos) Γ fr Q := EvN.fresh fun σ H en Q' q =>
  SemE.of (pe_slice rSemSl_ok (semE X a) PO.congr PO.congr) (h σ H en _ fun v H1 d1 s1 x1 r1 _ => s1 σ H1 (en.ex x1) _ fun o H2 s2 x2 => s2 σ H2 (en.ex (x1.trans x2)) _ fun o' H3 s3 x3 => by
    obtain ⟨r, hr, k⟩ := s3
    exact ⟨r, hr, k v H3 Q' (r1.ex (x2.trans x3)) fun w H4 d qd x4 rw4 f4 => q w H4 d qd (((x1.trans x2).trans x3).trans x4) rw4 fun _ => f4.back ((x1.trans x2).trans x3)⟩)
theorem sl_L {xs : List D} {o o' : Option Int} (q : Q (.lst (dcut xs o o'))) : SlD X (.lst xs) o o' Q := ⟨_, sl_list, fun x H Q' r k => by
  cases r with
  | lst hq ra => exact ⟨_, _, rfl, hq, fun p hp => k _ _ _ q (Ex.new hp) (.lst (SqL.of upd_same) ((ra.ex (Ex.new hp)).cut o o')) (freshL hp Ex.refl (ra.cut o o'))⟩⟩
theorem sl_T {xs : List D} {o o' : Option Int} (q : Q (.tup (dcut xs o o'))) : SlD X (.tup xs) o o' Q := ⟨_, sl_tupA, fun x H Q' r k => by
  cases r with
  | tup hq ra =>
    refine ⟨_, _, rfl, hq, fun hw => ?_, fun hw p hp => ?_⟩
    · refine k _ _ _ q Ex.refl ?_ (FreshD.flat rfl)
      rw [ra.length] at hw
      rw [dcut_whole hw]
      exact .tup hq ra
    · exact k _ _ _ q (Ex.new hp) (.tup (SqT.of upd_same) ((ra.ex (Ex.new hp)).cut o o')) (FreshD.flat rfl)⟩
/-! calls -/
def Cl (P : Pr) (ds : List D) (Q : D → Prop) : Prop := ∃ S0, P ds S0 ∧ ∀ d, S0 d → Q d
theorem cl_det {R : List D → D → Prop} (h : R ds d) (q : Q d) : Cl (det R) ds Q := ⟨(· = d), ⟨d, h, rfl⟩, fun _ z => by rw [z]; exact q⟩
theorem w_call {x : Str} {pn : Pos} {k k' : Nat} {P : Pr} (F : FnP X.prog X.w X.K X.mg X.base x k P) (hr : Room k' X.A) (h : EvA X Hb (e :: es) Γ fun ds => Cl P ds Q)
    (hk : k ≤ k' := by decide) (hg : Gl X x := by rfl) (hdb : (x == ("__debug__" : Str)) = false := by decide) (he : starEach (e :: es) X.env = (false, eval e X.env) :: starEach es X.env := by rfl) (hpl : (backTo pos (starEach es X.env)).any (·.1) = false := by rfl) :
    EvN X Hb (.Call (.Name x pn) (e :: es) [] pos) Γ fr Q := EvN.fresh (evn_call F hr h (fun _ z => z) hk hg hdb he hpl)
theorem w_callL {x : Str} {pn : Pos} {k k' : Nat} {P : Pr} (F : FnL X.prog X.w X.K X.mg X.base x k P) (hr : Room k' X.A) (h : EvA X Hb (e :: es) Γ fun ds => Cl P ds Q)
    (hk : k ≤ k' := by decide) (hg : Gl X x := by rfl) (hdb : (x == ("__debug__" : Str)) = false := by decide) (he : starEach (e :: es) X.env = (false, eval e X.env) :: starEach es X.env := by rfl) (hpl : (backTo pos (starEach es X.env)).any (·.1) = false := by rfl) :
    EvN X Hb (.Call (.Name x pn) (e :: es) [] pos) Γ false Q := evn_callL F hr h (fun _ z => z) hk hg hdb he hpl
/-! built-ins -/
def LenQ (ds : List D) (Q : D → Prop) : Prop := ∃ xs, (ds = [.lst xs] ∨ ds = [.tup xs]) ∧ Q (.int xs.length)
theorem lenL {xs : List D} (q : Q (.int xs.length)) : LenQ [.lst xs] Q := ⟨_, .inl rfl, q⟩
theorem lenT {xs : List D} (q : Q (.int xs.length)) : LenQ [.tup xs] Q := ⟨_, .inr rfl, q⟩
theorem lenML {α : Type} {f : α → D} {xs : List α} (q : Q (.int (xs.length : Int))) : LenQ [.lst (xs.map f)] Q := ⟨_, .inl rfl, by rw [List.length_map]; exact q⟩
theorem lenMT {α : Type} {f : α → D} {xs : List α} (q : Q (.int (xs.length : Int))) : LenQ [.tup (xs.map f)] Q := ⟨_, .inr rfl, by rw [List.length_map]; exact q⟩
section
variable {pn : Pos}
theorem w_len (hm : X.mg "len" = none) (h : EvA X Hb [a] Γ fun ds => LenQ ds Q) (hg : Gl X "len" := by rfl) (he : starEach (a :: []) X.env = (false, eval a X.env) :: starEach [] X.env := by rfl) (hpl : (backTo pos (starEach [] X.env)).any (·.1) = false := by rfl) :
    EvN X Hb (.Call (.Name "len" pn) [a] [] pos) Γ fr Q := EvN.fresh <|
  evn_B call_len_seq hm h (fun vs H ds' Q' ⟨xs, s, q⟩ r k => by
    rcases s with e | e <;> subst e
    · cases r with
      | cons r1 r2 =>
        cases r2
        cases r1 with
        | lst hq ra => exact ⟨_, _, rfl, .inl hq, by rw [ra.length]; exact k _ _ _ q Ex.refl (.int _) (FreshD.flat rfl)⟩
    · cases r with
      | cons r1 r2 =>
        cases r2
        cases r1 with
        | tup hq ra => exact ⟨_, _, rfl, .inr hq, by rw [ra.length]; exact k _ _ _ q Ex.refl (.int _) (FreshD.flat rfl)⟩) PySem.boot_len hg (by decide) (by decide) he hpl
theorem w_max2 (hm : X.mg "max" = none) (h : EvA X Hb [a, b] Γ fun ds => ∃ i j, ds = [.int i, .int j] ∧ Q (.int (max i j))) (hc : X.calm = true := by rfl) (hg : Gl X "max" := by rfl) (he : starEach (a :: [b]) X.env = (false, eval a X.env) :: starEach [b] X.env := by rfl) (hpl : (backTo pos (starEach [b] X.env)).any (·.1) = false := by rfl) :
    EvN X Hb (.Call (.Name "max" pn) [a, b] [] pos) Γ fr Q := EvN.fresh <|
  evn_B (call_max2 hc) hm h (fun vs H ds' Q s r k => by
    obtain ⟨i, j, s, q⟩ := s
    subst s
    refine ⟨i, j, r.int2, ?_⟩
    rw [show (if j > i then j else i) = max i j from by split <;> omega]
    exact k _ _ _ q Ex.refl (.int _) (FreshD.flat rfl)) (by decide +kernel) hg (by decide) (by decide) he hpl
theorem w_min2 (hm : X.mg "min" = none) (h : EvA X Hb [a, b] Γ fun ds => ∃ i j, ds = [.int i, .int j] ∧ Q (.int (min i j))) (hc : X.calm = true := by rfl) (hg : Gl X "min" := by rfl) (he : starEach (a :: [b]) X.env = (false, eval a X.env) :: starEach [b] X.env := by rfl) (hpl : (backTo pos (starEach [b] X.env)).any (·.1) = false := by rfl) :
    EvN X Hb (.Call (.Name "min" pn) [a, b] [] pos) Γ fr Q := EvN.fresh <|
  evn_B (call_min2 hc) hm h (fun vs H ds' Q s r k => by
    obtain ⟨i, j, s, q⟩ := s
    subst s
    refine ⟨i, j, r.int2, ?_⟩
    rw [show (if j < i then j else i) = min i j from by split <;> omega]
    exact k _ _ _ q Ex.refl (.int _) (FreshD.flat rfl)) (by decide +kernel) hg (by decide) (by decide) he hpl
theorem w_abs (hm : X.mg "abs" = none) (h : EvA X Hb [a] Γ fun ds => ∃ i, ds = [.int i] ∧ Q (.int (i.natAbs : Int))) (hg : Gl X "abs" := by rfl) (he : starEach (a :: []) X.env = (false, eval a X.env) :: starEach [] X.env := by rfl) (hpl : (backTo pos (starEach [] X.env)).any (·.1) = false := by rfl) :
    EvN X Hb (.Call (.Name "abs" pn) [a] [] pos) Γ fr Q := EvN.fresh <|
  evn_B call_abs hm h (fun vs H ds' Q s r k => by
    obtain ⟨i, s, q⟩ := s
    subst s
    refine ⟨i, r.int1, ?_⟩
    rw [show (if i < 0 then -i else i) = (i.natAbs : Int) from by split <;> omega]
    exact k _ _ _ q Ex.refl (.int _) (FreshD.flat rfl)) (by decide +kernel) hg (by decide) (by decide) he hpl
theorem w_toInt (hm : X.mg "int" = none) (h : EvA X Hb [a] Γ fun ds => ∃ i, ds = [.int i] ∧ Q (.int i)) (hg : Gl X "int" := by rfl) (he : starEach (a :: []) X.env = (false, eval a X.env) :: starEach [] X.env := by rfl) (hpl : (backTo pos (starEach [] X.env)).any (·.1) = false := by rfl) :
    EvN X Hb (.Call (.Name "int" pn) [a] [] pos) Γ fr Q := EvN.fresh <|
  evn_Ty call_int1 hm h (fun vs H ds' Q s r k => by
    obtain ⟨i, s, q⟩ := s
    subst s
    exact .inl ⟨i, r.int1, k _ _ _ q Ex.refl (.int _) (FreshD.flat rfl)⟩) (by decide +kernel) hg (by decide) (by decide) he hpl
theorem w_sumL (hm : X.mg "sum" = none) (h : EvA X Hb [a] Γ fun ds => ∃ ns : List Int, ds = [.lst (ns.map .int)] ∧ Q (.int ns.sum)) (hc : X.calm = true := by rfl) (hg : Gl X "sum" := by rfl) (he : starEach (a :: []) X.env = (false, eval a X.env) :: starEach [] X.env := by rfl) (hpl : (backTo pos (starEach [] X.env)).any (·.1) = false := by rfl) :
    EvN X Hb (.Call (.Name "sum" pn) [a] [] pos) Γ fr Q := EvN.fresh <|
  evn_B (cr_sum hc) hm h (fun vs H ds' Q s r k => by
    obtain ⟨ns, s, q⟩ := s
    subst s
    obtain ⟨p, ws, e, hq, ra⟩ := r.lst1
    rw [ra.ints] at hq
    exact ⟨p, ns, e, hq, k _ _ _ q Ex.refl (.int _) (FreshD.flat rfl)⟩) (by decide +kernel) hg (by decide) (by decide) he hpl
theorem w_sumT (hm : X.mg "sum" = none) (h : EvA X Hb [a] Γ fun ds => ∃ ns : List Int, ds = [.tup (ns.map .int)] ∧ Q (.int ns.sum)) (hc : X.calm = true := by rfl) (hg : Gl X "sum" := by rfl) (he : starEach (a :: []) X.env = (false, eval a X.env) :: starEach [] X.env := by rfl) (hpl : (backTo pos (starEach [] X.env)).any (·.1) = false := by rfl) :
    EvN X Hb (.Call (.Name "sum" pn) [a] [] pos) Γ fr Q := EvN.fresh <|
  evn_B (cr_sumT hc) hm h (fun vs H ds' Q s r k => by
    obtain ⟨ns, s, q⟩ := s
    subst s
    obtain ⟨p, ws, e, hq, ra⟩ := r.tup1
    rw [ra.ints] at hq
    exact ⟨p, ns, e, hq, (fun z => nomatch z), fun m z => by subst z; exact k _ _ _ q Ex.refl (.int _) (FreshD.flat rfl)⟩) (by decide +kernel) hg (by decide) (by decide) he hpl
/-- the greatest, the least of ints -/
theorem w_maxL (hm : X.mg "max" = none) (h : EvA X Hb [a] Γ fun ds => ∃ ns : List Int, (ds = [.lst (ns.map .int)] ∨ ds = [.tup (ns.map .int)]) ∧ ns ≠ [] ∧ ∀ m, m ∈ ns → (∀ y ∈ ns, y ≤ m) → Q (.int m)) (hc : X.calm = true := by rfl) (hg : Gl X "max" := by rfl) (he : starEach (a :: []) X.env = (false, eval a X.env) :: starEach [] X.env := by rfl) (hpl : (backTo pos (starEach [] X.env)).any (·.1) = false := by rfl) :
    EvN X Hb (.Call (.Name "max" pn) [a] [] pos) Γ fr Q := EvN.fresh fun σ H en Q' q =>
  SemE.of (pe_callB (r := fun vs H Q => (∃ (p : Addr) (ns : List Int), vs = [.ref p] ∧ SqL X.K H p (ns.map V.int) ∧ 0 < ns.length ∧ ∀ m, m ∈ ns → (∀ y ∈ ns, y ≤ m) → Q (.int m) H) ∨ (∃ (p : Addr) (ns : List Int), vs = [.ref p] ∧ SqT X.K H p (ns.map V.int) ∧ 0 < ns.length ∧ ∀ m, m ∈ ns → (∀ y ∈ ns, y ≤ m) → Q (.int m) H))
      (fun pins s σ H vs us Q I r h => by
        rcases h with ⟨p, ns, e, h1, h2, h3⟩ | ⟨p, ns, e, h1, h2, h3⟩
        · exact cr_max hc pins s σ H vs us Q I r ⟨p, ns, e, h1, h2, h3⟩
        · exact cr_maxT hc pins s σ H vs us Q I r ⟨p, ns, e, h1, fun _ => h2, fun m ⟨a, b⟩ => h3 m a b⟩) hg hm (by decide +kernel) (semA X [a]) (by decide) (by decide) he hpl) (h σ H en _ fun vs H1 ds ⟨ns, e, h0, hq⟩ x1 r => by
    rcases e with e | e <;> subst e
    · obtain ⟨p, ws, e, h2, ra⟩ := r.lst1
      rw [ra.ints] at h2
      exact .inl ⟨p, ns, e, h2, List.length_pos_iff.mpr h0, fun m h3 h4 => q _ _ _ (hq m h3 h4) x1 (.int _) fun _ => FreshD.flat rfl⟩
    · obtain ⟨p, ws, e, h2, ra⟩ := r.tup1
      rw [ra.ints] at h2
      exact .inr ⟨p, ns, e, h2, List.length_pos_iff.mpr h0, fun m h3 h4 => q _ _ _ (hq m h3 h4) x1 (.int _) fun _ => FreshD.flat rfl⟩)
theorem w_minL (hm : X.mg "min" = none) (h : EvA X Hb [a] Γ fun ds => ∃ ns : List Int, (ds = [.lst (ns.map .int)] ∨ ds = [.tup (ns.map .int)]) ∧ ns ≠ [] ∧ ∀ m, m ∈ ns → (∀ y ∈ ns, m ≤ y) → Q (.int m)) (hc : X.calm = true := by rfl) (hg : Gl X "min" := by rfl) (he : starEach (a :: []) X.env = (false, eval a X.env) :: starEach [] X.env := by rfl) (hpl : (backTo pos (starEach [] X.env)).any (·.1) = false := by rfl) :
    EvN X Hb (.Call (.Name "min" pn) [a] [] pos) Γ fr Q := EvN.fresh fun σ H en Q' q =>
  SemE.of (pe_callB (r := fun vs H Q => (∃ (p : Addr) (ns : List Int), vs = [.ref p] ∧ SqL X.K H p (ns.map V.int) ∧ 0 < ns.length ∧ ∀ m, m ∈ ns → (∀ y ∈ ns, m ≤ y) → Q (.int m) H) ∨ (∃ (p : Addr) (ns : List Int), vs = [.ref p] ∧ SqT X.K H p (ns.map V.int) ∧ 0 < ns.length ∧ ∀ m, m ∈ ns → (∀ y ∈ ns, m ≤ y) → Q (.int m) H))
      (fun pins s σ H vs us Q I r h => by
        rcases h with ⟨p, ns, e, h1, h2, h3⟩ | ⟨p, ns, e, h1, h2, h3⟩
        · exact cr_min hc pins s σ H vs us Q I r ⟨p, ns, e, h1, h2, h3⟩
        · exact cr_minT hc pins s σ H vs us Q I r ⟨p, ns, e, h1, fun _ => h2, fun m ⟨a, b⟩ => h3 m a b⟩) hg hm (by decide +kernel) (semA X [a]) (by decide) (by decide) he hpl) (h σ H en _ fun vs H1 ds ⟨ns, e, h0, hq⟩ x1 r => by
    rcases e with e | e <;> subst e
    · obtain ⟨p, ws, e, h2, ra⟩ := r.lst1
      rw [ra.ints] at h2
      exact .inl ⟨p, ns, e, h2, List.length_pos_iff.mpr h0, fun m h3 h4 => q _ _ _ (hq m h3 h4) x1 (.int _) fun _ => FreshD.flat rfl⟩
    · obtain ⟨p, ws, e, h2, ra⟩ := r.tup1
      rw [ra.ints] at h2
      exact .inr ⟨p, ns, e, h2, List.length_pos_iff.mpr h0, fun m h3 h4 => q _ _ _ (hq m h3 h4) x1 (.int _) fun _ => FreshD.flat rfl⟩)
theorem w_list (hm : X.mg "list" = none) (h : EvA X Hb [a] Γ fun ds => ∃ xs, (ds = [.lst xs] ∨ ds = [.tup xs]) ∧ Q (.lst xs)) (hg : Gl X "list" := by rfl) (he : starEach (a :: []) X.env = (false, eval a X.env) :: starEach [] X.env := by rfl) (hpl : (backTo pos (starEach [] X.env)).any (·.1) = false := by rfl) :
    EvN X Hb (.Call (.Name "list" pn) [a] [] pos) Γ fr Q := EvN.fresh <|
  evn_Ty call_list_of hm h (fun vs H ds' Q s r k => by
    obtain ⟨xs, s, q⟩ := s
    rcases s with e | e <;> subst e
    · obtain ⟨p, ws, e, hq, ra⟩ := r.lst1
      exact ⟨_, _, e, .inl hq, fun l hl => k _ _ _ q (Ex.new hl) (.lst (SqL.of upd_same) (ra.ex (Ex.new hl))) (freshL hl Ex.refl ra)⟩
    · obtain ⟨p, ws, e, hq, ra⟩ := r.tup1
      exact ⟨_, _, e, .inr hq, fun l hl => k _ _ _ q (Ex.new hl) (.lst (SqL.of upd_same) (ra.ex (Ex.new hl))) (freshL hl Ex.refl ra)⟩) (by decide +kernel) hg (by decide) (by decide) he hpl
theorem w_tuple (hm : X.mg "tuple" = none) (h : EvA X Hb [a] Γ fun ds => ∃ xs, ds = [.lst xs] ∧ Q (.tup xs)) (hg : Gl X "tuple" := by rfl) (he : starEach (a :: []) X.env = (false, eval a X.env) :: starEach [] X.env := by rfl) (hpl : (backTo pos (starEach [] X.env)).any (·.1) = false := by rfl) :
    EvN X Hb (.Call (.Name "tuple" pn) [a] [] pos) Γ fr Q := EvN.fresh <|
  evn_Ty call_tuple_of hm h (fun vs H ds' Q s r k => by
    obtain ⟨xs, s, q⟩ := s
    subst s
    obtain ⟨p, ws, e, hq, ra⟩ := r.lst1
    exact ⟨p, ws, e, .inl ⟨hq, fun l hl => k _ _ _ q (Ex.new hl) (.tup (SqT.of upd_same) (ra.ex (Ex.new hl))) (FreshD.flat rfl)⟩⟩) (by decide +kernel) hg (by decide) (by decide) he hpl
theorem w_repr (hg : X.A.guards = some []) {k : Nat} (hr : Room k X.A) (hm : X.mg "repr" = none) (h : EvA X Hb [a] Γ fun ds => ∃ d, ds = [d] ∧ Sh 40 10000000 d ∧ Q (.str (reprD d))) (hgl : Gl X "repr" := by rfl) (he : starEach (a :: []) X.env = (false, eval a X.env) :: starEach [] X.env := by rfl) (hpl : (backTo pos (starEach [] X.env)).any (·.1) = false := by rfl) :
    EvN X Hb (.Call (.Name "repr" pn) [a] [] pos) Γ fr Q := EvN.fresh <|
  evn_B (call_reprD hg hr.units) hm h (fun vs H ds Q ⟨d, e1, s, q⟩ r k => by
    subst e1
    cases r with
    | cons r1 r2 =>
      cases r2
      exact ⟨_, d, rfl, r1, s, k _ _ _ q Ex.refl (.str _) (FreshD.flat rfl)⟩) boot_repr hgl (by decide) (by decide) he hpl
end
end
end L3

namespace L3
open PySem PySem.Spec PyProof.Rows L2
/-- a name whose list is to be changed -/
structure Own (x : Str) : Prop where
inductive OwnIf : Bool → Str → Prop
  | t {x : Str} : Own x → OwnIf true x
  | f {x : Str} : OwnIf false x
theorem Look.z' {N : List Str} {Γ : Slots} {x y : Str} {e : Ent} (h : y = x) : Look (y :: N) (e :: Γ) x e := by subst h; exact .z
inductive Has : List Str → Str → Prop
  | z {N : List Str} {x y : Str} (h : y = x) : Has (y :: N) x
  | s {N : List Str} {x y : Str} : Has N x → Has (y :: N) x
theorem Has.ix : ∀ {N : List Str} {x : Str}, Has N x → ∃ i : Nat, N[i]? = some x
  | _, _, .z h => ⟨0, by rw [h]; rfl⟩
  | _, _, .s h => let ⟨i, a⟩ := Has.ix h; ⟨i + 1, by simpa using a⟩
theorem Up.z' {N : List Str} {Γ : Slots} {x y : Str} {e e' : Ent} (h : y = x) : Up (y :: N) (e' :: Γ) x e (e :: Γ) := by subst h; exact .z
def Up1 (N : List Str) (Γ : Slots) (x : Str) (e : Ent) (k : Slots → Prop) : Prop := ∃ Γ', Up N Γ x e Γ' ∧ k Γ'
theorem up1 {N : List Str} {Γ Γ' : Slots} {x : Str} {e : Ent} {k : Slots → Prop} (hu : Up N Γ x e Γ') (g : k Γ') : Up1 N Γ x e k := ⟨Γ', hu, g⟩
def StoreD (own : Bool) (N : List Str) (Γ : Slots) (xn : Str) (d : D) (k : Slots → Prop) : Prop :=
  (own = false ∧ Sto Γ d ∧ Up1 N Γ xn (.dat d) k) ∨ (own = true ∧ ∃ ds, d = .lst ds ∧ D.flatAll ds = true ∧ ∀ p, Up1 N Γ xn (.own p ds) k)
theorem sto_dat {N : List Str} {Γ : Slots} {xn : Str} {d : D} {k : Slots → Prop} (h : Up1 N Γ xn (.dat d) k) (hs : Sto Γ d) : StoreD false N Γ xn d k := .inl ⟨rfl, hs, h⟩
theorem sto_own {N : List Str} {Γ : Slots} {xn : Str} {ds : List D} {k : Slots → Prop} (h : ∀ p, Up1 N Γ xn (.own p ds) k) (hf : D.flatAll ds = true) : StoreD true N Γ xn (.lst ds) k := .inr ⟨rfl, ds, rfl, hf, h⟩
theorem nodup_ix {N : List Str} (nd : N.Nodup) {i j : Nat} {x : Str} (h1 : N[i]? = some x) (h2 : N[j]? = some x) : i = j := by
  have hi : i < N.length := (List.getElem?_eq_some_iff.mp h1).1
  exact (List.getElem?_inj hi nd).mp (h1.trans h2.symm)
theorem StoreD.ok {K : PySem.W.Frag} {Hb H H' : Hp} {Γ : Slots} {σ : L2.St} {own : Bool} {N : List Str} (nd : N.Nodup) {i : Nat} {xn : Str} (hi : N[i]? = some xn) {v : V} {d : D} {k : Slots → Prop} (en : EnvOk K Hb Γ σ H) (x : Ex H H') (r : Rep K H' v d) (f : own = true → FreshD K H H' v d) (h : StoreD own N Γ xn d k) :
    ∃ Γ', k Γ' ∧ EnvOk K Hb Γ' (σ.set i (some v)) H' := by
  rcases h with ⟨rfl, hs, Γ', hu, g⟩ | ⟨rfl, ds, rfl, hf, h⟩
  · obtain ⟨j, hj, rfl⟩ := hu.ix
    have := nodup_ix nd hi hj
    subst this
    exact ⟨_, g, (en.ex x).setDat r hs⟩
  · obtain ⟨p, vs, rfl, hp, hl, ra⟩ := f rfl
    obtain ⟨Γ', hu, g⟩ := h p
    obtain ⟨j, hj, rfl⟩ := hu.ix
    have := nodup_ix nd hi hj
    subst this
    exact ⟨_, g, en.setOwn hp x hl ra hf⟩
section
variable {X : Cx} {Hb Hb' : Hp} {a b c e : Expr} {es : List Expr} {Γ Γ' : Slots} {pos p' p2 apos cpos : Pos} {d x y : D} {ds : List D} {Q S S' : D → Prop} {fr : Bool} {D0 : Ends} {rest sts : List Stmt} {st : Stmt} {e0 e1 e2 e3 : Ent}
/-- x = e -/
theorem s_set {own : Bool} {xn : Str} (_ho : OwnIf own xn) (h : EvN X Hb e Γ own fun d => StoreD own X.N Γ xn d fun Γ' => Go X Hb rest D0 Γ') (nd : X.N.Nodup) (hL : Has X.N xn) (hx : Loc X.env.scope xn := by first | exact Or.inl rfl | exact Or.inr rfl)
    (hsw : swapsWith e (some (.Name xn p')) pos.line X.env = pure false := by rfl) (hf : X.fn xn = true ∨ X.env.scope.names.lookup xn = some .local := by first | exact .inl rfl | exact .inr rfl) : Go X Hb (.Assign [.Name xn p'] e pos :: rest) D0 Γ := fun σ H en => by
  obtain ⟨i, hi⟩ := hL.ix
  exact SemSs.cons (ps_set nd hi hx (semE X e) hsw hf) (h σ H en _ fun v H' d s x r f => by
    obtain ⟨Γ', g, en'⟩ := s.ok nd hi en x r f
    exact g _ H' en')
/-- x, y = a, b, plain locals -/
theorem s_par {o1 o2 : Bool} {xn yn : Str} {px py pt : Pos} {kt k2 : Nat} {pt2 : Pos} (_h1 : OwnIf o1 xn) (_h2 : OwnIf o2 yn) (h : EvN X Hb a Γ o1 fun d1 => EvN X Hb b Γ o2 fun d2 => StoreD o1 X.N Γ xn d1 fun Γ1 => StoreD o2 X.N Γ1 yn d2 fun Γ2 => Go X Hb rest D0 Γ2)
    (nd : X.N.Nodup) (hL : Has X.N xn) (hL2 : Has X.N yn) (hne : xn ≠ yn) (hw : swappedStores [.Tuple [.Name xn px, .Name yn py] kt pt] (.Tuple [a, b] k2 pt2) X.env = pure (some [xn, yn])) (hc : X.calm = true := by rfl)
    (hx : X.env.scope.names.lookup xn = some .local := by rfl) (hy : X.env.scope.names.lookup yn = some .local := by rfl)
    (hsw : swapsWithSole [.Tuple [.Name xn px, .Name yn py] kt pt] (.Tuple [a, b] k2 pt2) pos.line X.env = pure false := by rfl) (hs : starEach (a :: [b]) X.env = (false, eval a X.env) :: starEach [b] X.env := by rfl) (hs2 : starEach (b :: []) X.env = (false, eval b X.env) :: starEach [] X.env := by rfl) :
    Go X Hb (.Assign [.Tuple [.Name xn px, .Name yn py] kt pt] (.Tuple [a, b] k2 pt2) pos :: rest) D0 Γ := fun σ H en => by
  obtain ⟨i, hi⟩ := hL.ix
  obtain ⟨j, hj⟩ := hL2.ix
  have hij : i ≠ j := fun z => by subst z; rw [hi] at hj; exact hne (Option.some.inj hj)
  refine SemSs.cons (ps_par hc nd hi hj hij hx hy (pa_cons (semE X a) (pa_cons (semE X b) pa_nil hs2) hs) hw hsw) (h σ H en _ fun v1 H1 d1 s1 x1 r1 f1 => s1 σ H1 (en.ex x1) _ fun v2 H2 d2 s2 x2 r2 f2 => ?_)
  obtain ⟨Γ1, g1, en1⟩ := s2.ok nd hi en x1 r1 f1
  obtain ⟨Γ2, g2, en2⟩ := g1.ok nd hj en1 x2 r2 f2
  exact ⟨_, _, rfl, g2 _ H2 en2⟩
theorem s_par3 {o1 o2 o3 : Bool} {xn yn zn : Str} {px py pz pt : Pos} {kt k2 : Nat} {pt2 : Pos} (_h1 : OwnIf o1 xn) (_h2 : OwnIf o2 yn) (_h3 : OwnIf o3 zn) (h : EvN X Hb a Γ o1 fun d1 => EvN X Hb b Γ o2 fun d2 => EvN X Hb c Γ o3 fun d3 => StoreD o1 X.N Γ xn d1 fun Γ1 => StoreD o2 X.N Γ1 yn d2 fun Γ2 => StoreD o3 X.N Γ2 zn d3 fun Γ3 => Go X Hb rest D0 Γ3)
    (nd : X.N.Nodup) (hL : Has X.N xn) (hL2 : Has X.N yn) (hL3 : Has X.N zn) (hne : xn ≠ yn ∧ xn ≠ zn ∧ yn ≠ zn) (hw : swappedStores [.Tuple [.Name xn px, .Name yn py, .Name zn pz] kt pt] (.Tuple [a, b, c] k2 pt2) X.env = pure (some [xn, yn, zn])) (hc : X.calm = true := by rfl)
    (hx : X.env.scope.names.lookup xn = some .local := by rfl) (hy : X.env.scope.names.lookup yn = some .local := by rfl) (hz : X.env.scope.names.lookup zn = some .local := by rfl)
    (hsw : swapsWithSole [.Tuple [.Name xn px, .Name yn py, .Name zn pz] kt pt] (.Tuple [a, b, c] k2 pt2) pos.line X.env = pure false := by rfl) (hs : starEach (a :: [b, c]) X.env = (false, eval a X.env) :: starEach [b, c] X.env := by rfl) (hs2 : starEach (b :: [c]) X.env = (false, eval b X.env) :: starEach [c] X.env := by rfl) (hs3 : starEach (c :: []) X.env = (false, eval c X.env) :: starEach [] X.env := by rfl) :
    Go X Hb (.Assign [.Tuple [.Name xn px, .Name yn py, .Name zn pz] kt pt] (.Tuple [a, b, c] k2 pt2) pos :: rest) D0 Γ := fun σ H en => by
  obtain ⟨i, hi⟩ := hL.ix
  obtain ⟨j, hj⟩ := hL2.ix
  obtain ⟨l, hl⟩ := hL3.ix
  have hij : i ≠ j := fun z => by subst z; rw [hi] at hj; exact hne.1 (Option.some.inj hj)
  have hil : i ≠ l := fun z => by subst z; rw [hi] at hl; exact hne.2.1 (Option.some.inj hl)
  have hjl : j ≠ l := fun z => by subst z; rw [hj] at hl; exact hne.2.2 (Option.some.inj hl)
  refine SemSs.cons (ps_par3 hc nd hi hj hl hij hil hjl hx hy hz (pa_cons (semE X a) (pa_cons (semE X b) (pa_cons (semE X c) pa_nil hs3) hs2) hs) hw hsw) (h σ H en _ fun v1 H1 d1 s1 x1 r1 f1 => s1 σ H1 (en.ex x1) _ fun v2 H2 d2 s2 x2 r2 f2 => s2 σ H2 (en.ex (x1.trans x2)) _ fun v3 H3 d3 s3 x3 r3 f3 => ?_)
  obtain ⟨Γ1, g1, en1⟩ := s3.ok nd hi en x1 r1 f1
  obtain ⟨Γ2, g2, en2⟩ := g1.ok nd hj en1 x2 r2 f2
  obtain ⟨Γ3, g3, en3⟩ := g2.ok nd hl en2 x3 r3 f3
  exact ⟨_, _, _, rfl, g3 _ H3 en3⟩
/-- the same where a name is a cell, or more than three -/
theorem s_tup2 {o1 o2 : Bool} {xn yn : Str} {px py pt : Pos} {kt k2 : Nat} {pt2 : Pos} (_h1 : OwnIf o1 xn) (_h2 : OwnIf o2 yn) (h : EvN X Hb a Γ o1 fun d1 => EvN X Hb b Γ o2 fun d2 => StoreD o1 X.N Γ xn d1 fun Γ1 => StoreD o2 X.N Γ1 yn d2 fun Γ2 => Go X Hb rest D0 Γ2)
    (nd : X.N.Nodup) (hL : Has X.N xn) (hL2 : Has X.N yn) (hw : swappedStores [.Tuple [.Name xn px, .Name yn py] kt pt] (.Tuple [a, b] k2 pt2) X.env = pure none := by rfl) (hc : X.calm = true := by rfl)
    (hx : Loc X.env.scope xn := by first | exact Or.inl rfl | exact Or.inr rfl) (hy : Loc X.env.scope yn := by first | exact Or.inl rfl | exact Or.inr rfl)
    (hf : X.fn xn = true ∨ X.env.scope.names.lookup xn = some .local := by first | exact .inl rfl | exact .inr rfl) (hf2 : X.fn yn = true ∨ X.env.scope.names.lookup yn = some .local := by first | exact .inl rfl | exact .inr rfl)
    (hn : (assignEach [.Name xn px, .Name yn py] X.env).length = 2 := by rfl) (hst : (assignEach [.Name xn px, .Name yn py] X.env).findIdx? (·.1) = none := by rfl)
    (hz1 : (assignEach (.Name xn px :: [.Name yn py]) X.env).map (·.2) = assign (.Name xn px) X.env :: (assignEach [.Name yn py] X.env).map (·.2) := by rfl) (hz2 : (assignEach (.Name yn py :: []) X.env).map (·.2) = assign (.Name yn py) X.env :: (assignEach [] X.env).map (·.2) := by rfl)
    (hsw : swapsWithSole [.Tuple [.Name xn px, .Name yn py] kt pt] (.Tuple [a, b] k2 pt2) pos.line X.env = pure false := by rfl) (h1 : (assignEach [.Tuple [.Name xn px, .Name yn py] kt pt] X.env).map (·.2) = [assign (.Tuple [.Name xn px, .Name yn py] kt pt) X.env] := by rfl)
    (hs : starEach (a :: [b]) X.env = (false, eval a X.env) :: starEach [b] X.env := by rfl) (hs2 : starEach (b :: []) X.env = (false, eval b X.env) :: starEach [] X.env := by rfl) :
    Go X Hb (.Assign [.Tuple [.Name xn px, .Name yn py] kt pt] (.Tuple [a, b] k2 pt2) pos :: rest) D0 Γ := fun σ H en => by
  obtain ⟨i, hi⟩ := hL.ix
  obtain ⟨j, hj⟩ := hL2.ix
  refine SemSs.cons (ps_asg (pe_tup (pa_cons (semE X a) (pa_cons (semE X b) pa_nil hs2) hs)) (pg_tup hc (pgs_cons (pg_name nd hi hx hf) (pgs_cons (pg_name nd hj hy hf2) pgs_nil hz2) hz1) hn hst) hsw hw h1) (h σ H en _ fun v1 H1 d1 s1 x1 r1 f1 => s1 σ H1 (en.ex x1) _ fun v2 H2 d2 s2 x2 r2 f2 => ⟨by show 2 ≤ sizeLine; decide, fun T hT => ?_⟩)
  obtain ⟨Γ1, g1, en1⟩ := s2.ok nd hi en x1 r1 f1
  obtain ⟨Γ2, g2, en2⟩ := g1.ok nd hj en1 x2 r2 f2
  exact ⟨T, _, rfl, SqT.of upd_same, rfl, _, _, rfl, _, _, rfl, rfl, g2 _ _ (en2.ex (Ex.new hT))⟩
theorem s_tup3 {o1 o2 o3 : Bool} {xn yn zn : Str} {px py pz pt : Pos} {kt k2 : Nat} {pt2 : Pos} (_h1 : OwnIf o1 xn) (_h2 : OwnIf o2 yn) (_h3 : OwnIf o3 zn) (h : EvN X Hb a Γ o1 fun d1 => EvN X Hb b Γ o2 fun d2 => EvN X Hb c Γ o3 fun d3 => StoreD o1 X.N Γ xn d1 fun Γ1 => StoreD o2 X.N Γ1 yn d2 fun Γ2 => StoreD o3 X.N Γ2 zn d3 fun Γ3 => Go X Hb rest D0 Γ3)
    (nd : X.N.Nodup) (hL : Has X.N xn) (hL2 : Has X.N yn) (hL3 : Has X.N zn) (hw : swappedStores [.Tuple [.Name xn px, .Name yn py, .Name zn pz] kt pt] (.Tuple [a, b, c] k2 pt2) X.env = pure none := by rfl) (hc : X.calm = true := by rfl)
    (hx : Loc X.env.scope xn := by first | exact Or.inl rfl | exact Or.inr rfl) (hy : Loc X.env.scope yn := by first | exact Or.inl rfl | exact Or.inr rfl) (hz : Loc X.env.scope zn := by first | exact Or.inl rfl | exact Or.inr rfl)
    (hf : X.fn xn = true ∨ X.env.scope.names.lookup xn = some .local := by first | exact .inl rfl | exact .inr rfl) (hf2 : X.fn yn = true ∨ X.env.scope.names.lookup yn = some .local := by first | exact .inl rfl | exact .inr rfl) (hf3 : X.fn zn = true ∨ X.env.scope.names.lookup zn = some .local := by first | exact .inl rfl | exact .inr rfl)
    (hn : (assignEach [.Name xn px, .Name yn py, .Name zn pz] X.env).length = 3 := by rfl) (hst : (assignEach [.Name xn px, .Name yn py, .Name zn pz] X.env).findIdx? (·.1) = none := by rfl)
    (hz1 : (assignEach (.Name xn px :: [.Name yn py, .Name zn pz]) X.env).map (·.2) = assign (.Name xn px) X.env :: (assignEach [.Name yn py, .Name zn pz] X.env).map (·.2) := by rfl) (hz2 : (assignEach (.Name yn py :: [.Name zn pz]) X.env).map (·.2) = assign (.Name yn py) X.env :: (assignEach [.Name zn pz] X.env).map (·.2) := by rfl) (hz3 : (assignEach (.Name zn pz :: []) X.env).map (·.2) = assign (.Name zn pz) X.env :: (assignEach [] X.env).map (·.2) := by rfl)
    (hsw : swapsWithSole [.Tuple [.Name xn px, .Name yn py, .Name zn pz] kt pt] (.Tuple [a, b, c] k2 pt2) pos.line X.env = pure false := by rfl) (h1 : (assignEach [.Tuple [.Name xn px, .Name yn py, .Name zn pz] kt pt] X.env).map (·.2) = [assign (.Tuple [.Name xn px, .Name yn py, .Name zn pz] kt pt) X.env] := by rfl)
    (hs : starEach (a :: [b, c]) X.env = (false, eval a X.env) :: starEach [b, c] X.env := by rfl) (hs2 : starEach (b :: [c]) X.env = (false, eval b X.env) :: starEach [c] X.env := by rfl) (hs3 : starEach (c :: []) X.env = (false, eval c X.env) :: starEach [] X.env := by rfl) :
    Go X Hb (.Assign [.Tuple [.Name xn px, .Name yn py, .Name zn pz] kt pt] (.Tuple [a, b, c] k2 pt2) pos :: rest) D0 Γ := fun σ H en => by
  obtain ⟨i, hi⟩ := hL.ix
  obtain ⟨j, hj⟩ := hL2.ix
  obtain ⟨l, hl⟩ := hL3.ix
  refine SemSs.cons (ps_asg (pe_tup (pa_cons (semE X a) (pa_cons (semE X b) (pa_cons (semE X c) pa_nil hs3) hs2) hs)) (pg_tup hc (pgs_cons (pg_name nd hi hx hf) (pgs_cons (pg_name nd hj hy hf2) (pgs_cons (pg_name nd hl hz hf3) pgs_nil hz3) hz2) hz1) hn hst) hsw hw h1) (h σ H en _ fun v1 H1 d1 s1 x1 r1 f1 => s1 σ H1 (en.ex x1) _ fun v2 H2 d2 s2 x2 r2 f2 => s2 σ H2 (en.ex (x1.trans x2)) _ fun v3 H3 d3 s3 x3 r3 f3 => ⟨by show 3 ≤ sizeLine; decide, fun T hT => ?_⟩)
  obtain ⟨Γ1, g1, en1⟩ := s3.ok nd hi en x1 r1 f1
  obtain ⟨Γ2, g2, en2⟩ := g1.ok nd hj en1 x2 r2 f2
  obtain ⟨Γ3, g3, en3⟩ := g2.ok nd hl en2 x3 r3 f3
  exact ⟨T, _, rfl, SqT.of upd_same, rfl, _, _, rfl, _, _, rfl, _, _, rfl, rfl, g3 _ _ (en3.ex (Ex.new hT))⟩
/-- x, y = e, a tuple -/
theorem s_unp2 {xn yn : Str} {px py pt : Pos} {kt : Nat} (h : EvN X Hb e Γ false fun d => ∃ d1 d2, d = .tup [d1, d2] ∧ StoreD false X.N Γ xn d1 fun Γ1 => StoreD false X.N Γ1 yn d2 fun Γ2 => Go X Hb rest D0 Γ2)
    (nd : X.N.Nodup) (hL : Has X.N xn) (hL2 : Has X.N yn) (hw : swappedStores [.Tuple [.Name xn px, .Name yn py] kt pt] e X.env = pure none := by rfl) (hc : X.calm = true := by rfl)
    (hx : Loc X.env.scope xn := by first | exact Or.inl rfl | exact Or.inr rfl) (hy : Loc X.env.scope yn := by first | exact Or.inl rfl | exact Or.inr rfl)
    (hf : X.fn xn = true ∨ X.env.scope.names.lookup xn = some .local := by first | exact .inl rfl | exact .inr rfl) (hf2 : X.fn yn = true ∨ X.env.scope.names.lookup yn = some .local := by first | exact .inl rfl | exact .inr rfl)
    (hn : (assignEach [.Name xn px, .Name yn py] X.env).length = 2 := by rfl) (hst : (assignEach [.Name xn px, .Name yn py] X.env).findIdx? (·.1) = none := by rfl)
    (hz1 : (assignEach (.Name xn px :: [.Name yn py]) X.env).map (·.2) = assign (.Name xn px) X.env :: (assignEach [.Name yn py] X.env).map (·.2) := by rfl) (hz2 : (assignEach (.Name yn py :: []) X.env).map (·.2) = assign (.Name yn py) X.env :: (assignEach [] X.env).map (·.2) := by rfl)
    (hsw : swapsWithSole [.Tuple [.Name xn px, .Name yn py] kt pt] e pos.line X.env = pure false := by rfl) (h1 : (assignEach [.Tuple [.Name xn px, .Name yn py] kt pt] X.env).map (·.2) = [assign (.Tuple [.Name xn px, .Name yn py] kt pt) X.env] := by rfl) :
    Go X Hb (.Assign [.Tuple [.Name xn px, .Name yn py] kt pt] e pos :: rest) D0 Γ := fun σ H en => by
  obtain ⟨i, hi⟩ := hL.ix
  obtain ⟨j, hj⟩ := hL2.ix
  refine SemSs.cons (ps_asg (semE X e) (pg_tup hc (pgs_cons (pg_name nd hi hx hf) (pgs_cons (pg_name nd hj hy hf2) pgs_nil hz2) hz1) hn hst) hsw hw h1) (h σ H en _ fun v1 H1 d1 ⟨da, db, ed, s⟩ x1 r1 _ => ?_)
  subst ed
  cases r1 with
  | tup hq ra =>
    cases ra with
    | cons ra rr =>
      cases rr with
      | cons rb rr =>
        cases rr
        obtain ⟨Γ1, g1, en1⟩ := s.ok (own := false) nd hi en x1 ra fun z => nomatch z
        obtain ⟨Γ2, g2, en2⟩ := g1.ok (own := false) nd hj en1 Ex.refl rb fun z => nomatch z
        exact ⟨_, _, rfl, hq, rfl, _, _, rfl, _, _, rfl, rfl, g2 _ _ en2⟩
theorem s_unp3 {xn yn zn : Str} {px py pz pt : Pos} {kt : Nat} (h : EvN X Hb e Γ false fun d => ∃ d1 d2 d3, d = .tup [d1, d2, d3] ∧ StoreD false X.N Γ xn d1 fun Γ1 => StoreD false X.N Γ1 yn d2 fun Γ2 => StoreD false X.N Γ2 zn d3 fun Γ3 => Go X Hb rest D0 Γ3)
    (nd : X.N.Nodup) (hL : Has X.N xn) (hL2 : Has X.N yn) (hL3 : Has X.N zn) (hw : swappedStores [.Tuple [.Name xn px, .Name yn py, .Name zn pz] kt pt] e X.env = pure none := by rfl) (hc : X.calm = true := by rfl)
    (hx : Loc X.env.scope xn := by first | exact Or.inl rfl | exact Or.inr rfl) (hy : Loc X.env.scope yn := by first | exact Or.inl rfl | exact Or.inr rfl) (hz : Loc X.env.scope zn := by first | exact Or.inl rfl | exact Or.inr rfl)
    (hf : X.fn xn = true ∨ X.env.scope.names.lookup xn = some .local := by first | exact .inl rfl | exact .inr rfl) (hf2 : X.fn yn = true ∨ X.env.scope.names.lookup yn = some .local := by first | exact .inl rfl | exact .inr rfl) (hf3 : X.fn zn = true ∨ X.env.scope.names.lookup zn = some .local := by first | exact .inl rfl | exact .inr rfl)
    (hn : (assignEach [.Name xn px, .Name yn py, .Name zn pz] X.env).length = 3 := by rfl) (hst : (assignEach [.Name xn px, .Name yn py, .Name zn pz] X.env).findIdx? (·.1) = none := by rfl)
    (hz1 : (assignEach (.Name xn px :: [.Name yn py, .Name zn pz]) X.env).map (·.2) = assign (.Name xn px) X.env :: (assignEach [.Name yn py, .Name zn pz] X.env).map (·.2) := by rfl) (hz2 : (assignEach (.Name yn py :: [.Name zn pz]) X.env).map (·.2) = assign (.Name yn py) X.env :: (assignEach [.Name zn pz] X.env).map (·.2) := by rfl) (hz3 : (assignEach (.Name zn pz :: []) X.env).map (·.2) = assign (.Name zn pz) X.env :: (assignEach [] X.env).map (·.2) := by rfl)
    (hsw : swapsWithSole [.Tuple [.Name xn px, .Name yn py, .Name zn pz] kt pt] e pos.line X.env = pure false := by rfl) (h1 : (assignEach [.Tuple [.Name xn px, .Name yn py, .Name zn pz] kt pt] X.env).map (·.2) = [assign (.Tuple [.Name xn px, .Name yn py, .Name zn pz] kt pt) X.env] := by rfl) :
    Go X Hb (.Assign [.Tuple [.Name xn px, .Name yn py, .Name zn pz] kt pt] e pos :: rest) D0 Γ := fun σ H en => by
  obtain ⟨i, hi⟩ := hL.ix
  obtain ⟨j, hj⟩ := hL2.ix
  obtain ⟨l, hl⟩ := hL3.ix
  refine SemSs.cons (ps_asg (semE X e) (pg_tup hc (pgs_cons (pg_name nd hi hx hf) (pgs_cons (pg_name nd hj hy hf2) (pgs_cons (pg_name nd hl hz hf3) pgs_nil hz3) hz2) hz1) hn hst) hsw hw h1) (h σ H en _ fun v1 H1 d1 ⟨da, db, dc, ed, s⟩ x1 r1 _ => ?_)
  subst ed
  cases r1 with
  | tup hq ra =>
    cases ra with
    | cons ra rr =>
      cases rr with
      | cons rb rr =>
        cases rr with
        | cons rc rr =>
          cases rr
          obtain ⟨Γ1, g1, en1⟩ := s.ok (own := false) nd hi en x1 ra fun z => nomatch z
          obtain ⟨Γ2, g2, en2⟩ := g1.ok (own := false) nd hj en1 Ex.refl rb fun z => nomatch z
          obtain ⟨Γ3, g3, en3⟩ := g2.ok (own := false) nd hl en2 Ex.refl rc fun z => nomatch z
          exact ⟨_, _, rfl, hq, rfl, _, _, rfl, _, _, rfl, _, _, rfl, rfl, g3 _ _ en3⟩
/-- x op= e -/
theorem s_aug {xn : Str} {op : Operator} {d0 : D} (hL : Look X.N Γ xn (.dat d0)) (h : EvN X Hb e Γ false fun d => OpD X (inplaceOp op) d0 d fun z => StoreD false X.N Γ xn z fun Γ' => Go X Hb rest D0 Γ') (nd : X.N.Nodup)
    (hx : Loc X.env.scope xn := by first | exact Or.inl rfl | exact Or.inr rfl) (hf : X.fn xn = true ∨ X.env.scope.names.lookup xn = some .local := by first | exact .inl rfl | exact .inr rfl) :
    Go X Hb (.AugAssign (.Name xn p') op e pos :: rest) D0 Γ := fun σ H en => by
  obtain ⟨i, hi, hG⟩ := hL.ix
  obtain ⟨v, hσ, r0⟩ := en.dat hG
  refine SemSs.cons (ps_aug (ti := rSem X (inplaceOp op)) nd hi hx (semE X e) (fun pins s σ H x y v u Q I r1 r2 q => q pins s σ v u I r1 r2) hf) ⟨v, hσ, h σ H en _ fun w H' d s x r _ => ?_⟩
  intro pins s' σ' v' u' I r1 r2
  refine s pins s' σ' H' v w v' u' _ I r1 r2 (r0.ex x) r fun z H2 dz qz x2 rz _ => ?_
  obtain ⟨Γ', g, en'⟩ := StoreD.ok (own := false) nd hi (en.ex x) x2 rz (fun z => nomatch z) qz
  exact g _ H2 en'
theorem iop_add {i j : Int} (q : Q (.int (i + j))) : OpD X (inplaceOp .Add) (.int i) (.int j) Q := fun pins s σ H x y v u Q' I rx ry r1 r2 k => by
  cases r1; cases r2
  exact ip_add pins s σ H _ _ v u Q' I rx ry ⟨i, j, rfl, rfl, k _ H _ q Ex.refl (.int _) (FreshD.flat rfl)⟩
theorem iop_sub {i j : Int} (q : Q (.int (i - j))) : OpD X (inplaceOp .Sub) (.int i) (.int j) Q := fun pins s σ H x y v u Q' I rx ry r1 r2 k => by
  cases r1; cases r2
  exact ip_sub pins s σ H _ _ v u Q' I rx ry ⟨i, j, rfl, rfl, k _ H _ q Ex.refl (.int _) (FreshD.flat rfl)⟩
/-- x.append(e) -/
theorem s_append {p : Addr} {xn : Str} (hL : Look X.N Γ xn (.own p ds)) (h : EvN X Hb e Γ false fun d => d.flat = true ∧ Up1 X.N Γ xn (.own p (ds ++ [d])) fun Γ' => Go X Hb rest D0 Γ') (nd : X.N.Nodup) (hl : ds.length ≤ 100000)
    (hv : Vis X.env.scope xn := by first | exact Or.inl rfl | exact Or.inr (Or.inl rfl) | exact Or.inr (Or.inr rfl)) (hdb : (xn == ("__debug__" : Str)) = false := by decide) (hcd : (xn == ("__classdict__" : Str)) = false := by decide)
    (hbase : attributeBase (.Name xn p') "append" X.env (eval (.Name xn p') X.env) = eval (.Name xn p') X.env := by rfl)
    (hfew : ((backTo cpos (starEach (e :: []) X.env)).all (fun x => !x.1) && (backToKw cpos (keywordEach [] X.env)).all (fun x => x.1.isSome) && decide ((e :: []).length + ([] : List Keyword).length + (if ([] : List Keyword).isEmpty then 0 else 1) < 30)) = true := by rfl)
    (hline : (apos.endLine == cpos.line) = true := by rfl) (hs : starEach (e :: []) X.env = (false, eval e X.env) :: starEach [] X.env := by rfl) (hplain : (backTo cpos (starEach [] X.env)).any (·.1) = false := by rfl)
    (hsw : swapsWith (.Call (.Attribute (.Name xn p') "append" apos) [e] [] cpos) none pos.line X.env = pure false := by rfl) :
    Go X Hb (.Expr (.Call (.Attribute (.Name xn p') "append" apos) [e] [] cpos) pos :: rest) D0 Γ := by
  obtain ⟨i, hi, hG⟩ := hL.ix
  refine go_appendN i h hG (fun d z => z.1) hl (fun d ⟨_, Γ', hu, g⟩ => ?_) hi hv hdb hcd hbase hfew hline hs hplain hsw
  obtain ⟨j, hj, rfl⟩ := hu.ix
  have := nodup_ix nd hi hj
  subst this
  exact g
/-- return e -/
def RetD (K : PySem.W.Frag) (D0 : Ends) (Hb : Hp) (d : D) : Prop := ∀ v H', Rt K Hb d v H' → D0.rt v H'
theorem s_ret (h : EvN X Hb e Γ true fun d => RetD X.K D0 Hb d) : Go X Hb (.Return (some e) pos :: rest) D0 Γ := go_retN h fun v H' d s x r f => s v H' ⟨x, r, f rfl⟩
theorem s_retOwn {p : Addr} {xn : Str} (hL : Look X.N Γ xn (.own p ds)) (h : RetD X.K D0 Hb (.lst ds)) (hv : Vis X.env.scope xn := by first | exact Or.inl rfl | exact Or.inr (Or.inl rfl) | exact Or.inr (Or.inr rfl)) (hdb : (xn == ("__debug__" : Str)) = false := by decide)
    (hcd : (xn == ("__classdict__" : Str)) = false := by decide) : Go X Hb (.Return (some (.Name xn p')) pos :: rest) D0 Γ := by
  obtain ⟨i, hi, hG⟩ := hL.ix
  exact go_retOwn i h hG hi hv hdb hcd
theorem ret_fn {K : PySem.W.Frag} {H : Hp} (s : S d) (ex : Ex H Hb) (hD : D0.rt = fun v H' => ∃ d, S d ∧ Rt K H d v H' := by rfl) : RetD K D0 Hb d := fun v H' ⟨x, r, f⟩ => by
  rw [hD]
  exact ⟨d, s, ex.trans x, r, f.back ex⟩
theorem ret_law {K : PySem.W.Frag} (s : d = .bl true) (hD : D0.rt = fun v _ => v = .bl true := by rfl) : RetD K D0 Hb d := fun v H' ⟨x, r, f⟩ => by
  rw [hD]
  subst s
  cases r
  rfl
/-- return e, of a def whose answer need not be new -/
def RetL (K : PySem.W.Frag) (D0 : Ends) (Hb : Hp) (d : D) : Prop := ∀ v H', Ex Hb H' → Rep K H' v d → D0.rt v H'
theorem s_retL (h : EvN X Hb e Γ false fun d => RetL X.K D0 Hb d) : Go X Hb (.Return (some e) pos :: rest) D0 Γ := go_retN h fun v H' d s x r f => s v H' x r
theorem ret_fnL {K : PySem.W.Frag} {H : Hp} (s : S d) (ex : Ex H Hb) (hD : D0.rt = fun v H' => ∃ d, S d ∧ Ex H H' ∧ Rep K H' v d := by rfl) : RetL K D0 Hb d := fun v H' x r => by
  rw [hD]
  exact ⟨d, s, ex.trans x, r⟩
/-- if -/
theorem s_if {as bs : List Stmt} {k : Bool} (h : EvB X Hb c Γ k) (ha : k = true → Go X Hb as { D0 with nx := fun σ H => SemSs X rest D0 σ H } Γ) (hb : k = false → Go X Hb bs { D0 with nx := fun σ H => SemSs X rest D0 σ H } Γ) : Go X Hb (.If c as bs pos :: rest) D0 Γ := go_if h ha hb
/-- if, the answer known -/
theorem s_ifT {as bs : List Stmt} {k : Bool} (h : EvB X Hb c Γ k) (hk : k = true) (ha : Go X Hb as { D0 with nx := fun σ H => SemSs X rest D0 σ H } Γ) : Go X Hb (.If c as bs pos :: rest) D0 Γ := go_if h (fun _ => ha) fun z => by rw [hk] at z; cases z
theorem s_ifF {as bs : List Stmt} {k : Bool} (h : EvB X Hb c Γ k) (hk : k = false) (hb : Go X Hb bs { D0 with nx := fun σ H => SemSs X rest D0 σ H } Γ) : Go X Hb (.If c as bs pos :: rest) D0 Γ := go_if h (fun z => by rw [hk] at z; cases z) fun _ => hb
theorem s_ifN {as bs : List Stmt} (h : EvT X Hb c Γ fun k => (k = true ∧ Go X Hb as { D0 with nx := fun σ H => SemSs X rest D0 σ H } Γ) ∨ (k = false ∧ Go X Hb bs { D0 with nx := fun σ H => SemSs X rest D0 σ H } Γ)) : Go X Hb (.If c as bs pos :: rest) D0 Γ :=
  go_ifN h (fun z => z.elim (fun z => z.2) fun z => nomatch z.1) fun z => z.elim (fun z => nomatch z.1) fun z => z.2
theorem s_pass (g : Go X Hb rest D0 Γ) : Go X Hb (.Pass pos :: rest) D0 Γ := go_pass g
theorem s_expr (h : EvN X Hb e Γ false fun _ => Go X Hb rest D0 Γ) (hs : swapsWith e none pos.line X.env = pure false := by rfl) : Go X Hb (.Expr e pos :: rest) D0 Γ := go_expr h (fun _ g => g) hs
theorem sto_flat (h : d.flat = true) : Sto Γ d := .inl h
theorem flat_map {α : Type} {f : α → D} (h : ∀ a, (f a).flat = true) : ∀ xs : List α, D.flatAll (xs.map f) = true
  | [] => rfl
  | x :: xs => by rw [List.map_cons]; show (D.flat (f x) && D.flatAll (xs.map f)) = true; rw [h x, flat_map h xs]; rfl
theorem flat_app : ∀ {xs ys : List D}, D.flatAll xs = true → D.flatAll ys = true → D.flatAll (xs ++ ys) = true
  | [], _, _, h => h
  | x :: xs, ys, h1, h2 => by
    have h1' : (D.flat x && D.flatAll xs) = true := h1
    obtain ⟨a, b⟩ := Bool.and_eq_true_iff.mp h1'
    show (D.flat x && D.flatAll (xs ++ ys)) = true
    rw [a, flat_app b h2]
    rfl
end
/-! loops, by the next slots -/
section
variable {X : Cx} {Hb Hb' : Hp} {a b c e : Expr} {es : List Expr} {Γ Γ' : Slots} {pos p' p2 apos cpos : Pos} {d x y : D} {ds : List D} {Q S S' : D → Prop} {fr : Bool} {D0 : Ends} {rest sts : List Stmt} {st : Stmt} {e0 e1 e2 e3 : Ent}
/-- the end of a turn, of a branch: what the slots say is kept in part -/
inductive Sub : Slots → Slots → Prop
  | nil : Sub [] []
  | keep {e : Ent} {Γ Γ' : Slots} : Sub Γ Γ' → Sub (e :: Γ) (e :: Γ')
  | drop {e : Ent} {Γ Γ' : Slots} : Sub Γ Γ' → Sub (e :: Γ) (.any :: Γ')
theorem Sub.refl : ∀ {Γ : Slots}, Sub Γ Γ
  | [] => .nil
  | _ :: _ => .keep Sub.refl
theorem Sub.eq {e e' : Ent} {Γ Γ' : Slots} (h : e = e') (r : Sub Γ Γ') : Sub (e :: Γ) (e' :: Γ') := by subst h; exact .keep r
theorem Sub.owns {Γ Γ' : Slots} (h : Sub Γ Γ') : (L3.owns Γ').Sublist (L3.owns Γ) := by
  induction h with
  | nil => exact List.Sublist.refl _
  | @keep e Γ Γ' r ih =>
    cases e with
    | own p d => exact ih.cons₂ p
    | any => exact ih
    | dat d => exact ih
  | @drop e Γ Γ' r ih =>
    cases e with
    | own p d => exact ih.cons p
    | any => exact ih
    | dat d => exact ih
theorem Sub.paired {K : PySem.W.Frag} {Hz H : Hp} : ∀ {Γ Γ' : Slots} {σ : L2.St}, Sub Γ Γ' → Paired (EntOk K Hz H) Γ σ → Paired (EntOk K Hz H) Γ' σ
  | _, _, _, .nil, h => h
  | _, _, _, .keep r, .cons h t => .cons h (Sub.paired r t)
  | _, _, _, .drop r, .cons h t => .cons trivial (Sub.paired r t)
theorem EnvOk.sub {K : PySem.W.Frag} {Hb H : Hp} {Γ Γ' : Slots} {σ : L2.St} (s : Sub Γ Γ') (h : EnvOk K Hb Γ σ H) : EnvOk K Hb Γ' σ H := by
  obtain ⟨Hz, h1, h2, h3, h4⟩ := h
  exact ⟨Hz, h1, h2, s.paired h3, List.Nodup.sublist s.owns h4⟩
theorem s_end (hD : D0.nx = fun σ H => EnvOk X.K Hb Γ' σ H := by rfl) (s : Sub Γ Γ' := by walk_at "sub") : Go X Hb [] D0 Γ := go_end (fun _ _ h => h.sub s) (by rw [hD]; exact fun _ _ h => h)
theorem s_continue (hD : D0.ct = fun σ H => EnvOk X.K Hb Γ' σ H := by rfl) (s : Sub Γ Γ' := by walk_at "sub") : Go X Hb (.Continue pos :: rest) D0 Γ := go_continue fun σ H h => by rw [hD]; exact h.sub s
theorem s_break {D1 : Ends} {r1 : List Stmt} (g : Go X Hb r1 D1 Γ) (hD : D0.bk = fun σ H => SemSs X r1 D1 σ H := by rfl) : Go X Hb (.Break pos :: rest) D0 Γ := go_break fun σ H h => by rw [hD]; exact g σ H h
/-- join behind an if, some slots forgotten -/
theorem s_join (g : Go X Hb rest D0 Γ) : Go X Hb [] { D0 with nx := fun σ H => SemSs X rest D0 σ H } Γ := go_join g
theorem up_set {N : List Str} {Γ Γ' : Slots} {x : Str} {e : Ent} {i : Nat} (nd : N.Nodup) (hi : N[i]? = some x) (h : Up N Γ x e Γ') : Γ.set i e = Γ' := by
  obtain ⟨j, hj, rfl⟩ := h.ix
  have := nodup_ix nd hi hj
  subst this
  rfl
/-- for x in a list, a state -/
theorem s_fold {α β : Type} {body : List Stmt} {xn : Str} {Γe : β → α → Slots} (f : α → D) (xs : List α) (G : β → Slots) (step : β → α → β) (s0 : β) (hit : EvI X Hb e (G s0) (· = xs.map f))
    (hs : ∀ Hb', Ex Hb Hb' → ∀ pre a post, xs = pre ++ a :: post → Go X Hb' body { D0 with nx := fun σ H => EnvOk X.K Hb' (G (step (pre.foldl step s0) a)) σ H, ct := fun σ H => EnvOk X.K Hb' (G (step (pre.foldl step s0) a)) σ H, bk := fun σ H => SemSs X rest D0 σ H } (Γe (pre.foldl step s0) a))
    (hd : Go X Hb rest D0 (G (xs.foldl step s0))) (h0 : Sub Γ (G s0) := by walk_at "sub") (hL : Has X.N xn := by walk_at "has") (hu : ∀ s a, Up X.N (G s) xn (.dat (f a)) (Γe s a) := by intro _ _; walk_at "up") (hst : ∀ s a, a ∈ xs → Sto (G s) (f a) := by intro _ _ _; walk_at "sto") (nd : X.N.Nodup := by assumption) (hp : PassesOwn (model X.prog X.w) X.A X.env X.xe := by exact PassesOwn.never) (hc : X.calm = true := by rfl) (hx : Loc X.env.scope xn := by first | exact Or.inl rfl | exact Or.inr rfl)
    (hfs : ∀ x, foldedSetIterable e X.env x = pure x := by intro _; rfl) (hf : X.fn xn = true ∨ X.env.scope.names.lookup xn = some .local := by first | exact .inl rfl | exact .inr rfl) :
    Go X Hb (.For (.Name xn p') e body [] pos :: rest) D0 Γ := by
  obtain ⟨i, hi⟩ := hL.ix
  refine go_weak (fun _ _ h => h.sub h0) (go_fold i f xs G step s0 hit rfl hst (fun Hb' eb pre a post h => ?_) hd hp hc nd hi hx hfs hf)
  rw [up_set nd hi (hu _ a)]
  exact hs Hb' eb pre a post h
/-- for x in a list, nothing carried -/
theorem s_repL {body : List Stmt} {xn : Str} {S1 : List D → Prop} {Γe : D → Slots} (Γ0 : Slots) (hit : EvI X Hb e Γ S1) (hst : ∀ ds x, S1 ds → x ∈ ds → Sto Γ0 x)
    (hs : ∀ Hb', Ex Hb Hb' → ∀ ds x, S1 ds → x ∈ ds → Go X Hb' body { D0 with nx := fun σ H => EnvOk X.K Hb' Γ0 σ H, ct := fun σ H => EnvOk X.K Hb' Γ0 σ H, bk := fun σ H => SemSs X rest D0 σ H } (Γe x))
    (hd : Go X Hb rest D0 Γ0) (h0 : Sub Γ Γ0 := by walk_at "sub") (hL : Has X.N xn := by walk_at "has") (hu : ∀ x, Up X.N Γ0 xn (.dat x) (Γe x) := by intro _; walk_at "up") (nd : X.N.Nodup := by assumption) (hp : PassesOwn (model X.prog X.w) X.A X.env X.xe := by exact PassesOwn.never) (hc : X.calm = true := by rfl) (hx : Loc X.env.scope xn := by first | exact Or.inl rfl | exact Or.inr rfl)
    (hfs : ∀ x, foldedSetIterable e X.env x = pure x := by intro _; rfl) (hf : X.fn xn = true ∨ X.env.scope.names.lookup xn = some .local := by first | exact .inl rfl | exact .inr rfl) :
    Go X Hb (.For (.Name xn p') e body [] pos :: rest) D0 Γ := fun σ H en => by
  obtain ⟨i, hi⟩ := hL.ix
  refine SemSs.cons (ps_for hp hc (pi_list (semE X e)) (pg_name nd hi hx hf) (semSs X body) hfs) ?_
  refine hit σ H en _ fun a vs H' ds s x hq ra => ?_
  have en' := en.ex x
  have eb : Ex Hb (hide H' (owns Γ)) := en'.wide.1
  have en1 : EnvOk X.K (hide H' (owns Γ)) Γ0 σ H' := EnvOk.sub h0 ⟨_, Ex.refl, en'.wide.2⟩
  refine ⟨a, rfl, ⟨_, SqL.ex hide_ex hq⟩, for_list (K := X.K) (a := a) (xs := vs) (fun i σ H => EnvOk X.K (hide H' (owns Γ)) Γ0 σ H) en1 (fun i σ2 H2 _ en2 => SqL.ex en2.base hq) ?_ ?_⟩
  · intro j v σ2 H2 hv en2
    obtain ⟨x, hx', rx⟩ := ra.get' hv
    have hm := List.mem_of_getElem? hx'
    exact hs _ eb ds x s hm _ H2 (by rw [← up_set nd hi (hu x)]; exact en2.setDat (rx.ex en2.base) (hst ds x s hm))
  · intro σ2 H2 en2
    exact hd _ H2 (en2.wb eb)
/-- for i in range(..), nothing carried -/
theorem s_rep {body : List Stmt} {xn : Str} {Γe : D → Slots} (SR : Int → Nat → Prop) (Γ0 : Slots) (hit : EvR X Hb e Γ SR)
    (hs : ∀ (lo : Int) (n i : Nat), SR lo n → i < n → Go X Hb body { D0 with nx := fun σ H => EnvOk X.K Hb Γ0 σ H, ct := fun σ H => EnvOk X.K Hb Γ0 σ H, bk := fun σ H => SemSs X rest D0 σ H } (Γe (.int (lo + i))))
    (hd : Go X Hb rest D0 Γ0) (h0 : Sub Γ Γ0 := by walk_at "sub") (hL : Has X.N xn := by walk_at "has") (hu : ∀ x, Up X.N Γ0 xn (.dat x) (Γe x) := by intro _; walk_at "up") (nd : X.N.Nodup := by assumption) (hp : PassesOwn (model X.prog X.w) X.A X.env X.xe := by exact PassesOwn.never) (hc : X.calm = true := by rfl) (hx : Loc X.env.scope xn := by first | exact Or.inl rfl | exact Or.inr rfl)
    (hfs : ∀ x, foldedSetIterable e X.env x = pure x := by intro _; rfl) (hf : X.fn xn = true ∨ X.env.scope.names.lookup xn = some .local := by first | exact .inl rfl | exact .inr rfl) :
    Go X Hb (.For (.Name xn p') e body [] pos :: rest) D0 Γ := by
  intro σ H en
  obtain ⟨i, hi⟩ := hL.ix
  have en0 : EnvOk X.K Hb Γ0 σ H := en.sub h0
  obtain ⟨wi, hpi, hw⟩ := hit
  refine SemSs.cons (ps_for hp hc (hpi _) (pg_name nd hi hx hf) (semSs X body) hfs) ?_
  refine hw σ H en _ fun lo n H' s x => ?_
  refine for_range (lo := lo) (n := n) (fun i σ H => EnvOk X.K Hb Γ0 σ H) (en0.ex x) ?_ ?_
  · intro j σ2 H2 hin en2
    exact hs lo n j s hin _ H2 (by rw [← up_set nd hi (hu _)]; exact en2.setDat (.int _) (.inl rfl))
  · intro σ2 H2 en2
    exact hd _ H2 en2
/-- for i in range(..), the slots by the turn -/
theorem s_forG {body : List Stmt} {xn : Str} {Γe : Nat → D → Slots} (lo : Int) (n : Nat) (G : Nat → Slots) (hit : EvR X Hb e Γ (fun lo' n' => lo' = lo ∧ n' = n))
    (hs : ∀ i : Nat, i < n → Go X Hb body { D0 with nx := fun σ H => EnvOk X.K Hb (G (i + 1)) σ H, ct := fun σ H => EnvOk X.K Hb (G (i + 1)) σ H, bk := fun σ H => SemSs X rest D0 σ H } (Γe i (.int (lo + i))))
    (hd : Go X Hb rest D0 (G n)) (h0 : Sub Γ (G 0) := by walk_at "sub") (hL : Has X.N xn := by walk_at "has") (hu : ∀ i x, Up X.N (G i) xn (.dat x) (Γe i x) := by intro _ _; walk_at "up") (nd : X.N.Nodup := by assumption) (hp : PassesOwn (model X.prog X.w) X.A X.env X.xe := by exact PassesOwn.never) (hc : X.calm = true := by rfl) (hx : Loc X.env.scope xn := by first | exact Or.inl rfl | exact Or.inr rfl)
    (hfs : ∀ x, foldedSetIterable e X.env x = pure x := by intro _; rfl) (hf : X.fn xn = true ∨ X.env.scope.names.lookup xn = some .local := by first | exact .inl rfl | exact .inr rfl) :
    Go X Hb (.For (.Name xn p') e body [] pos :: rest) D0 Γ := by
  intro σ H en
  obtain ⟨i, hi⟩ := hL.ix
  have en0 : EnvOk X.K Hb (G 0) σ H := en.sub h0
  obtain ⟨wi, hpi, hw⟩ := hit
  refine SemSs.cons (ps_for hp hc (hpi _) (pg_name nd hi hx hf) (semSs X body) hfs) ?_
  refine hw σ H en _ fun lo' n' H' ⟨e1, e2⟩ x => ?_
  subst e1 e2
  refine for_range (lo := lo') (n := n') (fun i σ H => EnvOk X.K Hb (G i) σ H) (en0.ex x) ?_ ?_
  · intro j σ2 H2 hin en2
    exact hs j hin _ H2 (by rw [← up_set nd hi (hu j _)]; exact en2.setDat (.int _) (.inl rfl))
  · intro σ2 H2 en2
    exact hd _ H2 en2
/-! what a loop goes over -/
theorem wi_dat {xn : Str} (hL : Look X.N Γ xn (.dat (.lst ds))) (hv : Vis X.env.scope xn := by first | exact Or.inl rfl | exact Or.inr (Or.inl rfl) | exact Or.inr (Or.inr rfl)) (hd : (xn == ("__debug__" : Str)) = false := by decide)
    (hcd : (xn == ("__classdict__" : Str)) = false := by decide) : EvI X Hb (.Name xn pos) Γ (· = ds) := by
  obtain ⟨i, hN, hG⟩ := hL.ix
  exact evi_dat i hG hN hv hd hcd
theorem wi_datT {xn : Str} (hL : Look X.N Γ xn (.dat (.tup ds))) (hv : Vis X.env.scope xn := by first | exact Or.inl rfl | exact Or.inr (Or.inl rfl) | exact Or.inr (Or.inr rfl)) (hd : (xn == ("__debug__" : Str)) = false := by decide)
    (hcd : (xn == ("__classdict__" : Str)) = false := by decide) : EvIT X Hb (.Name xn pos) Γ (· = ds) := by
  obtain ⟨i, hN, hG⟩ := hL.ix
  exact evit_dat i hG hN hv hd hcd
theorem EvI.imp {S1 S2 : List D → Prop} (h : EvI X Hb e Γ S1) (f : ∀ ds, S1 ds → S2 ds) : EvI X Hb e Γ S2 := fun σ H en Q q => h σ H en Q fun a vs H' ds s => q a vs H' ds (f ds s)
theorem wi_free {S1 : List D → Prop} (h : EvN X Hb e Γ fr fun z => ∃ ds, z = .lst ds ∧ S1 ds) (ho : owns Γ = [] := by rfl) : EvI X Hb e Γ S1 :=
  (evi_free (S' := fun z => ∀ ds, z = .lst ds → S1 ds) (h.imp fun z ⟨ds, e, s⟩ => ⟨ds, e, fun ds' e' => by cases e'; exact s⟩) ho).imp fun ds k => k ds rfl
theorem wi_new {S1 : List D → Prop} (h : EvN X Hb e Γ true fun z => ∃ ds, z = .lst ds ∧ S1 ds) (hf : ∀ ds, S1 ds → D.flatAll ds = true) : EvI X Hb e Γ S1 :=
  (evi_new (S' := fun z => ∀ ds, z = .lst ds → S1 ds) (h.imp fun z ⟨ds, e, s⟩ => ⟨ds, e, fun ds' e' => by cases e'; exact s⟩) (fun ds k => hf ds (k ds rfl))).imp fun ds k => k ds rfl
theorem wr_1 {pn : Pos} {S : Int → Nat → Prop} (hm : X.mg "range" = none) (h : EvA X Hb [a] Γ fun z => ∃ i, z = [.int i] ∧ S 0 i.toNat ∧ (-(2 ^ 62) ≤ i ∧ i < 2 ^ 62)) (hg : Gl X "range" := by rfl) (hs : starEach [a] X.env = [(false, eval a X.env)] := by rfl) :
    EvR X Hb (.Call (.Name "range" pn) [a] [] pos) Γ S :=
  (evr_1N (S1 := fun i => S 0 i.toNat ∧ (-(2 ^ 62) ≤ i ∧ i < 2 ^ 62)) h (fun i s => s.2) hm hg hs).imp fun lo n ⟨e1, i, s, e2⟩ => by rw [e1, e2]; exact s.1
theorem wr_2 {pn : Pos} {S : Int → Nat → Prop} (hm : X.mg "range" = none) (h : EvA X Hb [a, b] Γ fun z => ∃ i j, z = [.int i, .int j] ∧ S i (j - i).toNat ∧ (-(2 ^ 62) ≤ i ∧ i < 2 ^ 62 ∧ -(2 ^ 62) ≤ j ∧ j < 2 ^ 62)) (hg : Gl X "range" := by rfl) (hs : starEach [a, b] X.env = [(false, eval a X.env), (false, eval b X.env)] := by rfl) (hs2 : starEach [b] X.env = [(false, eval b X.env)] := by rfl) :
    EvR X Hb (.Call (.Name "range" pn) [a, b] [] pos) Γ S :=
  ⟨_, fun tg => pi_range2 hg hm (semA X [a, b]) hs hs2, fun σ H en R q => h σ H en _ fun vs H' ds ⟨i, j, e1, s, hb⟩ x r => by
    subst e1
    exact ⟨i, j, r.int2, hb, q i _ H' s x⟩⟩
end

section
variable {X : Cx} {Hb Hb' : Hp} {a b c e : Expr} {es : List Expr} {Γ Γ' : Slots} {pos p' p2 apos cpos : Pos} {d x y : D} {ds : List D} {Q S S' : D → Prop} {fr : Bool} {D0 : Ends} {rest sts : List Stmt} {st : Stmt} {e0 e1 e2 e3 : Ent}
theorem w_and1 (h : EvN X Hb a Γ fr Q) : EvN X Hb (.BoolOp .And [a] pos) Γ fr Q := ev_one h
theorem w_or1 (h : EvN X Hb a Γ fr Q) : EvN X Hb (.BoolOp .Or [a] pos) Γ fr Q := ev_one h
theorem ww_and1 {S : Bool → Prop} (h : EvT X Hb a Γ S) : EvW X Hb (.BoolOp .And [a] pos) Γ S := evw_and1 h
theorem ww_or1 {S : Bool → Prop} (h : EvT X Hb a Γ S) : EvW X Hb (.BoolOp .Or [a] pos) Γ S := evw_or1 h
theorem ww_and {k k' : Bool} {S : Bool → Prop} (h : EvB X Hb a Γ k) (hb : k = true → EvW X Hb (.BoolOp .And (b :: es) pos) Γ (· = k')) (q : S (k && k')) : EvW X Hb (.BoolOp .And (a :: b :: es) pos) Γ S := (evw_andD h hb).imp fun _ z => by rw [z]; exact q
theorem ww_or {k k' : Bool} {S : Bool → Prop} (h : EvB X Hb a Γ k) (hb : k = false → EvW X Hb (.BoolOp .Or (b :: es) pos) Γ (· = k')) (q : S (k || k')) : EvW X Hb (.BoolOp .Or (a :: b :: es) pos) Γ S := (evw_orD h hb).imp fun _ z => by rw [z]; exact q
end
end L3

namespace L3
open PySem PySem.Spec PyProof.Rows L2
/-- the place of a name -/
inductive At : List Str → Str → Nat → Prop
  | z {N : List Str} {x y : Str} (h : y = x) : At (y :: N) x 0
  | s {N : List Str} {x y : Str} {i : Nat} : At N x i → At (y :: N) x (i + 1)
theorem At.ix : ∀ {N : List Str} {x : Str} {i : Nat}, At N x i → N[i]? = some x
  | _, _, _, .z h => by rw [h]; rfl
  | _, _, _, .s h => by simpa using At.ix h
section
variable {X : Cx} {Hb Hb' : Hp} {a b c e elt iter tg : Expr} {es ifs : List Expr} {Γ Γ' : Slots} {pos p' p1 p2 p3 apos cpos : Pos} {d x y : D} {ds : List D} {Q S S' : D → Prop} {fr : Bool} {D0 : Ends} {rest sts : List Stmt} {st : Stmt} {scope : Scope} {own : List (Str × Nat)}
/-! comprehensions -/
def LcX (X : Cx) (Hb : Hp) (elt tg iter : Expr) (ifs : List Expr) (scope : Scope) (Γ : Slots) (S : D → Prop) : Prop := ∃ own, LcEv X Hb elt tg iter ifs scope own Γ S
theorem w_lc (h : LcX X Hb elt tg iter ifs scope Γ Q) : EvN X Hb (.ListComp elt [⟨tg, iter, ifs, 0⟩] scope pos) Γ fr Q := let ⟨_, h⟩ := h; EvN.fresh (LcEv.ev h)
theorem s_setLc {o : Bool} {yn : Str} {py spos : Pos} (_ho : OwnIf o yn) (h : LcX X Hb elt tg iter ifs scope Γ fun d => StoreD o X.N Γ yn d fun Γ' => Go X Hb rest D0 Γ') (hL : Has X.N yn) (hsw : swapsWith (.ListComp elt [⟨tg, iter, ifs, 0⟩] scope pos) (some (.Name yn py)) spos.line X.env = pure true)
    (hyl : X.env.scope.names.lookup yn = some .local := by rfl) : Go X Hb (.Assign [.Name yn py] (.ListComp elt [⟨tg, iter, ifs, 0⟩] scope pos) spos :: rest) D0 Γ := fun σ H en => by
  obtain ⟨i, hy⟩ := hL.ix
  obtain ⟨own, hc, nd, ok, hs, wi, g, tt, te, h1, h2, h3, h4, h5⟩ := h
  exact SemSs.cons (ps_setLc hc nd hy hyl hsw h1 ok h2 h3 h4 hs) (h5 σ H en _ fun v H' d s x r f => by
    obtain ⟨Γ', g, en'⟩ := s.ok nd hy en x r fun _ => f
    exact g _ H' en')
theorem up_wipe {N : List Str} {i : Nat} {xn : Str} (nd : N.Nodup) (hi : N[i]? = some xn) (h : Up N Γ xn (.dat d) Γ') (hs : Sto (Γ.set i .any) d) : Put (.nm i) d (wipeG Γ [i]) Γ' := by
  refine ⟨hs, ?_⟩
  obtain ⟨j, hj, rfl⟩ := h.ix
  have := nodup_ix nd hi hj
  subst this
  show _ = (Γ.set i .any).set i _
  rw [List.set_set]
theorem sto_sub (h : Sto Γ d) {i : Nat} : Sto (Γ.set i .any) d := h.imp id fun z => by
  have := owns_set_sub (Γ := Γ) (i := i) (e := .any) fun _ _ z => nomatch z
  rw [z] at this
  exact List.sublist_nil.mp this
/-- [elt for x in xs] -/
theorem lc1 {α : Type} {xn : Str} {Γe : α → Slots} {i : Nat} (f : α → D) (xs : List α) (g : α → D) (hit : EvJ X Hb (.Name xn p') iter Γ (· = xs.map f))
    (he : ∀ a ∈ xs, ∀ (s : Shared) (H : Hp) (C : Addr) (cl : List (Str × Addr)) (fp : List Addr), Ev (inCx X scope s H C cl fp) Hb elt (Γe a) false (g a)) (q : Q (.lst (xs.map g))) (hlen : xs.length < 100000)
    (hi : At X.N xn i := by walk_at "ati") (hu : ∀ a, Up X.N Γ xn (.dat (f a)) (Γe a) := by intro _; walk_at "up") (hst : ∀ a ∈ xs, Sto Γ (f a) := by intro _ _; walk_at "sto") (hfl : ∀ a ∈ xs, (g a).flat = true := by intro _ _; walk_at "flat1")
    (nd : X.N.Nodup := by assumption) (hc : X.calm = true := by rfl) (ok : blkC X.N X.env.scope scope [(xn, i)] = true := by walk_at "blk")
    (hg : AllIn X scope fun Y => PG Y (.Name xn p') (gName i) := by exact fun _ _ _ _ _ => pg_name (by assumption) rfl (Or.inl rfl)) (hs : ∀ x, foldedSetIterable iter X.env x = pure x := by intro _; rfl) :
    LcX X Hb elt (.Name xn p') iter [] scope Γ Q := by
  refine ⟨_, (lcJ (own := [(xn, i)]) (.nm i) f (fun a z => z = g a ∧ z.flat = true) xs Γe hit (fun a ha => up_wipe nd hi.ix (hu a) (sto_sub (hst a ha))) (fun a ha s H C cl fp => (he a ha s H C cl fp).imp fun z e => ⟨e, by rw [e]; exact hfl a ha⟩) (fun a d s => s.2) hlen hc nd (blkOk_by ok) (fun j m => m) hg hs).imp ?_⟩
  rintro z ⟨ys, rfl, hp⟩
  have : ys = xs.map g := paired_det (Paired.mapE hp fun a b _ s => s.1)
  rw [this]
  exact q
/-- [elt for x in xs if t] -/
theorem lc1If {α : Type} {xn : Str} {Γe : α → Slots} {i : Nat} {tst : Expr} (f : α → D) (xs : List α) (p : α → Bool) (g : α → D) (hit : EvJ X Hb (.Name xn p') iter Γ (· = xs.map f))
    (ht : ∀ a ∈ xs, ∀ (s : Shared) (H : Hp) (C : Addr) (cl : List (Str × Addr)) (fp : List Addr), EvB (inCx X scope s H C cl fp) Hb tst (Γe a) (p a))
    (he : ∀ a ∈ xs, p a = true → ∀ (s : Shared) (H : Hp) (C : Addr) (cl : List (Str × Addr)) (fp : List Addr), Ev (inCx X scope s H C cl fp) Hb elt (Γe a) false (g a)) (q : Q (.lst ((xs.filter p).map g))) (hlen : xs.length < 100000)
    (hi : At X.N xn i := by walk_at "ati") (hu : ∀ a, Up X.N Γ xn (.dat (f a)) (Γe a) := by intro _; walk_at "up") (hst : ∀ a ∈ xs, Sto Γ (f a) := by intro _ _; walk_at "sto") (hfl : ∀ a ∈ xs, (g a).flat = true := by intro _ _; walk_at "flat1")
    (nd : X.N.Nodup := by assumption) (hc : X.calm = true := by rfl) (ok : blkC X.N X.env.scope scope [(xn, i)] = true := by walk_at "blk")
    (hg : AllIn X scope fun Y => PG Y (.Name xn p') (gName i) := by exact fun _ _ _ _ _ => pg_name (by assumption) rfl (Or.inl rfl)) (hs : ∀ x, foldedSetIterable iter X.env x = pure x := by intro _; rfl) :
    LcX X Hb elt (.Name xn p') iter [tst] scope Γ Q := by
  refine ⟨_, (lcJIf (own := [(xn, i)]) (.nm i) f p (fun a z => z = g a ∧ z.flat = true) xs Γe hit (fun a ha => up_wipe nd hi.ix (hu a) (sto_sub (hst a ha))) (fun a ha s H C cl fp => ht a ha s H C cl fp) (fun a ha hp s H C cl fp => (he a ha hp s H C cl fp).imp fun z e => ⟨e, by rw [e]; exact hfl a ha⟩) (fun a d s => s.2) hlen hc nd (blkOk_by ok) (fun j m => m) hg hs).imp ?_⟩
  rintro z ⟨ys, rfl, hp⟩
  have : ys = (xs.filter p).map g := paired_det (Paired.mapE hp fun a b _ s => s.1)
  rw [this]
  exact q
/-- [elt for x in xs], what it may be -/
theorem lc1N {α : Type} {xn : Str} {Γe : α → Slots} {i : Nat} (f : α → D) (xs : List α) (SE : α → D → Prop) (hit : EvJ X Hb (.Name xn p') iter Γ (· = xs.map f))
    (he : ∀ a ∈ xs, ∀ (s : Shared) (H : Hp) (C : Addr) (cl : List (Str × Addr)) (fp : List Addr), EvN (inCx X scope s H C cl fp) Hb elt (Γe a) false (SE a)) (q : ∀ ys, Paired SE xs ys → Q (.lst ys)) (hfl : ∀ a d, SE a d → d.flat = true) (hlen : xs.length < 100000)
    (hi : At X.N xn i := by walk_at "ati") (hu : ∀ a, Up X.N Γ xn (.dat (f a)) (Γe a) := by intro _; walk_at "up") (hst : ∀ a ∈ xs, Sto Γ (f a) := by intro _ _; walk_at "sto")
    (nd : X.N.Nodup := by assumption) (hc : X.calm = true := by rfl) (ok : blkC X.N X.env.scope scope [(xn, i)] = true := by walk_at "blk")
    (hg : AllIn X scope fun Y => PG Y (.Name xn p') (gName i) := by exact fun _ _ _ _ _ => pg_name (by assumption) rfl (Or.inl rfl)) (hs : ∀ x, foldedSetIterable iter X.env x = pure x := by intro _; rfl) :
    LcX X Hb elt (.Name xn p') iter [] scope Γ Q := by
  refine ⟨_, (lcJ (own := [(xn, i)]) (.nm i) f SE xs Γe hit (fun a ha => up_wipe nd hi.ix (hu a) (sto_sub (hst a ha))) (fun a ha s H C cl fp => he a ha s H C cl fp) hfl hlen hc nd (blkOk_by ok) (fun j m => m) hg hs).imp ?_⟩
  rintro z ⟨ys, rfl, hp⟩
  exact q ys hp
/-- [elt for x, y in xs] -/
theorem lc2 {α : Type} {xn yn : Str} {kt : Nat} {Γ1 Γe : α → Slots} {i j : Nat} (f1 f2 : α → D) (xs : List α) (g : α → D) (hit : EvJ X Hb (.Tuple [.Name xn p1, .Name yn p2] kt p3) iter Γ (· = xs.map fun a => .tup [f1 a, f2 a]))
    (he : ∀ a ∈ xs, ∀ (s : Shared) (H : Hp) (C : Addr) (cl : List (Str × Addr)) (fp : List Addr), Ev (inCx X scope s H C cl fp) Hb elt (Γe a) false (g a)) (q : Q (.lst (xs.map g))) (hlen : xs.length < 100000)
    (hi : At X.N xn i := by walk_at "ati") (hj : At X.N yn j := by walk_at "ati") (hu : ∀ a, Up X.N Γ xn (.dat (f1 a)) (Γ1 a) := by intro _; walk_at "up") (hu2 : ∀ a, Up X.N (Γ1 a) yn (.dat (f2 a)) (Γe a) := by intro _; walk_at "up") (hst : ∀ a ∈ xs, Sto Γ (f1 a) ∧ Sto Γ (f2 a) := by intro _ _; exact ⟨by walk_at "sto", by walk_at "sto"⟩) (hfl : ∀ a ∈ xs, (g a).flat = true := by intro _ _; walk_at "flat1")
    (nd : X.N.Nodup := by assumption) (hc : X.calm = true := by rfl) (ok : blkC X.N X.env.scope scope [(xn, i), (yn, j)] = true := by walk_at "blk")
    (hg : AllIn X scope fun Y => PG Y (.Tuple [.Name xn p1, .Name yn p2] kt p3) (Tg.g X.K (.tp [.nm i, .nm j])) := by exact fun _ _ _ _ _ => pg_two rfl (pg_name (by assumption) rfl (Or.inl rfl)) (pg_name (by assumption) rfl (Or.inl rfl))) (hs : ∀ x, foldedSetIterable iter X.env x = pure x := by intro _; rfl) :
    LcX X Hb elt (.Tuple [.Name xn p1, .Name yn p2] kt p3) iter [] scope Γ Q := by
  refine ⟨_, (lcJ (fr := false) (own := [(xn, i), (yn, j)]) (.tp [.nm i, .nm j]) (fun a => .tup [f1 a, f2 a]) (fun a z => z = g a ∧ z.flat = true) xs (fun a => ((((Γ.set j .any).set i .any)).set i (.dat (f1 a))).set j (.dat (f2 a))) hit (fun a ha => ?_) (fun a ha s H C cl fp => ?_) (fun a d s => s.2) hlen hc nd (blkOk_by ok) (fun j m => m) hg hs).imp ?_⟩
  · exact ⟨_, rfl, _, _, _, rfl, ⟨sto_sub (sto_sub (hst a ha).1), rfl⟩, _, _, _, rfl, ⟨by
      have h2 := (hst a ha).2
      rcases h2 with h | h
      · exact .inl h
      · refine .inr ?_
        have h3 := owns_set_sub (Γ := Γ) (i := j) (e := .any) fun _ _ z => nomatch z
        have h4 := owns_set_sub (Γ := Γ.set j .any) (i := i) (e := .any) fun _ _ z => nomatch z
        have h5 := owns_set_sub (Γ := (Γ.set j .any).set i .any) (i := i) (e := .dat (f1 a)) fun _ _ z => nomatch z
        have h6 := (h5.trans h4).trans h3
        rw [h] at h6
        exact List.sublist_nil.mp h6, rfl⟩, rfl, rfl⟩
  · have e1 : Γe a = (Γ.set i (.dat (f1 a))).set j (.dat (f2 a)) := by
      rw [← up_set nd hj.ix (hu2 a), ← up_set nd hi.ix (hu a)]
    have e2 : ((((Γ.set j .any).set i .any)).set i (.dat (f1 a))).set j (.dat (f2 a)) = Γe a := by
      rw [e1, List.set_set]
      by_cases hij : i = j
      · subst hij; rw [List.set_set, List.set_set, List.set_set]
      · rw [List.set_comm _ _ (Ne.symm hij), List.set_set]
    exact (show EvN _ _ _ _ false _ from e2 ▸ he a ha s H C cl fp).imp fun z e => ⟨e, by rw [e]; exact hfl a ha⟩
  rintro z ⟨ys, rfl, hp⟩
  have : ys = xs.map g := paired_det (Paired.mapE hp fun a b _ s => s.1)
  rw [this]
  exact q
/-- [x for x in xs if t], things that stand already -/
theorem lcF1 {α : Type} {xn : Str} {q1 q2 : Pos} {tst : Expr} {Γe : α → Slots} {i : Nat} (f : α → D) (xs : List α) (p : α → Bool) (hit : EvJS X Hb (.Name xn q1) iter Γ (· = xs.map f))
    (ht : ∀ a ∈ xs, ∀ (s : Shared) (H : Hp) (C : Addr) (cl : List (Str × Addr)) (fp : List Addr), EvB (inCx X scope s H C cl fp) Hb tst (Γe a) (p a)) (q : Q (.lst ((xs.filter p).map f))) (hlen : xs.length < 100000)
    (hi : At X.N xn i := by walk_at "ati") (hu : ∀ a, Up X.N Γ xn (.dat (f a)) (Γe a) := by intro _; walk_at "up") (hst : ∀ a ∈ xs, Sto Γ (f a) := by intro _ _; walk_at "sto") (hΓ : i < Γ.length := by first | decide | exact Nat.le_of_ble_eq_true rfl)
    (nd : X.N.Nodup := by assumption) (hc : X.calm = true := by rfl) (ok : blkC X.N X.env.scope scope [(xn, i)] = true := by walk_at "blk")
    (hg : AllIn X scope fun Y => PG Y (.Name xn q1) (gName i) := by exact fun _ _ _ _ _ => pg_name (by assumption) rfl (Or.inl rfl)) (hv : AllIn X scope fun Y => PE Y (.Name xn q2) (tVar i) := by exact fun _ _ _ _ _ => pe_var rfl (Or.inl rfl) (by decide) (by decide)) (hs : ∀ x, foldedSetIterable iter X.env x = pure x := by intro _; rfl) :
    LcX X Hb (.Name xn q2) (.Name xn q1) iter [tst] scope Γ Q := by
  refine ⟨_, (lcF (own := [(xn, i)]) i f p xs hit (fun a ha => sto_sub (hst a ha)) (fun a ha s H C cl fp => ?_) hlen hΓ hc nd (blkOk_by ok) (by simp) hg hv hs).imp ?_⟩
  · have e : (wipeG Γ ([(xn, i)].map (·.2))).set i (.dat (f a)) = Γe a := by
      rw [← up_set nd hi.ix (hu a)]
      show (Γ.set i .any).set i _ = _
      rw [List.set_set]
    rw [e]
    exact ht a ha s H C cl fp
  · rintro z rfl
    exact q
/-! loops over anything -/
/-- for x in .., a state -/
theorem s_foldJ {α β : Type} {body : List Stmt} {xn : Str} {Γe : β → α → Slots} {i : Nat} (f : α → D) (xs : List α) (G : β → Slots) (step : β → α → β) (s0 : β) (hit : EvJ X Hb (.Name xn p') e (G s0) (· = xs.map f))
    (hs : ∀ Hb', Ex Hb Hb' → ∀ pre a post, xs = pre ++ a :: post → Go X Hb' body { D0 with nx := fun σ H => EnvOk X.K Hb' (G (step (pre.foldl step s0) a)) σ H, ct := fun σ H => EnvOk X.K Hb' (G (step (pre.foldl step s0) a)) σ H, bk := fun σ H => SemSs X rest D0 σ H } (Γe (pre.foldl step s0) a))
    (hd : Go X Hb rest D0 (G (xs.foldl step s0))) (h0 : Sub Γ (G s0) := by walk_at "sub") (hi : At X.N xn i := by walk_at "ati") (hu : ∀ s a, Up X.N (G s) xn (.dat (f a)) (Γe s a) := by intro _ _; walk_at "up") (hst : ∀ s a, a ∈ xs → Sto (G s) (f a) := by intro _ _ _; walk_at "sto") (nd : X.N.Nodup := by assumption)
    (hp : PassesOwn (model X.prog X.w) X.A X.env X.xe := by exact PassesOwn.never) (hc : X.calm = true := by rfl) (hx : Loc X.env.scope xn := by first | exact Or.inl rfl | exact Or.inr rfl)
    (hfs : ∀ x, foldedSetIterable e X.env x = pure x := by intro _; rfl) (hf : X.fn xn = true ∨ X.env.scope.names.lookup xn = some .local := by first | exact .inl rfl | exact .inr rfl) :
    Go X Hb (.For (.Name xn p') e body [] pos :: rest) D0 Γ :=
  go_weak (fun _ _ h => h.sub h0) (go_foldJ (.nm i) f xs G step s0 hit rfl (fun s a => (G s).set i (.dat (f a))) (fun s a ha => ⟨hst s a ha, rfl⟩) (fun Hb' eb pre a post h => by
    rw [up_set nd hi.ix (hu _ a)]
    exact hs Hb' eb pre a post h) hd hp hc (pg_name nd hi.ix hx hf) hfs)
/-- for x, y in .., a state -/
theorem s_foldJ2 {α β : Type} {body : List Stmt} {xn yn : Str} {kt : Nat} {Γ1 Γe : β → α → Slots} {i j : Nat} (f1 f2 : α → D) (xs : List α) (G : β → Slots) (step : β → α → β) (s0 : β) (hit : EvJ X Hb (.Tuple [.Name xn p1, .Name yn p2] kt p3) e (G s0) (· = xs.map fun a => .tup [f1 a, f2 a]))
    (hs : ∀ Hb', Ex Hb Hb' → ∀ pre a post, xs = pre ++ a :: post → Go X Hb' body { D0 with nx := fun σ H => EnvOk X.K Hb' (G (step (pre.foldl step s0) a)) σ H, ct := fun σ H => EnvOk X.K Hb' (G (step (pre.foldl step s0) a)) σ H, bk := fun σ H => SemSs X rest D0 σ H } (Γe (pre.foldl step s0) a))
    (hd : Go X Hb rest D0 (G (xs.foldl step s0))) (h0 : Sub Γ (G s0) := by walk_at "sub") (hi : At X.N xn i := by walk_at "ati") (hj : At X.N yn j := by walk_at "ati") (hu : ∀ s a, Up X.N (G s) xn (.dat (f1 a)) (Γ1 s a) := by intro _ _; walk_at "up") (hu2 : ∀ s a, Up X.N (Γ1 s a) yn (.dat (f2 a)) (Γe s a) := by intro _ _; walk_at "up")
    (hst : ∀ s a, a ∈ xs → Sto (G s) (f1 a) ∧ Sto (Γ1 s a) (f2 a) := by intro _ _ _; exact ⟨by walk_at "sto", by walk_at "sto"⟩) (nd : X.N.Nodup := by assumption)
    (hp : PassesOwn (model X.prog X.w) X.A X.env X.xe := by exact PassesOwn.never) (hc : X.calm = true := by rfl)
    (hg : PG X (.Tuple [.Name xn p1, .Name yn p2] kt p3) (Tg.g X.K (.tp [.nm i, .nm j])) := by exact pg_two rfl (pg_name (by assumption) rfl (by first | exact Or.inl rfl | exact Or.inr rfl)) (pg_name (by assumption) rfl (by first | exact Or.inl rfl | exact Or.inr rfl)))
    (hfs : ∀ x, foldedSetIterable e X.env x = pure x := by intro _; rfl) :
    Go X Hb (.For (.Tuple [.Name xn p1, .Name yn p2] kt p3) e body [] pos :: rest) D0 Γ :=
  go_weak (fun _ _ h => h.sub h0) (go_foldJ (.tp [.nm i, .nm j]) (fun a => .tup [f1 a, f2 a]) xs G step s0 hit rfl Γe (fun s a ha => ⟨_, rfl, _, _, _, rfl, ⟨(hst s a ha).1, (up_set nd hi.ix (hu s a)).symm⟩, _, _, _, rfl, ⟨(hst s a ha).2, (up_set nd hj.ix (hu2 s a)).symm⟩, rfl, rfl⟩) hs hd hp hc hg hfs)
/-- for x in .., nothing carried -/
theorem s_repJ {α : Type} {body : List Stmt} {xn : Str} {Γe : α → Slots} {i : Nat} (f : α → D) (xs : List α) (Γ0 : Slots) (hit : EvJ X Hb (.Name xn p') e Γ (· = xs.map f))
    (hs : ∀ Hb', Ex Hb Hb' → ∀ a, a ∈ xs → Go X Hb' body { D0 with nx := fun σ H => EnvOk X.K Hb' Γ0 σ H, ct := fun σ H => EnvOk X.K Hb' Γ0 σ H, bk := fun σ H => SemSs X rest D0 σ H } (Γe a))
    (hd : Go X Hb rest D0 Γ0) (h0 : Sub Γ Γ0 := by walk_at "sub") (hi : At X.N xn i := by walk_at "ati") (hu : ∀ a, Up X.N Γ0 xn (.dat (f a)) (Γe a) := by intro _; walk_at "up") (hst : ∀ a, a ∈ xs → Sto Γ0 (f a) := by intro _ _; walk_at "sto") (nd : X.N.Nodup := by assumption)
    (hp : PassesOwn (model X.prog X.w) X.A X.env X.xe := by exact PassesOwn.never) (hc : X.calm = true := by rfl) (hx : Loc X.env.scope xn := by first | exact Or.inl rfl | exact Or.inr rfl)
    (hfs : ∀ x, foldedSetIterable e X.env x = pure x := by intro _; rfl) (hf : X.fn xn = true ∨ X.env.scope.names.lookup xn = some .local := by first | exact .inl rfl | exact .inr rfl) :
    Go X Hb (.For (.Name xn p') e body [] pos :: rest) D0 Γ := fun σ H en => by
  obtain ⟨wi, hpi, hw⟩ := hit
  refine SemSs.cons (ps_for hp hc hpi (pg_name nd hi.ix hx hf) (semSs X body) hfs) ?_
  refine hw σ H en _ fun J H' ds s x ⟨G, Y, w, hG, hY⟩ => ?_
  have en' := en.ex x
  have eb : Ex Hb (hide H' (owns Γ)) := en'.wide.1
  have en1 : EnvOk X.K (hide H' (owns Γ)) Γ0 σ H' := EnvOk.sub h0 ⟨_, Ex.refl, en'.wide.2⟩
  subst s
  refine for_it w (fun i σ H => EnvOk X.K (hide H' (owns Γ)) Γ0 σ H) en1 (fun i σ H _ en2 => hG _ en2.base) ?_ ?_
  · intro k v σ2 H2 H3 hk en2 y
    obtain ⟨x3, d, hd, r⟩ := hY k H2 v H3 hk en2.base y
    rw [List.getElem?_map] at hd
    obtain ⟨a, ha, rfl⟩ : ∃ a, xs[k]? = some a ∧ d = f a := by
      cases z : xs[k]? with
      | none => rw [z] at hd; cases hd
      | some a => rw [z] at hd; cases hd; exact ⟨a, rfl, rfl⟩
    have hm := List.mem_of_getElem? ha
    exact put_ok (t := .nm i) (own := [i]) (Γ' := Γe a) ⟨hst a hm, (up_set nd hi.ix (hu a)).symm⟩ (fun _ m => m) (en2.ex x3) r _ fun σ' en' _ => hs _ eb a hm σ' H3 en'
  · intro σ2 H2 en2
    exact hd _ H2 (en2.wb eb)
/-- for x, y in .., nothing carried -/
theorem s_repJ2 {α : Type} {body : List Stmt} {xn yn : Str} {kt : Nat} {Γ1 Γe : α → Slots} {i j : Nat} (f1 f2 : α → D) (xs : List α) (Γ0 : Slots) (hit : EvJ X Hb (.Tuple [.Name xn p1, .Name yn p2] kt p3) e Γ (· = xs.map fun a => .tup [f1 a, f2 a]))
    (hs : ∀ Hb', Ex Hb Hb' → ∀ a, a ∈ xs → Go X Hb' body { D0 with nx := fun σ H => EnvOk X.K Hb' Γ0 σ H, ct := fun σ H => EnvOk X.K Hb' Γ0 σ H, bk := fun σ H => SemSs X rest D0 σ H } (Γe a))
    (hd : Go X Hb rest D0 Γ0) (h0 : Sub Γ Γ0 := by walk_at "sub") (hi : At X.N xn i := by walk_at "ati") (hj : At X.N yn j := by walk_at "ati") (hu : ∀ a, Up X.N Γ0 xn (.dat (f1 a)) (Γ1 a) := by intro _; walk_at "up") (hu2 : ∀ a, Up X.N (Γ1 a) yn (.dat (f2 a)) (Γe a) := by intro _; walk_at "up")
    (hst : ∀ a, a ∈ xs → Sto Γ0 (f1 a) ∧ Sto (Γ1 a) (f2 a) := by intro _ _; exact ⟨by walk_at "sto", by walk_at "sto"⟩) (nd : X.N.Nodup := by assumption)
    (hp : PassesOwn (model X.prog X.w) X.A X.env X.xe := by exact PassesOwn.never) (hc : X.calm = true := by rfl)
    (hg : PG X (.Tuple [.Name xn p1, .Name yn p2] kt p3) (Tg.g X.K (.tp [.nm i, .nm j])) := by exact pg_two rfl (pg_name (by assumption) rfl (by first | exact Or.inl rfl | exact Or.inr rfl)) (pg_name (by assumption) rfl (by first | exact Or.inl rfl | exact Or.inr rfl)))
    (hfs : ∀ x, foldedSetIterable e X.env x = pure x := by intro _; rfl) :
    Go X Hb (.For (.Tuple [.Name xn p1, .Name yn p2] kt p3) e body [] pos :: rest) D0 Γ := fun σ H en => by
  obtain ⟨wi, hpi, hw⟩ := hit
  refine SemSs.cons (ps_for hp hc hpi hg (semSs X body) hfs) ?_
  refine hw σ H en _ fun J H' ds s x ⟨G, Y, w, hG, hY⟩ => ?_
  have en' := en.ex x
  have eb : Ex Hb (hide H' (owns Γ)) := en'.wide.1
  have en1 : EnvOk X.K (hide H' (owns Γ)) Γ0 σ H' := EnvOk.sub h0 ⟨_, Ex.refl, en'.wide.2⟩
  subst s
  refine for_it w (fun i σ H => EnvOk X.K (hide H' (owns Γ)) Γ0 σ H) en1 (fun i σ H _ en2 => hG _ en2.base) ?_ ?_
  · intro k v σ2 H2 H3 hk en2 y
    obtain ⟨x3, d, hd, r⟩ := hY k H2 v H3 hk en2.base y
    rw [List.getElem?_map] at hd
    obtain ⟨a, ha, rfl⟩ : ∃ a, xs[k]? = some a ∧ d = .tup [f1 a, f2 a] := by
      cases z : xs[k]? with
      | none => rw [z] at hd; cases hd
      | some a => rw [z] at hd; cases hd; exact ⟨a, rfl, rfl⟩
    have hm := List.mem_of_getElem? ha
    exact put_ok (t := .tp [.nm i, .nm j]) (own := [i, j]) (Γ' := Γe a) ⟨_, rfl, _, _, _, rfl, ⟨(hst a hm).1, (up_set nd hi.ix (hu a)).symm⟩, _, _, _, rfl, ⟨(hst a hm).2, (up_set nd hj.ix (hu2 a)).symm⟩, rfl, rfl⟩ (fun _ m => m) (en2.ex x3) r _ fun σ' en' _ => hs _ eb a hm σ' H3 en'
  · intro σ2 H2 en2
    exact hd _ H2 (en2.wb eb)
/-- the end of a while's turn -/
theorem s_turn {I : Nat → Slots → Prop} {m m' : Nat} {Γ' : Slots} {D1 : Ends} (hI : I m' Γ') (hm : m' < m) (hw : Sub Γ Γ' := by walk_at "sub") (hD : ∀ σ H, (∃ m' Γ'', m' < m ∧ I m' Γ'' ∧ EnvOk X.K Hb Γ'' σ H) → D1.nx σ H := by exact fun _ _ h => h) : Go X Hb [] D1 Γ := go_turn hD hI hm fun _ _ h => h.sub hw
/-- while -/
theorem s_while {body : List Stmt} (I : Nat → Slots → Prop) (h0 : ∃ m, I m Γ)
    (hs : ∀ m Γ', I m Γ' → ∃ k : Bool, EvB X Hb c Γ' k ∧ (k = true → Go X Hb body { D0 with nx := fun σ H => ∃ m' Γ'', m' < m ∧ I m' Γ'' ∧ EnvOk X.K Hb Γ'' σ H, ct := fun σ H => ∃ m' Γ'', m' < m ∧ I m' Γ'' ∧ EnvOk X.K Hb Γ'' σ H, bk := fun σ H => SemSs X rest D0 σ H } Γ') ∧ (k = false → Go X Hb rest D0 Γ'))
    (hp : PassesOwn (model X.prog X.w) X.A X.env X.xe := by exact PassesOwn.never) : Go X Hb (.While c body [] pos :: rest) D0 Γ :=
  go_while I h0 (fun m Γ' h => by
    obtain ⟨k, h1, h2, h3⟩ := hs m Γ' h
    exact ⟨_, h1, fun z => h2 z.symm, fun z => h3 z.symm⟩) hp
/-! what is gone over -/
theorem wj_i {S1 : List D → Prop} (h : EvI X Hb e Γ S1) : EvJ X Hb tg e Γ S1 := evj_i h
theorem wj_t {S1 : List D → Prop} (h : EvIT X Hb e Γ S1) : EvJ X Hb tg e Γ S1 := evj_t h
theorem range_nil {lo : Int} : ((List.range 0).map fun (i : Nat) => D.int (lo + i)) = [] := rfl
theorem wj_r {lo : Int} {n : Nat} (h : EvR X Hb e Γ fun lo' n' => lo' = lo ∧ n' = n) : EvJ X Hb tg e Γ (· = (List.range n).map fun (i : Nat) => D.int (lo + i)) := evj_r h
/-- range(n): from 0 on -/
theorem wj_r0 {n : Nat} (h : EvR X Hb e Γ fun lo' n' => lo' = 0 ∧ n' = n) : EvJ X Hb tg e Γ (· = (List.range n).map fun (i : Nat) => D.int i) := (evj_r h).imp fun z e => by
  rw [e]
  refine List.map_congr_left fun i _ => ?_
  rw [Int.zero_add]
theorem wit_free {S1 : List D → Prop} (h : EvN X Hb e Γ fr fun z => ∃ ds, z = .tup ds ∧ S1 ds) (ho : owns Γ = [] := by rfl) : EvIT X Hb e Γ S1 := evit_free h ho
theorem wit_flat {S1 : List D → Prop} (h : EvN X Hb e Γ fr fun z => ∃ ds, z = .tup ds ∧ S1 ds) (hf : ∀ ds, S1 ds → D.flatAll ds = true) : EvIT X Hb e Γ S1 := evit_flat h hf
end
end L3

namespace L3
open PySem PySem.Spec PyProof.Rows L2
/-! ### promises by what they are given -/
def setP {α : Type} (args : α → List D) (pre : α → Prop) (res : α → D → Prop) : Pr := fun ds S => ∃ a, ds = args a ∧ pre a ∧ S = res a
def detP {α : Type} (args : α → List D) (pre : α → Prop) (res : α → D) : Pr := fun ds S => ∃ a, ds = args a ∧ pre a ∧ S = (· = res a)
theorem cl_setP {α : Type} {args : α → List D} {pre : α → Prop} {res : α → D → Prop} {ds : List D} {Q : D → Prop} (a : α) (q : ∀ d, res a d → Q d) (h : pre a) (e : ds = args a := by rfl) : Cl (setP args pre res) ds Q := ⟨_, ⟨a, e, h, rfl⟩, q⟩
theorem cl_detP {α : Type} {args : α → List D} {pre : α → Prop} {res : α → D} {ds : List D} {Q : D → Prop} (a : α) (q : Q (res a)) (h : pre a) (e : ds = args a := by rfl) : Cl (detP args pre res) ds Q := ⟨_, ⟨a, e, h, rfl⟩, fun d z => by rw [z]; exact q⟩
section
variable {P : Program} {w : World} {K : PySem.W.Frag} {mg : Str → Option Value} {base : Heap}
theorem fnP_set {α : Type} {args : α → List D} {pre : α → Prop} {res : α → D → Prop} {x qual : Str} {st : Stmt} {f : Addr} {fd : FuncData} {N ps : List Str} {k : Nat} (F : Fun K x qual st f fd) (Sc : FnScope N ps (defScope st)) (hm : mg x = some (.ref f)) (hb : Binds K fd ps []) (har : ∀ a, pre a → (args a).length = ps.length)
    (hbody : ∀ (cdv : Value) (A : Around) (outer : List Env) (s : Shared) (H : Hp) (E : XK), Room k (A.deeper (envOfC qual (defScope st) s.heap.objs.size f cdv)) → N.Nodup → ∀ a, pre a →
      Go (bodyCx P w K mg base N qual (defScope st) f cdv A outer s H E) H (defBody st) { nx := fun _ H' => res a .non ∧ Ex H H', rt := fun v H' => ∃ d, res a d ∧ Rt K H d v H' } (slots0 N (args a))) : FnP P w K mg base x (k + 1) (setP args pre res) :=
  fnP_of F Sc hm hb (fun ds S ⟨a, e, h, _⟩ => by rw [e]; exact har a h) fun cdv A outer s H E hr ds S ⟨a, e, h, e2⟩ => by
    subst e e2
    exact hbody cdv A outer s H E hr Sc.nd a h
theorem fnP_det {α : Type} {args : α → List D} {pre : α → Prop} {res : α → D} {x qual : Str} {st : Stmt} {f : Addr} {fd : FuncData} {N ps : List Str} {k : Nat} (F : Fun K x qual st f fd) (Sc : FnScope N ps (defScope st)) (hm : mg x = some (.ref f)) (hb : Binds K fd ps []) (har : ∀ a, pre a → (args a).length = ps.length)
    (hbody : ∀ (cdv : Value) (A : Around) (outer : List Env) (s : Shared) (H : Hp) (E : XK), Room k (A.deeper (envOfC qual (defScope st) s.heap.objs.size f cdv)) → N.Nodup → ∀ a, pre a →
      Go (bodyCx P w K mg base N qual (defScope st) f cdv A outer s H E) H (defBody st) { nx := fun _ H' => .non = res a ∧ Ex H H', rt := fun v H' => ∃ d, d = res a ∧ Rt K H d v H' } (slots0 N (args a))) : FnP P w K mg base x (k + 1) (detP args pre res) :=
  fnP_of F Sc hm hb (fun ds S ⟨a, e, h, _⟩ => by rw [e]; exact har a h) fun cdv A outer s H E hr ds S ⟨a, e, h, e2⟩ => by
    subst e e2
    exact hbody cdv A outer s H E hr Sc.nd a h
theorem fnL_det {α : Type} {args : α → List D} {pre : α → Prop} {res : α → D} {x qual : Str} {st : Stmt} {f : Addr} {fd : FuncData} {N ps : List Str} {k : Nat} (F : Fun K x qual st f fd) (Sc : FnScope N ps (defScope st)) (hm : mg x = some (.ref f)) (hb : Binds K fd ps []) (har : ∀ a, pre a → (args a).length = ps.length)
    (hbody : ∀ (cdv : Value) (A : Around) (outer : List Env) (s : Shared) (H : Hp) (E : XK), Room k (A.deeper (envOfC qual (defScope st) s.heap.objs.size f cdv)) → N.Nodup → ∀ a, pre a →
      Go (bodyCx P w K mg base N qual (defScope st) f cdv A outer s H E) H (defBody st) { nx := fun _ H' => .non = res a ∧ Ex H H', rt := fun v H' => ∃ d, d = res a ∧ Ex H H' ∧ Rep K H' v d } (slots0 N (args a))) : FnL P w K mg base x (k + 1) (detP args pre res) :=
  fnL_of F Sc hm hb (fun ds S ⟨a, e, h, _⟩ => by rw [e]; exact har a h) fun cdv A outer s H E hr ds S ⟨a, e, h, e2⟩ => by
    subst e e2
    exact hbody cdv A outer s H E hr Sc.nd a h
end
theorem rng_nat {n : Nat} (h : n ≤ 2 ^ 60) : ((0 : Int) = 0 ∧ (n : Int).toNat = n) ∧ (-(2 ^ 62) ≤ (n : Int) ∧ (n : Int) < 2 ^ 62) := ⟨⟨rfl, Int.toNat_natCast n⟩, by omega, by omega⟩
/-- data that == may look at -/
def Shp (d : D) : Prop := d.ok = true ∧ SeqAt.shaped d.py = true
theorem eqv_same {d : D} (h : Shp d) : PyData.eqv d.py d.py = true := SeqAt.eqv_refl _ (SeqAt.canLay_of_shaped h.2)
section
variable {X : Cx} {S : Bool → Prop} {d : D}
/-- equal data -/
theorem cmp_neSame {n : Nat} (hr : Room n X.A) (q : S false) (h : Shp d) : CmpD X .NotEq d d S := cmp_neD hr (by rw [eqv_same h]; exact q) ⟨⟨h.1, h.1⟩, h.2, h.2⟩
theorem cmp_eqSame {n : Nat} (hr : Room n X.A) (q : S true) (h : Shp d) : CmpD X .Eq d d S := cmp_eqD hr (by rw [eqv_same h]; exact q) ⟨⟨h.1, h.1⟩, h.2, h.2⟩
end
theorem shp_int (i : Int) : Shp (.int i) := ⟨rfl, rfl⟩
/-- plain: a scalar, or a tuple of ints -/
theorem shp_ti2 (i j : Int) : Shp (.tup [.int i, .int j]) := ⟨rfl, rfl⟩
theorem canLay_all : ∀ {ds : List D}, (∀ d ∈ ds, d.py.canLay0 = true) → PyData.canLayAll0 (D.pyAll ds) = true
  | [], _ => rfl
  | d :: ds, h => by
    show (d.py.canLay0 && PyData.canLayAll0 (D.pyAll ds)) = true
    rw [h d List.mem_cons_self, canLay_all fun x m => h x (List.mem_cons_of_mem _ m)]
    rfl
theorem ok_all : ∀ {ds : List D}, (∀ d ∈ ds, d.ok = true) → D.okAll ds = true
  | [], _ => rfl
  | d :: ds, h => by
    show (d.ok && D.okAll ds) = true
    rw [h d List.mem_cons_self, ok_all fun x m => h x (List.mem_cons_of_mem _ m)]
    rfl
/-- data of small depth -/
structure ShpN (n : Nat) (d : D) : Prop where
  ok : d.ok = true
  lay : d.py.canLay0 = true
  deep : d.py.depth ≤ n
theorem ShpN.shp {n : Nat} {d : D} (h : ShpN n d) (hn : n ≤ 64) : Shp d := ⟨h.ok, by unfold SeqAt.shaped; rw [h.lay, decide_eq_true (Nat.le_trans h.deep hn)]; rfl⟩
theorem shpN_int (i : Int) : ShpN 0 (.int i) := ⟨rfl, rfl, Nat.le_refl _⟩
theorem shpN_lst {n : Nat} {ds : List D} (h : ∀ d ∈ ds, ShpN n d) : ShpN (n + 1) (.lst ds) := by
  refine ⟨ok_all fun d m => (h d m).ok, canLay_all fun d m => (h d m).lay, ?_⟩
  rw [D.py, PyData.depth]
  exact Nat.succ_le_succ (deepAll ds fun d m => (h d m).deep)
theorem shpN_tup {n : Nat} {ds : List D} (h : ∀ d ∈ ds, ShpN n d) : ShpN (n + 1) (.tup ds) := by
  refine ⟨ok_all fun d m => (h d m).ok, canLay_all fun d m => (h d m).lay, ?_⟩
  rw [D.py, PyData.depth]
  exact Nat.succ_le_succ (deepAll ds fun d m => (h d m).deep)
theorem shpN_map {α : Type} {n : Nat} {f : α → D} (h : ∀ a, ShpN n (f a)) (xs : List α) : ∀ d ∈ xs.map f, ShpN n d := fun d m => by
  obtain ⟨a, _, rfl⟩ := List.mem_map.mp m
  exact h a
end L3

namespace L3
open PySem PySem.Spec PyProof.Rows L2
open AutoSeq1 (wpAny_loadPart')
/-! ### enumerate(tuple) -/
theorem meets_enumerate_newT (l : Addr) (items : Array Value) (n : Nat) (dct : Option Addr) (sl : Array (Option Value)) :
    Meets (Builtin.«enumerate.__new__» ⟨[.type "enumerate", .ref l], []⟩) (fun _ R s => s.heap.get? l = some { cls := .type "tuple", dict := dct, data := .seq items n, slots := sl } ∧
      R (.ok (.ret (.ref (s.heap.push { cls := .type "tuple_iterator", data := .fields #[.ref l, .int 0 0] }).objs.size)))
        { s with heap := (s.heap.push { cls := .type "tuple_iterator", data := .fields #[.ref l, .int 0 0] }).push { cls := .type "enumerate", data := .fields #[.none, .bool false, .ref s.heap.objs.size, rawInt 0, .none, .none] } }) :=
  .of_wp fun prog w A R s h => by
    obtain ⟨hp, g, d, tk, os⟩ := s; obtain ⟨hl, h⟩ := h
    have hsub := sub_enumerate
    have hL : Heap.IsTuple (Shared.heap ⟨hp, g, d, tk, os⟩) l items := ⟨_, hl, rfl, n, rfl⟩
    wp_walk using wpAny_loadPart' hl
    refine wpAny_stack_any fun st => wpAny_pure ?_
    split
    · rename_i c _ _ _ _ _
      cases (c == Value.type "enumerate")
      · wp_walk using wpAny_loadPart' hl, wpAny_pyIter_tuple hL
        exact ⟨_, rfl, h⟩
      · wp_walk using wpAny_loadPart' hl, wpAny_pyIter_tuple hL
        exact ⟨_, rfl, h⟩
    · wp_walk using wpAny_loadPart' hl, wpAny_pyIter_tuple hL
      exact ⟨_, rfl, h⟩
section
variable {prog : Program} {w : World} {A : Around} {E : Value → Shared → Prop} {s : Shared}
theorem call_enumerate_tuple {l : Addr} {items : Array Value} {Q : Value → Shared → Prop} (hL : s.heap.IsTuple l items)
    (h : ∀ h', IsEnum h' (s.heap.objs.size + 1) s.heap.objs.size 0 .none → h'.IsTupleIter s.heap.objs.size l 0 → h'.objs.size = s.heap.objs.size + 2 →
      (∀ b o, s.heap.get? b = some o → h'.get? b = some o) → Q (.ref (s.heap.objs.size + 1)) { s with heap := h' }) :
    wpAny (model prog w) A (call (.type "enumerate") [.ref l]) Q E s := by
  obtain ⟨⟨c, dct, dt, sl⟩, hl, hc, n, hd⟩ := hL
  replace hc : c = .type "tuple" := hc
  replace hd : dt = .seq items n := hd
  subst hc hd
  refine callType_new F.called_enumerate (by decide) (F.typeCall_enumerate_1 _) (F.newCall_enumerate_1 _) (fun obj => F.args_object_init_2 obj _) F.entry_enumerate_new
    (meets_enumerate_newT l items n dct sl) ⟨hl, ?_⟩
  have hz : (s.heap.push { cls := .type "tuple_iterator", data := .fields #[.ref l, .int 0 0] }).objs.size = s.heap.objs.size + 1 := Heap.size_push ..
  show _ ∧ _
  rw [hz]
  have he : IsEnum ((s.heap.push { cls := .type "tuple_iterator", data := .fields #[.ref l, .int 0 0] }).push
      { cls := .type "enumerate", data := .fields #[.none, .bool false, .ref s.heap.objs.size, rawInt 0, .none, .none] }) (s.heap.objs.size + 1) s.heap.objs.size 0 .none := by
    have := Heap.get?_push_size (s.heap.push { cls := .type "tuple_iterator", data := .fields #[.ref l, .int 0 0] })
      (o := { cls := .type "enumerate", data := .fields #[.none, .bool false, .ref s.heap.objs.size, rawInt 0, .none, .none] }) rfl
    rw [hz] at this; exact this
  refine ⟨⟨_, he, rfl⟩, h _ he ⟨_, Heap.get?_push_of_some _ (Heap.get?_push_size _ rfl), rfl, rfl⟩ (by rw [Heap.size_push, hz]) fun b o x => Heap.get?_push_of_some _ (Heap.get?_push_of_some _ x)⟩
end
/-- the tuple at a as it stands at each turn, each item in a new pair -/
def ItT (K : PySem.W.Frag) (a : Addr) : It :=
  ⟨fun i H => ∃ (xs : List V) (x : V), SqT K H a xs ∧ xs[i]? = some x, fun i H v H' => ∃ T x, v = .ref T ∧ H T = none ∧ H' = upd H T (.tup [.int (i : Nat), x]) ∧ ∀ xs, SqT K H a xs → xs[i]? = some x, fun i H => ∃ xs : List V, SqT K H a xs ∧ xs.length ≤ i⟩
theorem turn_enumT {P : Program} {w : World} {K : PySem.W.Frag} {elts : List Expr} {kk : Nat} {tpos : Pos} (a e it : Addr) :
    Turn P w K (.Tuple elts kk tpos) (ItT K a) [e, it] e (fun i h => (∃ old, IsEnum h e it ((i : Nat) : Int) old) ∧ h.IsTupleIter it a i ∧ (e ≠ it ∧ a ≠ e ∧ a ≠ it)) where
  mem := by simp
  obj := fun i h st b hb => by
    obtain ⟨⟨old, he⟩, ⟨o, ho, hc, hd⟩, _⟩ := st
    have e' : b = e ∨ b = it := by simpa using hb
    rcases e' with z | z
    · rw [z]; exact ⟨_, he, fun v q => nomatch q⟩
    · rw [z]; exact ⟨o, ho, fun v q => by rw [hd] at q; cases q⟩
  keep := fun i h h' st k => let ⟨⟨old, he⟩, hi, hne⟩ := st; ⟨⟨old, k e (by simp) _ he⟩, hi.at fun o q => k it (by simp) o q, hne⟩
  item := by
    intro X hP hw hK hc i pins s σ H E I hf st hg
    subst hP hw hK
    obtain ⟨⟨old, he⟩, hit, hne, hae, hai⟩ := st
    obtain ⟨xs, x, hq, hx⟩ := hg
    obtain ⟨its, rv, p, hz⟩ := I.tuple hq
    obtain ⟨u, hu, ru⟩ := rv.get hx
    have hel : e < s.heap.objs.size := Heap.lt_size he
    have hil : it < s.heap.objs.size := by obtain ⟨_, q, _⟩ := hit; exact Heap.lt_size q
    have hi2 : i < its.toArray.size := by
      have := (List.getElem?_eq_some_iff.mp hu).1
      simpa using this
    refine wpAny_pyNext_enum_itemD (Draws.tuple (A := X.A.in1) (I.ok.hd hc) it a hai its.toArray) he ⟨hit, p⟩ hi2 hne (by simp [hne, Ne.symm hae]) fun x2 h' tk hP ho ⟨hit', _⟩ hT hsz hk => ?_
    have eu : x2 = u := by
      have h1 : its[i]? = some x2 := by simpa using hP
      rw [hu] at h1
      exact (Option.some.inj h1).symm
    subst eu
    refine ⟨_, rfl, wpAny_letOwnedTupleGo_enum (s := { s with heap := h', toks := tk + 1 }) ho fun h'' he' sb => ?_⟩
    have hT2 : h''.get? s.heap.objs.size = some { cls := .type "tuple", data := .seq #[.int i tk, x2] } := (sb.2 _ (Nat.ne_of_gt hel)).trans hT
    have new : ObjOk X.prog X.w (upd H s.heap.objs.size (.tup [.int (i : Nat), x])) h'' s.heap.objs.size (.tup [.int (i : Nat), x]) :=
      ⟨by show 2 ≤ sizeLine; decide, [.int i tk, x2], .cons ⟨_, rfl⟩ (.cons ru .nil), ⟨_, hT2, rfl, _, rfl⟩⟩
    have I1 : Inv X pins σ (upd H s.heap.objs.size (.tup [.int (i : Nat), x])) { s with heap := h'', toks := tk + 1 } :=
      I.turnedNew (ch := [e, it]) (fun b ob hb q => (sb.2 b (fun z => hb (by simp [z]))).trans (hk b ob (fun z => hb (by simp [z])) (fun z => hb (by simp [z])) q)) hf (Nat.le_refl _) new
    refine ⟨.ref s.heap.objs.size, _, I1, rfl, ⟨_, x, rfl, I.hok.fresh (Nat.le_refl _), rfl, fun ys hy => by rw [I.tuple_inj hy hq]; exact hx⟩, ⟨⟨x2, ?_⟩, hit'.at fun o q => (sb.2 it (Ne.symm hne)).trans q, hne, hae, hai⟩, fun b hb => ?_⟩
    · have e1 : ((i + 1 : Nat) : Int) = (i : Int) + 1 := by omega
      rw [e1]; exact he'
    · have hb' : b < s.heap.objs.size := by
        have e' : b = e ∨ b = it := by simpa using hb
        rcases e' with z | z
        · rw [z]; exact hel
        · rw [z]; exact hil
      rw [upd_ne (Nat.ne_of_lt hb')]
      exact (hf b hb).1
  done := by
    intro X hP hw hK hc i pins s σ H E I hf st hg
    subst hP hw hK
    obtain ⟨⟨old, he⟩, hit, hne, hae, hai⟩ := st
    obtain ⟨xs, hq, hx⟩ := hg
    obtain ⟨its, rv, p, hz⟩ := I.tuple hq
    obtain ⟨f0, f1, f2, f3, f4, f5⟩ := hf it (by simp)
    have hl := rv.length
    unfold pyNext
    have hT : s.TypeIs (.ref e) "enumerate" := ⟨_, he, rfl⟩
    refine wpAny_bind (wpAny_attempt (wpAny_callSpecial?_slot (name := Str.ofString "__next__") hT F.slot_enumerate_next
      (wpAny_call_entry F.slot_enumerate_next hT F.entry_enumerate_next ?_ (F.args_enumerate_next_1 _))))
    show wpAny _ _ (field (.ref e) 2 >>= _) _ _ _
    refine wpAny_bind (wpAny_field he rfl (x := .ref it) rfl ?_)
    refine wpAny_bind (wpAny_nextOf_tuple_end (A := X.A.in1) (I.ok.hd hc) hit p (by simp; omega) fun h' x he' hx' => ?_)
    obtain ⟨o, ho, hc⟩ := hx'
    refine wpAny_bind (wpAny_isInstance (T := "StopIteration") (b := true) ⟨o, ho, hc⟩ isSubtype_stop ?_)
    exact wpAny_pure ⟨rfl, I.turned (t' := s.toks) (fun b o hb q => he' b o hb q) f0 f1 f3 f4 f5⟩
  self := fun A i s Q E st h => let ⟨⟨_, he⟩, _⟩ := st; wpAny_pyIter_enum he h
def iEnumT (K : PySem.W.Frag) (ta : TA) : TI := fun σ H R => ta σ H fun vs H1 => ∃ a xs, vs = [.ref a] ∧ SqT K H1 a xs ∧ R (ItT K a) H1
theorem pi_enumT {X : Cx} {e : Expr} {ta : TA} {p pos tpos : Pos} {elts : List Expr} {kk : Nat} (hg : Gl X "enumerate") (hm : X.mg "enumerate" = none) (ha : PA X [e] ta) (hs : starEach [e] X.env = [(false, eval e X.env)] := by rfl) :
    PI X (.Tuple elts kk tpos) (.Call (.Name "enumerate" p) [e] [] pos) (iEnumT X.K ta) := by
  refine ⟨fun pins s σ H R I h => ?_⟩
  refine Call_ (ld_blt I hg hm boot_enumerate (PyProof.Rows.callWith_type1 (thn (ha.run pos pins s σ H _ I h) fun us s1 ⟨vs, H1, I1, r1, q1⟩ => ?_) hs rfl))
  obtain ⟨a, xs, ex, hq, q⟩ := q1
  subst ex
  cases r1 with
  | cons r rr =>
    cases rr
    cases r
    obtain ⟨its, rv, p', hz⟩ := I1.tuple hq
    have hal : a < s1.heap.objs.size := p'.elim fun _ z => Heap.lt_size z.1
    refine call_enumerate_tuple p' fun h' he hit hsz hk => wpAny_pyIter_enum he ?_
    have I2 : Inv X pins σ H1 { s1 with heap := h' } := I1.kept (t' := s1.toks) hk
    refine ⟨s1.heap.objs.size + 1, [s1.heap.objs.size + 1, s1.heap.objs.size], _, _, H1, rfl, I2, turn_enumT a (s1.heap.objs.size + 1) s1.heap.objs.size, ⟨⟨.none, he⟩, hit, Nat.succ_ne_self _, Nat.ne_of_lt (Nat.lt_succ_of_lt hal), Nat.ne_of_lt hal⟩, fun b hb => ?_, q⟩
    have e' : b = s1.heap.objs.size + 1 ∨ b = s1.heap.objs.size := by simpa using hb
    have hle : s1.heap.objs.size ≤ b := by
      rcases e' with z | z
      · rw [z]; exact Nat.le_add_right _ _
      · rw [z]; exact Nat.le_refl _
    exact I1.fpOk hle (I1.hok.fresh hle)
theorem walk_enumT {K : PySem.W.Frag} {a : Addr} {xs : List V} : Walk (ItT K a) xs.length (fun H => SqT K H a xs) (YPair (fun i => some (.int (i : Nat))) (fun i => xs[i]?)) := by
  refine ⟨fun i _ hi q => ⟨xs, xs[i], q, by simp [hi]⟩, fun _ q => ⟨xs, q, Nat.le_refl _⟩, fun i H v H' _ q y => ?_⟩
  obtain ⟨T, x, h1, h2, h3, h4⟩ := y
  exact ⟨T, .int (i : Nat), x, h1, h2, h3, rfl, h4 xs q⟩
section
variable {X : Cx} {Hb Hb' : Hp} {e tg : Expr} {Γ : Slots} {pos : Pos} {ds : List D}
theorem jt_enumT {K : PySem.W.Frag} {Hz : Hp} {p : Addr} {vs : List V} (hq : SqT K Hz p vs) (ra : RepAll K Hz vs ds) : Jt K Hz (ItT K p) (ds.mapIdx fun i d => D.tup [.int (i : Nat), d]) := by
  refine ⟨_, _, by rw [List.length_mapIdx]; exact ra.length ▸ walk_enumT (xs := vs), fun H2 e => SqT.ex e hq, fun i H2 v H3 hi e y => ?_⟩
  obtain ⟨T, x, y, rfl, hT, rfl, hx, hy⟩ := y
  cases hx
  obtain ⟨d, hd, r⟩ := ra.get' hy
  refine ⟨Ex.new hT, .tup [.int (i : Nat), d], by rw [List.getElem?_mapIdx, hd]; rfl, .tup (SqT.of upd_same) (.cons (.int _) (.cons ((r.ex e).ex (Ex.new hT)) .nil))⟩
theorem evj_enumT {S1 : List D → Prop} {pn : Pos} {elts : List Expr} {kk : Nat} {tpos : Pos} (hm : X.mg "enumerate" = none) (h : EvIT X Hb e Γ S1) (hg : Gl X "enumerate" := by rfl) (hs : starEach [e] X.env = [(false, eval e X.env)] := by rfl) :
    EvJ X Hb (.Tuple elts kk tpos) (.Call (.Name "enumerate" pn) [e] [] pos) Γ (fun z => ∃ ds, z = ds.mapIdx (fun i d => D.tup [.int (i : Nat), d]) ∧ S1 ds) :=
  ⟨_, pi_enumT hg hm (pa_cons (semE X e) pa_nil hs) hs, fun σ H en R q => h σ H en _ fun a vs H' ds s x hq ra => ⟨a, vs, rfl, SqT.ex hide_ex hq, q _ H' _ ⟨ds, rfl, s⟩ x (jt_enumT hq ra)⟩⟩
/-- enumerate, by places: of f i the i-th -/
theorem mapIdx_range {α : Type} (f : α → D) (xs : List α) (z : α) : (xs.map f).mapIdx (fun i d => D.tup [.int (i : Nat), d]) = (List.range xs.length).map fun (i : Nat) => .tup [.int (i : Int), f (xs.getD i z)] := by
  refine List.ext_getElem? fun i => ?_
  rw [List.getElem?_mapIdx, List.getElem?_map, List.getElem?_map]
  by_cases h : i < xs.length
  · rw [List.getElem?_range h, List.getElem?_eq_getElem h]
    show some (D.tup [.int (i : Int), f xs[i]]) = some (D.tup [.int (i : Int), f (xs.getD i z)])
    rw [List.getD_eq_getElem?_getD, List.getElem?_eq_getElem h]
    rfl
  · rw [List.getElem?_eq_none (by omega), List.getElem?_eq_none (by rw [List.length_range]; omega)]
    rfl
theorem wj_enumT {α : Type} {f : α → D} {xs : List α} {pn : Pos} {elts : List Expr} {kk : Nat} {tpos : Pos} (z : α) (hm : X.mg "enumerate" = none) (h : EvIT X Hb e Γ (· = xs.map f)) (hg : Gl X "enumerate" := by rfl) (hs : starEach [e] X.env = [(false, eval e X.env)] := by rfl) :
    EvJ X Hb (.Tuple elts kk tpos) (.Call (.Name "enumerate" pn) [e] [] pos) Γ (· = (List.range xs.length).map fun (i : Nat) => .tup [.int (i : Int), f (xs.getD i z)]) :=
  (evj_enumT hm h hg hs).imp fun y ⟨ds, e1, e2⟩ => by rw [e1, e2, mapIdx_range f xs z]
theorem wj_enumL {α : Type} {f : α → D} {xs : List α} {pn : Pos} {elts : List Expr} {kk : Nat} {tpos : Pos} (z : α) (hm : X.mg "enumerate" = none) (h : EvI X Hb e Γ (· = xs.map f)) (hg : Gl X "enumerate" := by rfl) (hs : starEach [e] X.env = [(false, eval e X.env)] := by rfl) :
    EvJ X Hb (.Tuple elts kk tpos) (.Call (.Name "enumerate" pn) [e] [] pos) Γ (· = (List.range xs.length).map fun (i : Nat) => .tup [.int (i : Int), f (xs.getD i z)]) :=
  (evj_enum hm h hg hs).imp fun y ⟨ds, e1, e2⟩ => by rw [e1, e2, mapIdx_range f xs z]
end
end L3

namespace L3
open PySem PySem.Spec PyProof.Rows L2
theorem kit_ll : kitB "list" "list" = some true := by decide +kernel
theorem kit_tl : kitB "tuple" "list" = some false := by decide +kernel
theorem kit_il : kitB "int" "list" = some false := by decide +kernel
theorem kit_bl : kitB "bool" "list" = some false := by decide +kernel
theorem kit_nl : kitB "NoneType" "list" = some false := by decide +kernel
theorem kd_tt {xs : List D} : kitB (tyD (.tup xs)) "tuple" = some true := kit_tt
theorem kd_lt {xs : List D} : kitB (tyD (.lst xs)) "tuple" = some false := kit_lt
theorem kd_it {i : Int} : kitB (tyD (.int i)) "tuple" = some false := kit_it
theorem kd_bt {i : Bool} : kitB (tyD (.bl i)) "tuple" = some false := kit_bt
theorem kd_nt : kitB (tyD .non) "tuple" = some false := kit_nt
theorem kd_tl {xs : List D} : kitB (tyD (.tup xs)) "list" = some false := kit_tl
theorem kd_ll {xs : List D} : kitB (tyD (.lst xs)) "list" = some true := kit_ll
theorem kd_il {i : Int} : kitB (tyD (.int i)) "list" = some false := kit_il
theorem kd_ti {xs : List D} : kitB (tyD (.tup xs)) "int" = some false := kit_ti
theorem kd_li {xs : List D} : kitB (tyD (.lst xs)) "int" = some false := kit_li
theorem kd_ii {i : Int} : kitB (tyD (.int i)) "int" = some true := kit_ii
theorem kd_bi {i : Bool} : kitB (tyD (.bl i)) "int" = some true := kit_bi
theorem kd_ni : kitB (tyD .non) "int" = some false := kit_ni
theorem kd_tb {xs : List D} : kitB (tyD (.tup xs)) "bool" = some false := kit_tb
theorem kd_lb {xs : List D} : kitB (tyD (.lst xs)) "bool" = some false := kit_lb
theorem kd_ib {i : Int} : kitB (tyD (.int i)) "bool" = some false := kit_ib
theorem kd_bb {i : Bool} : kitB (tyD (.bl i)) "bool" = some true := kit_bb
theorem kd_nb : kitB (tyD .non) "bool" = some false := kit_nb
theorem ok_mapT {α : Type} {f : α → D} (h : ∀ a, (f a).ok = true) (xs : List α) : (D.tup (xs.map f)).ok = true := ok_all fun d m => by
  obtain ⟨a, _, rfl⟩ := List.mem_map.mp m
  exact h a
theorem ok_mapL {α : Type} {f : α → D} (h : ∀ a, (f a).ok = true) (xs : List α) : (D.lst (xs.map f)).ok = true := ok_all fun d m => by
  obtain ⟨a, _, rfl⟩ := List.mem_map.mp m
  exact h a
section
variable {X : Cx} {Hb Hb' : Hp} {a b c e : Expr} {es : List Expr} {Γ Γ' : Slots} {pos p' p2 apos cpos : Pos} {d x y : D} {ds : List D} {Q S S' : D → Prop} {fr : Bool} {D0 : Ends} {rest sts : List Stmt} {st : Stmt}
def KitD (d : D) (Ts : String) (Q : Bool → Prop) : Prop := d.ok = true ∧ ∃ k, kitB (tyD d) Ts = some k ∧ Q k
theorem kitd {Ts : String} {k : Bool} {Q : Bool → Prop} (q : Q k) (h : kitB (tyD d) Ts = some k) (ho : d.ok = true) : KitD d Ts Q := ⟨ho, k, h, q⟩
theorem w_isI {T : Str} {Ts : String} {pn p2 : Pos} (hm : X.mg "isinstance" = none) (hm2 : X.mg T = none) (h : EvN X Hb a Γ false fun d => KitD d Ts fun k => Q (.bl k)) (hv : bootBuiltins T = some (.type Ts) := by decide +kernel)
    (hg : Gl X "isinstance" := by rfl) (hg2 : Gl X T := by rfl) (hn : T ≠ "__name__" := by decide) (hd : (T == ("__debug__" : Str)) = false := by decide) (he : starEach (a :: [.Name T p2]) X.env = (false, eval a X.env) :: starEach [.Name T p2] X.env := by rfl) (he2 : starEach ([.Name T p2]) X.env = (false, eval (.Name T p2) X.env) :: starEach [] X.env := by rfl) (hpl : (backTo pos (starEach [.Name T p2] X.env)).any (·.1) = false := by rfl) :
    EvN X Hb (.Call (.Name "isinstance" pn) [a, .Name T p2] [] pos) Γ fr Q := EvN.fresh <|
  (evn_isI (SB := fun k => Q (.bl k)) (T := T) hm hm2 h (fun d' e => e) hv hg hg2 hn hd he he2 hpl).imp fun _ ⟨k', e1, e2⟩ => by rw [e1]; exact e2
/-- for i in range(n), nothing carried, nothing forgotten -/
theorem s_range {body : List Stmt} {xn : Str} {Γe : D → Slots} {pn : Pos} (n : Nat) (hm : X.mg "range" = none) (h : EvA X Hb [a] Γ fun z => ∃ i, z = [.int i] ∧ i.toNat = n ∧ (-(2 ^ 62) ≤ i ∧ i < 2 ^ 62))
    (hs : ∀ i : Nat, i < n → Go X Hb body { D0 with nx := fun σ H => EnvOk X.K Hb Γ σ H, ct := fun σ H => EnvOk X.K Hb Γ σ H, bk := fun σ H => SemSs X rest D0 σ H } (Γe (.int i)))
    (hd : Go X Hb rest D0 Γ) (hL : Has X.N xn := by walk_at "has") (hu : ∀ x, Up X.N Γ xn (.dat x) (Γe x) := by intro _; walk_at "up") (nd : X.N.Nodup := by assumption) (hp : PassesOwn (model X.prog X.w) X.A X.env X.xe := by exact PassesOwn.never) (hc : X.calm = true := by rfl) (hx : Loc X.env.scope xn := by first | exact Or.inl rfl | exact Or.inr rfl)
    (hg : Gl X "range" := by rfl) (hse : starEach [a] X.env = [(false, eval a X.env)] := by rfl)
    (hfs : ∀ x, foldedSetIterable (.Call (.Name "range" pn) [a] [] pos) X.env x = pure x := by intro _; rfl) (hf : X.fn xn = true ∨ X.env.scope.names.lookup xn = some .local := by first | exact .inl rfl | exact .inr rfl) :
    Go X Hb (.For (.Name xn p') (.Call (.Name "range" pn) [a] [] pos) body [] p2 :: rest) D0 Γ :=
  s_rep (fun lo m => lo = 0 ∧ m = n) Γ (wr_1 hm (h.imp fun z ⟨i, e, e2, hb⟩ => ⟨i, e, ⟨rfl, e2⟩, hb⟩) hg hse) (fun lo m i ⟨e1, e2⟩ hi => by
    subst e1 e2
    rw [Int.zero_add]
    exact hs i hi) hd Sub.refl hL hu nd hp hc hx hfs hf
end
end L3

namespace L3
open PySem PySem.Spec PyProof.Rows L2
section
variable {X : Cx} {Hb Hb' : Hp} {a b c e : Expr} {es : List Expr} {Γ Γ' : Slots} {pos p' p2 apos cpos : Pos} {d x y : D} {ds : List D} {Q S S' : D → Prop} {fr : Bool} {D0 : Ends} {rest sts : List Stmt} {st : Stmt}
/-- if, the two ways meet again -/
theorem s_ifJ {as bs : List Stmt} {k : Bool} (I : Slots → Prop) (h : EvB X Hb c Γ k) (ha : k = true → Go X Hb as { D0 with nx := Btw X Hb I } Γ) (hb : k = false → Go X Hb bs { D0 with nx := Btw X Hb I } Γ) (hd : ∀ Γ', I Γ' → Go X Hb rest D0 Γ') : Go X Hb (.If c as bs pos :: rest) D0 Γ :=
  go_if h (fun z σ H en => (ha z σ H en).mono (fun σ H ⟨Γ', hI, en'⟩ => hd Γ' hI σ H en') (fun _ _ h => h) (fun _ _ h => h) fun _ _ h => h) fun z σ H en => (hb z σ H en).mono (fun σ H ⟨Γ', hI, en'⟩ => hd Γ' hI σ H en') (fun _ _ h => h) (fun _ _ h => h) fun _ _ h => h
theorem s_btw {I : Slots → Prop} {rt : VK} {bk ct : L2.St → Hp → Prop} (hI : I Γ') (s : Sub Γ Γ' := by walk_at "sub") : Go X Hb [] { nx := Btw X Hb I, rt := rt, bk := bk, ct := ct } Γ := go_btw hI (fun _ _ h => h.sub s) fun _ _ h => h
theorem s_tup4 {o1 o2 o3 o4 : Bool} {xn yn zn un : Str} {px py pz pu pt : Pos} {kt k2 : Nat} {pt2 : Pos} (_h1 : OwnIf o1 xn) (_h2 : OwnIf o2 yn) (_h3 : OwnIf o3 zn) (_h4 : OwnIf o4 un) (h : EvN X Hb a Γ o1 fun d1 => EvN X Hb b Γ o2 fun d2 => EvN X Hb c Γ o3 fun d3 => EvN X Hb e Γ o4 fun d4 => StoreD o1 X.N Γ xn d1 fun Γ1 => StoreD o2 X.N Γ1 yn d2 fun Γ2 => StoreD o3 X.N Γ2 zn d3 fun Γ3 => StoreD o4 X.N Γ3 un d4 fun Γ4 => Go X Hb rest D0 Γ4)
    (nd : X.N.Nodup) (hL : Has X.N xn) (hL2 : Has X.N yn) (hL3 : Has X.N zn) (hL4 : Has X.N un) (hw : swappedStores [.Tuple [.Name xn px, .Name yn py, .Name zn pz, .Name un pu] kt pt] (.Tuple [a, b, c, e] k2 pt2) X.env = pure none := by rfl) (hc : X.calm = true := by rfl)
    (hx : Loc X.env.scope xn := by first | exact Or.inl rfl | exact Or.inr rfl) (hy : Loc X.env.scope yn := by first | exact Or.inl rfl | exact Or.inr rfl) (hz : Loc X.env.scope zn := by first | exact Or.inl rfl | exact Or.inr rfl) (hu : Loc X.env.scope un := by first | exact Or.inl rfl | exact Or.inr rfl)
    (hf : X.fn xn = true ∨ X.env.scope.names.lookup xn = some .local := by first | exact .inl rfl | exact .inr rfl) (hf2 : X.fn yn = true ∨ X.env.scope.names.lookup yn = some .local := by first | exact .inl rfl | exact .inr rfl) (hf3 : X.fn zn = true ∨ X.env.scope.names.lookup zn = some .local := by first | exact .inl rfl | exact .inr rfl) (hf4 : X.fn un = true ∨ X.env.scope.names.lookup un = some .local := by first | exact .inl rfl | exact .inr rfl)
    (hn : (assignEach [.Name xn px, .Name yn py, .Name zn pz, .Name un pu] X.env).length = 4 := by rfl) (hst : (assignEach [.Name xn px, .Name yn py, .Name zn pz, .Name un pu] X.env).findIdx? (·.1) = none := by rfl)
    (hz1 : (assignEach (.Name xn px :: [.Name yn py, .Name zn pz, .Name un pu]) X.env).map (·.2) = assign (.Name xn px) X.env :: (assignEach [.Name yn py, .Name zn pz, .Name un pu] X.env).map (·.2) := by rfl)
    (hz2 : (assignEach (.Name yn py :: [.Name zn pz, .Name un pu]) X.env).map (·.2) = assign (.Name yn py) X.env :: (assignEach [.Name zn pz, .Name un pu] X.env).map (·.2) := by rfl)
    (hz3 : (assignEach (.Name zn pz :: [.Name un pu]) X.env).map (·.2) = assign (.Name zn pz) X.env :: (assignEach [.Name un pu] X.env).map (·.2) := by rfl)
    (hz4 : (assignEach (.Name un pu :: []) X.env).map (·.2) = assign (.Name un pu) X.env :: (assignEach [] X.env).map (·.2) := by rfl)
    (hsw : swapsWithSole [.Tuple [.Name xn px, .Name yn py, .Name zn pz, .Name un pu] kt pt] (.Tuple [a, b, c, e] k2 pt2) pos.line X.env = pure false := by rfl) (h1 : (assignEach [.Tuple [.Name xn px, .Name yn py, .Name zn pz, .Name un pu] kt pt] X.env).map (·.2) = [assign (.Tuple [.Name xn px, .Name yn py, .Name zn pz, .Name un pu] kt pt) X.env] := by rfl)
    (hs1 : starEach (a :: [b, c, e]) X.env = (false, eval a X.env) :: starEach [b, c, e] X.env := by rfl)
    (hs2 : starEach (b :: [c, e]) X.env = (false, eval b X.env) :: starEach [c, e] X.env := by rfl)
    (hs3 : starEach (c :: [e]) X.env = (false, eval c X.env) :: starEach [e] X.env := by rfl)
    (hs4 : starEach (e :: []) X.env = (false, eval e X.env) :: starEach [] X.env := by rfl)
    : Go X Hb (.Assign [.Tuple [.Name xn px, .Name yn py, .Name zn pz, .Name un pu] kt pt] (.Tuple [a, b, c, e] k2 pt2) pos :: rest) D0 Γ := fun σ H en => by
  obtain ⟨i, hi⟩ := hL.ix
  obtain ⟨j, hj⟩ := hL2.ix
  obtain ⟨l, hl⟩ := hL3.ix
  obtain ⟨m, hm⟩ := hL4.ix
  refine SemSs.cons (ps_asg (pe_tup (pa_cons (semE X a) (pa_cons (semE X b) (pa_cons (semE X c) (pa_cons (semE X e) pa_nil hs4) hs3) hs2) hs1)) (pg_tup hc (pgs_cons (pg_name nd hi hx hf) (pgs_cons (pg_name nd hj hy hf2) (pgs_cons (pg_name nd hl hz hf3) (pgs_cons (pg_name nd hm hu hf4) pgs_nil hz4) hz3) hz2) hz1) hn hst) hsw hw h1) (h σ H en _ fun v1 H1 d1 s1 x1 r1 f1 => s1 σ H1 (en.ex x1) _ fun v2 H2 d2 s2 x2 r2 f2 => s2 σ H2 (en.ex (x1.trans x2)) _ fun v3 H3 d3 s3 x3 r3 f3 => s3 σ H3 (en.ex ((x1.trans x2).trans x3)) _ fun v4 H4 d4 s4 x4 r4 f4 => ⟨by show 4 ≤ sizeLine; decide, fun T hT => ?_⟩)
  obtain ⟨Γ1, g1, en1⟩ := s4.ok nd hi en x1 r1 f1
  obtain ⟨Γ2, g2, en2⟩ := g1.ok nd hj en1 x2 r2 f2
  obtain ⟨Γ3, g3, en3⟩ := g2.ok nd hl en2 x3 r3 f3
  obtain ⟨Γ4, g4, en4⟩ := g3.ok nd hm en3 x4 r4 f4
  exact ⟨T, _, rfl, SqT.of upd_same, rfl, _, _, rfl, _, _, rfl, _, _, rfl, _, _, rfl, rfl, g4 _ _ (en4.ex (Ex.new hT))⟩
theorem shpN_bl (i : Bool) : ShpN 0 (.bl i) := ⟨rfl, rfl, Nat.le_refl _⟩
theorem c_chooseT {P : D → Prop} {xs : List D} (h : ∀ d ∈ xs, P d) {d : D} (m : d ∈ xs) : P d := h d m
end
end L3

namespace L3
open PySem PySem.Spec PyProof.Rows L2
section
variable {X : Cx} {Hb Hb' : Hp} {a b c e o : Expr} {es : List Expr} {Γ Γ' : Slots} {pos p' p2 apos cpos : Pos} {d x y : D} {ds : List D} {Q S S' : D → Prop} {fr : Bool} {D0 : Ends} {rest sts : List Stmt} {st : Stmt}
/-- f(..).append(e), the list thrown away -/
theorem s_appendNew (h : EvN X Hb o Γ true fun d => ∃ ds, d = .lst ds ∧ ds.length ≤ 100000 ∧ EvN X Hb e Γ false fun _ => Go X Hb rest D0 Γ)
    (hbase : attributeBase o "append" X.env (eval o X.env) = eval o X.env := by rfl)
    (hfew : ((backTo cpos (starEach (e :: []) X.env)).all (fun x => !x.1) && (backToKw cpos (keywordEach [] X.env)).all (fun x => x.1.isSome) && decide ((e :: []).length + ([] : List Keyword).length + (if ([] : List Keyword).isEmpty then 0 else 1) < 30)) = true := by rfl)
    (hline : (apos.endLine == cpos.line) = true := by rfl) (hs : starEach (e :: []) X.env = (false, eval e X.env) :: starEach [] X.env := by rfl) (hplain : (backTo cpos (starEach [] X.env)).any (·.1) = false := by rfl)
    (hsw : swapsWith (.Call (.Attribute o "append" apos) [e] [] cpos) none pos.line X.env = pure false := by rfl) :
    Go X Hb (.Expr (.Call (.Attribute o "append" apos) [e] [] cpos) pos :: rest) D0 Γ := fun σ H en => by
  refine SemSs.cons (ps_expr (pe_bm PySem.F.plainAttrs_list PySem.F.slot_list_append PySem.F.type_list_append mt_append (semE X o) (pa_cons (semE X e) pa_nil hs) hbase hfew hline hs hplain) hsw) ?_
  refine h σ H en _ fun v H1 d ⟨ds, hd, hl, k⟩ x1 r1 f1 => ?_
  subst hd
  obtain ⟨p, vs, rfl, hp, hpl, ra⟩ := f1 rfl
  refine ⟨.inl ⟨rfl, _, SqL.of hpl⟩, k σ H1 (en.ex x1) _ fun w H2 d2 s2 x2 r2 _ => ?_⟩
  refine ⟨p, vs, w, rfl, rfl, x2 _ _ hpl, by rw [ra.length]; exact Nat.lt_of_le_of_lt hl (by decide), ?_⟩
  exact s2 σ _ (en.ex (Ex.mut (x1.trans x2) hp))
theorem zipW_map {α β : Type} {f : α → D} {g : β → D} : ∀ (xs : List α) (ys : List β), List.zipWith (fun a b => D.tup [a, b]) (xs.map f) (ys.map g) = (List.zip xs ys).map fun p => D.tup [f p.1, g p.2]
  | [], _ => rfl
  | _ :: _, [] => rfl
  | x :: xs, y :: ys => by
    simp only [List.zip_cons_cons, List.map_cons, List.zipWith_cons_cons]
    exact congrArg _ (zipW_map xs ys)
/-- over zip of two lists -/
theorem wj_zip {α β : Type} {f : α → D} {g : β → D} {xs : List α} {ys : List β} {pn tpos : Pos} {elts : List Expr} {kt : Nat} (hm : X.mg "zip" = none) (ha : EvI X Hb a Γ (· = xs.map f)) (hb : EvI X Hb b Γ (· = ys.map g))
    (hg : Gl X "zip" := by rfl) (hs : starEach [a, b] X.env = (false, eval a X.env) :: starEach [b] X.env := by rfl) (hs2 : starEach [b] X.env = [(false, eval b X.env)] := by rfl) (hpl : (backTo pos (starEach [b] X.env)).any (·.1) = false := by rfl) :
    EvJ X Hb (.Tuple elts kt tpos) (.Call (.Name "zip" pn) [a, b] [] pos) Γ (· = (List.zip xs ys).map fun p => D.tup [f p.1, g p.2]) :=
  (evj_zip (S1 := (· = xs.map f)) (S2 := (· = ys.map g)) hm ha hb hg hs hs2 hpl).imp fun z ⟨ds, es, e, e1, e2⟩ => by
    rw [e, e1, e2]
    exact zipW_map xs ys
end
end L3

/-! Core33: any, all of a list of truths. -/
namespace L3
open PySem PySem.Spec PyProof.Rows L2
theorem ownNil {α : Type} {p : Addr} {f : α → D} : Ent.own p [] = Ent.own p (List.map f []) := rfl
section
variable {X : Cx} {Hb : Hp} {a : Expr} {Γ : Slots} {pos pn : Pos} {Q : D → Prop} {fr : Bool}
theorem w_any (hm : X.mg "any" = none) (h : EvA X Hb [a] Γ fun ds => ∃ ns : List Bool, ds = [.lst (ns.map .bl)] ∧ Q (.bl (ns.any id))) (hc : X.calm = true := by rfl) (hg : Gl X "any" := by rfl) (he : starEach (a :: []) X.env = (false, eval a X.env) :: starEach [] X.env := by rfl) (hpl : (backTo pos (starEach [] X.env)).any (·.1) = false := by rfl) :
    EvN X Hb (.Call (.Name "any" pn) [a] [] pos) Γ fr Q := EvN.fresh <|
  evn_B (cr_any hc) hm h (fun vs H ds Q' ⟨ns, e, q⟩ r k => by
    subst e
    obtain ⟨p, ws, e, hq, ra⟩ := r.lst1
    rw [ra.bls] at hq
    exact ⟨p, ns, e, hq, k _ _ _ q Ex.refl (.bl _) (FreshD.flat rfl)⟩) (by decide +kernel) hg (by decide) (by decide) he hpl
theorem w_all (hm : X.mg "all" = none) (h : EvA X Hb [a] Γ fun ds => ∃ ns : List Bool, ds = [.lst (ns.map .bl)] ∧ Q (.bl (ns.all id))) (hc : X.calm = true := by rfl) (hg : Gl X "all" := by rfl) (he : starEach (a :: []) X.env = (false, eval a X.env) :: starEach [] X.env := by rfl) (hpl : (backTo pos (starEach [] X.env)).any (·.1) = false := by rfl) :
    EvN X Hb (.Call (.Name "all" pn) [a] [] pos) Γ fr Q := EvN.fresh <|
  evn_B (cr_all hc) hm h (fun vs H ds Q' ⟨ns, e, q⟩ r k => by
    subst e
    obtain ⟨p, ws, e, hq, ra⟩ := r.lst1
    rw [ra.bls] at hq
    exact ⟨p, ns, e, hq, k _ _ _ q Ex.refl (.bl _) (FreshD.flat rfl)⟩) (by decide +kernel) hg (by decide) (by decide) he hpl
/-- sum of ints -/
theorem w_sum (hm : X.mg "sum" = none) (h : EvA X Hb [a] Γ fun ds => ∃ ns : List Int, ds = [.lst (ns.map .int)] ∧ Q (.int ns.sum)) (hc : X.calm = true := by rfl) (hg : Gl X "sum" := by rfl) (he : starEach (a :: []) X.env = (false, eval a X.env) :: starEach [] X.env := by rfl) (hpl : (backTo pos (starEach [] X.env)).any (·.1) = false := by rfl) :
    EvN X Hb (.Call (.Name "sum" pn) [a] [] pos) Γ fr Q := EvN.fresh <|
  evn_B (cr_sum hc) hm h (fun vs H ds Q' ⟨ns, e, q⟩ r k => by
    subst e
    obtain ⟨p, ws, e, hq, ra⟩ := r.lst1
    rw [ra.ints] at hq
    exact ⟨p, ns, e, hq, k _ _ _ q Ex.refl (.int _) (FreshD.flat rfl)⟩) (by decide +kernel) hg (by decide) (by decide) he hpl
end
end L3

/-! Core34: in, not in: data in lists and tuples; two names out of a list; over a tuple not stored. -/
namespace L3
open PySem PySem.Spec PyProof.Rows L2
section
variable {X : Cx} {Hb : Hp} {a b e : Expr} {Γ : Slots} {pos pn : Pos} {Q : D → Prop} {S : Bool → Prop} {fr : Bool} {d1 : D} {ds : List D} {D0 : Ends} {rest : List Stmt}
theorem op_inLR (hu : X.A.units + 65 < cLine) : OpR X (compareOp .In) (fun x y H Q => ∃ d ds, Rep X.K H x d ∧ Rep X.K H y (.lst ds) ∧ (d.ok = true ∧ (D.lst ds).ok = true) ∧ (SeqAt.shaped d.py = true ∧ SeqAt.shaped (D.lst ds).py = true) ∧ Q (.bl ((D.pyAll ds).any fun z => PyData.eqv z d.py)) H) := by
  intro pins s σ H x y v u Q I rx ry ⟨d, ds, h1, h2, ho, hs, q⟩
  obtain ⟨as, r1, _⟩ := Rep.reads I d x v h1 ho.1 rx
  obtain ⟨bs, r2, _⟩ := Rep.reads I _ y u h2 ho.2 ry
  exact SeqAt.in_list_reads r2 r1 (SeqAt.canLay_of_shaped hs.2) (SeqAt.canLay_of_shaped hs.1) (room_in_shaped hs.1 hu) ⟨.bl _, H, I, rfl, q⟩
theorem op_inTR (hu : X.A.units + 65 < cLine) : OpR X (compareOp .In) (fun x y H Q => ∃ d ds, Rep X.K H x d ∧ Rep X.K H y (.tup ds) ∧ (d.ok = true ∧ (D.tup ds).ok = true) ∧ (SeqAt.shaped d.py = true ∧ SeqAt.shaped (D.tup ds).py = true) ∧ Q (.bl ((D.pyAll ds).any fun z => PyData.eqv z d.py)) H) := by
  intro pins s σ H x y v u Q I rx ry ⟨d, ds, h1, h2, ho, hs, q⟩
  obtain ⟨as, r1, _⟩ := Rep.reads I d x v h1 ho.1 rx
  obtain ⟨bs, r2, _⟩ := Rep.reads I _ y u h2 ho.2 ry
  exact SeqAt.in_tuple_reads r2 r1 (SeqAt.canLay_of_shaped hs.2) (SeqAt.canLay_of_shaped hs.1) (room_in_shaped hs.1 hu) ⟨.bl _, H, I, rfl, q⟩
theorem cmp_inL {n : Nat} (hr : Room n X.A) (q : S ((D.pyAll ds).any fun z => PyData.eqv z d1.py)) (h : (d1.ok = true ∧ (D.lst ds).ok = true) ∧ SeqAt.shaped d1.py = true ∧ SeqAt.shaped (D.lst ds).py = true) : CmpD X .In d1 (.lst ds) S := CmpD.of (op_inLR (by have := hr.un; omega)) fun x y H Q' r1 r2 k => ⟨_, _, r1, r2, h.1, h.2, k _ q⟩
theorem cmp_inT {n : Nat} (hr : Room n X.A) (q : S ((D.pyAll ds).any fun z => PyData.eqv z d1.py)) (h : (d1.ok = true ∧ (D.tup ds).ok = true) ∧ SeqAt.shaped d1.py = true ∧ SeqAt.shaped (D.tup ds).py = true) : CmpD X .In d1 (.tup ds) S := CmpD.of (op_inTR (by have := hr.un; omega)) fun x y H Q' r1 r2 k => ⟨_, _, r1, r2, h.1, h.2, k _ q⟩
/-- ints in a list, a tuple of ints -/
theorem pyAll_ints : ∀ (ns : List Int) (i : Int), (D.pyAll (ns.map .int)).any (fun z => PyData.eqv z (D.int i).py) = ns.any fun n => n == i
  | [], _ => rfl
  | n :: ns, i => by
    show (PyData.eqv (.int n) (.int i) || (D.pyAll (ns.map .int)).any _) = _
    rw [pyAll_ints ns i]
    rfl
end
end L3

/-! Core35: a loop with a state that is one of some. -/
namespace L3
open PySem PySem.Spec PyProof.Rows L2
section
variable {X : Cx} {Hb : Hp} {a b e : Expr} {Γ : Slots} {pos pn p' : Pos} {D0 : Ends} {rest : List Stmt}
/-- for x in ..: behind i turns the state is one of I i -/
theorem s_stJ {α β : Type} {body : List Stmt} {xn : Str} {Γe : β → α → Slots} {i : Nat} (f : α → D) (xs : List α) (G : β → Slots) (I : Nat → β → Prop) (s0 : β) (h0 : I 0 s0) (hit : EvJ X Hb (.Name xn p') e (G s0) (· = xs.map f))
    (hs : ∀ Hb', Ex Hb Hb' → ∀ n a s, xs[n]? = some a → I n s → Go X Hb' body { D0 with nx := Btw X Hb' (fun Γ' => ∃ s', I (n + 1) s' ∧ Γ' = G s'), ct := Btw X Hb' (fun Γ' => ∃ s', I (n + 1) s' ∧ Γ' = G s'), bk := fun σ H => SemSs X rest D0 σ H } (Γe s a))
    (hd : ∀ s, I xs.length s → Go X Hb rest D0 (G s)) (hsub : Sub Γ (G s0) := by walk_at "sub") (hi : At X.N xn i := by walk_at "ati") (hu : ∀ s a, Up X.N (G s) xn (.dat (f a)) (Γe s a) := by intro _ _; walk_at "up") (hst : ∀ s a, a ∈ xs → Sto (G s) (f a) := by intro _ _ _; walk_at "sto") (nd : X.N.Nodup := by assumption)
    (hp : PassesOwn (model X.prog X.w) X.A X.env X.xe := by exact PassesOwn.never) (hc : X.calm = true := by rfl) (hx : Loc X.env.scope xn := by first | exact Or.inl rfl | exact Or.inr rfl)
    (hfs : ∀ x, foldedSetIterable e X.env x = pure x := by intro _; rfl) (hf : X.fn xn = true ∨ X.env.scope.names.lookup xn = some .local := by first | exact .inl rfl | exact .inr rfl) :
    Go X Hb (.For (.Name xn p') e body [] pos :: rest) D0 Γ := by
  refine go_weak (fun _ _ h => h.sub hsub) (go_forJ (.nm i) (fun _ n Γ' => ∃ s, I n s ∧ Γ' = G s) hit (fun _ _ => ⟨s0, h0, rfl⟩) (fun Hb' eb ds n x Γ' es hx' hI => ?_) (fun ds Γ' es hI => ?_) hp hc (pg_name nd hi.ix hx hf) hfs)
  · subst es
    obtain ⟨s, hI, rfl⟩ := hI
    rw [List.getElem?_map] at hx'
    obtain ⟨a, ha, rfl⟩ : ∃ a, xs[n]? = some a ∧ x = f a := by
      cases z : xs[n]? with
      | none => rw [z] at hx'; cases hx'
      | some a => rw [z] at hx'; cases hx'; exact ⟨a, rfl, rfl⟩
    refine ⟨(G s).set i (.dat (f a)), ⟨hst s a (List.mem_of_getElem? ha), rfl⟩, ?_⟩
    rw [up_set nd hi.ix (hu s a)]
    exact hs Hb' eb n a s ha hI
  · subst es
    obtain ⟨s, hI, rfl⟩ := hI
    rw [List.length_map] at hI
    exact hd s hI
end
end L3

namespace My
open PySem PySem.Spec PyProof.Rows L2 L3
def topS (i : Nat) : Stmt := PySem.Challenge.pw_fairflows_k35_senders_walked.main.body.getD i (.Pass ⟨0, 0, 0, 0⟩)
abbrev s_divisor : Stmt := topS 3
abbrev N_divisor : List Str := ["first", "second"]
theorem sc_divisor : FnScope N_divisor ["first", "second"] (defScope s_divisor) := ⟨rfl, rfl, rfl, by decide +kernel, rfl, by decide +kernel, by decide +kernel⟩
abbrev s_reduced : Stmt := topS 4
abbrev N_reduced : List Str := ["top", "bottom", "shared"]
theorem sc_reduced : FnScope N_reduced ["top", "bottom"] (defScope s_reduced) := ⟨rfl, rfl, rfl, by decide +kernel, rfl, by decide +kernel, by decide +kernel⟩
abbrev s_plus : Stmt := topS 5
abbrev N_plus : List Str := ["first", "second"]
theorem sc_plus : FnScope N_plus ["first", "second"] (defScope s_plus) := ⟨rfl, rfl, rfl, by decide +kernel, rfl, by decide +kernel, by decide +kernel⟩
abbrev s_minus : Stmt := topS 6
abbrev N_minus : List Str := ["first", "second"]
theorem sc_minus : FnScope N_minus ["first", "second"] (defScope s_minus) := ⟨rfl, rfl, rfl, by decide +kernel, rfl, by decide +kernel, by decide +kernel⟩
abbrev s_times : Stmt := topS 7
abbrev N_times : List Str := ["first", "second"]
theorem sc_times : FnScope N_times ["first", "second"] (defScope s_times) := ⟨rfl, rfl, rfl, by decide +kernel, rfl, by decide +kernel, by decide +kernel⟩
abbrev s_divided : Stmt := topS 8
abbrev N_divided : List Str := ["first", "second"]
theorem sc_divided : FnScope N_divided ["first", "second"] (defScope s_divided) := ⟨rfl, rfl, rfl, by decide +kernel, rfl, by decide +kernel, by decide +kernel⟩
abbrev s_is_less : Stmt := topS 9
abbrev N_is_less : List Str := ["first", "second"]
theorem sc_is_less : FnScope N_is_less ["first", "second"] (defScope s_is_less) := ⟨rfl, rfl, rfl, by decide +kernel, rfl, by decide +kernel, by decide +kernel⟩
abbrev s_floor : Stmt := topS 10
abbrev N_floor : List Str := ["value"]
theorem sc_floor : FnScope N_floor ["value"] (defScope s_floor) := ⟨rfl, rfl, rfl, by decide +kernel, rfl, by decide +kernel, by decide +kernel⟩
abbrev s_total : Stmt := topS 11
abbrev N_total : List Str := ["values", "found", "value"]
theorem sc_total : FnScope N_total ["values"] (defScope s_total) := ⟨rfl, rfl, rfl, by decide +kernel, rfl, by decide +kernel, by decide +kernel⟩
abbrev s_power : Stmt := topS 12
abbrev N_power : List Str := ["value", "number", "found", "step"]
theorem sc_power : FnScope N_power ["value", "number"] (defScope s_power) := ⟨rfl, rfl, rfl, by decide +kernel, rfl, by decide +kernel, by decide +kernel⟩
abbrev s_rounds_to_loss : Stmt := topS 14
abbrev N_rounds_to_loss : List Str := ["saw", "rate"]
theorem sc_rounds_to_loss : FnScope N_rounds_to_loss ["saw", "rate"] (defScope s_rounds_to_loss) := ⟨rfl, rfl, rfl, by decide +kernel, rfl, by decide +kernel, by decide +kernel⟩
abbrev s_after : Stmt := topS 15
abbrev N_after : List Str := ["saw", "rate", "rounds"]
theorem sc_after : FnScope N_after ["saw", "rate", "rounds"] (defScope s_after) := ⟨rfl, rfl, rfl, by decide +kernel, rfl, by decide +kernel, by decide +kernel⟩
abbrev s_reached : Stmt := topS 16
abbrev N_reached : List Str := ["saw", "rate", "place", "begin", "number", "rounds"]
theorem sc_reached : FnScope N_reached ["saw", "rate", "place"] (defScope s_reached) := ⟨rfl, rfl, rfl, by decide +kernel, rfl, by decide +kernel, by decide +kernel⟩
abbrev s_part_of : Stmt := topS 18
abbrev N_part_of : List Str := ["steps", "number"]
theorem sc_part_of : FnScope N_part_of ["steps", "number"] (defScope s_part_of) := ⟨rfl, rfl, rfl, by decide +kernel, rfl, by decide +kernel, by decide +kernel⟩
abbrev s_leads : Stmt := topS 19
abbrev N_leads : List Str := ["steps", "rates", "whole", "number", "rate"]
theorem sc_leads : FnScope N_leads ["steps", "rates"] (defScope s_leads) := ⟨rfl, rfl, rfl, by decide +kernel, rfl, by decide +kernel, by decide +kernel⟩
abbrev s_rates_in : Stmt := topS 20
abbrev N_rates_in : List Str := ["speed", "keep", "steps", "rates", "place", "saw", "whole", "number", "factor", "found", "one", "lead"]
theorem sc_rates_in : FnScope N_rates_in ["speed", "keep", "steps", "rates", "place"] (defScope s_rates_in) := ⟨rfl, rfl, rfl, by decide +kernel, rfl, by decide +kernel, by decide +kernel⟩
abbrev s__law_stream : Stmt := topS 22
abbrev N__law_stream : List Str := ["_law_script", "_law_start", "_law_seed", "_law_entry", "_law_digits"]
theorem sc__law_stream : FnScope N__law_stream ["_law_script", "_law_start"] (defScope s__law_stream) := ⟨rfl, rfl, rfl, by decide +kernel, rfl, by decide +kernel, by decide +kernel⟩
abbrev s__law_draw : Stmt := topS 23
abbrev N__law_draw : List Str := ["_law_stream_here", "_law_size", "_law_found"]
theorem sc__law_draw : FnScope N__law_draw ["_law_stream_here", "_law_size"] (defScope s__law_draw) := ⟨rfl, rfl, rfl, by decide +kernel, rfl, by decide +kernel, by decide +kernel⟩
abbrev s__law_choose : Stmt := topS 24
abbrev N__law_choose : List Str := ["_law_stream_here", "_law_items"]
theorem sc__law_choose : FnScope N__law_choose ["_law_stream_here", "_law_items"] (defScope s__law_choose) := ⟨rfl, rfl, rfl, by decide +kernel, rfl, by decide +kernel, by decide +kernel⟩
abbrev s__law_made : Stmt := topS 25
abbrev N__law_made : List Str := ["_law_top", "_law_bottom", "_law_one", "_law_two", "_law_sign"]
theorem sc__law_made : FnScope N__law_made ["_law_top", "_law_bottom"] (defScope s__law_made) := ⟨rfl, rfl, rfl, by decide +kernel, rfl, by decide +kernel, by decide +kernel⟩
abbrev s__law_plus : Stmt := topS 26
abbrev N__law_plus : List Str := ["_law_one", "_law_two"]
theorem sc__law_plus : FnScope N__law_plus ["_law_one", "_law_two"] (defScope s__law_plus) := ⟨rfl, rfl, rfl, by decide +kernel, rfl, by decide +kernel, by decide +kernel⟩
abbrev s__law_minus : Stmt := topS 27
abbrev N__law_minus : List Str := ["_law_one", "_law_two"]
theorem sc__law_minus : FnScope N__law_minus ["_law_one", "_law_two"] (defScope s__law_minus) := ⟨rfl, rfl, rfl, by decide +kernel, rfl, by decide +kernel, by decide +kernel⟩
abbrev s__law_times : Stmt := topS 28
abbrev N__law_times : List Str := ["_law_one", "_law_two"]
theorem sc__law_times : FnScope N__law_times ["_law_one", "_law_two"] (defScope s__law_times) := ⟨rfl, rfl, rfl, by decide +kernel, rfl, by decide +kernel, by decide +kernel⟩
abbrev s__law_over : Stmt := topS 29
abbrev N__law_over : List Str := ["_law_one", "_law_two"]
theorem sc__law_over : FnScope N__law_over ["_law_one", "_law_two"] (defScope s__law_over) := ⟨rfl, rfl, rfl, by decide +kernel, rfl, by decide +kernel, by decide +kernel⟩
abbrev s__law_less : Stmt := topS 30
abbrev N__law_less : List Str := ["_law_one", "_law_two"]
theorem sc__law_less : FnScope N__law_less ["_law_one", "_law_two"] (defScope s__law_less) := ⟨rfl, rfl, rfl, by decide +kernel, rfl, by decide +kernel, by decide +kernel⟩
abbrev s__law_all : Stmt := topS 31
abbrev N__law_all : List Str := ["_law_values", "_law_found", "_law_value"]
theorem sc__law_all : FnScope N__law_all ["_law_values"] (defScope s__law_all) := ⟨rfl, rfl, rfl, by decide +kernel, rfl, by decide +kernel, by decide +kernel⟩
abbrev s__law_frac : Stmt := topS 32
abbrev N__law_frac : List Str := ["_law_stream_here", "_law_most", "_law_bottoms", "_law_bottom"]
theorem sc__law_frac : FnScope N__law_frac ["_law_stream_here", "_law_most", "_law_bottoms"] (defScope s__law_frac) := ⟨rfl, rfl, rfl, by decide +kernel, rfl, by decide +kernel, by decide +kernel⟩
abbrev s__law_saw : Stmt := topS 33
abbrev N__law_saw : List Str := ["_law_stream_here", "_law_keep", "_law_step"]
theorem sc__law_saw : FnScope N__law_saw ["_law_stream_here"] (defScope s__law_saw) := ⟨rfl, rfl, rfl, by decide +kernel, rfl, by decide +kernel, by decide +kernel⟩
abbrev s__law_leads : Stmt := topS 34
abbrev N__law_leads : List Str := ["_law_steps", "_law_some", "_law_whole", "_law_found", "_law_step", "_law_rate"]
theorem sc__law_leads : FnScope N__law_leads ["_law_steps", "_law_some"] (defScope s__law_leads) := ⟨rfl, rfl, rfl, by decide +kernel, rfl, by decide +kernel, by decide +kernel⟩
abbrev s__law_drawn : Stmt := topS 35
abbrev N__law_drawn : List Str := ["_law_stream_here", "_law_size", "_law_steps", "_law_some", "_law_step", "_law_number"]
theorem sc__law_drawn : FnScope N__law_drawn ["_law_stream_here"] (defScope s__law_drawn) := ⟨rfl, rfl, rfl, by decide +kernel, rfl, by decide +kernel, by decide +kernel⟩
abbrev s__law_longer_right : Stmt := topS 36
abbrev N__law_longer_right : List Str := ["_law_start", "_law_steps", "_law_now", "_law_number", "_law_some", "_law_place", "_law_rate", "_law_step"]
theorem sc__law_longer_right : FnScope N__law_longer_right ["_law_start"] (defScope s__law_longer_right) := ⟨rfl, rfl, rfl, by decide +kernel, rfl, by decide +kernel, by decide +kernel⟩
abbrev s_law : Stmt := topS 37
abbrev N_law : List Str := ["_law_script", "_law_start", "_law_stream_here", "_law_turn", "_law_saw_here", "_law_steps", "_law_some", "_law_seen", "_law_begun", "_law_factor", "_law_now", "_law_place", "_law_told", "_law_look", "_law_found", "_law_rate", "_law_step", "_law_lead"]
theorem sc_law : FnScope N_law ["_law_script"] (defScope s_law) := ⟨rfl, rfl, rfl, by decide +kernel, rfl, by decide +kernel, by decide +kernel⟩
local macro_rules | `(tactic| walk_at "look") => `(tactic| first | (refine Look.z' ?_; with_reducible rfl) | (refine Look.s ?_; walk_at "look"))
local macro_rules | `(tactic| walk_at "has") => `(tactic| first | (refine Has.z ?_; with_reducible rfl) | (refine Has.s ?_; walk_at "has"))
local macro_rules | `(tactic| walk_at "up") => `(tactic| first | (apply Up.z'; with_reducible rfl) | (apply Up.s; walk_at "up"))
local macro_rules | `(tactic| walk_at "sub") => `(tactic| first | exact Sub.nil | ((with_reducible apply Sub.keep); walk_at "sub") | (apply Sub.drop; walk_at "sub") | (refine Sub.eq (by walk_at "same") ?_; walk_at "sub"))
local macro_rules | `(tactic| walk_at "same") => `(tactic| first | exact ownNil | assumption | rfl)
local macro_rules | `(tactic| walk_at "ati") => `(tactic| first | (apply At.z; with_reducible rfl) | (apply At.s; walk_at "ati"))
local macro_rules | `(tactic| walk_at "flat1") => `(tactic| first | rfl | assumption | walk_at "flat")
local macro_rules | `(tactic| walk_at "blk") => `(tactic| first | rfl | decide +kernel)
local macro_rules | `(tactic| walk_at "hint") => `(tactic| first | exact OwnIf.t (by assumption) | exact OwnIf.f)
local macro_rules | `(tactic| walk_at "flat") => `(tactic| first | rfl | exact flat_map (fun _ => rfl) _ | assumption | (refine flat_app ?_ ?_ <;> walk_at "flat"))
local macro_rules | `(tactic| walk_at "sto") => `(tactic| first | exact .inl rfl | exact .inr rfl | exact .inl (by walk_at "flat") | assumption)
local macro_rules | `(tactic| walk_at "side") => `(tactic| first | assumption | rfl | omega | decide)
local macro_rules | `(tactic| walk_at "mul") => `(tactic| first | assumption | exact IntMulOk.of_left (by decide) | exact IntMulOk.of_right (by decide) | exact mulOk_bits (a := 62) (b := 62) (by omega) (by omega) (by decide))
local macro_rules | `(tactic| walk_at "div") => `(tactic| first | assumption | exact divX (n := 62) (by omega) (by omega) (by decide) (by decide))
local macro_rules | `(tactic| walk_at "pow") => `(tactic| first | assumption | exact ⟨by decide, by decide⟩)
local macro_rules | `(tactic| walk_at "at") => `(tactic| first | rfl | assumption)
local macro_rules | `(tactic| walk_at "len") => `(tactic| first | assumption | (simp only [List.length_map, List.length_append, List.length_cons, List.length_nil]; omega))
local macro_rules | `(tactic| walk_at "cl") => `(tactic| fail)
local macro_rules | `(tactic| walk_at "reps") => `(tactic| first | assumption | exact ⟨by omega, by omega, by simp; omega⟩ | exact ⟨by omega, by omega, by decide⟩)
local macro_rules | `(tactic| walk_at "sh") => `(tactic| assumption)
local macro_rules | `(tactic| walk_at "kit") => `(tactic| first | with_reducible exact kd_tt | with_reducible exact kd_lt | with_reducible exact kd_it | with_reducible exact kd_bt | with_reducible exact kd_nt | with_reducible exact kd_tl | with_reducible exact kd_ll | with_reducible exact kd_il | with_reducible exact kd_ti | with_reducible exact kd_li | with_reducible exact kd_ii | with_reducible exact kd_bi | with_reducible exact kd_ni | with_reducible exact kd_tb | with_reducible exact kd_lb | with_reducible exact kd_ib | with_reducible exact kd_bb | with_reducible exact kd_nb | assumption)
local macro_rules | `(tactic| walk_at "range") => `(tactic| refine s_range _ (by assumption) (by walk_at "go"; first | exact ⟨rfl, by omega⟩ | omega | exact ⟨by omega, by omega⟩) (fun _ _ => ?_) ?_)
local macro_rules | `(tactic| walk_at "callb") => `(tactic| fail)
local macro_rules | `(tactic| walk_at "e") => `(tactic| first
  | (with_reducible show EvN _ _ (Expr.Name _ _) _ _ _); walk_at "name"
  | (with_reducible show EvN _ _ (Expr.Constant (Const.int _) _ _) _ _ _); refine w_int ?_
  | (with_reducible show EvN _ _ (Expr.BinOp (Expr.List _ _) Operator.Mult _ _) _ _ _); refine w_repL ?_
  | (with_reducible show EvN _ _ (Expr.BinOp _ _ _ _) _ _ _); refine w_bin ?_
  | (with_reducible show EvN _ _ (Expr.Subscript _ (Expr.Slice _ _ _ _) _) _ _ _); refine w_slice ?_
  | (with_reducible show EvN _ _ (Expr.Subscript _ _ _) _ _ _); first | refine w_ix ?_ | refine w_scal ?_
  | (with_reducible show EvN _ _ (Expr.Call _ _ _ _) _ _ _); walk_at "call"
  | (with_reducible show EvN _ _ (Expr.Compare _ [CmpOp.In] _ _) _ _ _); refine w_cmp ?_ rfl
  | (with_reducible show EvN _ _ (Expr.Compare _ [CmpOp.NotIn] _ _) _ _ _); refine w_cmp ?_ rfl
  | (with_reducible show EvN _ _ (Expr.Compare _ [_] _ _) _ _ _); refine w_cmp ?_
  | (with_reducible show EvN _ _ (Expr.Compare _ [CmpOp.LtE, CmpOp.LtE] [_, _] _) _ _ _); refine w_chain op_le op_le (by walk_at "go") (by walk_at "go") (by walk_at "go") ?_
  | (with_reducible show EvN _ _ (Expr.Compare _ [CmpOp.LtE, CmpOp.Lt] [_, _] _) _ _ _); refine w_chain op_le op_lt (by walk_at "go") (by walk_at "go") (by walk_at "go") ?_
  | (with_reducible show EvN _ _ (Expr.Compare _ [CmpOp.Lt, CmpOp.LtE] [_, _] _) _ _ _); refine w_chain op_lt op_le (by walk_at "go") (by walk_at "go") (by walk_at "go") ?_
  | (with_reducible show EvN _ _ (Expr.Compare _ [CmpOp.Lt, CmpOp.Lt] [_, _] _) _ _ _); refine w_chain op_lt op_lt (by walk_at "go") (by walk_at "go") (by walk_at "go") ?_
  | (with_reducible show EvN _ _ (Expr.Tuple _ _ _) _ _ _); refine w_tup ?_
  | (with_reducible show EvN _ _ (Expr.List _ _) _ _ _); refine w_lst ?_
  | (with_reducible show EvN _ _ (Expr.Constant (Const.bool _) _ _) _ _ _); refine w_bl ?_
  | (with_reducible show EvN _ _ (Expr.Constant Const.none _ _) _ _ _); refine w_non ?_
  | (with_reducible show EvN _ _ (Expr.Constant (Const.str _) _ _) _ _ _); refine w_str ?_
  | (with_reducible show EvN _ _ (Expr.UnaryOp UnaryOp.USub _ _) _ _ _); refine w_neg ?_
  | (with_reducible show EvN _ _ (Expr.UnaryOp UnaryOp.Not _ _) _ _ _); refine w_not ?_
  | (with_reducible show EvN _ _ (Expr.BoolOp BoolOp.And [_] _) _ _ _); refine w_and1 ?_
  | (with_reducible show EvN _ _ (Expr.BoolOp BoolOp.Or [_] _) _ _ _); refine w_or1 ?_
  | (with_reducible show EvN _ _ (Expr.BoolOp BoolOp.And _ _) _ _ _); refine w_and (by walk_at "go") (fun _ => by walk_at "go") ?_
  | (with_reducible show EvN _ _ (Expr.BoolOp BoolOp.Or _ _) _ _ _); refine w_or (by walk_at "go") (fun _ => by walk_at "go") ?_
  | (with_reducible show EvN _ _ (Expr.ListComp _ [_] _ _) _ _ _); refine w_lc ?_
  | (with_reducible show EvN _ _ (Expr.IfExp _ _ _ _) _ _ _); first | refine w_ifI (by walk_at "go") (fun _ => by walk_at "go") (fun _ => by walk_at "go") ?_ | refine w_if (by walk_at "go") (fun _ => by walk_at "go") (fun _ => by walk_at "go") ?_)
local macro_rules | `(tactic| walk_at "name") => `(tactic| first | refine w_name (by walk_at "look") ?_ | refine w_own (by walk_at "look") ?_ | refine w_gv (by assumption) ?_ | refine w_scal ?_)
local macro_rules | `(tactic| walk_at "call") => `(tactic| first
  | (with_reducible show EvN _ _ (Expr.Call (Expr.Name (Str.ofString "len") _) [_] [] _) _ _ _); refine w_len (by assumption) ?_
  | (with_reducible show EvN _ _ (Expr.Call (Expr.Name (Str.ofString "max") _) [_, _] [] _) _ _ _); refine w_max2 (by assumption) ?_
  | (with_reducible show EvN _ _ (Expr.Call (Expr.Name (Str.ofString "min") _) [_, _] [] _) _ _ _); refine w_min2 (by assumption) ?_
  | (with_reducible show EvN _ _ (Expr.Call (Expr.Name (Str.ofString "abs") _) [_] [] _) _ _ _); refine w_abs (by assumption) ?_
  | (with_reducible show EvN _ _ (Expr.Call (Expr.Name (Str.ofString "int") _) [_] [] _) _ _ _); refine w_toInt (by assumption) ?_
  | (with_reducible show EvN _ _ (Expr.Call (Expr.Name (Str.ofString "list") _) [_] [] _) _ _ _); refine w_list (by assumption) ?_
  | (with_reducible show EvN _ _ (Expr.Call (Expr.Name (Str.ofString "tuple") _) [_] [] _) _ _ _); refine w_tuple (by assumption) ?_
  | (with_reducible show EvN _ _ (Expr.Call (Expr.Name (Str.ofString "max") _) [_] [] _) _ _ _); refine w_maxL (by assumption) ?_
  | (with_reducible show EvN _ _ (Expr.Call (Expr.Name (Str.ofString "min") _) [_] [] _) _ _ _); refine w_minL (by assumption) ?_
  | (with_reducible show EvN _ _ (Expr.Call (Expr.Name (Str.ofString "any") _) [_] [] _) _ _ _); refine w_any (by assumption) ?_
  | (with_reducible show EvN _ _ (Expr.Call (Expr.Name (Str.ofString "all") _) [_] [] _) _ _ _); refine w_all (by assumption) ?_
  | (with_reducible show EvN _ _ (Expr.Call (Expr.Name (Str.ofString "isinstance") _) [_, Expr.Name (Str.ofString "tuple") _] [] _) _ _ _); refine w_isI (Ts := "tuple") (by assumption) (by assumption) ?_
  | (with_reducible show EvN _ _ (Expr.Call (Expr.Name (Str.ofString "isinstance") _) [_, Expr.Name (Str.ofString "int") _] [] _) _ _ _); refine w_isI (Ts := "int") (by assumption) (by assumption) ?_
  | (with_reducible show EvN _ _ (Expr.Call (Expr.Name (Str.ofString "isinstance") _) [_, Expr.Name (Str.ofString "bool") _] [] _) _ _ _); refine w_isI (Ts := "bool") (by assumption) (by assumption) ?_
  | (with_reducible show EvN _ _ (Expr.Call (Expr.Name (Str.ofString "isinstance") _) [_, Expr.Name (Str.ofString "list") _] [] _) _ _ _); refine w_isI (Ts := "list") (by assumption) (by assumption) ?_
  | (with_reducible show EvN _ _ (Expr.Call (Expr.Name (Str.ofString "repr") _) [_] [] _) _ _ _); refine w_repr (by assumption) (by assumption) (by assumption) ?_
  | walk_at "callb"
  | refine w_call (by assumption) (by assumption) ?_
  | refine w_callL (by assumption) (by assumption) ?_)
local macro_rules | `(tactic| walk_at "t") => `(tactic| first
  | (with_reducible show EvT _ _ (Expr.Compare _ [CmpOp.In] _ _) _ _); refine wt_cmp ?_ rfl
  | (with_reducible show EvT _ _ (Expr.Compare _ [CmpOp.NotIn] _ _) _ _); refine wt_cmp ?_ rfl
  | (with_reducible show EvT _ _ (Expr.Compare _ [_] _ _) _ _); refine wt_cmp ?_
  | (with_reducible show EvT _ _ (Expr.Compare _ [CmpOp.LtE, CmpOp.LtE] [_, _] _) _ _); refine wt_chain op_le op_le (by walk_at "go") (by walk_at "go") (by walk_at "go") ?_
  | (with_reducible show EvT _ _ (Expr.Compare _ [CmpOp.LtE, CmpOp.Lt] [_, _] _) _ _); refine wt_chain op_le op_lt (by walk_at "go") (by walk_at "go") (by walk_at "go") ?_
  | (with_reducible show EvT _ _ (Expr.Compare _ [CmpOp.Lt, CmpOp.LtE] [_, _] _) _ _); refine wt_chain op_lt op_le (by walk_at "go") (by walk_at "go") (by walk_at "go") ?_
  | (with_reducible show EvT _ _ (Expr.Compare _ [CmpOp.Lt, CmpOp.Lt] [_, _] _) _ _); refine wt_chain op_lt op_lt (by walk_at "go") (by walk_at "go") (by walk_at "go") ?_
  | (with_reducible show EvT _ _ (Expr.UnaryOp UnaryOp.Not _ _) _ _); refine wt_not ?_
  | (with_reducible show EvT _ _ (Expr.BoolOp BoolOp.And _ _) _ _); refine wt_and (by walk_at "go") (fun _ => by walk_at "go") ?_
  | (with_reducible show EvT _ _ (Expr.BoolOp BoolOp.Or _ _) _ _); refine wt_or (by walk_at "go") (fun _ => by walk_at "go") ?_
  | (with_reducible show EvW _ _ (Expr.BoolOp BoolOp.And [_] _) _ _); refine ww_and1 ?_
  | (with_reducible show EvW _ _ (Expr.BoolOp BoolOp.Or [_] _) _ _); refine ww_or1 ?_
  | (with_reducible show EvW _ _ (Expr.BoolOp BoolOp.And _ _) _ _); refine ww_and (by walk_at "go") (fun _ => by walk_at "go") ?_
  | (with_reducible show EvW _ _ (Expr.BoolOp BoolOp.Or _ _) _ _); refine ww_or (by walk_at "go") (fun _ => by walk_at "go") ?_
  | (with_reducible show EvT _ _ (_) _ _); refine wt_val ?_)
local macro_rules | `(tactic| walk_at "v") => `(tactic| first
  | (with_reducible show Up1 _ _ _ _ _); refine up1 (by walk_at "up") ?_
  | (with_reducible show StoreD false _ _ _ _ _); first | refine sto_dat ?_ (by walk_at "sto") | refine sto_dat ?_ ?_
  | (with_reducible show StoreD true _ _ _ _ _); first | refine sto_own (fun _ => ?_) (by walk_at "flat") | refine sto_own (fun _ => ?_) ?_
  | (with_reducible show EvA _ _ [] _ _); refine wa_nil ?_
  | (with_reducible show EvA _ _ (_ :: _) _ _); refine wa_cons ?_
  | (with_reducible show OpD _ (binaryOp Operator.Add) _ _ _); first | refine opd_add ?_ | refine opd_catT ?_ (by walk_at "len") | refine opd_catT ?_ ?_ | refine opd_catL ?_ (by walk_at "len") | refine opd_catL ?_ ?_
  | (with_reducible show OpD _ (binaryOp Operator.Sub) _ _ _); refine opd_sub ?_
  | (with_reducible show OpD _ (binaryOp Operator.Mult) _ _ _); first | refine opd_mul ?_ (by walk_at "mul") | refine opd_mul ?_ ?_ | refine opd_repT ?_ ?_
  | (with_reducible show OpD _ (binaryOp Operator.FloorDiv) _ _ _); first | refine opd_fdiv ?_ (by walk_at "div") | refine opd_fdiv ?_ ?_
  | (with_reducible show OpD _ (binaryOp Operator.Mod) _ _ _); first | refine opd_mod ?_ (by walk_at "side") | refine opd_mod ?_ ?_
  | (with_reducible show OpD _ (binaryOp Operator.Pow) _ _ _); first | refine opd_pow ?_ (by walk_at "pow") | refine opd_pow ?_ ?_
  | (with_reducible show OpD _ (inplaceOp Operator.Add) _ _ _); refine iop_add ?_
  | (with_reducible show OpD _ (inplaceOp Operator.Sub) _ _ _); refine iop_sub ?_
  | (with_reducible show IxD _ _ _ _); walk_at "ix"
  | (with_reducible show CmpD _ CmpOp.Lt _ _ _); refine cmp_lt ?_
  | (with_reducible show CmpD _ CmpOp.LtE _ _ _); refine cmp_le ?_
  | (with_reducible show CmpD _ CmpOp.Gt _ _ _); refine cmp_gt ?_
  | (with_reducible show CmpD _ CmpOp.GtE _ _ _); refine cmp_ge ?_
  | (with_reducible show CmpD _ CmpOp.Eq _ _ _); walk_at "eq"
  | (with_reducible show CmpD _ CmpOp.NotEq _ _ _); walk_at "ne"
  | (with_reducible show CmpD _ CmpOp.In _ (D.lst _) _); first | refine cmp_inL (by assumption) ?_ (by walk_at "shp") | refine cmp_inL (by assumption) ?_ ?_
  | (with_reducible show CmpD _ CmpOp.In _ (D.tup _) _); first | refine cmp_inT (by assumption) ?_ (by walk_at "shp") | refine cmp_inT (by assumption) ?_ ?_
  | (with_reducible show CmpD _ CmpOp.Is _ D.non _); refine cmp_isN ?_
  | (with_reducible show CmpD _ CmpOp.IsNot _ D.non _); refine cmp_notN ?_
  | (with_reducible show CmpD _ CmpOp.Is _ (D.bl _) _); refine cmp_isB ?_
  | (with_reducible show CmpD _ CmpOp.IsNot _ (D.bl _) _); refine cmp_notB ?_
  | (with_reducible show SlD _ _ _ _ _); first | refine sl_L ?_ | refine sl_T ?_
  | (with_reducible show RetD _ _ _ _); first | refine ret_fn ?_ (by first | exact Ex.refl | assumption) | refine ret_law ?_
  | (with_reducible show RetL _ _ _ _); refine ret_fnL ?_ (by first | exact Ex.refl | assumption)
  | (with_reducible show EvP _ _ none _ _); refine wo_none ?_
  | (with_reducible show EvP _ _ (some _) _ _); refine wo_some ?_
  | (with_reducible show Cl _ _ _); walk_at "cl"
  | (with_reducible show _ = _); with_reducible exact rfl
  | (with_reducible show KitD _ _ _); refine kitd ?_ (by walk_at "kit") (by first | rfl | assumption | exact ok_mapT (fun _ => rfl) _ | exact ok_mapL (fun _ => rfl) _)
  | (with_reducible show Sh _ _ _ ∧ _); first | refine and2 ?_ (by walk_at "sh") | refine and2 ?_ ?_
  | (with_reducible show LenQ _ _); first | with_reducible refine lenML ?_ | with_reducible refine lenMT ?_ | refine lenL ?_ | refine lenT ?_
  | (with_reducible show ∃ _, _ ∧ _); first | refine ⟨_, rfl, ?_⟩ | refine ⟨_, .inl rfl, ?_⟩ | refine ⟨_, .inr rfl, ?_⟩
  | (with_reducible show ∃ _, ∃ _, _ ∧ _); first | refine ⟨_, _, rfl, ?_⟩ | refine ⟨_, _, rfl, rfl, ?_⟩
  | (with_reducible show ∃ _, ∃ _, ∃ _, _ ∧ _); refine ⟨_, _, _, rfl, ?_⟩
  | (with_reducible show (_ < 100000 ∧ _) ∧ _); refine and2 ?_ (by walk_at "reps")
  | (with_reducible show _ = _ ∧ _); refine ⟨rfl, ?_⟩
  | (with_reducible show List.length _ ≤ 100000 ∧ _); refine and2 ?_ (by walk_at "len")
  | (with_reducible show List.length _ ≤ 1000 ∧ _); refine and2 ?_ (by exact Nat.le_of_ble_eq_true rfl)
  | (with_reducible show isCont _ = false ∧ _); refine and2 ?_ (by first | rfl | assumption)
  | (with_reducible show D.flat _ = true ∧ _); refine and2 ?_ (by first | rfl | assumption)
  | (with_reducible show IntMulOk _ _ ∧ _); refine and2 ?_ (by walk_at "mul"))
local macro_rules | `(tactic| walk_at "ix") => `(tactic| first | refine ix_T (by walk_at "at") ?_ | refine ix_L (by walk_at "at") ?_ | refine ix_T ?_ ?_ | refine ix_L ?_ ?_)
local macro_rules | `(tactic| walk_at "eq") => `(tactic| first | refine cmp_eqI ?_ | refine cmp_eqS ?_ | refine cmp_eqB ?_ | refine cmp_eq0L (by assumption) ?_ | refine cmp_eq0T (by assumption) ?_ | refine cmp_eqD (by assumption) ?_ (by walk_at "shp") | refine cmp_eqD (by assumption) ?_ ?_)
local macro_rules | `(tactic| walk_at "ne") => `(tactic| first | refine cmp_neI ?_ | refine cmp_neS ?_ | refine cmp_neB ?_ | refine cmp_ne0L (by assumption) ?_ | refine cmp_ne0T (by assumption) ?_ | refine cmp_neD (by assumption) ?_ (by walk_at "shp") | refine cmp_neD (by assumption) ?_ ?_)
local macro_rules | `(tactic| walk_at "shp") => `(tactic| first | assumption | exact ⟨⟨rfl, rfl⟩, rfl, rfl⟩)
local macro_rules | `(tactic| walk_at "st") => `(tactic| first
  | (with_reducible show Go _ _ (Stmt.Assign [Expr.Name _ _] (Expr.ListComp _ _ _ _) _ :: _) _ _); refine s_setLc (by walk_at "hint") ?_ (by walk_at "has") (sw_true rfl rfl rfl (by decide +kernel))
  | (with_reducible show Go _ _ (Stmt.Assign [Expr.Name _ _] _ _ :: _) _ _); refine s_set (by walk_at "hint") ?_ (by assumption) (by walk_at "has")
  | (with_reducible show Go _ _ (Stmt.Assign [Expr.Tuple [Expr.Name _ _, Expr.Name _ _] _ _] (Expr.Tuple [_, _] _ _) _ :: _) _ _); first | refine s_par (by walk_at "hint") (by walk_at "hint") ?_ (by assumption) (by walk_at "has") (by walk_at "has") (by decide +kernel) rfl | refine s_tup2 (by walk_at "hint") (by walk_at "hint") ?_ (by assumption) (by walk_at "has") (by walk_at "has")
  | (with_reducible show Go _ _ (Stmt.Assign [Expr.Tuple [Expr.Name _ _, Expr.Name _ _, Expr.Name _ _] _ _] (Expr.Tuple [_, _, _] _ _) _ :: _) _ _); first | refine s_par3 (by walk_at "hint") (by walk_at "hint") (by walk_at "hint") ?_ (by assumption) (by walk_at "has") (by walk_at "has") (by walk_at "has") (by decide +kernel) rfl | refine s_tup3 (by walk_at "hint") (by walk_at "hint") (by walk_at "hint") ?_ (by assumption) (by walk_at "has") (by walk_at "has") (by walk_at "has")
  | (with_reducible show Go _ _ (Stmt.Assign [Expr.Tuple [Expr.Name _ _, Expr.Name _ _, Expr.Name _ _, Expr.Name _ _] _ _] (Expr.Tuple [_, _, _, _] _ _) _ :: _) _ _); refine s_tup4 (by walk_at "hint") (by walk_at "hint") (by walk_at "hint") (by walk_at "hint") ?_ (by assumption) (by walk_at "has") (by walk_at "has") (by walk_at "has") (by walk_at "has")
  | (with_reducible show Go _ _ (Stmt.Assign [Expr.Tuple [Expr.Name _ _, Expr.Name _ _] _ _] _ _ :: _) _ _); refine s_unp2 ?_ (by assumption) (by walk_at "has") (by walk_at "has")
  | (with_reducible show Go _ _ (Stmt.Assign [Expr.Tuple [Expr.Name _ _, Expr.Name _ _, Expr.Name _ _] _ _] _ _ :: _) _ _); refine s_unp3 ?_ (by assumption) (by walk_at "has") (by walk_at "has") (by walk_at "has")
  | (with_reducible show Go _ _ (Stmt.AugAssign (Expr.Name _ _) _ _ _ :: _) _ _); refine s_aug (by walk_at "look") ?_ (by assumption)
  | (with_reducible show Go _ _ (Stmt.Return (some (Expr.Name _ _)) _ :: _) _ _); first | refine s_retOwn (by walk_at "look") ?_ | walk_at "ret"
  | (with_reducible show Go _ _ (Stmt.Return (some _) _ :: _) _ _); walk_at "ret"
  | (with_reducible show Go _ _ (Stmt.Expr (Expr.Call (Expr.Attribute (Expr.Call _ _ _ _) (Str.ofString "append") _) [_] [] _) _ :: _) _ _); refine s_appendNew ?_
  | (with_reducible show Go _ _ (Stmt.Expr (Expr.Call (Expr.Attribute (Expr.Name _ _) (Str.ofString "append") _) [_] [] _) _ :: _) _ _); first | refine s_append (by walk_at "look") ?_ (by assumption) (by walk_at "len") | refine s_append (by walk_at "look") ?_ (by assumption) ?_
  | (with_reducible show Go _ _ (Stmt.Pass _ :: _) _ _); refine s_pass ?_
  | (with_reducible show Go _ _ [] _ _); first | refine s_join ?_ | exact s_end)
local macro_rules | `(tactic| walk_at "ret") => `(tactic| refine s_ret ?_)
local macro_rules | `(tactic| walk_at "s") => `(tactic| first
  | (with_reducible show Go _ _ _ _ _); walk_at "st"
  | (with_reducible show EvN _ _ _ _ _ _); walk_at "e"
  | (with_reducible show EvT _ _ _ _ _); walk_at "t"
  | (with_reducible show EvW _ _ _ _ _); walk_at "t"
  | walk_at "v")
local macro_rules | `(tactic| walk_at "go") => `(tactic| repeat walk_at "s")
local macro_rules | `(tactic| walk_at "if") => `(tactic| refine s_if (by walk_at "go") ?_ ?_)
local macro_rules | `(tactic| walk_at "ifF") => `(tactic| refine s_ifF (by walk_at "go") ?_ ?_)
local macro_rules | `(tactic| walk_at "ifT") => `(tactic| refine s_ifT (by walk_at "go") ?_ ?_)

/-! ### the law's draws -/
section
variable {P : Program} {w : World} {K : PySem.W.Frag} {mg : Str → Option Value} {base : Heap}


def seedStep (s c : Int) : Int := ((s * 40127 + c) ^ (3 : Int).toNat).fmod 2147483629 + 1
theorem seed_range (l : List Int) (s : Int) (h0 : 0 ≤ s ∧ s ≤ 2147483629) : 0 ≤ l.foldl seedStep s ∧ l.foldl seedStep s ≤ 2147483629 := by
  induction l generalizing s with
  | nil => exact h0
  | cons c r ih =>
    refine ih _ ?_
    have := fmod_range (i := (s * 40127 + c) ^ (3 : Int).toNat) (j := 2147483629) (by decide)
    unfold seedStep
    omega
def P_stream : Pr := fun ds S => ∃ (ns : List Int) (st : Int), ds = [.lst (ns.map .int), .int st] ∧ ScriptB ns ∧ 0 ≤ st ∧ st ≤ 1000 ∧ S = (· = dDraw)
theorem ok_stream {f : Addr} {fd : FuncData} (F : Fun K "_law_stream" "_law_stream" s__law_stream f fd) (hm : mg "_law_stream" = some (.ref f)) (hb : Binds K fd (N__law_stream.take 2) []) (m_int : mg "int" = none) (m_len : mg "len" = none) : FnP P w K mg base "_law_stream" 1 P_stream := by
  refine fnP_of (N := N__law_stream) F sc__law_stream hm hb (fun ds S h => ?_) (fun cdv A outer s H E hr ds S h => ?_)
  · obtain ⟨ns, st, e, _⟩ := h
    rw [e]; rfl
  · obtain ⟨ns, st, e1, hbits, h0, h1, e2⟩ := h
    subst e1 e2
    show Go _ H _ _ [.dat (.lst (ns.map .int)), .dat (.int st), .any, .any, .any]
    have hB : bigB = 1100000 := rfl
    refine go_set 2 (ev_add ev_int (ev_dat 1)) (.inl rfl) ?_ sc__law_stream.nd
    refine go_fold 3 D.int ns (fun s => [.dat (.lst (ns.map .int)), .dat (.int st), .dat (.int s), .any, .any]) seedStep (113 + st) (evi_dat 0) rfl (fun _ _ _ => .inl rfl) ?_ ?_ PassesOwn.never rfl sc__law_stream.nd
    · rintro Hb' eb pre c post he
      have hs := seed_range pre (113 + st) (by omega)
      have hc : c.natAbs < 2 ^ (bigB - 1) := hbits c (by rw [he]; simp)
      have hs2 : (pre.foldl seedStep (113 + st) * 40127 + c).natAbs < 2 ^ bigB := by
        have : (pre.foldl seedStep (113 + st) * 40127).natAbs < 2 ^ (bigB - 1) := natAbs_mono (n := 50) (by rw [hB]; decide) (by omega)
        exact natAbs_add_lt this hc
      refine go_set 2 (ev_add (ev_mod (ev_pow (ev_add (ev_mul (ev_dat 2) ev_int (mulOk_bits (a := 32) (b := 32) (by omega) (by decide) (by decide))) (ev_toInt m_int (eva_cons (ev_dat 3) eva_nil))) ev_int (by decide) ?_) ev_int (by decide)) ev_int) (.inl rfl) (go_endF 3 rfl) sc__law_stream.nd
      have := intBits_le hs2
      rw [hB] at this
      have e : (2 : Int) ^ 27 = 134217728 := by decide
      rw [e]
      omega
    · have hs := seed_range ns (113 + st) (by omega)
      generalize ns.foldl seedStep (113 + st) = sd at hs ⊢
      refine go_set 4 ev_int (.inl rfl) ?_ sc__law_stream.nd
      have b1 : DrawB 1 sd := ⟨hs.1, .inr ⟨rfl, by omega⟩⟩
      refine go_ifN (S := fun k => k = true → ∃ d, atI (ns.map D.int) st = some (.int d) ∧ 10 ^ 18 ≤ d) ?_ (fun hk => ?_) (fun _ => go_join ?_)
      · refine EvW.t (evw_and (evt_lt (ev_dat 1) (ev_len m_len (eva_cons (ev_dat 0) eva_nil) (.inl rfl))) (fun hk => ?_) (fun _ z => nomatch z))
        have hlt : st < ((ns.map D.int).length : Int) := of_decide_eq_true hk.symm
        obtain ⟨d, hd⟩ : ∃ d, atI (ns.map D.int) st = some (.int d) := by
          obtain ⟨k, rfl⟩ := Int.eq_ofNat_of_zero_le h0
          have hk2 : k < ns.length := by rw [List.length_map] at hlt; omega
          exact ⟨ns[k], atI_nat (by rw [List.getElem?_map, List.getElem?_eq_getElem hk2]; rfl)⟩
        exact evw_and1 ((evt_ge (ev_ixL (ev_dat 0) (ev_dat 1) hd) (ev_pow ev_int ev_int (by decide) (by decide))).imp fun k e z => ⟨d, hd, of_decide_eq_true (p := 10 ^ (18 : Int).toNat ≤ d) (e.symm.trans z)⟩)
      · obtain ⟨d, hd, hge⟩ := hk rfl
        have hdb : (d - 10 ^ (18 : Int).toNat).natAbs < 2 ^ bigB := by
          obtain ⟨k, rfl⟩ := Int.eq_ofNat_of_zero_le h0
          obtain ⟨j, _, hj, _⟩ := atI_get hd
          rw [List.getElem?_map] at hj
          have hm' : d ∈ ns := by
            cases q : ns[j]? with
            | none => rw [q] at hj; cases hj
            | some n => rw [q] at hj; cases hj; exact List.mem_of_getElem? q
          have := natAbs_mono (m := bigB) (Nat.sub_le _ _) (hbits d hm')
          have e18 : (10 : Int) ^ (18 : Int).toNat = 10 ^ 18 := rfl
          omega
        refine go_set 4 (ev_sub (ev_ixL (ev_dat 0) (ev_dat 1) hd) (ev_pow ev_int ev_int (by decide) (by decide))) (.inl rfl) (go_join ?_) sc__law_stream.nd
        have b0 : DrawB 0 (d - 10 ^ (18 : Int).toNat) := ⟨by have e18 : (10 : Int) ^ (18 : Int).toNat = 10 ^ 18 := rfl; omega, .inl ⟨rfl, hdb⟩⟩
        exact go_retDraw (S1 := fun _ => True) (S2 := fun _ => True) ((eva_cons (ev_dat 4) (eva_cons (ev_dat 2) eva_nil)).imp fun _ z => ⟨_, sd, z, b0, b1⟩) fun v H' h => ⟨_, rfl, h⟩
      · exact go_retDraw (S1 := fun _ => True) (S2 := fun _ => True) ((eva_cons (ev_dat 4) (eva_cons (ev_dat 2) eva_nil)).imp fun _ z => ⟨0, sd, z, ⟨by decide, .inl ⟨rfl, Nat.two_pow_pos _⟩⟩, b1⟩) fun v H' h => ⟨_, rfl, h⟩
/-- a number from 0 to size - 1 -/
def P_draw : Pr := fun ds S => ∃ n : Int, ds = [dDraw, .int n] ∧ 0 < n ∧ n.natAbs < 2 ^ 2000 ∧ S = fun z => ∃ i, z = .int i ∧ 0 ≤ i ∧ i < n
theorem ok_draw {f : Addr} {fd : FuncData} (F : Fun K "_law_draw" "_law_draw" s__law_draw f fd) (hm : mg "_law_draw" = some (.ref f)) (hb : Binds K fd (N__law_draw.take 2) []) (m_int : mg "int" = none) : FnP P w K mg base "_law_draw" 1 P_draw := by
  refine fnP_of (N := N__law_draw) F sc__law_draw hm hb (fun ds S h => ?_) (fun cdv A outer s H E hr ds S h => ?_)
  · obtain ⟨n, e, _⟩ := h
    rw [e]; rfl
  · obtain ⟨n, e1, hn, hnb, e2⟩ := h
    subst e1 e2
    show Go _ H _ _ [.dat dDraw, .dat (.int n), .any]
    have hB : bigB = 1100000 := rfl
    refine go_ifN (S := fun _ => True) ?_ (fun _ => ?_) (fun _ => go_join ?_)
    · exact evt_cmpN op_ge (nomark _) (evn_drawIx (ev_dat 0) ev_int (.inl rfl)) (EvN.int1 (ev_dat 1)) fun _ _ _ _ => trivial
    · refine go_setN 2 (evi_mod (S3 := fun i => 0 ≤ i ∧ i < n) (evi_toInt m_int (evn_drawIx (ev_dat 0) ev_int (.inl rfl))) (EvN.int1 (ev_dat 1)) fun i j _ e => by subst e; exact ⟨by omega, fmod_range hn⟩) (fun d ⟨i, e, _⟩ => by rw [e]; exact .inl rfl) (fun d ⟨i, e, hi⟩ => ?_) sc__law_draw.nd
      subst e
      refine go_drawSet (k := 0) (evi_fdiv (evn_drawIx (ev_dat 0) ev_int (.inl rfl)) (EvN.int1 (ev_dat 1)) fun i j b e => ?_) (ev_dat 0) ev_int (.inl rfl) ?_
      · subst e
        obtain ⟨h1, h2⟩ := b
        have h3 := fdiv_natAbs h1 hn
        refine ⟨divX (by omega) hnb (by decide) (by decide), h3.1, .inl ⟨rfl, ?_⟩⟩
        rcases h2 with ⟨_, h2⟩ | ⟨z, _⟩
        · exact Nat.lt_of_le_of_lt h3.2 h2
        · cases z
      · exact go_ret (ev_dat 2) (.inl rfl) fun v H' h => ⟨_, ⟨i, rfl, hi⟩, h⟩
    · refine go_drawSet (k := 1) (evi_mod (evi_add (S3 := fun _ => True) (evi_mul (S3 := fun _ => True) (evi_toInt m_int (evn_drawIx (ev_dat 0) ev_int (.inr rfl))) (EvN.int1 ev_int) ?_) (EvN.int1 ev_int) fun _ _ _ _ => trivial) (EvN.int1 ev_int) ?_) (ev_dat 0) ev_int (.inr rfl) ?_
      · rintro i j ⟨h1, h2⟩ e
        subst e
        rcases h2 with ⟨z, _⟩ | ⟨_, h2⟩
        · cases z
        · exact ⟨mulOk_bits (a := 32) (b := 32) (by omega) (by decide) (by decide), trivial⟩
      · rintro i j _ e
        subst e
        have := fmod_range (i := i) (j := 2147483647) (by decide)
        exact ⟨by decide, this.1, .inr ⟨rfl, by omega⟩⟩
      · refine go_retN (evi_mod (S3 := fun i => 0 ≤ i ∧ i < n) (evi_fdiv (S3 := fun _ => True) (evi_mod (S3 := fun i => 0 ≤ i ∧ i < 1000000007) (evi_pow (S3 := fun _ => True) (evi_mod (S3 := fun i => 0 ≤ i ∧ i < 2147483629) (evi_pow (S3 := fun _ => True) (evi_toInt m_int (evn_drawIx (ev_dat 0) ev_int (.inr rfl))) (EvN.int1 ev_int) ?_) (EvN.int1 ev_int) ?_) (EvN.int1 ev_int) ?_) (EvN.int1 ev_int) ?_) (EvN.int1 ev_int) ?_) (EvN.int1 (ev_dat 1)) ?_) ?_
        · rintro i j ⟨h1, h2⟩ e
          subst e
          rcases h2 with ⟨z, _⟩ | ⟨_, h2⟩
          · cases z
          · have := intBits_le (a := i) (k := 32) (by omega)
            have e : (2 : Int) ^ 27 = 134217728 := by decide
            rw [e]
            exact ⟨⟨by decide, by omega⟩, trivial⟩
        · rintro i j _ e
          subst e
          exact ⟨by decide, fmod_range (by decide)⟩
        · rintro i j h e
          subst e
          have := intBits_le (a := i) (k := 32) (by omega)
          have e : (2 : Int) ^ 27 = 134217728 := by decide
          rw [e]
          exact ⟨⟨by decide, by omega⟩, trivial⟩
        · rintro i j _ e
          subst e
          exact ⟨by decide, fmod_range (by decide)⟩
        · rintro i j _ e
          subst e
          exact ⟨divX (n := 4) (by decide) (by decide) (by decide) (by decide), trivial⟩
        · rintro i j _ e
          subst e
          exact ⟨by omega, fmod_range hn⟩
        · rintro v H' d ⟨i, e, hi⟩ x r f
          subst e
          exact ⟨_, ⟨i, rfl, hi⟩, x, r, trivial⟩
/-- one of the things -/
def P_choose : Pr := fun ds S => ∃ xs : List D, ds = [dDraw, .lst xs] ∧ 0 < xs.length ∧ xs.length < 1000 ∧ (∀ x ∈ xs, isCont x = false) ∧ S = fun z => z ∈ xs
theorem ok_choose {f : Addr} {fd : FuncData} (F : Fun K "_law_choose" "_law_choose" s__law_choose f fd) (hm : mg "_law_choose" = some (.ref f)) (hb : Binds K fd (N__law_choose.take 2) []) (m_len : mg "len" = none) (G : FnP P w K mg base "_law_draw" 1 P_draw) : FnP P w K mg base "_law_choose" 2 P_choose := by
  refine fnP_of (N := N__law_choose) F sc__law_choose hm hb (fun ds S h => ?_) (fun cdv A outer s H E hr ds S h => ?_)
  · obtain ⟨n, e, _⟩ := h
    rw [e]; rfl
  · obtain ⟨xs, e1, h1, h2, h3, e2⟩ := h
    subst e1 e2
    show Go _ H _ _ [.dat dDraw, .dat (.lst xs)]
    refine go_retN (S := fun z => z ∈ xs) (evn_ixL (S1 := (· = xs)) (S2 := fun i => 0 ≤ i ∧ i < (xs.length : Int)) ((ev_dat 1).imp fun _ z => ⟨_, z, rfl⟩) (evn_call G hr (eva_cons (ev_dat 0) (eva_cons (ev_len m_len (eva_cons (ev_dat 1) eva_nil) (.inl rfl)) eva_nil)) fun ds e => ⟨_, ⟨xs.length, e, by omega, by rw [Int.natAbs_natCast]; exact Nat.lt_of_lt_of_le h2 (by decide), rfl⟩, fun d h => h⟩) ?_) ?_
    · rintro ds i e ⟨h4, h5⟩
      subst e
      obtain ⟨k, rfl⟩ := Int.eq_ofNat_of_zero_le h4
      have hk : k < ds.length := by omega
      exact ⟨ds[k], atI_nat (List.getElem?_eq_getElem hk), List.getElem_mem hk⟩
    · rintro v H' d hd x r f
      exact ⟨d, hd, x, r, FreshD.flat (h3 d hd)⟩
end

/-! ### fractions -/
abbrev dq (q : Rat) : D := .tup [.int q.num, .int (q.den : Int)]
def Sz (n : Nat) (q : Rat) : Prop := q.num.natAbs < 2 ^ n ∧ q.den < 2 ^ n
theorem Sz.mono {n m : Nat} {q : Rat} (h : Sz n q) (hm : n ≤ m) : Sz m q := ⟨Nat.lt_of_lt_of_le h.1 (Nat.pow_le_pow_right (by decide) hm), Nat.lt_of_lt_of_le h.2 (Nat.pow_le_pow_right (by decide) hm)⟩
theorem Sz.den {n : Nat} {q : Rat} (h : Sz n q) : (q.den : Int).natAbs < 2 ^ n := by rw [Int.natAbs_natCast]; exact h.2
theorem den_ne (q : Rat) : (q.den : Int) ≠ 0 := by have := q.den_nz; omega
theorem rat_self (q : Rat) : q = Rat.divInt q.num q.den := (Rat.num_divInt_den q).symm
theorem sz_divInt {t b : Int} {n : Nat} (ht : t.natAbs < 2 ^ n) (hb : b.natAbs < 2 ^ n) (h0 : b ≠ 0) : Sz n (Rat.divInt t b) := by
  refine ⟨?_, ?_⟩
  · rw [Rat.num_divInt]
    refine Nat.lt_of_le_of_lt (Int.natAbs_ediv_le_natAbs _ _) ?_
    rw [Int.natAbs_mul, Int.natAbs_sign_of_ne_zero h0, Nat.one_mul]
    exact ht
  · rw [Rat.den_divInt, if_neg h0]
    exact Nat.lt_of_le_of_lt (Nat.div_le_self _ _) hb
theorem add_q (p q : Rat) : Rat.divInt (p.num * q.den + q.num * p.den) (p.den * q.den) = p + q := by
  rw [← Rat.divInt_add_divInt _ _ (den_ne p) (den_ne q), ← rat_self, ← rat_self]
theorem neg_q (q : Rat) : Rat.divInt (-q.num) q.den = -q := by
  rw [← Rat.neg_divInt, ← rat_self]
theorem sub_q (p q : Rat) : Rat.divInt (p.num * q.den - q.num * p.den) (p.den * q.den) = p - q := by
  have h := add_q p (-q)
  rw [Rat.neg_num, Rat.neg_den] at h
  rw [Rat.sub_eq_add_neg, ← h]
  congr 1
  rw [Int.neg_mul, Int.sub_eq_add_neg]
theorem mul_q (p q : Rat) : Rat.divInt (p.num * q.num) (p.den * q.den) = p * q := by
  rw [← Rat.divInt_mul_divInt, ← rat_self, ← rat_self]
theorem div_q (p q : Rat) : Rat.divInt (p.num * q.den) (p.den * q.num) = p / q := by
  rw [Rat.div_def, Rat.inv_def, ← Rat.divInt_mul_divInt, ← rat_self]
theorem bits_mul {a b : Int} {n m : Nat} (ha : a.natAbs < 2 ^ n) (hb : b.natAbs < 2 ^ m) : (a * b).natAbs < 2 ^ (n + m) := natAbs_mul_lt ha hb
theorem bits_add {a b : Int} {n : Nat} (ha : a.natAbs < 2 ^ n) (hb : b.natAbs < 2 ^ n) : (a + b).natAbs < 2 ^ (n + 1) := natAbs_add_lt ha hb
theorem bits_sub {a b : Int} {n : Nat} (ha : a.natAbs < 2 ^ n) (hb : b.natAbs < 2 ^ n) : (a - b).natAbs < 2 ^ (n + 1) := by
  rw [Int.sub_eq_add_neg]
  exact natAbs_add_lt ha (by rw [Int.natAbs_neg]; exact hb)
theorem add_bits {p q : Rat} {n m : Nat} (hp : Sz n p) (hq : Sz m q) : (p.num * q.den + q.num * p.den).natAbs < 2 ^ (n + m + 1) ∧ ((p.den : Int) * q.den).natAbs < 2 ^ (n + m + 1) :=
  ⟨bits_add (natAbs_mul_lt hp.1 hq.den) (by rw [Nat.add_comm]; exact natAbs_mul_lt hq.1 hp.den), natAbs_mono (Nat.le_succ _) (natAbs_mul_lt hp.den hq.den)⟩
theorem sub_bits {p q : Rat} {n m : Nat} (hp : Sz n p) (hq : Sz m q) : (p.num * q.den - q.num * p.den).natAbs < 2 ^ (n + m + 1) :=
  bits_sub (natAbs_mul_lt hp.1 hq.den) (by rw [Nat.add_comm]; exact natAbs_mul_lt hq.1 hp.den)
theorem dd_ne (p q : Rat) : (p.den : Int) * q.den ≠ 0 := Int.mul_ne_zero (den_ne p) (den_ne q)
theorem num_ne {q : Rat} (h : q ≠ 0) : q.num ≠ 0 := fun z => h (Rat.num_eq_zero.mp z)
theorem dn_ne (p : Rat) {q : Rat} (h : q ≠ 0) : (p.den : Int) * q.num ≠ 0 := Int.mul_ne_zero (den_ne p) (num_ne h)
theorem Sz.add {p q : Rat} {n m : Nat} (hp : Sz n p) (hq : Sz m q) : Sz (n + m + 1) (p + q) := by
  rw [← add_q]; exact sz_divInt (add_bits hp hq).1 (add_bits hp hq).2 (dd_ne p q)
theorem Sz.sub {p q : Rat} {n m : Nat} (hp : Sz n p) (hq : Sz m q) : Sz (n + m + 1) (p - q) := by
  rw [← sub_q]; exact sz_divInt (sub_bits hp hq) (add_bits hp hq).2 (dd_ne p q)
theorem Sz.mul {p q : Rat} {n m : Nat} (hp : Sz n p) (hq : Sz m q) : Sz (n + m) (p * q) := by
  rw [← mul_q]; exact sz_divInt (natAbs_mul_lt hp.1 hq.1) (natAbs_mul_lt hp.den hq.den) (dd_ne p q)
theorem Sz.div {p q : Rat} {n m : Nat} (hp : Sz n p) (hq : Sz m q) (h : q ≠ 0) : Sz (n + m) (p / q) := by
  rw [← div_q]; exact sz_divInt (natAbs_mul_lt hp.1 hq.den) (natAbs_mul_lt hp.den hq.1) (dn_ne p h)
theorem Sz.neg {q : Rat} {n : Nat} (h : Sz n q) : Sz n (-q) := ⟨by rw [Rat.neg_num, Int.natAbs_neg]; exact h.1, by rw [Rat.neg_den]; exact h.2⟩
theorem sz_int {i : Int} {n : Nat} (h : i.natAbs < 2 ^ n) (hn : 0 < n) : Sz n (i : Rat) := ⟨by rw [Rat.num_intCast]; exact h, by rw [Rat.den_intCast]; exact Nat.one_lt_two_pow (by omega)⟩
theorem dq_int (i : Int) : dq (i : Rat) = .tup [.int i, .int 1] := by
  show D.tup [D.int ((i : Rat).num), D.int ((i : Rat).den : Int)] = _
  rw [Rat.num_intCast, Rat.den_intCast]
  rfl
theorem gcd_fmod (a b : Int) : Int.gcd b (a.fmod b) = Int.gcd a b := by
  rw [Int.fmod_def, Int.gcd_sub_mul_left_right, Int.gcd_comm]
theorem fmod_lt {a b : Int} (h : b ≠ 0) : (a.fmod b).natAbs < b.natAbs := by
  rcases Int.lt_or_gt_of_ne h with h1 | h1
  · have h2 := Int.fmod_nonneg_of_pos (-a) (b := -b) (by omega)
    have h3 := Int.fmod_lt_of_pos (-a) (b := -b) (by omega)
    rw [Int.neg_fmod_neg] at h2 h3
    omega
  · have h2 := Int.fmod_nonneg_of_pos a h1
    have h3 := Int.fmod_lt_of_pos a h1
    omega
theorem fdiv_dvd {a b : Int} (h : b ∣ a) : a.fdiv b = a / b := Int.fdiv_eq_ediv_of_dvd h
/-- in lowest terms, by the divisor with a sign -/
theorem red_num {t b : Int} (h0 : b ≠ 0) (s : Int) (hs : s = b.sign * (Int.gcd t b : Nat)) : t.fdiv s = (Rat.divInt t b).num ∧ b.fdiv s = ((Rat.divInt t b).den : Int) := by
  have hg : (Int.gcd t b : Int) ∣ t := Int.gcd_dvd_left ..
  have hgb : (Int.gcd t b : Int) ∣ b := Int.gcd_dvd_right ..
  have hg0 : Int.gcd t b ≠ 0 := fun z => h0 (Int.gcd_eq_zero_iff.mp z).2
  rw [Rat.num_divInt, Rat.den_divInt, if_neg h0, Int.gcd_comm b t]
  rcases Int.lt_or_gt_of_ne h0 with h1 | h1
  · rw [Int.sign_eq_neg_one_of_neg h1] at hs ⊢
    rw [hs, Int.neg_one_mul, Int.neg_one_mul, fdiv_dvd (Int.neg_dvd.mpr hg), fdiv_dvd (Int.neg_dvd.mpr hgb), Int.ediv_neg, Int.ediv_neg, Int.neg_ediv_of_dvd hg]
    refine ⟨rfl, ?_⟩
    rw [Int.natCast_ediv, show ((b.natAbs : Nat) : Int) = -b from by omega, Int.neg_ediv_of_dvd hgb]
  · rw [Int.sign_eq_one_of_pos h1] at hs ⊢
    rw [hs, Int.one_mul, Int.one_mul, fdiv_dvd hg, fdiv_dvd hgb]
    refine ⟨rfl, ?_⟩
    rw [Int.natCast_ediv, show ((b.natAbs : Nat) : Int) = b from by omega]
theorem gcd_bits {t b : Int} {n : Nat} (h0 : b ≠ 0) (hb : b.natAbs < 2 ^ n) : ((Int.gcd t b : Nat) : Int).natAbs < 2 ^ n := by
  rw [Int.natAbs_natCast]
  refine Nat.lt_of_le_of_lt (Nat.le_of_dvd (by omega) ?_) hb
  exact Int.gcd_dvd_natAbs_right ..
section
variable {P : Program} {w : World} {K : PySem.W.Frag} {mg : Str → Option Value} {base : Heap}
def R_divisor : List D → D → Prop := fun ds d => ∃ a b : Int, ds = [.int a, .int b] ∧ d = .int (Int.gcd a b : Nat)
def R_reduced : List D → D → Prop := fun ds d => ∃ t b : Int, ds = [.int t, .int b] ∧ b ≠ 0 ∧ b.natAbs < 2 ^ 8000 ∧ d = dq (Rat.divInt t b)
def R_cut : List D → D → Prop := fun ds d => ∃ t b : Int, ds = [.int t, .int b] ∧ 0 < b ∧ b.natAbs < 2 ^ 8000 ∧ d = dq (Rat.divInt t b)
theorem dd_pos (p q : Rat) : 0 < (p.den : Int) * q.den := by
  have := p.den_pos
  have := q.den_pos
  exact Int.mul_pos (by omega) (by omega)
def R_qq (f : Rat → Rat → Rat) : List D → D → Prop := fun ds d => ∃ (p q : Rat), ds = [dq p, dq q] ∧ Sz 4000 p ∧ Sz 4000 q ∧ d = dq (f p q)
def R_div : List D → D → Prop := fun ds d => ∃ (p q : Rat), ds = [dq p, dq q] ∧ Sz 4000 p ∧ Sz 4000 q ∧ q ≠ 0 ∧ d = dq (p / q)
def R_less : List D → D → Prop := fun ds d => ∃ (p q : Rat), ds = [dq p, dq q] ∧ Sz 4000 p ∧ Sz 4000 q ∧ d = .bl (decide (p < q))
def R_floor : List D → D → Prop := fun ds d => ∃ p : Rat, ds = [dq p] ∧ Sz 8000 p ∧ d = .int p.floor
theorem mk4 {a b : Int} (ha : a.natAbs < 2 ^ 4000) (hb : b.natAbs < 2 ^ 4000) : IntMulOk a b := mulOk_bits ha hb (by decide)
theorem ok_divisor {f : Addr} {fd : FuncData} (F : Fun K "divisor" "divisor" s_divisor f fd) (hm : mg "divisor" = some (.ref f)) (hb : Binds K fd (N_divisor.take 2) []) (m_abs : mg "abs" = none) : FnP P w K mg base "divisor" 1 (det R_divisor) := by
  refine fnP_of (N := N_divisor) F sc_divisor hm hb (fun ds S h => ?_) (fun cdv A outer s H E hr ds S h => ?_)
  · obtain ⟨d, ⟨a, b, h, _⟩, _⟩ := h
    rw [h]; rfl
  · obtain ⟨d, ⟨a, b, e1, e2⟩, e3⟩ := h
    subst e1 e2 e3
    show Go _ H _ _ [.dat (.int a), .dat (.int b)]
    refine go_while (fun m Γ => ∃ x y : Int, Γ = [.dat (.int x), .dat (.int y)] ∧ Int.gcd x y = Int.gcd a b ∧ m = y.natAbs) ⟨_, a, b, rfl, rfl, rfl⟩ ?_ PassesOwn.never
    rintro m Γ ⟨x, y, rfl, hg, rfl⟩
    refine ⟨_, evt_neI (ev_dat 1) ev_int, fun hk => ?_, fun hk => ?_⟩
    · have hy : y ≠ 0 := fun z => by simp [z] at hk
      refine go_par 0 1 (eva_cons (ev_dat 1) (eva_cons (ev_mod (ev_dat 0) (ev_dat 1) hy) eva_nil)) (.inl rfl) (.inl rfl) ?_ rfl sc_divisor.nd rfl
      exact go_turn (I := fun m Γ => ∃ x y : Int, Γ = [.dat (.int x), .dat (.int y)] ∧ Int.gcd x y = Int.gcd a b ∧ m = y.natAbs) (fun _ _ h => h) ⟨y, x.fmod y, rfl, (gcd_fmod x y).trans hg, rfl⟩ (fmod_lt hy) fun _ _ h => h
    · have hy : y = 0 := by simpa using hk.symm
      subst hy
      refine go_ret (ev_abs m_abs (eva_cons (ev_dat 0) eva_nil)) (.inl rfl) fun v H' h => ⟨_, ?_, h⟩
      rw [← hg, Int.gcd_zero_right]
theorem ok_reduced {f : Addr} {fd : FuncData} (F : Fun K "reduced" "reduced" s_reduced f fd) (hm : mg "reduced" = some (.ref f)) (hb : Binds K fd (N_reduced.take 2) []) (G : FnP P w K mg base "divisor" 1 (det R_divisor)) : FnP P w K mg base "reduced" 2 (det R_reduced) := by
  refine fnP_of (N := N_reduced) F sc_reduced hm hb (fun ds S h => ?_) (fun cdv A outer s H E hr ds S h => ?_)
  · obtain ⟨d, ⟨a, b, h, _⟩, _⟩ := h
    rw [h]; rfl
  · obtain ⟨d, ⟨t, b, e1, h0, hbb, e2⟩, e3⟩ := h
    subst e1 e2 e3
    show Go _ H _ _ [.dat (.int t), .dat (.int b), .any]
    have hg0 : Int.gcd t b ≠ 0 := fun z => h0 (Int.gcd_eq_zero_iff.mp z).2
    have hgb := gcd_bits (t := t) h0 hbb
    refine go_set 2 (ev_call G hr (eva_cons (ev_dat 0) (eva_cons (ev_dat 1) eva_nil)) ⟨t, b, rfl, rfl⟩) (.inl rfl) ?_ sc_reduced.nd
    refine go_if (evt_lt (ev_dat 1) ev_int) (fun hk => ?_) (fun hk => go_join ?_)
    · have h1 : b < 0 := of_decide_eq_true hk
      have hs : -((Int.gcd t b : Nat) : Int) = b.sign * (Int.gcd t b : Nat) := by rw [Int.sign_eq_neg_one_of_neg h1, Int.neg_one_mul]
      refine go_set 2 (ev_neg (ev_dat 2)) (.inl rfl) (go_join ?_) sc_reduced.nd
      obtain ⟨e1, e2⟩ := red_num h0 _ hs
      rw [show dq (Rat.divInt t b) = .tup [.int (t.fdiv (-((Int.gcd t b : Nat) : Int))), .int (b.fdiv (-((Int.gcd t b : Nat) : Int)))] from by rw [e1, e2]]
      have cx : ∀ i : Int, CDivX i (-((Int.gcd t b : Nat) : Int)) := fun i => divX (n := 8000) (by omega) (by rw [Int.natAbs_neg]; exact hgb) (by decide) (by decide)
      exact go_ret (ev_tup (eva_cons (ev_fdiv (ev_dat 0) (ev_dat 2) (cx _)) (eva_cons (ev_fdiv (ev_dat 1) (ev_dat 2) (cx _)) eva_nil))) (.inl rfl) fun v H' h => ⟨_, rfl, h⟩
    · have h1 : 0 < b := by have := of_decide_eq_false hk; omega
      have hs : ((Int.gcd t b : Nat) : Int) = b.sign * (Int.gcd t b : Nat) := by rw [Int.sign_eq_one_of_pos h1, Int.one_mul]
      obtain ⟨e1, e2⟩ := red_num h0 _ hs
      rw [show dq (Rat.divInt t b) = .tup [.int (t.fdiv ((Int.gcd t b : Nat) : Int)), .int (b.fdiv ((Int.gcd t b : Nat) : Int))] from by rw [e1, e2]]
      have cx : ∀ i : Int, CDivX i ((Int.gcd t b : Nat) : Int) := fun i => divX (n := 8000) (by omega) hgb (by decide) (by decide)
      exact go_ret (ev_tup (eva_cons (ev_fdiv (ev_dat 0) (ev_dat 2) (cx _)) (eva_cons (ev_fdiv (ev_dat 1) (ev_dat 2) (cx _)) eva_nil))) (.inl rfl) fun v H' h => ⟨_, rfl, h⟩
theorem ok_plus {f : Addr} {fd : FuncData} (F : Fun K "plus" "plus" s_plus f fd) (hm : mg "plus" = some (.ref f)) (hb : Binds K fd (N_plus.take 2) []) (G : FnP P w K mg base "reduced" 2 (det R_reduced)) : FnP P w K mg base "plus" 3 (det (R_qq (· + ·))) := by
  refine fnP_of (N := N_plus) F sc_plus hm hb (fun ds S h => ?_) (fun cdv A outer s H E hr ds S h => ?_)
  · obtain ⟨d, ⟨a, b, h, _⟩, _⟩ := h
    rw [h]; rfl
  · obtain ⟨d, ⟨p, q, e1, hp, hq, e2⟩, e3⟩ := h
    subst e1 e2 e3
    show Go _ H _ _ [.dat (dq p), .dat (dq q)]
    refine go_ret (ev_call G hr (eva_cons (ev_add (ev_mul (ev_ixT (ev_dat 0) ev_int rfl) (ev_ixT (ev_dat 1) ev_int rfl) (mk4 hp.1 hq.den)) (ev_mul (ev_ixT (ev_dat 1) ev_int rfl) (ev_ixT (ev_dat 0) ev_int rfl) (mk4 hq.1 hp.den)))
      (eva_cons (ev_mul (ev_ixT (ev_dat 0) ev_int rfl) (ev_ixT (ev_dat 1) ev_int rfl) (mk4 hp.den hq.den)) eva_nil)) ⟨_, _, rfl, dd_ne p q, natAbs_mul_lt hp.den hq.den, by rw [add_q]⟩) (.inl rfl) fun v H' h => ⟨_, rfl, h⟩
theorem ok_minus {f : Addr} {fd : FuncData} (F : Fun K "minus" "minus" s_minus f fd) (hm : mg "minus" = some (.ref f)) (hb : Binds K fd (N_minus.take 2) []) (G : FnP P w K mg base "reduced" 2 (det R_reduced)) : FnP P w K mg base "minus" 3 (det (R_qq (· - ·))) := by
  refine fnP_of (N := N_minus) F sc_minus hm hb (fun ds S h => ?_) (fun cdv A outer s H E hr ds S h => ?_)
  · obtain ⟨d, ⟨a, b, h, _⟩, _⟩ := h
    rw [h]; rfl
  · obtain ⟨d, ⟨p, q, e1, hp, hq, e2⟩, e3⟩ := h
    subst e1 e2 e3
    show Go _ H _ _ [.dat (dq p), .dat (dq q)]
    refine go_ret (ev_call G hr (eva_cons (ev_sub (ev_mul (ev_ixT (ev_dat 0) ev_int rfl) (ev_ixT (ev_dat 1) ev_int rfl) (mk4 hp.1 hq.den)) (ev_mul (ev_ixT (ev_dat 1) ev_int rfl) (ev_ixT (ev_dat 0) ev_int rfl) (mk4 hq.1 hp.den)))
      (eva_cons (ev_mul (ev_ixT (ev_dat 0) ev_int rfl) (ev_ixT (ev_dat 1) ev_int rfl) (mk4 hp.den hq.den)) eva_nil)) ⟨_, _, rfl, dd_ne p q, natAbs_mul_lt hp.den hq.den, by rw [sub_q]⟩) (.inl rfl) fun v H' h => ⟨_, rfl, h⟩
theorem ok_times {f : Addr} {fd : FuncData} (F : Fun K "times" "times" s_times f fd) (hm : mg "times" = some (.ref f)) (hb : Binds K fd (N_times.take 2) []) (G : FnP P w K mg base "reduced" 2 (det R_reduced)) : FnP P w K mg base "times" 3 (det (R_qq (· * ·))) := by
  refine fnP_of (N := N_times) F sc_times hm hb (fun ds S h => ?_) (fun cdv A outer s H E hr ds S h => ?_)
  · obtain ⟨d, ⟨a, b, h, _⟩, _⟩ := h
    rw [h]; rfl
  · obtain ⟨d, ⟨p, q, e1, hp, hq, e2⟩, e3⟩ := h
    subst e1 e2 e3
    show Go _ H _ _ [.dat (dq p), .dat (dq q)]
    refine go_ret (ev_call G hr (eva_cons (ev_mul (ev_ixT (ev_dat 0) ev_int rfl) (ev_ixT (ev_dat 1) ev_int rfl) (mk4 hp.1 hq.1))
      (eva_cons (ev_mul (ev_ixT (ev_dat 0) ev_int rfl) (ev_ixT (ev_dat 1) ev_int rfl) (mk4 hp.den hq.den)) eva_nil)) ⟨_, _, rfl, dd_ne p q, natAbs_mul_lt hp.den hq.den, by rw [mul_q]⟩) (.inl rfl) fun v H' h => ⟨_, rfl, h⟩
theorem ok_divided {f : Addr} {fd : FuncData} (F : Fun K "divided" "divided" s_divided f fd) (hm : mg "divided" = some (.ref f)) (hb : Binds K fd (N_divided.take 2) []) (G : FnP P w K mg base "reduced" 2 (det R_reduced)) : FnP P w K mg base "divided" 3 (det (R_div)) := by
  refine fnP_of (N := N_divided) F sc_divided hm hb (fun ds S h => ?_) (fun cdv A outer s H E hr ds S h => ?_)
  · obtain ⟨d, ⟨a, b, h, _⟩, _⟩ := h
    rw [h]; rfl
  · obtain ⟨d, ⟨p, q, e1, hp, hq, h0, e2⟩, e3⟩ := h
    subst e1 e2 e3
    show Go _ H _ _ [.dat (dq p), .dat (dq q)]
    refine go_ret (ev_call G hr (eva_cons (ev_mul (ev_ixT (ev_dat 0) ev_int rfl) (ev_ixT (ev_dat 1) ev_int rfl) (mk4 hp.1 hq.den))
      (eva_cons (ev_mul (ev_ixT (ev_dat 0) ev_int rfl) (ev_ixT (ev_dat 1) ev_int rfl) (mk4 hp.den hq.1)) eva_nil)) ⟨_, _, rfl, dn_ne p h0, natAbs_mul_lt hp.den hq.1, by rw [div_q]⟩) (.inl rfl) fun v H' h => ⟨_, rfl, h⟩
theorem ok_is_less {f : Addr} {fd : FuncData} (F : Fun K "is_less" "is_less" s_is_less f fd) (hm : mg "is_less" = some (.ref f)) (hb : Binds K fd (N_is_less.take 2) []) : FnP P w K mg base "is_less" 1 (det R_less) := by
  refine fnP_of (N := N_is_less) F sc_is_less hm hb (fun ds S h => ?_) (fun cdv A outer s H E hr ds S h => ?_)
  · obtain ⟨d, ⟨a, b, h, _⟩, _⟩ := h
    rw [h]; rfl
  · obtain ⟨d, ⟨p, q, e1, hp, hq, e2⟩, e3⟩ := h
    subst e1 e2 e3
    show Go _ H _ _ [.dat (dq p), .dat (dq q)]
    refine go_ret (ev_lt (ev_mul (ev_ixT (ev_dat 0) ev_int rfl) (ev_ixT (ev_dat 1) ev_int rfl) (mk4 hp.1 hq.den)) (ev_mul (ev_ixT (ev_dat 1) ev_int rfl) (ev_ixT (ev_dat 0) ev_int rfl) (mk4 hq.1 hp.den))) (.inl rfl) fun v H' h => ⟨_, ?_, h⟩
    rw [decide_eq_decide.mpr (Rat.lt_iff p q)]
theorem ok_floor {f : Addr} {fd : FuncData} (F : Fun K "floor" "floor" s_floor f fd) (hm : mg "floor" = some (.ref f)) (hb : Binds K fd (N_floor.take 1) []) : FnP P w K mg base "floor" 1 (det R_floor) := by
  refine fnP_of (N := N_floor) F sc_floor hm hb (fun ds S h => ?_) (fun cdv A outer s H E hr ds S h => ?_)
  · obtain ⟨d, ⟨a, h, _⟩, _⟩ := h
    rw [h]; rfl
  · obtain ⟨d, ⟨p, e1, hp, e2⟩, e3⟩ := h
    subst e1 e2 e3
    show Go _ H _ _ [.dat (dq p)]
    refine go_ret (ev_fdiv (ev_ixT (ev_dat 0) ev_int rfl) (ev_ixT (ev_dat 0) ev_int rfl) (divX (n := 8000) (den_ne p) hp.den (by decide) (by decide))) (.inl rfl) fun v H' h => ⟨_, ?_, h⟩
    rw [Rat.floor_def, Int.fdiv_eq_ediv_of_nonneg _ (by omega)]
end

/-! ### the law's own fractions -/
section
variable {P : Program} {w : World} {K : PySem.W.Frag} {mg : Str → Option Value} {base : Heap}
theorem gcd_abs (t b : Int) : Int.gcd (t.natAbs : Int) (b.natAbs : Int) = Int.gcd t b := by
  unfold Int.gcd
  rw [Int.natAbs_natCast, Int.natAbs_natCast]
theorem ok_made {f : Addr} {fd : FuncData} (F : Fun K "_law_made" "_law_made" s__law_made f fd) (hm : mg "_law_made" = some (.ref f)) (hb : Binds K fd (N__law_made.take 2) []) (m_abs : mg "abs" = none) (m_int : mg "int" = none) : FnP P w K mg base "_law_made" 1 (det R_reduced) := by
  refine fnP_of (N := N__law_made) F sc__law_made hm hb (fun ds S h => ?_) (fun cdv A outer s H E hr ds S h => ?_)
  · obtain ⟨d, ⟨a, b, h, _⟩, _⟩ := h
    rw [h]; rfl
  · obtain ⟨d, ⟨t, b, e1, h0, hbb, e2⟩, e3⟩ := h
    subst e1 e2 e3
    show Go _ H _ _ [.dat (.int t), .dat (.int b), .any, .any, .any]
    have hg0 : Int.gcd t b ≠ 0 := fun z => h0 (Int.gcd_eq_zero_iff.mp z).2
    have hgb := gcd_bits (t := t) h0 hbb
    refine go_par 2 3 (eva_cons (ev_abs m_abs (eva_cons (ev_dat 0) eva_nil)) (eva_cons (ev_abs m_abs (eva_cons (ev_dat 1) eva_nil)) eva_nil)) (.inl rfl) (.inl rfl) ?_ rfl sc__law_made.nd rfl
    refine go_while (fun m Γ => ∃ x y : Int, Γ = [.dat (.int t), .dat (.int b), .dat (.int x), .dat (.int y), .any] ∧ Int.gcd x y = Int.gcd t b ∧ 0 ≤ x ∧ 0 ≤ y ∧ m = y.natAbs) ⟨_, t.natAbs, b.natAbs, rfl, gcd_abs t b, by omega, by omega, rfl⟩ ?_ PassesOwn.never
    rintro m Γ ⟨x, y, rfl, hg, hx0, hy0, rfl⟩
    refine ⟨_, evt_neI (ev_dat 3) ev_int, fun hk => ?_, fun hk => ?_⟩
    · have hy : y ≠ 0 := fun z => by simp [z] at hk
      refine go_par 2 3 (eva_cons (ev_dat 3) (eva_cons (ev_mod (ev_toInt m_int (eva_cons (ev_dat 2) eva_nil)) (ev_dat 3) hy) eva_nil)) (.inl rfl) (.inl rfl) ?_ rfl sc__law_made.nd rfl
      exact go_turn (I := fun m Γ => ∃ x y : Int, Γ = [.dat (.int t), .dat (.int b), .dat (.int x), .dat (.int y), .any] ∧ Int.gcd x y = Int.gcd t b ∧ 0 ≤ x ∧ 0 ≤ y ∧ m = y.natAbs) (fun _ _ h => h) ⟨y, x.fmod y, rfl, (gcd_fmod x y).trans hg, hy0, (fmod_range (by omega)).1, rfl⟩ (fmod_lt hy) fun _ _ h => h
    · have hy : y = 0 := by simpa using hk.symm
      subst hy
      have hx : x = (Int.gcd t b : Nat) := by rw [← hg, Int.gcd_zero_right]; omega
      subst hx
      refine go_set 4 (fr := true) (d := .int b.sign) (ev_if (evt_gt (ev_dat 1) ev_int) (fun hk => ?_) (fun hk => ?_)) (.inl rfl) ?_ sc__law_made.nd
      · rw [Int.sign_eq_one_of_pos (of_decide_eq_true hk)]
        exact ev_int
      · have h1 := of_decide_eq_false hk
        rw [Int.sign_eq_neg_one_of_neg (by omega)]
        exact ev_sub ev_int ev_int
      · have hs1 : b.sign.natAbs < 2 ^ 1 := by rw [Int.natAbs_sign_of_ne_zero h0]; decide
        have es : b.sign * b.sign = 1 := by
          rcases Int.lt_or_gt_of_ne h0 with h | h
          · rw [Int.sign_eq_neg_one_of_neg h]; rfl
          · rw [Int.sign_eq_one_of_pos h]; rfl
        have key : ∀ i : Int, (b.sign * i).fdiv ((Int.gcd t b : Nat) : Int) = i.fdiv (b.sign * (Int.gcd t b : Nat)) := fun i => by
          rcases Int.lt_or_gt_of_ne h0 with h | h
          · rw [Int.sign_eq_neg_one_of_neg h, Int.neg_one_mul, Int.neg_one_mul, ← Int.neg_fdiv_neg, Int.neg_neg]
          · rw [Int.sign_eq_one_of_pos h, Int.one_mul, Int.one_mul]
        obtain ⟨e1, e2⟩ := red_num h0 _ rfl
        rw [show dq (Rat.divInt t b) = .tup [.int ((b.sign * t).fdiv ((Int.gcd t b : Nat) : Int)), .int ((b.sign * b).fdiv ((Int.gcd t b : Nat) : Int))] from by rw [key, key, e1, e2]]
        have cx : ∀ i : Int, CDivX i ((Int.gcd t b : Nat) : Int) := fun i => divX (n := 8000) (by omega) hgb (by decide) (by decide)
        have m1 : ∀ i : Int, IntMulOk b.sign i := fun i => IntMulOk.of_left (Nat.le_trans (intBits_le hs1) (by decide))
        exact go_ret (ev_tup (eva_cons (ev_fdiv (ev_mul (ev_dat 4) (ev_dat 0) (m1 _)) (ev_dat 2) (cx _)) (eva_cons (ev_fdiv (ev_mul (ev_dat 4) (ev_dat 1) (m1 _)) (ev_dat 2) (cx _)) eva_nil))) (.inl rfl) fun v H' h => ⟨_, rfl, h⟩
theorem ok__law_plus {f : Addr} {fd : FuncData} (F : Fun K "_law_plus" "_law_plus" s__law_plus f fd) (hm : mg "_law_plus" = some (.ref f)) (hb : Binds K fd (N__law_plus.take 2) []) (G : FnP P w K mg base "_law_made" 1 (det R_reduced)) : FnP P w K mg base "_law_plus" 2 (det (R_qq (· + ·))) := by
  refine fnP_of (N := N__law_plus) F sc__law_plus hm hb (fun ds S h => ?_) (fun cdv A outer s H E hr ds S h => ?_)
  · obtain ⟨d, ⟨a, b, h, _⟩, _⟩ := h
    rw [h]; rfl
  · obtain ⟨d, ⟨p, q, e1, hp, hq, e2⟩, e3⟩ := h
    subst e1 e2 e3
    show Go _ H _ _ [.dat (dq p), .dat (dq q)]
    refine go_ret (ev_call G hr (eva_cons (ev_add (ev_mul (ev_ixT (ev_dat 0) ev_int rfl) (ev_ixT (ev_dat 1) ev_int rfl) (mk4 hp.1 hq.den)) (ev_mul (ev_ixT (ev_dat 1) ev_int rfl) (ev_ixT (ev_dat 0) ev_int rfl) (mk4 hq.1 hp.den)))
      (eva_cons (ev_mul (ev_ixT (ev_dat 0) ev_int rfl) (ev_ixT (ev_dat 1) ev_int rfl) (mk4 hp.den hq.den)) eva_nil)) ⟨_, _, rfl, dd_ne p q, natAbs_mul_lt hp.den hq.den, by rw [add_q]⟩) (.inl rfl) fun v H' h => ⟨_, rfl, h⟩
theorem ok__law_minus {f : Addr} {fd : FuncData} (F : Fun K "_law_minus" "_law_minus" s__law_minus f fd) (hm : mg "_law_minus" = some (.ref f)) (hb : Binds K fd (N__law_minus.take 2) []) (G : FnP P w K mg base "_law_made" 1 (det R_reduced)) : FnP P w K mg base "_law_minus" 2 (det (R_qq (· - ·))) := by
  refine fnP_of (N := N__law_minus) F sc__law_minus hm hb (fun ds S h => ?_) (fun cdv A outer s H E hr ds S h => ?_)
  · obtain ⟨d, ⟨a, b, h, _⟩, _⟩ := h
    rw [h]; rfl
  · obtain ⟨d, ⟨p, q, e1, hp, hq, e2⟩, e3⟩ := h
    subst e1 e2 e3
    show Go _ H _ _ [.dat (dq p), .dat (dq q)]
    refine go_ret (ev_call G hr (eva_cons (ev_sub (ev_mul (ev_ixT (ev_dat 0) ev_int rfl) (ev_ixT (ev_dat 1) ev_int rfl) (mk4 hp.1 hq.den)) (ev_mul (ev_ixT (ev_dat 1) ev_int rfl) (ev_ixT (ev_dat 0) ev_int rfl) (mk4 hq.1 hp.den)))
      (eva_cons (ev_mul (ev_ixT (ev_dat 0) ev_int rfl) (ev_ixT (ev_dat 1) ev_int rfl) (mk4 hp.den hq.den)) eva_nil)) ⟨_, _, rfl, dd_ne p q, natAbs_mul_lt hp.den hq.den, by rw [sub_q]⟩) (.inl rfl) fun v H' h => ⟨_, rfl, h⟩
theorem ok__law_less {f : Addr} {fd : FuncData} (F : Fun K "_law_less" "_law_less" s__law_less f fd) (hm : mg "_law_less" = some (.ref f)) (hb : Binds K fd (N__law_less.take 2) []) : FnP P w K mg base "_law_less" 1 (det R_less) := by
  refine fnP_of (N := N__law_less) F sc__law_less hm hb (fun ds S h => ?_) (fun cdv A outer s H E hr ds S h => ?_)
  · obtain ⟨d, ⟨a, b, h, _⟩, _⟩ := h
    rw [h]; rfl
  · obtain ⟨d, ⟨p, q, e1, hp, hq, e2⟩, e3⟩ := h
    subst e1 e2 e3
    show Go _ H _ _ [.dat (dq p), .dat (dq q)]
    refine go_ret (ev_lt (ev_mul (ev_ixT (ev_dat 0) ev_int rfl) (ev_ixT (ev_dat 1) ev_int rfl) (mk4 hp.1 hq.den)) (ev_mul (ev_ixT (ev_dat 1) ev_int rfl) (ev_ixT (ev_dat 0) ev_int rfl) (mk4 hq.1 hp.den))) (.inl rfl) fun v H' h => ⟨_, ?_, h⟩
    rw [decide_eq_decide.mpr (Rat.lt_iff p q)]
theorem ok__law_times {f : Addr} {fd : FuncData} (F : Fun K "_law_times" "_law_times" s__law_times f fd) (hm : mg "_law_times" = some (.ref f)) (hb : Binds K fd (N__law_times.take 2) []) (G : FnP P w K mg base "_law_made" 1 (det R_reduced)) : FnP P w K mg base "_law_times" 2 (det (R_qq (· * ·))) := by
  refine fnP_of (N := N__law_times) F sc__law_times hm hb (fun ds S h => ?_) (fun cdv A outer s H E hr ds S h => ?_)
  · obtain ⟨d, ⟨a, b, h, _⟩, _⟩ := h
    rw [h]; rfl
  · obtain ⟨d, ⟨p, q, e1, hp, hq, e2⟩, e3⟩ := h
    subst e1 e2 e3
    show Go _ H _ _ [.dat (dq p), .dat (dq q)]
    refine go_ret (ev_call G hr (eva_cons (ev_mul (ev_ixT (ev_dat 0) ev_int rfl) (ev_ixT (ev_dat 1) ev_int rfl) (mk4 hp.1 hq.1))
      (eva_cons (ev_mul (ev_ixT (ev_dat 0) ev_int rfl) (ev_ixT (ev_dat 1) ev_int rfl) (mk4 hp.den hq.den)) eva_nil)) ⟨_, _, rfl, dd_ne p q, natAbs_mul_lt hp.den hq.den, by rw [mul_q]⟩) (.inl rfl) fun v H' h => ⟨_, rfl, h⟩
theorem ok__law_over {f : Addr} {fd : FuncData} (F : Fun K "_law_over" "_law_over" s__law_over f fd) (hm : mg "_law_over" = some (.ref f)) (hb : Binds K fd (N__law_over.take 2) []) (G : FnP P w K mg base "_law_made" 1 (det R_reduced)) : FnP P w K mg base "_law_over" 2 (det (R_div)) := by
  refine fnP_of (N := N__law_over) F sc__law_over hm hb (fun ds S h => ?_) (fun cdv A outer s H E hr ds S h => ?_)
  · obtain ⟨d, ⟨a, b, h, _⟩, _⟩ := h
    rw [h]; rfl
  · obtain ⟨d, ⟨p, q, e1, hp, hq, h0, e2⟩, e3⟩ := h
    subst e1 e2 e3
    show Go _ H _ _ [.dat (dq p), .dat (dq q)]
    refine go_ret (ev_call G hr (eva_cons (ev_mul (ev_ixT (ev_dat 0) ev_int rfl) (ev_ixT (ev_dat 1) ev_int rfl) (mk4 hp.1 hq.den))
      (eva_cons (ev_mul (ev_ixT (ev_dat 0) ev_int rfl) (ev_ixT (ev_dat 1) ev_int rfl) (mk4 hp.den hq.1)) eva_nil)) ⟨_, _, rfl, dn_ne p h0, natAbs_mul_lt hp.den hq.1, by rw [div_q]⟩) (.inl rfl) fun v H' h => ⟨_, rfl, h⟩
end

/-! ### fractions as texts -/
theorem sh_dq {q : Rat} {n : Nat} (h : Sz n q) (h0 : 0 < n) (hn : n ≤ 1900) : Sh 1 10000 (dq q) := by
  refine Sh.mono (sh_tup (n := 0) (c := n + 1) (fun d m => ?_) (.inl rfl)) (Nat.le_refl _) (by simp only [List.length_cons, List.length_nil]; omega)
  simp only [List.mem_cons, List.not_mem_nil, or_false] at m
  rcases m with rfl | rfl
  · exact sh_int h.1 h0 (by omega)
  · exact sh_int h.den h0 (by omega)
theorem noDct_dqs : ∀ qs : List Rat, D.noDctAll (qs.map dq) = true
  | [] => rfl
  | q :: qs => by
    show (D.noDct (dq q) && D.noDctAll (qs.map dq)) = true
    rw [noDct_dqs qs]
    rfl
theorem sh_dqs {qs : List Rat} {n : Nat} (h : ∀ q ∈ qs, Sz n q) (h0 : 0 < n) (hn : n ≤ 1900) : Sh 2 (10002 * qs.length + 3) (.lst (qs.map dq)) := by
  refine Sh.mono (sh_lst (n := 1) (c := 10000) (fun d m => ?_) (noDct_dqs qs)) (by decide) (by rw [List.length_map]; exact Nat.le_refl _)
  obtain ⟨q, hq, rfl⟩ := List.mem_map.mp m
  exact sh_dq (h q hq) h0 hn
def IsQ (n : Nat) (z : D) : Prop := ∃ q : Rat, z = dq q ∧ Sz n q

/-! ### calls, by what is wanted behind -/
theorem c_draw {n : Int} {Q : D → Prop} (q : ∀ i : Int, 0 ≤ i → i < n → Q (.int i)) (h : 0 < n ∧ n.natAbs < 2 ^ 2000) : Cl P_draw [dDraw, .int n] Q := ⟨_, ⟨n, rfl, h.1, h.2, rfl⟩, fun d ⟨i, e, h0, h1⟩ => by rw [e]; exact q i h0 h1⟩
theorem c_stream {ns : List Int} {st : Int} {Q : D → Prop} (q : Q dDraw) (h : ScriptB ns ∧ 0 ≤ st ∧ st ≤ 1000) : Cl P_stream [.lst (ns.map .int), .int st] Q := ⟨_, ⟨ns, st, rfl, h.1, h.2.1, h.2.2, rfl⟩, fun d e => by rw [e]; exact q⟩
theorem small2000 {n : Int} (h0 : 0 < n) (h : n < 2 ^ 62) : 0 < n ∧ n.natAbs < 2 ^ 2000 := ⟨h0, Nat.lt_of_lt_of_le (m := 2 ^ 62) (by omega) (Nat.pow_le_pow_right (by decide) (by decide))⟩
theorem c_choose {xs : List D} {Q : D → Prop} (q : ∀ d ∈ xs, Q d) (h : (0 < xs.length ∧ xs.length < 1000) ∧ ∀ x ∈ xs, isCont x = false) : Cl P_choose [dDraw, .lst xs] Q := ⟨_, ⟨xs, rfl, h.1.1, h.1.2, h.2, rfl⟩, q⟩
theorem nc_nil : ∀ x ∈ ([] : List D), isCont x = false := fun _ m => nomatch m
theorem nc_cons {d : D} {xs : List D} (h : isCont d = false) (r : ∀ x ∈ xs, isCont x = false) : ∀ x ∈ d :: xs, isCont x = false := fun x m => by
  rcases List.mem_cons.mp m with e | m
  · rw [e]; exact h
  · exact r x m
theorem dq_neg' (q : Rat) : D.tup [.int (0 - q.num), .int (q.den : Int)] = dq (-q) := by rw [Int.zero_sub]; rfl
theorem dq_int' (i : Int) : D.tup [.int i, .int 1] = dq (i : Rat) := (dq_int i).symm
theorem Rat.pos_ne {q : Rat} (h : 0 < q) : q ≠ 0 := fun z => by rw [z] at h; exact Rat.lt_irrefl h
theorem rat_num_pos {q : Rat} (h : 0 < q) : 0 < q.num := by
  have h1 : 0 ≤ q.num := Rat.num_nonneg.mpr (Rat.le_of_lt h)
  have h2 : q.num ≠ 0 := fun z => by rw [Rat.num_eq_zero.mp z] at h; exact Rat.lt_irrefl h
  omega
theorem dq_inv' {q : Rat} (h : 0 < q) : D.tup [.int (q.den : Int), .int q.num] = dq q⁻¹ := by
  have h1 : 0 < q.num := rat_num_pos h
  show _ = D.tup [.int (q⁻¹).num, .int ((q⁻¹).den : Int)]
  rw [Rat.num_inv, Rat.den_inv, if_neg (by omega), Int.sign_eq_one_of_pos h1, Int.one_mul, Int.natAbs_of_nonneg (by omega)]
theorem c_qq {f : Rat → Rat → Rat} {p q : Rat} {d1 d2 : D} {Q : D → Prop} (e1 : d1 = dq p) (e2 : d2 = dq q) (k : Q (dq (f p q))) (h : Sz 4000 p ∧ Sz 4000 q) : Cl (det (R_qq f)) [d1, d2] Q := by
  subst e1 e2
  exact cl_det ⟨p, q, rfl, h.1, h.2, rfl⟩ k
theorem c_div {p q : Rat} {d1 d2 : D} {Q : D → Prop} (e1 : d1 = dq p) (e2 : d2 = dq q) (k : Q (dq (p / q))) (h : Sz 4000 p ∧ Sz 4000 q ∧ q ≠ 0) : Cl (det R_div) [d1, d2] Q := by
  subst e1 e2
  exact cl_det ⟨p, q, rfl, h.1, h.2.1, h.2.2, rfl⟩ k
theorem c_less {p q : Rat} {d1 d2 : D} {Q : D → Prop} (e1 : d1 = dq p) (e2 : d2 = dq q) (k : Q (.bl (decide (p < q)))) (h : Sz 4000 p ∧ Sz 4000 q) : Cl (det R_less) [d1, d2] Q := by
  subst e1 e2
  exact cl_det ⟨p, q, rfl, h.1, h.2, rfl⟩ k
theorem c_floor {p : Rat} {d1 : D} {Q : D → Prop} (e1 : d1 = dq p) (k : Q (.int p.floor)) (h : Sz 8000 p) : Cl (det R_floor) [d1] Q := by
  subst e1
  exact cl_det ⟨p, rfl, h, rfl⟩ k
theorem c_reduced {t b : Int} {Q : D → Prop} (k : Q (dq (Rat.divInt t b))) (h : b ≠ 0 ∧ b.natAbs < 2 ^ 8000) : Cl (det R_reduced) [.int t, .int b] Q := cl_det ⟨t, b, rfl, h.1, h.2, rfl⟩ k
theorem c_cut {t b : Int} {Q : D → Prop} (k : Q (dq (Rat.divInt t b))) (h : 0 < b ∧ b.natAbs < 2 ^ 8000) : Cl (det R_cut) [.int t, .int b] Q := cl_det ⟨t, b, rfl, h.1, h.2, rfl⟩ k
theorem sz_one {n : Nat} : Sz (n + 1) 1 := Sz.mono (n := 1) ⟨by decide, by decide⟩ (Nat.le_add_left _ _)
theorem Sz.pow {q : Rat} {a : Nat} (h : Sz a q) : ∀ i : Nat, Sz (a * i + 1) (q ^ i)
  | 0 => by rw [Rat.pow_zero]; exact sz_one
  | i + 1 => by rw [Rat.pow_succ]; exact Sz.mono (Sz.mul (Sz.pow h i) h) (by rw [Nat.mul_succ]; omega)
theorem bits8000 {b : Int} (h : b.natAbs < 2 ^ 62) : b.natAbs < 2 ^ 8000 := Nat.lt_of_lt_of_le h (Nat.pow_le_pow_right (by decide) (by decide))
theorem sz_lit {t b : Int} {n : Nat} (h : t.natAbs < 2 ^ n ∧ b.natAbs < 2 ^ n ∧ b ≠ 0) : Sz n (Rat.divInt t b) := sz_divInt h.1 h.2.1 h.2.2
theorem shpN_dq (q : Rat) : ShpN 1 (dq q) := ⟨rfl, rfl, Nat.le_refl _⟩
theorem flat_dqs (qs : List Rat) : D.flatAll (qs.map dq) = true := flat_map (fun _ => rfl) qs

local macro_rules | `(tactic| walk_at "cl") => `(tactic| first | refine c_draw (fun _ _ _ => ?_) (by first | assumption | exact small2000 (by omega) (by omega) | exact small2000 (by decide +kernel) (by decide +kernel)) | refine c_draw (fun _ _ _ => ?_) ?_ | fail)
local macro_rules | `(tactic| walk_at "cl") => `(tactic| first | refine c_stream ?_ ⟨by assumption, by omega, by omega⟩ | fail)
local macro_rules | `(tactic| walk_at "nc") => `(tactic| first | exact nc_nil | (refine nc_cons rfl ?_; walk_at "nc") | fail)
local macro_rules | `(tactic| walk_at "cl") => `(tactic| first | refine c_choose ?_ ⟨⟨Nat.succ_pos _, Nat.le_of_ble_eq_true rfl⟩, by walk_at "nc"⟩ | refine c_choose ?_ ?_ | fail)
local macro_rules | `(tactic| walk_at "dq") => `(tactic| first | with_reducible exact rfl | assumption | exact dq_int' _ | exact dq_neg' _ | (refine dq_inv' ?_; assumption) | fail)
local macro_rules | `(tactic| walk_at "szr") => `(tactic| first | assumption | (with_reducible show Sz _ (_ + _); exact Sz.add (by walk_at "szr") (by walk_at "szr")) | (with_reducible show Sz _ (_ - _); exact Sz.sub (by walk_at "szr") (by walk_at "szr")) | (with_reducible show Sz _ (_ * _); exact Sz.mul (by walk_at "szr") (by walk_at "szr")) | (with_reducible show Sz _ (-_); exact Sz.neg (by walk_at "szr")) | exact sz_int (n := 62) (by omega) (by decide) | fail)
local macro_rules | `(tactic| walk_at "sz") => `(tactic| first | assumption | exact Sz.mono (by walk_at "szr") (by first | decide | omega) | fail)
local macro_rules | `(tactic| walk_at "sz2") => `(tactic| first | exact ⟨by walk_at "sz", by walk_at "sz"⟩ | fail)
local macro_rules | `(tactic| walk_at "cl") => `(tactic| first | refine c_qq (by walk_at "dq") (by walk_at "dq") ?_ (by walk_at "sz2") | refine c_qq (by walk_at "dq") (by walk_at "dq") ?_ ?_ | fail)
local macro_rules | `(tactic| walk_at "cl") => `(tactic| first | refine c_div (by walk_at "dq") (by walk_at "dq") ?_ ⟨by walk_at "sz", by walk_at "sz", by assumption⟩ | refine c_div (by walk_at "dq") (by walk_at "dq") ?_ ?_ | fail)
local macro_rules | `(tactic| walk_at "cl") => `(tactic| first | refine c_less (by walk_at "dq") (by walk_at "dq") ?_ (by walk_at "sz2") | refine c_less (by walk_at "dq") (by walk_at "dq") ?_ ?_ | fail)
local macro_rules | `(tactic| walk_at "cl") => `(tactic| first | refine c_floor (by walk_at "dq") ?_ (by walk_at "sz") | refine c_floor (by walk_at "dq") ?_ ?_ | fail)
local macro_rules | `(tactic| walk_at "cl") => `(tactic| first | refine c_reduced ?_ (by assumption) | refine c_cut ?_ (by assumption) | refine c_cut ?_ ⟨by omega, bits8000 (by omega)⟩ | refine c_reduced ?_ ⟨by omega, bits8000 (by omega)⟩ | refine c_reduced ?_ ?_ | refine c_cut ?_ ?_ | fail)

/-! ### saws -/
def r2l (sp st r : Rat) : Int := if sp < r then 0 else ((sp - r) / st).floor + 1
def aft (sp st r : Rat) : Rat := r + st * (r2l sp st r : Rat)
theorem divInt_one (n : Int) : Rat.divInt n 1 = (n : Rat) := by rw [Rat.divInt_eq_div]; grind
theorem sz_nat {q : Rat} {n : Nat} (h : Sz n q) (h0 : 0 ≤ q) : 0 ≤ q.floor ∧ q.floor.natAbs < 2 ^ n := by
  have h1 : 0 ≤ q.num := Rat.num_nonneg.mpr h0
  have h2 := q.den_pos
  rw [Rat.floor_def]
  have h3 := Int.ediv_nonneg h1 (by omega : (0 : Int) ≤ (q.den : Int))
  have h4 : q.num / (q.den : Int) ≤ q.num := Int.ediv_le_self _ h1
  have := h.1
  exact ⟨h3, by omega⟩
theorem sub_nn {a b : Rat} (h : ¬ a < b) : 0 ≤ a - b := by grind
theorem div_nn {a b : Rat} (ha : 0 ≤ a) (hb : 0 < b) : 0 ≤ a / b := by
  rw [Rat.div_def]
  exact Rat.mul_nonneg ha (Rat.le_of_lt (Rat.inv_pos.mpr hb))
theorem r2l_sz {sp st r : Rat} {a b c : Nat} (h1 : Sz a sp) (h2 : Sz b st) (h3 : Sz c r) (h0 : 0 < st) : 0 ≤ r2l sp st r ∧ (r2l sp st r).natAbs < 2 ^ (a + c + 1 + b + 1) := by
  unfold r2l
  split
  · exact ⟨by decide, Nat.two_pow_pos _⟩
  · rename_i h
    have h4 := sz_nat (Sz.div (Sz.sub h1 h3) h2 (Rat.pos_ne h0)) (div_nn (sub_nn h) h0)
    have : (2 : Nat) ^ (a + c + 1 + b + 1) = 2 ^ (a + c + 1 + b) * 2 := Nat.pow_succ ..
    have := Nat.two_pow_pos (a + c + 1 + b)
    omega
theorem r2l_step {sp st r : Rat} (h0 : 0 < st) (h : ¬ sp < r) : r2l sp st r = r2l sp st (r + st) + 1 ∧ aft sp st r = aft sp st (r + st) := by
  have key : r2l sp st r = r2l sp st (r + st) + 1 := by
    unfold r2l
    rw [if_neg h]
    have e : (sp - (r + st)) / st = (sp - r) / st - 1 := by
      rw [Rat.div_def, Rat.div_def]
      have := Rat.mul_inv_cancel st (Rat.pos_ne h0)
      grind
    by_cases h2 : sp < r + st
    · rw [if_pos h2]
      have h3 : 0 ≤ (sp - r) / st := div_nn (sub_nn h) h0
      have h4 : (sp - r) / st < 1 := by
        rw [Rat.div_def]
        have h5 : (sp - r) < st := by grind
        have h6 := Rat.mul_lt_mul_of_pos_right h5 (Rat.inv_pos.mpr h0)
        rwa [Rat.mul_inv_cancel st (Rat.pos_ne h0)] at h6
      have h5 : ((sp - r) / st).floor = 0 := by
        have a1 : (0 : Int) ≤ ((sp - r) / st).floor := Rat.le_floor_iff.mpr h3
        have a2 := Rat.floor_le ((sp - r) / st)
        have a3 : ((((sp - r) / st).floor : Int) : Rat) < ((1 : Int) : Rat) := by grind
        have a4 := Rat.intCast_lt_intCast.mp a3
        omega
      omega
    · rw [if_neg h2, e]
      have : ((sp - r) / st - 1).floor = ((sp - r) / st).floor - 1 := by
        refine Int.le_antisymm ?_ ?_
        · have a1 := Rat.floor_le ((sp - r) / st - 1)
          have a2 : (((sp - r) / st - 1).floor + 1 : Int) ≤ ((sp - r) / st).floor := Rat.le_floor_iff.mpr (by rw [Rat.intCast_add]; grind)
          omega
        · refine Rat.le_floor_iff.mpr ?_
          have a1 := Rat.floor_le ((sp - r) / st)
          rw [Rat.intCast_sub]
          grind
      omega
  refine ⟨key, ?_⟩
  unfold aft
  rw [key, Rat.intCast_add]
  grind
theorem aft_in {sp st r : Rat} (h0 : 0 < st) : (sp < r → aft sp st r = r ∧ r2l sp st r = 0) ∧ (¬ sp < r → sp < aft sp st r ∧ aft sp st r ≤ sp + st) := by
  unfold aft r2l
  refine ⟨fun h => ?_, fun h => ?_⟩
  · rw [if_pos h]
    exact ⟨by grind, rfl⟩
  · rw [if_neg h]
    have h1 := Rat.floor_le ((sp - r) / st)
    have h2 := Rat.lt_floor_add_one ((sp - r) / st)
    have e : st * ((sp - r) / st) = sp - r := by rw [Rat.mul_comm, Rat.div_mul_cancel (Rat.pos_ne h0)]
    have h3 := Rat.mul_lt_mul_of_pos_left h2 h0
    have h4 := Rat.mul_le_mul_of_nonneg_left h1 (Rat.le_of_lt h0)
    rw [e] at h3 h4
    rw [Rat.intCast_add] at h3 ⊢
    generalize (((sp - r) / st).floor : Rat) = F at h3 h4 ⊢
    have e1 : ((1 : Int) : Rat) = 1 := rfl
    rw [e1] at h3 ⊢
    constructor <;> grind
/-- rates at losses -/
def lossR (sp st k r : Rat) : Nat → Rat
  | 0 => aft sp st r
  | i + 1 => aft sp st (k * lossR sp st k r i)
/-- losses: their places and excesses -/
def lossS (sp st k : Rat) : Nat → Int → Rat → List (Int × Rat)
  | 0, _, _ => []
  | n + 1, p, r => (p + r2l sp st r, aft sp st r - sp) :: lossS sp st k n (p + r2l sp st r + 1) (k * aft sp st r)
theorem lossR_shift (sp st k r : Rat) : ∀ i, lossR sp st k r (i + 1) = lossR sp st k (k * aft sp st r) i
  | 0 => rfl
  | i + 1 => by
    show aft sp st (k * lossR sp st k r (i + 1)) = aft sp st (k * lossR sp st k (k * aft sp st r) i)
    rw [lossR_shift sp st k r i]
theorem lossS_snd (sp st k : Rat) : ∀ (n : Nat) (p : Int) (r : Rat), (lossS sp st k n p r).map (·.2) = (List.range n).map fun i => lossR sp st k r i - sp
  | 0, _, _ => rfl
  | n + 1, p, r => by
    show (aft sp st r - sp) :: _ = _
    rw [lossS_snd sp st k n, List.range_succ_eq_map, List.map_cons, List.map_map]
    refine congrArg _ (List.map_congr_left fun i _ => ?_)
    show lossR sp st k (k * aft sp st r) i - sp = lossR sp st k r (i + 1) - sp
    rw [lossR_shift]
theorem lossS_len (sp st k : Rat) : ∀ (n : Nat) (p : Int) (r : Rat), (lossS sp st k n p r).length = n
  | 0, _, _ => rfl
  | n + 1, p, r => congrArg (· + 1) (lossS_len sp st k n _ _)
section
variable {P : Program} {w : World} {K : PySem.W.Frag} {mg : Str → Option Value} {base : Heap}
abbrev dSaw (sp st k : Rat) : D := .tup [dq sp, dq st, dq k]
abbrev P_r2l : Pr := detP (fun (a : (Rat × Rat × Rat) × Rat) => [dSaw a.1.1 a.1.2.1 a.1.2.2, dq a.2]) (fun a => (Sz 300 a.1.1 ∧ Sz 300 a.1.2.1) ∧ Sz 2200 a.2 ∧ 0 < a.1.2.1) fun a => .int (r2l a.1.1 a.1.2.1 a.2)
abbrev P_after : Pr := detP (fun (a : (Rat × Rat × Rat) × Rat × Int) => [dSaw a.1.1 a.1.2.1 a.1.2.2, dq a.2.1, .int a.2.2]) (fun a => Sz 300 a.1.2.1 ∧ Sz 3800 a.2.1 ∧ a.2.2.natAbs < 2 ^ 3500) fun a => dq (a.2.1 + a.1.2.1 * (a.2.2 : Rat))
theorem c_r2l {sp st k r : Rat} {Q : D → Prop} (q : Q (.int (r2l sp st r))) (h : (Sz 300 sp ∧ Sz 300 st) ∧ Sz 2200 r ∧ 0 < st) : Cl P_r2l [dSaw sp st k, dq r] Q := cl_detP ((sp, st, k), r) q h
theorem c_after {sp st k r : Rat} {n : Int} {Q : D → Prop} (q : Q (dq (r + st * (n : Rat)))) (h : Sz 300 st ∧ Sz 3800 r ∧ n.natAbs < 2 ^ 3500) : Cl P_after [dSaw sp st k, dq r, .int n] Q := cl_detP ((sp, st, k), r, n) q h
theorem ok_r2l {f : Addr} {fd : FuncData} (F : Fun K "rounds_to_loss" "rounds_to_loss" s_rounds_to_loss f fd) (hm : mg "rounds_to_loss" = some (.ref f)) (hb : Binds K fd (N_rounds_to_loss.take 2) [])
    (G1 : FnP P w K mg base "is_less" 1 (det R_less)) (G2 : FnP P w K mg base "minus" 3 (det (R_qq (· - ·)))) (G3 : FnP P w K mg base "divided" 3 (det R_div)) (G4 : FnP P w K mg base "floor" 1 (det R_floor)) : FnP P w K mg base "rounds_to_loss" 4 P_r2l :=
  fnP_det F sc_rounds_to_loss hm hb (fun _ _ => rfl) fun cdv A outer s H E hr nd ⟨⟨sp, st, k⟩, r⟩ ⟨⟨hsp, hst⟩, hrz, h0⟩ => by
    simp only at hsp hst hrz h0
    have hne := Rat.pos_ne h0
    show Go _ H (_ :: _) _ [.dat (dSaw sp st k), .dat (dq r)]
    have s1 : Sz 2501 (sp - r) := Sz.sub hsp hrz
    have s2 : Sz 2801 ((sp - r) / st) := Sz.div s1 hst hne
    refine s_if (by walk_at "go") (fun hk => ?_) (fun hk => ?_)
    · walk_at "go"
      show D.int 0 = .int (r2l sp st r)
      unfold r2l
      rw [if_pos (of_decide_eq_true hk)]
    · walk_at "go"
      show _ = D.int (r2l sp st r)
      unfold r2l
      rw [if_neg (of_decide_eq_false hk)]
theorem ok_after {f : Addr} {fd : FuncData} (F : Fun K "after" "after" s_after f fd) (hm : mg "after" = some (.ref f)) (hb : Binds K fd (N_after.take 3) [])
    (G1 : FnP P w K mg base "plus" 3 (det (R_qq (· + ·)))) (G2 : FnP P w K mg base "times" 3 (det (R_qq (· * ·)))) (G3 : FnP P w K mg base "reduced" 2 (det R_reduced)) : FnP P w K mg base "after" 4 P_after :=
  fnP_det F sc_after hm hb (fun _ _ => rfl) fun cdv A outer s H E hr nd ⟨⟨sp, st, k⟩, r, n⟩ ⟨hst, hrz, hn⟩ => by
    simp only at hst hrz hn
    show Go _ H (_ :: _) _ [.dat (dSaw sp st k), .dat (dq r), .dat (.int n)]
    have s1 : Sz 3500 (n : Rat) := sz_int hn (by decide)
    have h1 : (1 : Int) ≠ 0 ∧ (1 : Int).natAbs < 2 ^ 8000 := ⟨by decide, bits8000 (by decide)⟩
    have e1 : Rat.divInt n 1 = (n : Rat) := divInt_one n
    have s2 : Sz 3500 (Rat.divInt n 1) := by rw [e1]; exact s1
    have s3 : Sz 3800 (st * Rat.divInt n 1) := Sz.mul hst s2
    walk_at "go"
    rw [e1]
end

/-! ### written fractions, written ints -/
def P01 (d : D) : Prop := ∃ q : Rat, d = dq q ∧ Sz 8 q ∧ 0 < q ∧ q < 1
def Pq (n : Nat) (d : D) : Prop := ∃ q : Rat, d = dq q ∧ Sz n q ∧ 0 < q
def PI (lo hi : Int) (d : D) : Prop := ∃ i : Int, d = .int i ∧ lo ≤ i ∧ i ≤ hi
theorem lit_num {n d : Int} (hd : 0 < d) (h : Int.gcd n d = 1) : D.tup [.int n, .int d] = dq (Rat.divInt n d) := by
  show _ = D.tup [.int (Rat.divInt n d).num, .int ((Rat.divInt n d).den : Int)]
  rw [Rat.num_divInt, Rat.den_divInt, if_neg (by omega), Int.gcd_comm d n, h, Int.sign_eq_one_of_pos hd, Int.one_mul]
  simp only [Int.natCast_one, Int.ediv_one, Nat.div_one]
  rw [Int.natAbs_of_nonneg (Int.le_of_lt hd)]
theorem divInt_pos' {n d : Int} (hn : 0 < n) (hd : 0 < d) : 0 < Rat.divInt n d := by
  rw [Rat.lt_iff, Rat.num_divInt, Int.sign_eq_one_of_pos hd, Int.one_mul]
  show 0 * _ < n / _ * 1
  rw [Int.zero_mul, Int.mul_one]
  have hg : (Int.gcd d n : Int) ∣ n := Int.gcd_dvd_right ..
  have hg0 : 0 < (Int.gcd d n : Int) := by
    have : Int.gcd d n ≠ 0 := fun z => by have := (Int.gcd_eq_zero_iff.mp z).2; omega
    omega
  exact Int.ediv_pos_of_pos_of_dvd hn (Int.le_of_lt hg0) hg
theorem litq {m : Nat} {n d : Int} (h : ((0 < n ∧ n.natAbs < 2 ^ m) ∧ (0 < d ∧ d.natAbs < 2 ^ m)) ∧ Int.gcd n d = 1) : Pq m (.tup [.int n, .int d]) :=
  ⟨_, lit_num h.1.2.1 h.2, sz_divInt h.1.1.2 h.1.2.2 (by have := h.1.2.1; omega), divInt_pos' h.1.1.1 h.1.2.1⟩
theorem lit01 {n d : Int} (h : ((0 < n ∧ n < d) ∧ d < 256) ∧ Int.gcd n d = 1) : P01 (.tup [.int n, .int d]) := by
  obtain ⟨⟨⟨h1, h2⟩, h3⟩, h4⟩ := h
  refine ⟨_, lit_num (by omega) h4, sz_divInt (n := 8) (by omega) (by omega) (by omega), divInt_pos' h1 (by omega), ?_⟩
  have e := lit_num (by omega : 0 < d) h4
  have e1 : n = (Rat.divInt n d).num ∧ d = ((Rat.divInt n d).den : Int) := by
    have : D.tup [.int n, .int d] = D.tup [.int (Rat.divInt n d).num, .int ((Rat.divInt n d).den : Int)] := e
    injection this with this
    injection this with a b
    injection a with a
    injection b with b c
    injection b with b
    exact ⟨a, b⟩
  rw [Rat.lt_iff, ← e1.1, ← e1.2]
  show n * 1 < 1 * d
  omega
theorem litI {lo hi i : Int} (h : lo ≤ i ∧ i ≤ hi) : PI lo hi (.int i) := ⟨i, rfl, h⟩
theorem lits {P : D → Prop} {xs : List D} {d : D} (hd : d ∈ xs) (h : ∀ x ∈ xs, P x) : P d := h d hd
/-- a drawn saw -/
structure SawB (sp st k : Rat) : Prop where
  spz : Sz 8 sp
  stz : Sz 8 st
  kz : Sz 8 k
  kpos : 0 < k
  klt : k < 1
  spos : 0 < st
  pos : 0 < sp

/-! ### saws -/
theorem dq_lit (q : Rat) {a b : Int} (h1 : q.num = a) (h2 : (q.den : Int) = b) : D.tup [.int a, .int b] = dq q := by unfold dq; rw [h1, h2]
/-- a drawn fraction above 0 -/
def FracB (most : Int) (q : Rat) : Prop := 0 < q ∧ q ≤ (most : Rat) ∧ Sz 60 q
theorem q_div_pos {a b : Rat} (h : 0 < a) (hb : 0 < b) : 0 < a / b := by
  rw [Rat.div_def]
  exact (Rat.mul_pos_iff_of_pos_left h).mpr (Rat.inv_pos.mpr hb)
theorem q_div_le {a b c : Rat} (hb : 0 < b) (h : a ≤ c * b) : a / b ≤ c := by
  have h1 : a / b * b = a := Rat.div_mul_cancel (fun z => by rw [z] at hb; exact absurd hb (by decide +kernel))
  refine Rat.not_lt.mp fun z => ?_
  have h2 : c * b < a / b * b := (Rat.mul_lt_mul_right hb).mpr z
  rw [h1] at h2
  exact Rat.not_lt.mpr h h2
theorem divInt_pos {t b : Int} (ht : 0 < t) (hb : 0 < b) : 0 < Rat.divInt t b := by
  rw [Rat.divInt_eq_div]
  exact q_div_pos (by exact_mod_cast ht) (by exact_mod_cast hb)
theorem divInt_le {t b m : Int} (hb : 0 < b) (h : t ≤ m * b) : Rat.divInt t b ≤ (m : Rat) := by
  rw [Rat.divInt_eq_div]
  exact q_div_le (by exact_mod_cast hb) (by exact_mod_cast h)
section
variable {P : Program} {w : World} {K : PySem.W.Frag} {mg : Str → Option Value} {base : Heap}
def P_frac : Pr := fun ds S => ∃ (most : Int) (bs : List Int), ds = [dDraw, .int most, .lst (bs.map .int)] ∧ 0 < most ∧ most ≤ 1000000 ∧ 0 < bs.length ∧ bs.length < 1000 ∧ (∀ b ∈ bs, 0 < b ∧ b ≤ 1000000) ∧ S = fun z => ∃ q, z = dq q ∧ FracB most q
theorem ok_frac {f : Addr} {fd : FuncData} (F : Fun K "_law_frac" "_law_frac" s__law_frac f fd) (hm : mg "_law_frac" = some (.ref f)) (hb : Binds K fd (N__law_frac.take 3) []) (G : FnP P w K mg base "_law_draw" 1 P_draw)
    (Gc : FnP P w K mg base "_law_choose" 2 P_choose) (Gm : FnP P w K mg base "_law_made" 1 (det R_reduced)) : FnP P w K mg base "_law_frac" 3 P_frac := by
  refine fnP_of (N := N__law_frac) F sc__law_frac hm hb (fun ds S h => ?_) (fun cdv A outer s H E hr ds S h => ?_)
  · obtain ⟨m, bs, e, _⟩ := h
    rw [e]; rfl
  · obtain ⟨most, bs, e1, h0, h1, hl0, hl1, hbs, e2⟩ := h
    subst e1 e2
    show Go _ H _ _ [.dat dDraw, .dat (.int most), .dat (.lst (bs.map .int)), .any]
    refine go_setN 3 (S := fun z => ∃ i : Int, z = .int i ∧ 0 < i ∧ i ≤ 1000000) (evn_call Gc hr (eva_cons (ev_dat 0) (eva_cons (ev_dat 2) eva_nil)) fun ds e => ⟨_, ⟨_, e, by rw [List.length_map]; exact hl0, by rw [List.length_map]; exact hl1, fun x m => by obtain ⟨i, _, rfl⟩ := List.mem_map.mp m; rfl, rfl⟩, fun d m => by obtain ⟨i, hi, rfl⟩ := List.mem_map.mp m; exact ⟨i, rfl, hbs i hi⟩⟩) (fun d ⟨i, e, _⟩ => by rw [e]; exact .inl rfl) (fun d ⟨b, e, hb0, hb1⟩ => ?_) sc__law_frac.nd
    subst e
    have hmb : 0 < most * b := Int.mul_pos h0 hb0
    have hmb2 : most * b ≤ 1000000 * 1000000 := Int.mul_le_mul h1 hb1 (by omega) (by decide)
    refine go_retN (S := fun z => ∃ q, z = dq q ∧ FracB most q) (evn_call Gm hr (eva_consS (evi_add (S3 := fun i => 1 ≤ i ∧ i ≤ most * b) (EvN.int1 ev_int) (S2 := fun i => 0 ≤ i ∧ i < most * b) (evn_call G hr (eva_cons (ev_dat 0) (eva_cons (ev_mul (ev_dat 1) (ev_dat 3) (mulOk_bits (a := 40) (b := 40) (by omega) (by omega) (by decide))) eva_nil)) fun ds e => ⟨_, ⟨_, e, hmb, Nat.lt_of_lt_of_le (m := 2 ^ 50) (by omega) (Nat.pow_le_pow_right (by decide) (by decide)), rfl⟩, fun d h => h⟩) fun i j h1 h2 => by omega) (eva_cons (ev_dat 3) eva_nil)) ?_) ?_
    · rintro ds ⟨_, _, rfl, ⟨i, rfl, hi⟩, rfl⟩
      refine ⟨_, ⟨_, ⟨i, b, rfl, by omega, natAbs_mono (n := 40) (by decide) (by omega), rfl⟩, rfl⟩, ?_⟩
      rintro d rfl
      exact ⟨_, rfl, divInt_pos (by omega) hb0, divInt_le hb0 (by omega), sz_divInt (by omega) (by omega) (by omega)⟩
    · rintro v H' d ⟨q, rfl, hq⟩ x r f
      exact ⟨_, ⟨q, rfl, hq⟩, x, r, FreshD.flat rfl⟩
end

/-! ### walks -/
/-- a rate whose bottom divides E -/
def On (E : Nat) (q : Rat) : Prop := ∃ z : Int, q * ((E : Int) : Rat) = (z : Rat)
theorem On.add {E : Nat} {p q : Rat} (hp : On E p) (hq : On E q) : On E (p + q) := by
  obtain ⟨a, ha⟩ := hp
  obtain ⟨b, hb⟩ := hq
  exact ⟨a + b, by rw [Rat.intCast_add, ← ha, ← hb]; grind⟩
theorem On.int {E : Nat} {q : Rat} (h : On E q) (n : Int) : On E (q * (n : Rat)) := by
  obtain ⟨a, ha⟩ := h
  exact ⟨a * n, by rw [Rat.intCast_mul, ← ha]; grind⟩
theorem num_den (q : Rat) : q * ((q.den : Int) : Rat) = (q.num : Rat) := by
  have h := rat_self q
  rw [Rat.divInt_eq_div] at h
  have hd : ((q.den : Int) : Rat) ≠ 0 := Rat.pos_ne (Rat.intCast_pos.mpr (by have := q.den_pos; omega))
  have h2 : (q.num : Rat) / ((q.den : Int) : Rat) * ((q.den : Int) : Rat) = (q.num : Rat) := Rat.div_mul_cancel hd
  rw [← h] at h2
  exact h2
theorem On.k {E : Nat} {q : Rat} (k : Rat) (h : On E q) : On (E * k.den) (k * q) := by
  obtain ⟨a, ha⟩ := h
  refine ⟨k.num * a, ?_⟩
  rw [Rat.intCast_mul, ← ha, ← num_den k, Int.natCast_mul, Rat.intCast_mul]
  grind
theorem On.up {E : Nat} {q : Rat} (n : Nat) (h : On E q) : On (E * n) q := by
  obtain ⟨a, ha⟩ := h
  refine ⟨a * n, ?_⟩
  rw [Rat.intCast_mul, ← ha, Int.natCast_mul, Rat.intCast_mul]
  grind
theorem On.self (q : Rat) (n : Nat) : On (q.den * n) q := On.up n ⟨q.num, num_den q⟩
theorem On.self' (q : Rat) (n : Nat) : On (n * q.den) q := by rw [Nat.mul_comm]; exact On.self q n
theorem On.dvd {E : Nat} {q : Rat} (h : On E q) : q.den ∣ E := by
  obtain ⟨z, hz⟩ := h
  have h1 : ((q.num * (E : Int) : Int) : Rat) = ((z * (q.den : Int) : Int) : Rat) := by
    rw [Rat.intCast_mul, Rat.intCast_mul, ← hz, ← num_den q]
    grind
  have h2 : q.num * (E : Int) = z * (q.den : Int) := Rat.intCast_inj.mp h1
  have h3 : (q.den : Nat) ∣ q.num.natAbs * E := by
    have := congrArg Int.natAbs h2
    rw [Int.natAbs_mul, Int.natAbs_mul, Int.natAbs_natCast, Int.natAbs_natCast] at this
    exact ⟨z.natAbs, by rw [this, Nat.mul_comm]⟩
  exact Nat.Coprime.dvd_of_dvd_mul_left q.reduced.symm h3
theorem On.sz {E e m : Nat} {q : Rat} (h : On E q) (h0 : 0 ≤ q) (hB : q ≤ (((2 ^ m : Nat) : Int) : Rat)) (hE0 : 0 < E) (hE : E < 2 ^ e) : Sz (e + m) q := by
  have hd := Nat.le_of_dvd hE0 h.dvd
  have hm := Nat.two_pow_pos m
  refine ⟨?_, ?_⟩
  · rw [Rat.le_iff, Rat.num_intCast, Rat.den_intCast] at hB
    have h1 : q.num * 1 ≤ ((2 ^ m : Nat) : Int) * (q.den : Int) := hB
    have h2 : 0 ≤ q.num := Rat.num_nonneg.mpr h0
    have h3 : q.num.natAbs ≤ 2 ^ m * q.den := by
      have : ((q.num.natAbs : Nat) : Int) ≤ ((2 ^ m * q.den : Nat) : Int) := by rw [Int.natCast_mul]; omega
      omega
    have h4 : 2 ^ m * q.den < 2 ^ m * 2 ^ e := Nat.mul_lt_mul_of_pos_left (by omega) hm
    rw [Nat.pow_add, Nat.mul_comm (2 ^ e)]
    exact Nat.lt_of_le_of_lt h3 h4
  · have h4 : 2 ^ e * 1 ≤ 2 ^ e * 2 ^ m := Nat.mul_le_mul_left _ hm
    rw [Nat.pow_add]
    omega
def nextR (sp st k r : Rat) : Rat := if sp < r then k * r else r + st
def walkAt (sp st k : Rat) : Nat → Rat → Rat
  | 0, r => r
  | n + 1, r => walkAt sp st k n (nextR sp st k r)
def cntAt (sp st k : Rat) : Nat → Rat → Nat
  | 0, _ => 0
  | n + 1, r => (if sp < r then 1 else 0) + cntAt sp st k n (nextR sp st k r)
theorem walkAt_succ (sp st k : Rat) : ∀ (n : Nat) (r : Rat), walkAt sp st k (n + 1) r = nextR sp st k (walkAt sp st k n r)
  | 0, _ => rfl
  | n + 1, r => walkAt_succ sp st k n (nextR sp st k r)
def walkL (sp st k : Rat) (n : Nat) (r : Rat) : List Rat := (List.range n).map fun i => walkAt sp st k i r
theorem walkL_succ (sp st k : Rat) (n : Nat) (r : Rat) : walkL sp st k (n + 1) r = walkL sp st k n r ++ [walkAt sp st k n r] := by
  unfold walkL
  rw [List.range_succ, List.map_append]
  rfl
theorem walkL_cons (sp st k : Rat) (n : Nat) (r : Rat) : walkL sp st k (n + 1) r = r :: walkL sp st k n (nextR sp st k r) := by
  unfold walkL
  rw [List.range_succ_eq_map, List.map_cons, List.map_map]
  rfl
theorem walkL_len (sp st k : Rat) (n : Nat) (r : Rat) : (walkL sp st k n r).length = n := by
  unfold walkL
  rw [List.length_map, List.length_range]
/-- many rounds without a loss -/
theorem walk_far {sp st k : Rat} (h0 : 0 < st) : ∀ (n : Nat) (r : Rat), (n : Int) ≤ r2l sp st r → walkAt sp st k n r = r + st * ((n : Int) : Rat) ∧ cntAt sp st k n r = 0
  | 0, r, _ => ⟨by show r = r + st * 0; grind, rfl⟩
  | n + 1, r, h => by
    have hc : ¬ sp < r := fun hc => by
      have := ((aft_in (r := r) h0).1 hc).2
      omega
    have e : nextR sp st k r = r + st := if_neg hc
    have h1 := (r2l_step h0 hc).1
    obtain ⟨a, b⟩ := walk_far (sp := sp) (k := k) h0 n (r + st) (by omega)
    refine ⟨?_, ?_⟩
    · show walkAt sp st k n (nextR sp st k r) = _
      rw [e, a, Int.natCast_succ, Rat.intCast_add]
      have : ((1 : Int) : Rat) = 1 := rfl
      grind
    · show (if sp < r then 1 else 0) + cntAt sp st k n (nextR sp st k r) = 0
      rw [if_neg hc, e, b]
/-- past the next loss -/
theorem walk_past {sp st k : Rat} (h0 : 0 < st) : ∀ (m : Nat) (r : Rat), r2l sp st r = m → ∀ j, walkAt sp st k (m + 1 + j) r = walkAt sp st k j (k * aft sp st r) ∧ cntAt sp st k (m + 1 + j) r = 1 + cntAt sp st k j (k * aft sp st r)
  | 0, r, h, j => by
    have hc : sp < r := by
      rcases Classical.em (sp < r) with z | z
      · exact z
      · have h1 := (r2l_step h0 z).1
        have : 0 ≤ r2l sp st (r + st) := by
          unfold r2l
          split
          · exact Int.le_refl _
          · rename_i h
            have := Rat.le_floor_iff.mpr (div_nn (sub_nn h) h0 : ((0 : Int) : Rat) ≤ (sp - (r + st)) / st)
            omega
        omega
    have e : nextR sp st k r = k * r := if_pos hc
    rw [((aft_in (r := r) h0).1 hc).1, show 0 + 1 + j = j + 1 from by omega]
    refine ⟨?_, ?_⟩
    · show walkAt sp st k j (nextR sp st k r) = _
      rw [e]
    · show (if sp < r then 1 else 0) + cntAt sp st k j (nextR sp st k r) = _
      rw [if_pos hc, e]
  | m + 1, r, h, j => by
    have hc : ¬ sp < r := fun hc => by
      have := ((aft_in (r := r) h0).1 hc).2
      omega
    have e : nextR sp st k r = r + st := if_neg hc
    obtain ⟨h1, h2⟩ := r2l_step h0 hc
    obtain ⟨a, b⟩ := walk_past (sp := sp) (k := k) h0 m (r + st) (by omega) j
    rw [show m + 1 + 1 + j = (m + 1 + j) + 1 from by omega, h2]
    refine ⟨?_, ?_⟩
    · show walkAt sp st k (m + 1 + j) (nextR sp st k r) = _
      rw [e, a]
    · show (if sp < r then 1 else 0) + cntAt sp st k (m + 1 + j) (nextR sp st k r) = _
      rw [if_neg hc, e, b, Nat.zero_add]
/-- the law's losses, read from a walk -/
def lossW (sp : Rat) : Int → List Rat → List (Int × Rat)
  | _, [] => []
  | p, x :: xs => if sp < x then (p, x - sp) :: lossW sp (p + 1) xs else lossW sp (p + 1) xs
theorem lossW_walk {sp st k : Rat} (h0 : 0 < st) : ∀ (n : Nat) (p : Int) (r : Rat), lossW sp p (walkL sp st k n r) = lossS sp st k (lossW sp p (walkL sp st k n r)).length p r
  | 0, _, _ => rfl
  | n + 1, p, r => by
    rw [walkL_cons]
    by_cases hc : sp < r
    · have e : nextR sp st k r = k * r := if_pos hc
      obtain ⟨e1, e2⟩ := (aft_in (r := r) h0).1 hc
      have ih := lossW_walk (sp := sp) (k := k) h0 n (p + 1) (k * r)
      rw [e]
      show (if sp < r then (p, r - sp) :: lossW sp (p + 1) (walkL sp st k n (k * r)) else _) = lossS sp st k (if sp < r then (p, r - sp) :: lossW sp (p + 1) (walkL sp st k n (k * r)) else _).length p r
      rw [if_pos hc]
      generalize lossW sp (p + 1) (walkL sp st k n (k * r)) = l at ih ⊢
      show _ = (p + r2l sp st r, aft sp st r - sp) :: lossS sp st k l.length (p + r2l sp st r + 1) (k * aft sp st r)
      rw [e1, e2, Int.add_zero, ← ih]
    · have e : nextR sp st k r = r + st := if_neg hc
      obtain ⟨e1, e2⟩ := r2l_step h0 hc
      have ih := lossW_walk (sp := sp) (k := k) h0 n (p + 1) (r + st)
      rw [e]
      show (if sp < r then (p, r - sp) :: lossW sp (p + 1) (walkL sp st k n (r + st)) else lossW sp (p + 1) (walkL sp st k n (r + st))) = lossS sp st k (if sp < r then (p, r - sp) :: lossW sp (p + 1) (walkL sp st k n (r + st)) else lossW sp (p + 1) (walkL sp st k n (r + st))).length p r
      rw [if_neg hc]
      generalize lossW sp (p + 1) (walkL sp st k n (r + st)) = l at ih ⊢
      rw [ih]
      generalize l.length = m
      cases m with
      | zero => rfl
      | succ m =>
        rw [lossS_len]
        show (p + 1 + r2l sp st (r + st), aft sp st (r + st) - sp) :: lossS sp st k m (p + 1 + r2l sp st (r + st) + 1) (k * aft sp st (r + st)) = (p + r2l sp st r, aft sp st r - sp) :: lossS sp st k m (p + r2l sp st r + 1) (k * aft sp st r)
        rw [e1, ← e2, show p + (r2l sp st (r + st) + 1) = p + 1 + r2l sp st (r + st) from by omega]
theorem lossS_take (sp st k : Rat) : ∀ (n m : Nat) (p : Int) (r : Rat), m ≤ n → (lossS sp st k n p r).take m = lossS sp st k m p r
  | _, 0, _, _, _ => by rw [List.take_zero]; rfl
  | 0, m + 1, _, _, h => absurd h (by omega)
  | n + 1, m + 1, p, r, h => by
    show ((p + r2l sp st r, aft sp st r - sp) :: lossS sp st k n (p + r2l sp st r + 1) (k * aft sp st r)).take (m + 1) = (p + r2l sp st r, aft sp st r - sp) :: lossS sp st k m (p + r2l sp st r + 1) (k * aft sp st r)
    rw [List.take_succ_cons, lossS_take sp st k n m _ _ (by omega)]
/-- the rate, and the place, behind so many losses -/
def rateB (sp st k r : Rat) : Nat → Rat
  | 0 => r
  | i + 1 => k * aft sp st (rateB sp st k r i)
def placeB (sp st k r : Rat) (p : Int) : Nat → Int
  | 0 => p
  | i + 1 => placeB sp st k r p i + r2l sp st (rateB sp st k r i) + 1
theorem rateB_shift (sp st k r : Rat) : ∀ i, rateB sp st k r (i + 1) = rateB sp st k (k * aft sp st r) i
  | 0 => rfl
  | i + 1 => by
    show k * aft sp st (rateB sp st k r (i + 1)) = k * aft sp st (rateB sp st k (k * aft sp st r) i)
    rw [rateB_shift sp st k r i]
theorem placeB_shift (sp st k r : Rat) (p : Int) : ∀ i, placeB sp st k r p (i + 1) = placeB sp st k (k * aft sp st r) (p + r2l sp st r + 1) i
  | 0 => rfl
  | i + 1 => by
    show placeB sp st k r p (i + 1) + r2l sp st (rateB sp st k r (i + 1)) + 1 = placeB sp st k (k * aft sp st r) (p + r2l sp st r + 1) i + r2l sp st (rateB sp st k (k * aft sp st r) i) + 1
    rw [placeB_shift sp st k r p i, rateB_shift]
theorem lossS_succ (sp st k : Rat) : ∀ (n : Nat) (p : Int) (r : Rat), lossS sp st k (n + 1) p r = lossS sp st k n p r ++ [(placeB sp st k r p n + r2l sp st (rateB sp st k r n), aft sp st (rateB sp st k r n) - sp)]
  | 0, _, _ => rfl
  | n + 1, p, r => by
    show (p + r2l sp st r, aft sp st r - sp) :: lossS sp st k (n + 1) (p + r2l sp st r + 1) (k * aft sp st r) = _
    rw [lossS_succ sp st k n, rateB_shift, placeB_shift]
    rfl
/-- gaps between losses -/
def gapL (l : List (Int × Rat)) : List Int := (l.zip (l.drop 1)).map fun p => p.2.1 - p.1.1 - 1
theorem zip_take {α β : Type} : ∀ (n : Nat) (l : List α) (m : List β), (l.zip m).take n = (l.take n).zip (m.take n)
  | 0, _, _ => by simp
  | n + 1, [], _ => by simp
  | n + 1, _ :: _, [] => by simp
  | n + 1, a :: l, b :: m => by
    simp only [List.zip_cons_cons, List.take_succ_cons]
    rw [zip_take n l m]
theorem zip_left {α β : Type} : ∀ (l : List α) (m : List β) (n : Nat), m.length ≤ n → (l.take n).zip m = l.zip m
  | [], _, n, _ => by rw [List.take_nil]
  | _ :: _, [], _, _ => by rw [List.zip_nil_right, List.zip_nil_right]
  | a :: l, b :: m, 0, h => absurd h (by simp)
  | a :: l, b :: m, n + 1, h => by
    rw [List.take_succ_cons, List.zip_cons_cons, List.zip_cons_cons, zip_left l m n (by simp at h; omega)]
theorem gapL_take (l : List (Int × Rat)) (n : Nat) : gapL (l.take (n + 1)) = (gapL l).take n := by
  unfold gapL
  rw [← List.map_take, zip_take, show (l.take (n + 1)).drop 1 = (l.drop 1).take n from by rw [List.drop_take]; rfl]
  congr 1
  have e : l.take n = (l.take (n + 1)).take n := by rw [List.take_take, Nat.min_eq_left (Nat.le_succ n)]
  rw [e, zip_left _ _ n (by rw [List.length_take]; omega)]
theorem gapL_len (l : List (Int × Rat)) : (gapL l).length = l.length - 1 := by
  unfold gapL
  rw [List.length_map, List.length_zip, List.length_drop]
  omega
/-- what a walk asks -/
structure Walks (sp st k r : Rat) (E n : Nat) : Prop where
  spos : 0 < st
  pos : 0 < sp
  kpos : 0 < k
  klt : k < 1
  nn : 0 ≤ r
  top : r ≤ (((2 ^ 60 : Nat) : Int) : Rat)
  top2 : sp + st ≤ (((2 ^ 60 : Nat) : Int) : Rat)
  onr : On E r
  ons : On E st
  e0 : 0 < E
  small : E * k.den ^ n < 2 ^ 1500
  spz : Sz 300 sp
  stz : Sz 300 st
  kz : Sz 300 k
theorem Walks.esmall {sp st k r : Rat} {E n : Nat} (h : Walks sp st k r E n) : E < 2 ^ 1500 :=
  Nat.lt_of_le_of_lt (Nat.le_trans (Nat.le_of_eq (Nat.mul_one E).symm) (Nat.mul_le_mul_left E (Nat.pow_pos k.den_pos))) h.small
theorem Walks.rz {sp st k r : Rat} {E n : Nat} (h : Walks sp st k r E n) : Sz 1560 r := h.onr.sz h.nn h.top h.e0 h.esmall
theorem Walks.mono {sp st k r : Rat} {E n m : Nat} (h : Walks sp st k r E n) (hm : m ≤ n) : Walks sp st k r E m :=
  { h with small := Nat.lt_of_le_of_lt (Nat.mul_le_mul_left E (Nat.pow_le_pow_right k.den_pos hm)) h.small }
theorem Walks.kr {sp st k r : Rat} {E n : Nat} (h : Walks sp st k r E (n + 1)) : Walks sp st k (k * r) (E * k.den) n :=
  { h with
    nn := Rat.mul_nonneg (Rat.le_of_lt h.kpos) h.nn
    top := by
      have := Rat.mul_le_mul_of_nonneg_right (Rat.le_of_lt h.klt) h.nn
      rw [Rat.one_mul] at this
      exact Rat.le_trans this h.top
    onr := h.onr.k k
    ons := h.ons.up _
    e0 := Nat.mul_pos h.e0 k.den_pos
    small := by have := h.small; rw [Nat.pow_succ, Nat.mul_comm (k.den ^ n), ← Nat.mul_assoc] at this; exact this }
theorem Walks.step {sp st k r : Rat} {E n : Nat} (h : Walks sp st k r E n) (hc : ¬ sp < r) : Walks sp st k (r + st) E n :=
  { h with
    nn := by have := h.nn; have := h.spos; grind
    top := Rat.le_trans (by grind) h.top2
    onr := h.onr.add h.ons }
theorem Walks.aft {sp st k r : Rat} {E n : Nat} (h : Walks sp st k r E n) : Walks sp st k (aft sp st r) E n := by
  obtain ⟨a, b⟩ := aft_in (sp := sp) (r := r) h.spos
  by_cases hc : sp < r
  · rw [(a hc).1]; exact h
  · obtain ⟨b1, b2⟩ := b hc
    exact { h with
      nn := by have := h.pos; grind
      top := Rat.le_trans b2 h.top2
      onr := h.onr.add (h.ons.int _) }
theorem Walks.next {sp st k r : Rat} {E n : Nat} (h : Walks sp st k r E (n + 1)) : ∃ E', Walks sp st k (nextR sp st k r) E' n := by
  by_cases hc : sp < r
  · rw [show nextR sp st k r = k * r from if_pos hc]; exact ⟨_, h.kr⟩
  · rw [show nextR sp st k r = r + st from if_neg hc]; exact ⟨_, (h.step hc).mono (Nat.le_succ n)⟩
theorem Walks.at {sp st k : Rat} : ∀ {i n E : Nat} {r : Rat}, Walks sp st k r E n → i ≤ n → ∃ E', Walks sp st k (walkAt sp st k i r) E' (n - i)
  | 0, _, _, _, h, _ => ⟨_, h⟩
  | i + 1, 0, _, _, _, z => absurd z (by omega)
  | i + 1, n + 1, _, _, h, z => by
    obtain ⟨E', h'⟩ := h.next
    rw [Nat.add_sub_add_right]
    exact Walks.at h' (by omega)
theorem Walks.behind {sp st k : Rat} : ∀ {i n E : Nat} {r : Rat}, Walks sp st k r E n → i ≤ n → ∃ E', Walks sp st k (rateB sp st k r i) E' (n - i)
  | 0, _, _, _, h, _ => ⟨_, h⟩
  | i + 1, 0, _, _, _, z => absurd z (by omega)
  | i + 1, n + 1, _, _, h, z => by
    rw [rateB_shift, Nat.add_sub_add_right]
    exact Walks.behind h.aft.kr (by omega)
theorem r2l_nn {sp st r : Rat} (h0 : 0 < st) : 0 ≤ r2l sp st r := by
  unfold r2l
  split
  · exact Int.le_refl _
  · rename_i h
    have := Rat.le_floor_iff.mpr (div_nn (sub_nn h) h0 : ((0 : Int) : Rat) ≤ (sp - r) / st)
    omega
theorem dcut_tail {α : Type} (f : α → D) (xs : List α) : dcut (xs.map f) (some 1) none = (xs.drop 1).map f := by
  unfold dcut
  have e : HT.sIx (xs.map f).length 0 (some 1) = min 1 (xs.map f).length := HT.sIx_nat _ _ 1
  rw [e, HT.sIx_none, List.take_of_length_le (by rw [List.length_drop]; omega), List.map_drop]
  cases xs with
  | nil => rfl
  | cons a l =>
    show List.drop (min 1 (l.length + 1 - 0)) _ = _
    first | rw [List.length_map] | skip
    congr 1
theorem dcut_take {α : Type} (f : α → D) (xs : List α) (n : Nat) (h : n ≤ xs.length) : dcut (xs.map f) none (some (n : Int)) = (xs.take n).map f := by
  unfold dcut
  rw [HT.sIx_nat, HT.sIx_none, List.length_map, Nat.min_eq_left h]
  show List.take (n - 0) (List.drop 0 _) = _
  rw [List.drop_zero, List.map_take, Nat.sub_zero]
abbrev dL (p : Int × Rat) : D := .tup [.int p.1, dq p.2]

/-! ### the walks' defs -/
section
variable {P : Program} {w : World} {K : PySem.W.Frag} {mg : Str → Option Value} {base : Heap}
abbrev P_next : Pr := detP (fun (a : (Rat × Rat × Rat) × Rat) => [dSaw a.1.1 a.1.2.1 a.1.2.2, dq a.2]) (fun a => ((Sz 300 a.1.1 ∧ Sz 300 a.1.2.1) ∧ Sz 300 a.1.2.2) ∧ Sz 2200 a.2) fun a => dq (nextR a.1.1 a.1.2.1 a.1.2.2 a.2)
theorem c_next {sp st k r : Rat} {Q : D → Prop} (q : Q (dq (nextR sp st k r))) (h : ((Sz 300 sp ∧ Sz 300 st) ∧ Sz 300 k) ∧ Sz 2200 r) : Cl P_next [dSaw sp st k, dq r] Q := cl_detP ((sp, st, k), r) q h
theorem next_if {sp st k r : Rat} : (if decide (sp < r) = true then dq (k * r) else dq (r + st)) = dq (nextR sp st k r) := by
  unfold nextR
  by_cases h : sp < r
  · rw [if_pos h, decide_eq_true h, if_pos rfl]
  · rw [if_neg h, decide_eq_false h, if_neg (by decide)]
abbrev P_rates : Pr := detP (fun (a : (Rat × Rat × Rat) × Rat × Nat × Nat) => [dSaw a.1.1 a.1.2.1 a.1.2.2, dq a.2.1, .int a.2.2.1]) (fun a => Walks a.1.1 a.1.2.1 a.1.2.2 a.2.1 a.2.2.2 a.2.2.1 ∧ a.2.2.1 ≤ 1000) fun a => .lst ((walkL a.1.1 a.1.2.1 a.1.2.2 a.2.2.1 a.2.1).map dq)
local macro_rules | `(tactic| walk_at "cl") => `(tactic| first | refine c_r2l ?_ (by assumption) | refine c_after ?_ (by assumption) | refine c_next ?_ (by assumption) | fail)
theorem Walks.p1 {sp st k r : Rat} {E n : Nat} (h : Walks sp st k r E n) : (Sz 300 sp ∧ Sz 300 st) ∧ Sz 2200 r ∧ 0 < st := ⟨⟨h.spz, h.stz⟩, h.rz.mono (by decide), h.spos⟩
theorem Walks.p2 {sp st k r : Rat} {E n : Nat} (h : Walks sp st k r E n) : Sz 300 st ∧ Sz 3800 r ∧ (r2l sp st r).natAbs < 2 ^ 3500 := ⟨h.stz, h.rz.mono (by decide), Nat.lt_of_lt_of_le (r2l_sz h.spz h.stz h.rz h.spos).2 (Nat.pow_le_pow_right (by decide) (by decide))⟩
theorem Walks.az {sp st k r : Rat} {E n : Nat} (h : Walks sp st k r E n) : Sz 1560 (r + st * (r2l sp st r : Rat)) := h.aft.rz
abbrev P_losses : Pr := detP (fun (a : (Rat × Rat × Rat) × Rat × Nat × Nat) => [dSaw a.1.1 a.1.2.1 a.1.2.2, dq a.2.1, .int a.2.2.1]) (fun a => Walks a.1.1 a.1.2.1 a.1.2.2 a.2.1 a.2.2.2 a.2.2.1 ∧ a.2.2.1 ≤ 1000) fun a => .lst ((lossS a.1.1 a.1.2.1 a.1.2.2 a.2.2.1 0 a.2.1).map dL)
abbrev P_counts : Pr := detP (fun (a : (Rat × Rat × Rat) × Rat × Nat × Nat) => [dSaw a.1.1 a.1.2.1 a.1.2.2, dq a.2.1, .int a.2.2.1]) (fun a => Walks a.1.1 a.1.2.1 a.1.2.2 a.2.1 a.2.2.2 (a.2.2.1 + 1) ∧ a.2.2.1 ≤ 999) fun a => .lst ((gapL (lossS a.1.1 a.1.2.1 a.1.2.2 (a.2.2.1 + 1) 0 a.2.1)).map .int)
theorem place_nn {sp st k r : Rat} (h0 : 0 < st) : ∀ i, 0 ≤ placeB sp st k r 0 i
  | 0 => Int.le_refl _
  | i + 1 => by
    have := place_nn (sp := sp) (k := k) (r := r) h0 i
    have := r2l_nn (sp := sp) (r := rateB sp st k r i) h0
    show 0 ≤ placeB sp st k r 0 i + r2l sp st (rateB sp st k r i) + 1
    omega
abbrev P_reached : Pr := detP (fun (a : (Rat × Rat × Rat) × Rat × Nat × Nat × Nat) => [dSaw a.1.1 a.1.2.1 a.1.2.2, dq a.2.1, .int a.2.2.1]) (fun a => Walks a.1.1 a.1.2.1 a.1.2.2 a.2.1 a.2.2.2.1 a.2.2.2.2 ∧ cntAt a.1.1 a.1.2.1 a.1.2.2 a.2.2.1 a.2.1 ≤ a.2.2.2.2) fun a => .tup [dq (walkAt a.1.1 a.1.2.1 a.1.2.2 a.2.2.1 a.2.1), .int (cntAt a.1.1 a.1.2.1 a.1.2.2 a.2.2.1 a.2.1)]
abbrev P_ratein : Pr := detP (fun (a : (Rat × Rat × Rat) × Rat × Nat × Nat × Nat) => [dSaw a.1.1 a.1.2.1 a.1.2.2, dq a.2.1, .int a.2.2.1]) (fun a => Walks a.1.1 a.1.2.1 a.1.2.2 a.2.1 a.2.2.2.1 a.2.2.2.2 ∧ cntAt a.1.1 a.1.2.1 a.1.2.2 a.2.2.1 a.2.1 ≤ a.2.2.2.2) fun a => dq (walkAt a.1.1 a.1.2.1 a.1.2.2 a.2.2.1 a.2.1)
theorem ok_reached {f : Addr} {fd : FuncData} (F : Fun K "reached" "reached" s_reached f fd) (hm : mg "reached" = some (.ref f)) (hb : Binds K fd (N_reached.take 3) [])
    (G1 : FnP P w K mg base "rounds_to_loss" 4 P_r2l) (G2 : FnP P w K mg base "after" 4 P_after) (G4 : FnP P w K mg base "times" 3 (det (R_qq (· * ·)))) : FnP P w K mg base "reached" 5 P_reached :=
  fnP_det F sc_reached hm hb (fun _ _ => rfl) fun cdv A outer s H E hr nd ⟨⟨sp, st, k⟩, r, place, E0, n⟩ ⟨h, hn⟩ => by
    simp only at h hn
    have hk := h.kz
    show Go _ H (_ :: _) _ [.dat (dSaw sp st k), .dat (dq r), .dat (.int place), .any, .any, .any]
    have b0 := h.p1
    walk_at "go"
    refine s_while (fun m Γ => ∃ i, placeB sp st k r 0 i ≤ place ∧ walkAt sp st k place r = walkAt sp st k ((place : Int) - placeB sp st k r 0 i).toNat (rateB sp st k r i) ∧ cntAt sp st k place r = i + cntAt sp st k ((place : Int) - placeB sp st k r 0 i).toNat (rateB sp st k r i) ∧ m = ((place : Int) - placeB sp st k r 0 i).toNat ∧ Γ = [.dat (dSaw sp st k), .dat (dq (rateB sp st k r i)), .dat (.int place), .dat (.int (placeB sp st k r 0 i)), .dat (.int i), .dat (.int (r2l sp st (rateB sp st k r i)))]) ⟨_, 0, by show (0 : Int) ≤ (place : Int); omega, by show _ = walkAt sp st k ((place : Int) - 0).toNat r; rw [Int.sub_zero, Int.toNat_natCast], by show _ = 0 + cntAt sp st k ((place : Int) - 0).toNat r; rw [Int.sub_zero, Int.toNat_natCast, Nat.zero_add], rfl, rfl⟩ ?_
    rintro m Γ ⟨i, hp, hw, hc, rfl, rfl⟩
    have hi : i ≤ n := by omega
    obtain ⟨E', h'⟩ := h.behind hi
    have b1 := h'.p1
    have b2 := h'.p2
    have b3 := h'.az
    have hnn := r2l_nn (sp := sp) (r := rateB sp st k r i) h.spos
    refine ⟨_, by walk_at "go", fun hk => ?_, fun hk => ?_⟩
    · have hlt := of_decide_eq_true hk
      obtain ⟨m, hm⟩ : ∃ m : Nat, r2l sp st (rateB sp st k r i) = m := ⟨_, (Int.toNat_of_nonneg hnn).symm⟩
      have e : ((place : Int) - placeB sp st k r 0 i).toNat = m + 1 + ((place : Int) - placeB sp st k r 0 (i + 1)).toNat := by
        show _ = m + 1 + ((place : Int) - (placeB sp st k r 0 i + r2l sp st (rateB sp st k r i) + 1)).toNat
        omega
      obtain ⟨w1, w2⟩ := walk_past (sp := sp) (k := k) h.spos m (rateB sp st k r i) hm ((place : Int) - placeB sp st k r 0 (i + 1)).toNat
      rw [e] at hw hc
      rw [w1] at hw
      rw [w2] at hc
      have hi2 : i + 1 ≤ n := by omega
      obtain ⟨E2, h2⟩ := h.behind hi2
      have b4 : (Sz 300 sp ∧ Sz 300 st) ∧ Sz 2200 (k * (rateB sp st k r i + st * (r2l sp st (rateB sp st k r i) : Rat))) ∧ 0 < st := h2.p1
      walk_at "go"
      refine s_turn (I := fun m Γ => ∃ i, placeB sp st k r 0 i ≤ place ∧ walkAt sp st k place r = walkAt sp st k ((place : Int) - placeB sp st k r 0 i).toNat (rateB sp st k r i) ∧ cntAt sp st k place r = i + cntAt sp st k ((place : Int) - placeB sp st k r 0 i).toNat (rateB sp st k r i) ∧ m = ((place : Int) - placeB sp st k r 0 i).toNat ∧ Γ = [.dat (dSaw sp st k), .dat (dq (rateB sp st k r i)), .dat (.int place), .dat (.int (placeB sp st k r 0 i)), .dat (.int i), .dat (.int (r2l sp st (rateB sp st k r i)))]) (m := ((place : Int) - placeB sp st k r 0 i).toNat) (m' := ((place : Int) - placeB sp st k r 0 (i + 1)).toNat) ⟨i + 1, ?_, hw, hc.trans (Nat.add_assoc i 1 _).symm, rfl, ?_⟩ ?_
      · show placeB sp st k r 0 i + r2l sp st (rateB sp st k r i) + 1 ≤ place
        omega
      · show _ = [Ent.dat (dSaw sp st k), .dat (dq (rateB sp st k r (i + 1))), .dat (.int place), .dat (.int (placeB sp st k r 0 i + r2l sp st (rateB sp st k r i) + 1)), .dat (.int ((i : Int) + 1)), .dat (.int (r2l sp st (rateB sp st k r (i + 1))))]
        rw [Int.add_assoc]
        rfl
      · rw [e]; omega
    · have hge := of_decide_eq_false hk
      obtain ⟨w1, w2⟩ := walk_far (sp := sp) (k := k) h.spos ((place : Int) - placeB sp st k r 0 i).toNat (rateB sp st k r i) (by omega)
      have e : ((((place : Int) - placeB sp st k r 0 i).toNat : Nat) : Int) = (place : Int) - placeB sp st k r 0 i := by omega
      rw [e] at w1
      have b5 : Sz 300 st ∧ Sz 3800 (rateB sp st k r i) ∧ ((place : Int) - placeB sp st k r 0 i).natAbs < 2 ^ 3500 := ⟨b2.1, b2.2.1, by have := b2.2.2; omega⟩
      walk_at "go"
      show D.tup [_, _] = D.tup [_, _]
      rw [hw, w1, hc, w2]
      rfl
end

/-! ### walks to far places -/
theorem placeB_add (sp st k r : Rat) (p : Int) : ∀ i, placeB sp st k r p i = p + placeB sp st k r 0 i
  | 0 => (Int.add_zero p).symm
  | i + 1 => by
    show placeB sp st k r p i + r2l sp st (rateB sp st k r i) + 1 = p + (placeB sp st k r 0 i + r2l sp st (rateB sp st k r i) + 1)
    rw [placeB_add sp st k r p i]; omega
theorem walk_to {sp st k : Rat} (h0 : 0 < st) : ∀ (i : Nat) (r : Rat) (j n : Nat), (j : Int) ≤ r2l sp st (rateB sp st k r i) → (n : Int) = placeB sp st k r 0 i + j → walkAt sp st k n r = rateB sp st k r i + st * ((j : Int) : Rat) ∧ cntAt sp st k n r = i
  | 0, r, j, n, hj, hn => by
    have e : n = j := by
      have : placeB sp st k r 0 0 = 0 := rfl
      omega
    subst e
    exact walk_far h0 n r hj
  | i + 1, r, j, n, hj, hn => by
    obtain ⟨m, hm⟩ : ∃ m : Nat, r2l sp st r = m := ⟨_, (Int.toNat_of_nonneg (r2l_nn h0)).symm⟩
    rw [placeB_shift, placeB_add, hm] at hn
    rw [rateB_shift] at hj
    have hp := place_nn (sp := sp) (k := k) (r := k * aft sp st r) h0 i
    obtain ⟨P, hP⟩ : ∃ P : Nat, placeB sp st k (k * aft sp st r) 0 i = P := ⟨_, (Int.toNat_of_nonneg hp).symm⟩
    obtain ⟨w1, w2⟩ := walk_past (sp := sp) (k := k) h0 m r hm (P + j)
    obtain ⟨v1, v2⟩ := walk_to h0 i (k * aft sp st r) j (P + j) hj (by rw [hP]; omega)
    have e : n = m + 1 + (P + j) := by omega
    rw [e, w1, w2, rateB_shift]
    exact ⟨v1, by rw [v2]; omega⟩
theorem r2l_below {sp st r : Rat} (h0 : 0 < st) {j : Int} (hj : 0 ≤ j) (h : j < r2l sp st r) : ¬ sp < r + st * (j : Rat) := by
  unfold r2l at h
  by_cases hc : sp < r
  · rw [if_pos hc] at h; omega
  · rw [if_neg hc] at h
    have h1 : (j : Rat) ≤ (sp - r) / st := Rat.le_floor_iff.mp (by omega)
    have h2 := Rat.mul_le_mul_of_nonneg_left h1 (Rat.le_of_lt h0)
    have e : st * ((sp - r) / st) = sp - r := by rw [Rat.mul_comm, Rat.div_mul_cancel (Rat.pos_ne h0)]
    rw [e] at h2
    grind
theorem cnt_mono {sp st k : Rat} : ∀ (n : Nat) (r : Rat), cntAt sp st k n r ≤ cntAt sp st k (n + 1) r
  | 0, _ => Nat.zero_le _
  | n + 1, r => by
    have := cnt_mono (sp := sp) (st := st) (k := k) n (nextR sp st k r)
    show (if sp < r then 1 else 0) + cntAt sp st k n (nextR sp st k r) ≤ (if sp < r then 1 else 0) + cntAt sp st k (n + 1) (nextR sp st k r)
    omega
theorem cnt_step {sp st k : Rat} : ∀ (n : Nat) (r : Rat), cntAt sp st k (n + 1) r ≤ cntAt sp st k n r + 1
  | 0, r => by
    show (if sp < r then 1 else 0) + 0 ≤ 0 + 1
    split <;> omega
  | n + 1, r => by
    have := cnt_step (sp := sp) (st := st) (k := k) n (nextR sp st k r)
    show (if sp < r then 1 else 0) + cntAt sp st k (n + 1) (nextR sp st k r) ≤ (if sp < r then 1 else 0) + cntAt sp st k n (nextR sp st k r) + 1
    omega
theorem aft_over {sp st r : Rat} (h0 : 0 < st) : sp < aft sp st r := by
  obtain ⟨a, b⟩ := aft_in (sp := sp) (r := r) h0
  by_cases hc : sp < r
  · rw [(a hc).1]; exact hc
  · exact (b hc).1
theorem lossS_mem {sp st k : Rat} : ∀ (n : Nat) (p : Int) (r : Rat) {x : Int × Rat}, x ∈ lossS sp st k n p r → ∃ i, i < n ∧ x = (placeB sp st k r p i + r2l sp st (rateB sp st k r i), aft sp st (rateB sp st k r i) - sp)
  | 0, _, _, _, h => by cases h
  | n + 1, p, r, x, h => by
    have h' : x ∈ (p + r2l sp st r, aft sp st r - sp) :: lossS sp st k n (p + r2l sp st r + 1) (k * aft sp st r) := h
    rcases List.mem_cons.mp h' with z | z
    · exact ⟨0, by omega, z⟩
    · obtain ⟨i, hi, e⟩ := lossS_mem n _ _ z
      refine ⟨i + 1, by omega, ?_⟩
      rw [e, ← rateB_shift, ← placeB_shift]
theorem zip_pair {sp st k : Rat} : ∀ (n : Nat) (p : Int) (r : Rat) {x y : Int × Rat}, (x, y) ∈ (lossS sp st k n p r).zip ((lossS sp st k n p r).drop 1) → ∃ i, i + 1 < n ∧ x = (placeB sp st k r p i + r2l sp st (rateB sp st k r i), aft sp st (rateB sp st k r i) - sp) ∧ y = (placeB sp st k r p (i + 1) + r2l sp st (rateB sp st k r (i + 1)), aft sp st (rateB sp st k r (i + 1)) - sp)
  | 0, _, _, _, _, h => by cases h
  | 1, _, _, _, _, h => by cases h
  | n + 2, p, r, x, y, h => by
    have h' : (x, y) ∈ ((p + r2l sp st r, aft sp st r - sp), (p + r2l sp st r + 1 + r2l sp st (k * aft sp st r), aft sp st (k * aft sp st r) - sp)) :: (lossS sp st k (n + 1) (p + r2l sp st r + 1) (k * aft sp st r)).zip ((lossS sp st k (n + 1) (p + r2l sp st r + 1) (k * aft sp st r)).drop 1) := h
    rcases List.mem_cons.mp h' with z | z
    · injection z with z1 z2
      exact ⟨0, by omega, z1, z2⟩
    · obtain ⟨i, hi, e1, e2⟩ := zip_pair (n + 1) _ _ z
      refine ⟨i + 1, by omega, ?_, ?_⟩
      · rw [e1, ← rateB_shift, ← placeB_shift]
      · rw [e2, ← rateB_shift, ← placeB_shift]
/-- what is known at a loss -/
structure LossAt (sp st k r : Rat) (n pn : Nat) (a : Rat) : Prop where
  over : sp < a
  at' : walkAt sp st k pn r = a
  cnt : cntAt sp st k pn r < n
  az : Sz 1560 a
  nx : walkAt sp st k (pn + 1) r = k * a
  cnx : cntAt sp st k (pn + 1) r ≤ n
theorem loss_at {sp st k r : Rat} {E n i : Nat} (h : Walks sp st k r E n) (hi : i < n) : ∃ pn : Nat, placeB sp st k r 0 i + r2l sp st (rateB sp st k r i) = pn ∧ LossAt sp st k r n pn (aft sp st (rateB sp st k r i)) := by
  have h0 := h.spos
  have hp := place_nn (sp := sp) (k := k) (r := r) h0 i
  have hq := r2l_nn (sp := sp) (r := rateB sp st k r i) h0
  obtain ⟨pn, hpn⟩ : ∃ pn : Nat, placeB sp st k r 0 i + r2l sp st (rateB sp st k r i) = pn := ⟨_, (Int.toNat_of_nonneg (by omega)).symm⟩
  obtain ⟨j, hj⟩ : ∃ j : Nat, r2l sp st (rateB sp st k r i) = j := ⟨_, (Int.toNat_of_nonneg hq).symm⟩
  obtain ⟨v1, v2⟩ := walk_to (sp := sp) (k := k) h0 i r j pn (by omega) (by omega)
  obtain ⟨E', h'⟩ := h.behind (Nat.le_of_lt hi)
  have e1 : walkAt sp st k pn r = aft sp st (rateB sp st k r i) := by rw [v1]; unfold aft; rw [hj]
  have ho := aft_over (sp := sp) (r := rateB sp st k r i) h0
  refine ⟨pn, hpn, ho, e1, by omega, h'.az, ?_, ?_⟩
  · rw [walkAt_succ, e1]
    exact if_pos ho
  · have := cnt_step (sp := sp) (st := st) (k := k) pn r
    omega
theorem sz_le {q : Rat} {n : Nat} (h : Sz n q) : q ≤ (((2 ^ n : Nat) : Int) : Rat) := by
  rw [Rat.le_iff, Rat.num_intCast, Rat.den_intCast]
  show q.num * 1 ≤ ((2 ^ n : Nat) : Int) * (q.den : Int)
  have h1 := h.1
  have h2 := q.den_pos
  have h3 : 2 ^ n * 1 ≤ 2 ^ n * q.den := Nat.mul_le_mul_left _ h2
  have h4 : ((2 ^ n * q.den : Nat) : Int) = ((2 ^ n : Nat) : Int) * (q.den : Int) := Int.natCast_mul ..
  generalize 2 ^ n * q.den = Z at h3 h4
  generalize 2 ^ n = Y at *
  omega
/-- what holds where a test is true -/
structure IfB (k : Bool) (p : Prop) : Prop where
  f : k = true → p
theorem sz_before {sp st k b a : Rat} (h : nextR sp st k b = a) (ha : Sz 1560 a) (hs : Sz 300 st) (hk : Sz 300 k) (h0 : 0 < k) : Sz 2200 b := by
  unfold nextR at h
  by_cases hc : sp < b
  · rw [if_pos hc] at h
    have e : b = a / k := by rw [← h, Rat.div_def, Rat.mul_comm k b, Rat.mul_assoc, Rat.mul_inv_cancel k (Rat.pos_ne h0), Rat.mul_one]
    rw [e]
    exact (Sz.div ha hk (Rat.pos_ne h0)).mono (by decide)
  · rw [if_neg hc] at h
    have e : b = a - st := by rw [← h]; grind
    rw [e]
    exact (Sz.sub ha hs).mono (by decide)
theorem loss_pre {sp st k r : Rat} {E pn n : Nat} {a : Rat} (h : Walks sp st k r E n) (ha : LossAt sp st k r n pn a) : ∃ b, IfB (decide ((0 : Int) < (pn : Int))) (((Walks sp st k r E n ∧ cntAt sp st k (pn - 1) r ≤ n) ∧ (pn : Int) - 1 = ((pn - 1 : Nat) : Int)) ∧ walkAt sp st k (pn - 1) r = b) ∧ IfB (decide ((0 : Int) < (pn : Int))) ((((Sz 300 sp ∧ Sz 300 st) ∧ Sz 300 k) ∧ Sz 2200 b) ∧ nextR sp st k b = a) := by
  refine ⟨_, ⟨fun hk => ⟨⟨⟨h, ?_⟩, ?_⟩, rfl⟩⟩, ⟨fun hk => ?_⟩⟩
  · have := of_decide_eq_true hk
    have h1 := cnt_mono (sp := sp) (st := st) (k := k) (pn - 1) r
    rw [show pn - 1 + 1 = pn from by omega] at h1
    have := ha.cnt
    omega
  · have := of_decide_eq_true hk
    omega
  · have := of_decide_eq_true hk
    have e : nextR sp st k (walkAt sp st k (pn - 1) r) = a := by
      rw [← walkAt_succ, show pn - 1 + 1 = pn from by omega]
      exact ha.at'
    exact ⟨⟨⟨⟨h.spz, h.stz⟩, h.kz⟩, sz_before e ha.az h.stz h.kz h.kpos⟩, e⟩

/-! ### sums of fractions -/
def sumQ (xs : List Rat) : Rat := xs.foldl (· + ·) 0
theorem foldl_add (xs : List Rat) : ∀ a : Rat, xs.foldl (· + ·) a = a + sumQ xs := by
  induction xs with
  | nil => intro a; show a = a + 0; grind
  | cons x xs ih =>
    intro a
    show xs.foldl (· + ·) (a + x) = a + xs.foldl (· + ·) (0 + x)
    rw [ih (a + x), ih (0 + x)]
    grind
theorem sumQ_nil : sumQ [] = 0 := rfl
theorem sumQ_cons (x : Rat) (xs : List Rat) : sumQ (x :: xs) = x + sumQ xs := by
  show xs.foldl (· + ·) (0 + x) = _
  rw [foldl_add]
  grind
theorem sumQ_append (xs ys : List Rat) : sumQ (xs ++ ys) = sumQ xs + sumQ ys := by
  induction xs with
  | nil => show sumQ ys = 0 + sumQ ys; grind
  | cons x xs ih => rw [List.cons_append, sumQ_cons, sumQ_cons, ih]; grind
/-- what a sum asks -/
structure SumOk (xs : List Rat) : Prop where
  few : xs.length ≤ 1000
  each : ∀ x ∈ xs, Sz 1700 x
  part : ∀ i, Sz 1700 (sumQ (xs.take i))
theorem SumOk.tot {xs : List Rat} (h : SumOk xs) : Sz 1700 (sumQ xs) := by
  have := h.part xs.length
  rwa [List.take_length] at this
theorem sumQ_sz {a : Nat} : ∀ (xs : List Rat), (∀ x ∈ xs, Sz a x) → Sz ((a + 1) * xs.length + 1) (sumQ xs)
  | [], _ => ⟨Nat.two_pow_pos _, Nat.one_lt_two_pow (Nat.succ_ne_zero _)⟩
  | x :: xs, h => by
    rw [sumQ_cons]
    refine Sz.mono (Sz.add (h x List.mem_cons_self) (sumQ_sz xs fun y hy => h y (List.mem_cons_of_mem _ hy))) ?_
    rw [List.length_cons, Nat.mul_succ]
    omega
theorem SumOk.naive {xs : List Rat} {a : Nat} (h : ∀ x ∈ xs, Sz a x) (hl : (a + 1) * xs.length + 1 ≤ 1700) (hf : xs.length ≤ 1000) (ha : a ≤ 1700) : SumOk xs where
  few := hf
  each := fun x hx => (h x hx).mono ha
  part := fun i => (sumQ_sz (xs.take i) fun x hx => h x (List.mem_of_mem_take hx)).mono (by
    have : (xs.take i).length ≤ xs.length := by rw [List.length_take]; omega
    have := Nat.mul_le_mul_left (a + 1) this
    omega)
theorem sumQ_on {E : Nat} : ∀ (xs : List Rat), (∀ x ∈ xs, On E x) → On E (sumQ xs)
  | [], _ => ⟨0, by show (0 : Rat) * _ = _; rw [Rat.zero_mul]; rfl⟩
  | x :: xs, h => by
    rw [sumQ_cons]
    exact On.add (h x List.mem_cons_self) (sumQ_on xs fun y hy => h y (List.mem_cons_of_mem _ hy))
theorem sumQ_nn : ∀ (xs : List Rat), (∀ x ∈ xs, 0 ≤ x) → 0 ≤ sumQ xs
  | [], _ => Rat.le_refl
  | x :: xs, h => by
    rw [sumQ_cons]
    have h1 := h x List.mem_cons_self
    have h2 := sumQ_nn xs fun y hy => h y (List.mem_cons_of_mem _ hy)
    grind
theorem sumQ_take_le {xs : List Rat} (h : ∀ x ∈ xs, 0 ≤ x) (i : Nat) : sumQ (xs.take i) ≤ sumQ xs := by
  have e : sumQ xs = sumQ (xs.take i) + sumQ (xs.drop i) := by rw [← sumQ_append, List.take_append_drop]
  have := sumQ_nn (xs.drop i) fun x hx => h x (List.mem_of_mem_drop hx)
  grind
theorem sumQ_mem_le : ∀ {xs : List Rat}, (∀ x ∈ xs, 0 ≤ x) → ∀ {x : Rat}, x ∈ xs → x ≤ sumQ xs
  | [], _, _, hx => by cases hx
  | y :: xs, h, x, hx => by
    rw [sumQ_cons]
    have h2 := sumQ_nn xs fun y hy => h y (List.mem_cons_of_mem _ hy)
    have h1 := h y List.mem_cons_self
    rcases List.mem_cons.mp hx with e | e
    · rw [e]; grind
    · have := sumQ_mem_le (fun y hy => h y (List.mem_cons_of_mem _ hy)) e
      grind
/-- on one bottom, below a bound -/
theorem SumOk.on {xs : List Rat} {E e m : Nat} (hE : ∀ x ∈ xs, On E x) (h0 : ∀ x ∈ xs, 0 ≤ x) (ht : sumQ xs ≤ (((2 ^ m : Nat) : Int) : Rat)) (hE0 : 0 < E) (he : E < 2 ^ e) (hm : e + m ≤ 1700) (hf : xs.length ≤ 1000) : SumOk xs where
  few := hf
  each := fun x hx => ((hE x hx).sz (h0 x hx) (Rat.le_trans (sumQ_mem_le h0 hx) ht) hE0 he).mono hm
  part := fun i => ((sumQ_on _ fun x hx => hE x (List.mem_of_mem_take hx)).sz (sumQ_nn _ fun x hx => h0 x (List.mem_of_mem_take hx)) (Rat.le_trans (sumQ_take_le h0 i) ht) hE0 he).mono hm
theorem sumQ_mul (c : Rat) : ∀ xs : List Rat, sumQ (xs.map fun x => x * c) = sumQ xs * c
  | [] => by show (0 : Rat) = 0 * c; grind
  | x :: xs => by rw [List.map_cons, sumQ_cons, sumQ_cons, sumQ_mul c xs]; grind
section
variable {P : Program} {w : World} {K : PySem.W.Frag} {mg : Str → Option Value} {base : Heap}
abbrev P_total : Pr := detP (fun (xs : List Rat) => [.lst (xs.map dq)]) SumOk fun xs => dq (sumQ xs)
theorem c_total {xs : List Rat} {Q : D → Prop} (q : Q (dq (sumQ xs))) (h : SumOk xs) : Cl P_total [.lst (xs.map dq)] Q := cl_detP xs q h
theorem sum_step {xs pre post : List Rat} {x : Rat} (h : SumOk xs) (e : xs = pre ++ x :: post) : Sz 1700 (pre.foldl (· + ·) 0) ∧ Sz 1700 x := by
  refine ⟨?_, h.each x (by rw [e]; simp)⟩
  have := h.part pre.length
  rwa [e, List.take_left] at this
theorem ok_total {f : Addr} {fd : FuncData} (F : Fun K "total" "total" s_total f fd) (hm : mg "total" = some (.ref f)) (hb : Binds K fd (N_total.take 1) []) (v_NOTHING : Gv K mg "NOTHING" (.tup [.int 0, .int 1]))
    (G : FnP P w K mg base "plus" 3 (det (R_qq (· + ·)))) : FnP P w K mg base "total" 4 P_total :=
  fnP_det F sc_total hm hb (fun _ _ => rfl) fun cdv A outer s H E hr nd xs h => by
    show Go _ H (_ :: _) _ [.dat (.lst (xs.map dq)), .any, .any]
    have e0 : Ent.dat (.tup [.int 0, .int 1]) = .dat (dq 0) := rfl
    walk_at "go"
    refine s_foldJ dq xs (fun r => [.dat (.lst (xs.map dq)), .dat (dq r), .any]) (· + ·) 0 (wj_i (wi_dat (by walk_at "look"))) (fun Hb' eb pre x post he => ?_) (by walk_at "go"; rfl)
    obtain ⟨h1, h2⟩ := sum_step h he
    walk_at "go"
theorem ok_lawall {f : Addr} {fd : FuncData} (F : Fun K "_law_all" "_law_all" s__law_all f fd) (hm : mg "_law_all" = some (.ref f)) (hb : Binds K fd (N__law_all.take 1) [])
    (G : FnP P w K mg base "_law_plus" 2 (det (R_qq (· + ·)))) : FnP P w K mg base "_law_all" 3 P_total :=
  fnP_det F sc__law_all hm hb (fun _ _ => rfl) fun cdv A outer s H E hr nd xs h => by
    show Go _ H (_ :: _) _ [.dat (.lst (xs.map dq)), .any, .any]
    have e0 : Ent.dat (.tup [.int 0, .int 1]) = .dat (dq 0) := rfl
    walk_at "go"
    refine s_foldJ dq xs (fun r => [.dat (.lst (xs.map dq)), .dat (dq r), .any]) (· + ·) 0 (wj_i (wi_dat (by walk_at "look"))) (fun Hb' eb pre x post he => ?_) (by walk_at "go"; rfl)
    obtain ⟨h1, h2⟩ := sum_step h he
    walk_at "go"
end

/-! ### senders -/
theorem fold_snoc {α β : Type} (g : α → β) : ∀ (xs : List α) (acc : List β), xs.foldl (fun acc x => acc ++ [g x]) acc = acc ++ xs.map g
  | [], acc => (List.append_nil acc).symm
  | x :: xs, acc => by
    rw [List.foldl_cons, fold_snoc g xs, List.map_cons, List.append_assoc]
    rfl
def leadL (ss rs : List Rat) : List Rat := (ss.zip rs).map fun p => p.2 - p.1 / sumQ ss * sumQ rs
def rateV (ss rs : List Rat) (W F : Rat) : List Rat := (ss.zip (leadL ss rs)).map fun p => p.1 / sumQ ss * W + p.2 * F
theorem leadL_len {ss rs : List Rat} (h : ss.length = rs.length) : (leadL ss rs).length = rs.length := by
  unfold leadL
  rw [List.length_map, List.length_zip, h, Nat.min_self]
theorem rateV_len {ss rs : List Rat} {W F : Rat} (h : ss.length = rs.length) : (rateV ss rs W F).length = rs.length := by
  unfold rateV
  rw [List.length_map, List.length_zip, leadL_len h, h, Nat.min_self]
theorem range_zip {α β γ : Type} (a : α) (b : β) (f : α → β → γ) : ∀ {xs : List α} {ys : List β}, xs.length = ys.length → (List.range ys.length).map (fun i => f (xs.getD i a) (ys.getD i b)) = (xs.zip ys).map fun p => f p.1 p.2
  | [], [], _ => rfl
  | x :: xs, y :: ys, h => by
    rw [List.length_cons, List.range_succ_eq_map, List.map_cons, List.map_map, List.zip_cons_cons, List.map_cons, ← range_zip a b f (xs := xs) (ys := ys) (by simpa using h)]
    rfl
  | [], _ :: _, h => by simp at h
  | _ :: _, [], h => by simp at h
/-- what senders ask -/
structure SendOk (ss rs : List Rat) : Prop where
  len : ss.length = rs.length
  ne : sumQ ss ≠ 0
  s1 : ∀ s ∈ ss, Sz 60 s
  ssz : Sz 300 (sumQ ss)
  so : SumOk ss
  ro : SumOk rs
section
variable {P : Program} {w : World} {K : PySem.W.Frag} {mg : Str → Option Value} {base : Heap}
abbrev P_part : Pr := detP (fun (a : List Rat × Nat) => [.lst (a.1.map dq), .int a.2]) (fun a => (SumOk a.1 ∧ sumQ a.1 ≠ 0) ∧ a.2 < a.1.length) fun a => dq (a.1.getD a.2 0 / sumQ a.1)
theorem c_part {ss : List Rat} {i : Nat} {Q : D → Prop} (q : Q (dq (ss.getD i 0 / sumQ ss))) (h : (SumOk ss ∧ sumQ ss ≠ 0) ∧ i < ss.length) : Cl P_part [.lst (ss.map dq), .int i] Q := cl_detP (ss, i) q h
theorem getD_mem {ss : List Rat} {i : Nat} (h : i < ss.length) : ss.getD i 0 ∈ ss := by
  rw [List.getD_eq_getElem?_getD, List.getElem?_eq_getElem h]
  exact List.getElem_mem h
theorem atI_dq {ss : List Rat} {i : Nat} (h : i < ss.length) : atI (ss.map dq) (i : Int) = some (dq (ss.getD i 0)) := atI_nat (by rw [List.getElem?_map, List.getD_eq_getElem?_getD, List.getElem?_eq_getElem h]; rfl)
local macro_rules | `(tactic| walk_at "cl") => `(tactic| first | refine c_total ?_ (by assumption) | refine c_part ?_ (by assumption) | fail)
theorem ok_part {f : Addr} {fd : FuncData} (F : Fun K "part_of" "part_of" s_part_of f fd) (hm : mg "part_of" = some (.ref f)) (hb : Binds K fd (N_part_of.take 2) [])
    (G1 : FnP P w K mg base "divided" 3 (det R_div)) (G2 : FnP P w K mg base "total" 4 P_total) : FnP P w K mg base "part_of" 5 P_part :=
  fnP_det F sc_part_of hm hb (fun _ _ => rfl) fun cdv A outer s H E hr nd ⟨ss, i⟩ ⟨⟨h1, h2⟩, h3⟩ => by
    simp only at h1 h2 h3
    show Go _ H (_ :: _) _ [.dat (.lst (ss.map dq)), .dat (.int i)]
    have a1 := atI_dq h3
    have z1 := h1.each _ (getD_mem h3)
    have z2 := h1.tot
    walk_at "go"
abbrev P_leads : Pr := detP (fun (a : List Rat × List Rat) => [.lst (a.1.map dq), .lst (a.2.map dq)]) (fun a => SendOk a.1 a.2) fun a => .lst ((leadL a.1 a.2).map dq)
theorem c_leads {ss rs : List Rat} {Q : D → Prop} (q : Q (.lst ((leadL ss rs).map dq))) (h : SendOk ss rs) : Cl P_leads [.lst (ss.map dq), .lst (rs.map dq)] Q := cl_detP (ss, rs) q h
theorem SendOk.pt {ss rs : List Rat} (h : SendOk ss rs) {s : Rat} (hs : s ∈ ss) : Sz 360 (s / sumQ ss) := Sz.div (h.s1 s hs) h.ssz h.ne
theorem ok_leads {f : Addr} {fd : FuncData} (F : Fun K "leads" "leads" s_leads f fd) (hm : mg "leads" = some (.ref f)) (hb : Binds K fd (N_leads.take 2) []) (m_enumerate : mg "enumerate" = none)
    (G1 : FnP P w K mg base "total" 4 P_total) (G2 : FnP P w K mg base "minus" 3 (det (R_qq (· - ·)))) (G3 : FnP P w K mg base "times" 3 (det (R_qq (· * ·)))) (G4 : FnP P w K mg base "part_of" 5 P_part) : FnP P w K mg base "leads" 6 P_leads :=
  fnP_det F sc_leads hm hb (fun _ _ => rfl) fun cdv A outer s H E hr nd ⟨ss, rs⟩ h => by
    simp only at h
    show Go _ H (_ :: _) _ [.dat (.lst (ss.map dq)), .dat (.lst (rs.map dq)), .any, .any, .any]
    have ro := h.ro
    have z0 := ro.tot
    walk_at "go"
    refine lc2 (fun (i : Nat) => .int i) (fun (i : Nat) => dq (rs.getD i 0)) (List.range rs.length) (fun i => dq (rs.getD i 0 - ss.getD i 0 / sumQ ss * sumQ rs)) (wj_enumL 0 m_enumerate (wi_dat (by walk_at "look"))) (fun i hi s H C cl fp => ?_) ?_ ?_
    · have hi2 : i < rs.length := List.mem_range.mp hi
      have p1 : (SumOk ss ∧ sumQ ss ≠ 0) ∧ i < ss.length := ⟨⟨h.so, h.ne⟩, by rw [h.len]; exact hi2⟩
      have z1 := h.pt (getD_mem p1.2)
      have z2 := ro.each _ (getD_mem hi2)
      walk_at "go"
    · walk_at "go"
      show D.lst _ = D.lst _
      rw [leadL, List.map_map]
      exact congrArg D.lst (range_zip 0 0 (fun s r => dq (r - s / sumQ ss * sumQ rs)) h.len)
    · rw [List.length_range]; have := ro.few; omega
theorem ok_lawleads {f : Addr} {fd : FuncData} (F : Fun K "_law_leads" "_law_leads" s__law_leads f fd) (hm : mg "_law_leads" = some (.ref f)) (hb : Binds K fd (N__law_leads.take 2) []) (m_zip : mg "zip" = none)
    (G1 : FnP P w K mg base "_law_all" 3 P_total) (G2 : FnP P w K mg base "_law_minus" 2 (det (R_qq (· - ·)))) (G3 : FnP P w K mg base "_law_times" 2 (det (R_qq (· * ·)))) (G4 : FnP P w K mg base "_law_over" 2 (det R_div)) : FnP P w K mg base "_law_leads" 4 P_leads :=
  fnP_det F sc__law_leads hm hb (fun _ _ => rfl) fun cdv A outer s H E hr nd ⟨ss, rs⟩ h => by
    simp only at h
    have o1 : Own "_law_found" := ⟨⟩
    show Go _ H (_ :: _) _ [.dat (.lst (ss.map dq)), .dat (.lst (rs.map dq)), .any, .any, .any, .any]
    have ro := h.ro
    have so := h.so
    have z0 := ro.tot
    have z3 := h.ssz
    have hne := h.ne
    walk_at "go"
    rename_i pa
    refine s_foldJ2 (fun p : Rat × Rat => dq p.1) (fun p => dq p.2) (ss.zip rs) (fun acc => [.dat (.lst (ss.map dq)), .dat (.lst (rs.map dq)), .dat (dq (sumQ rs)), .own pa (acc.map dq), .any, .any]) (fun acc p => acc ++ [p.2 - p.1 / sumQ ss * sumQ rs]) [] (wj_zip (f := dq) (g := dq) (by assumption) (wi_dat (by walk_at "look")) (wi_dat (by walk_at "look"))) (fun Hb' eb pre p post he => ?_) ?_
    · have hp : p ∈ ss.zip rs := by rw [he]; simp
      have hl : pre.length ≤ rs.length := by
        have := congrArg List.length he
        rw [List.length_zip, h.len, Nat.min_self, List.length_append] at this
        omega
      have z1 := h.pt (List.of_mem_zip hp).1
      have z4 := so.each _ (List.of_mem_zip hp).1
      have z2 := ro.each _ (List.of_mem_zip hp).2
      have e0 : pre.foldl (fun acc p => acc ++ [p.2 - p.1 / sumQ ss * sumQ rs]) [] = pre.map fun p => p.2 - p.1 / sumQ ss * sumQ rs := by
        rw [fold_snoc]
        rfl
      rw [e0]
      have e1 : Ent.own pa ((pre.map fun p => p.2 - p.1 / sumQ ss * sumQ rs).map dq ++ [dq (p.2 - p.1 / sumQ ss * sumQ rs)]) = .own pa (((pre.map fun p => p.2 - p.1 / sumQ ss * sumQ rs) ++ [p.2 - p.1 / sumQ ss * sumQ rs]).map dq) := by rw [List.map_append]; rfl
      have hl : ((pre.map fun p => p.2 - p.1 / sumQ ss * sumQ rs).map dq).length ≤ 100000 := by rw [List.length_map, List.length_map]; have := ro.few; omega
      walk_at "go"
    · rw [fold_snoc, List.nil_append]
      walk_at "go"
      rfl
end

/-! ### spans -/
def cutL {α : Type} (xs : List α) (lo hi : Option Int) : List α := (xs.drop (HT.sIx xs.length 0 lo)).take (HT.sIx xs.length xs.length hi - HT.sIx xs.length 0 lo)
theorem dcut_map {α : Type} (f : α → D) (xs : List α) (lo hi : Option Int) : dcut (xs.map f) lo hi = (cutL xs lo hi).map f := by
  unfold dcut cutL
  rw [List.length_map, List.map_take, List.map_drop]
theorem cutL_nat {α : Type} (xs : List α) (b e : Nat) : cutL xs (some (b : Int)) (some (e : Int)) = (xs.take e).drop b := by
  unfold cutL
  rw [HT.sIx_nat, HT.sIx_nat, List.drop_take]
  by_cases h : b ≤ xs.length
  · rw [Nat.min_eq_left h]
    by_cases h2 : e ≤ xs.length
    · rw [Nat.min_eq_left h2]
    · rw [Nat.min_eq_right (by omega)]
      rw [List.take_of_length_le (by rw [List.length_drop]; omega), List.take_of_length_le (by rw [List.length_drop]; omega)]
  · rw [List.drop_of_length_le (by omega), List.drop_of_length_le (by omega), List.take_nil, List.take_nil]
/-- what a span from b to e has beyond its speed -/
def surp (sp : Int) (tr : List Int) (b e : Nat) : Int := ((tr.take (e + 1)).drop b).sum - sp * ((e : Int) + 1 - b)

/-! ### totals of words -/
def kStep (k : Rat) (x : Rat) (n : Int) : Rat := k * x + (n : Rat)
def fold1 (k : Rat) (w : List Int) : Rat := w.foldl (kStep k) 0
def scStep (k : Rat) (s : List Rat × Rat) (n : Int) : List Rat × Rat := (s.1 ++ [s.2], k * s.2 + (n : Rat))
def scanT (k t : Rat) (w : List Int) : List Rat := (w.foldl (scStep k) ([], t)).1 ++ [(w.foldl (scStep k) ([], t)).2]
def totF (k : Rat) (w : List Int) : List Rat := scanT k (fold1 k w / (1 - k ^ w.length)) w.dropLast
def excF (sp st k : Rat) (w : List Int) : List Rat := (totF k w).map fun t => st * t - sp
theorem kStep_sz {k : Rat} {a : Nat} (hk : Sz a k) (ha : 0 < a) : ∀ (w : List Int) (x : Rat) (m : Nat), Sz m x → (∀ n ∈ w, n.natAbs < 2 ^ a) → Sz (m + w.length * (2 * a + 1)) (w.foldl (kStep k) x)
  | [], x, m, hx, _ => Sz.mono hx (Nat.le_add_right _ _)
  | n :: w, x, m, hx, h => by
    have h1 : Sz (a + m + a + 1) (kStep k x n) := Sz.add (Sz.mul hk hx) (sz_int (h n List.mem_cons_self) ha)
    refine Sz.mono (kStep_sz hk ha w _ _ h1 fun y hy => h y (List.mem_cons_of_mem _ hy)) ?_
    rw [List.length_cons, Nat.add_mul]
    omega
theorem scStep_sz {k : Rat} {a : Nat} (hk : Sz a k) (ha : 0 < a) : ∀ (w : List Int) (s : List Rat × Rat) (m : Nat), (∀ q ∈ s.1, Sz m q) → Sz m s.2 → (∀ n ∈ w, n.natAbs < 2 ^ a) →
    (∀ q ∈ (w.foldl (scStep k) s).1, Sz (m + w.length * (2 * a + 1)) q) ∧ Sz (m + w.length * (2 * a + 1)) (w.foldl (scStep k) s).2
  | [], s, m, h1, h2, _ => ⟨fun q hq => Sz.mono (h1 q hq) (Nat.le_add_right _ _), Sz.mono h2 (Nat.le_add_right _ _)⟩
  | n :: w, s, m, h1, h2, h => by
    have h3 : Sz (a + m + a + 1) (k * s.2 + (n : Rat)) := Sz.add (Sz.mul hk h2) (sz_int (h n List.mem_cons_self) ha)
    have e : (n :: w).length * (2 * a + 1) = w.length * (2 * a + 1) + (2 * a + 1) := by rw [List.length_cons, Nat.add_mul]; omega
    obtain ⟨r1, r2⟩ := scStep_sz hk ha w (scStep k s n) (a + m + a + 1) (fun q hq => by
      rcases List.mem_append.mp hq with hq | hq
      · exact Sz.mono (h1 q hq) (by omega)
      · rw [List.mem_singleton.mp hq]; exact Sz.mono h2 (by omega)) h3 fun y hy => h y (List.mem_cons_of_mem _ hy)
    exact ⟨fun q hq => Sz.mono (r1 q hq) (by rw [e]; omega), Sz.mono r2 (by rw [e]; omega)⟩
theorem sc_len (k : Rat) : ∀ (w : List Int) (s : List Rat × Rat), (w.foldl (scStep k) s).1.length = s.1.length + w.length
  | [], _ => rfl
  | n :: w, s => by
    rw [List.foldl_cons, sc_len k w, List.length_cons]
    show (s.1 ++ [s.2]).length + _ = _
    rw [List.length_append, List.length_cons, List.length_nil]
    omega
theorem totF_len (k : Rat) {w : List Int} (h : w ≠ []) : (totF k w).length = w.length := by
  unfold totF scanT
  have := List.length_pos_iff.mpr h
  rw [List.length_append, sc_len, List.length_dropLast]
  show 0 + (w.length - 1) + 1 = _
  omega
theorem pow_lt1 {k : Rat} (h0 : 0 ≤ k) (h1 : k < 1) : ∀ i : Nat, 0 ≤ k ^ (i + 1) ∧ k ^ (i + 1) < 1
  | 0 => by rw [Rat.pow_one]; exact ⟨h0, h1⟩
  | i + 1 => by
    obtain ⟨a, b⟩ := pow_lt1 h0 h1 i
    rw [Rat.pow_succ]
    have h2 := Rat.mul_nonneg a h0
    have h3 : k ^ (i + 1) * k ≤ 1 * k := Rat.mul_le_mul_of_nonneg_right (Rat.le_of_lt b) h0
    rw [Rat.one_mul] at h3
    exact ⟨h2, by grind⟩
theorem gap_pos {k : Rat} (h0 : 0 ≤ k) (h1 : k < 1) {n : Nat} (hn : 0 < n) : 0 < 1 - k ^ n := by
  obtain ⟨i, rfl⟩ : ∃ i, n = i + 1 := ⟨n - 1, by omega⟩
  have := (pow_lt1 h0 h1 i).2
  grind

/-- what a word's totals ask -/
structure TotOk (k : Rat) (w : List Int) (a : Nat) : Prop where
  a0 : 0 < a
  sz : Sz a k
  pos : 0 ≤ k
  lt : k < 1
  ne : w ≠ []
  bits : ∀ n ∈ w, n.natAbs < 2 ^ a
  few : (w.length + 1) * (2 * a + 2) ≤ 1200
theorem TotOk.t0 {k : Rat} {w : List Int} {a : Nat} (h : TotOk k w a) : Sz (w.length * (3 * a + 1) + 4) (fold1 k w / (1 - k ^ w.length)) := by
  have h1 := kStep_sz h.sz h.a0 w 0 1 ⟨by decide, by decide⟩ h.bits
  have h2 : Sz (1 + (a * w.length + 1) + 1) (1 - k ^ w.length) := Sz.sub ⟨by decide, by decide⟩ (h.sz.pow _)
  refine Sz.mono (Sz.div h1 h2 (Rat.pos_ne (gap_pos h.pos h.lt (List.length_pos_iff.mpr h.ne)))) ?_
  have e1 : w.length * (2 * a + 1) = 2 * (a * w.length) + w.length := by rw [Nat.mul_add, Nat.mul_one, ← Nat.mul_assoc, Nat.mul_comm w.length 2, Nat.mul_assoc, Nat.mul_comm w.length a]
  have e2 : w.length * (3 * a + 1) = 3 * (a * w.length) + w.length := by rw [Nat.mul_add, Nat.mul_one, ← Nat.mul_assoc, Nat.mul_comm w.length 3, Nat.mul_assoc, Nat.mul_comm w.length a]
  omega
theorem TotOk.bnd {k : Rat} {w : List Int} {a : Nat} (h : TotOk k w a) : w.length * (3 * a + 1) + 4 + w.length * (2 * a + 1) ≤ 3590 ∧ w.length ≤ 300 := by
  have h1 := h.few
  have e1 : w.length * (2 * a + 1) = 2 * (a * w.length) + w.length := by rw [Nat.mul_add, Nat.mul_one, ← Nat.mul_assoc, Nat.mul_comm w.length 2, Nat.mul_assoc, Nat.mul_comm w.length a]
  have e2 : w.length * (3 * a + 1) = 3 * (a * w.length) + w.length := by rw [Nat.mul_add, Nat.mul_one, ← Nat.mul_assoc, Nat.mul_comm w.length 3, Nat.mul_assoc, Nat.mul_comm w.length a]
  have e3 : (w.length + 1) * (2 * a + 2) = 2 * (a * w.length) + 2 * w.length + (2 * a + 2) := by rw [Nat.add_mul, Nat.one_mul, Nat.mul_add, ← Nat.mul_assoc, Nat.mul_comm w.length 2, Nat.mul_assoc, Nat.mul_comm w.length a]
  have := h.a0
  have h4 : w.length ≤ a * w.length := Nat.le_mul_of_pos_left _ h.a0
  omega
theorem TotOk.pre {k : Rat} {w : List Int} {a : Nat} (h : TotOk k w a) {pre : List Int} (hl : pre.length ≤ w.length) (hi : ∀ n ∈ pre, n ∈ w) : (∀ q ∈ (pre.foldl (scStep k) ([], fold1 k w / (1 - k ^ w.length))).1, Sz 3590 q) ∧ Sz 3590 (pre.foldl (scStep k) ([], fold1 k w / (1 - k ^ w.length))).2 := by
  obtain ⟨r1, r2⟩ := scStep_sz h.sz h.a0 pre ([], fold1 k w / (1 - k ^ w.length)) _ (fun q hq => nomatch hq) h.t0 fun n hn => h.bits n (hi n hn)
  have := h.bnd.1
  have h2 : pre.length * (2 * a + 1) ≤ w.length * (2 * a + 1) := Nat.mul_le_mul_right _ hl
  exact ⟨fun q hq => Sz.mono (r1 q hq) (by omega), Sz.mono r2 (by omega)⟩
theorem TotOk.fold {k : Rat} {w : List Int} {a : Nat} (h : TotOk k w a) {pre post : List Int} (e : w = pre ++ post) : Sz 3590 (pre.foldl (kStep k) 0) := by
  have h1 := kStep_sz h.sz h.a0 pre 0 1 ⟨by decide, by decide⟩ fun n hn => h.bits n (by rw [e]; exact List.mem_append_left _ hn)
  have := h.bnd.1
  have h2 : pre.length * (2 * a + 1) ≤ w.length * (2 * a + 1) := Nat.mul_le_mul_right _ (by rw [e, List.length_append]; omega)
  exact Sz.mono h1 (by omega)
theorem TotOk.a_le {k : Rat} {w : List Int} {a : Nat} (h : TotOk k w a) : a ≤ 300 := by
  have h1 := h.few
  have h2 := List.length_pos_iff.mpr h.ne
  have : 2 * (2 * a + 2) ≤ (w.length + 1) * (2 * a + 2) := Nat.mul_le_mul_right _ (by omega)
  omega
theorem TotOk.tot {k : Rat} {w : List Int} {a : Nat} (h : TotOk k w a) : ∀ q ∈ totF k w, Sz 3590 q := fun q hq => by
  obtain ⟨r1, r2⟩ := h.pre (pre := w.dropLast) (by rw [List.length_dropLast]; omega) fun n hn => List.dropLast_subset _ hn
  rcases List.mem_append.mp hq with hq | hq
  · exact r1 q hq
  · rw [List.mem_singleton.mp hq]; exact r2
theorem cut_init (w : List Int) : dcut (w.map D.int) none (some (-1)) = w.dropLast.map D.int := by
  rw [dcut_map]
  congr 1
  unfold cutL
  show (w.drop 0).take ((-1 + (w.length : Int)).toNat - 0) = _
  rw [List.drop_zero, List.dropLast_eq_take]
  congr 1
  omega
section
variable {P : Program} {w : World} {K : PySem.W.Frag} {mg : Str → Option Value} {base : Heap}
abbrev P_power : Pr := detP (fun (a : Rat × Nat × Nat) => [dq a.1, .int a.2.1]) (fun a => Sz a.2.2 a.1 ∧ a.2.2 * a.2.1 ≤ 3500 ∧ a.2.1 ≤ 100000) fun a => dq (a.1 ^ a.2.1)
theorem ok_power {f : Addr} {fd : FuncData} (F : Fun K "power" "power" s_power f fd) (hm : mg "power" = some (.ref f)) (hb : Binds K fd (N_power.take 2) []) (m_range : mg "range" = none) (v_ONE : Gv K mg "ONE" (.tup [.int 1, .int 1])) : FnP P w K mg base "power" 1 P_power :=
  fnP_det F sc_power hm hb (fun _ _ => rfl) fun cdv A outer s H E hr nd ⟨v, n, a⟩ ⟨hv, hn, hn2⟩ => by
    show Go _ H (_ :: _) _ [.dat (dq v), .dat (.int n), .any, .any]
    have e0 : Ent.dat (.tup [.int 1, .int 1]) = .dat (dq (v ^ 0)) := by rw [Rat.pow_zero]; rfl
    walk_at "go"
    refine s_forG 0 n (fun i => [.dat (dq v), .dat (.int n), .dat (dq (v ^ i)), .any]) (wr_1 (by assumption) (by walk_at "go"; exact rng_nat (Nat.le_trans hn2 (by decide)))) (fun i hi => ?_) (by walk_at "go")
    have h1 : Sz (a * i + 1) (v ^ i) := hv.pow i
    have h2 : a * i ≤ a * n := Nat.mul_le_mul_left _ (by omega)
    simp only at hn hv hn2
    have ha : a * i + 1 + a ≤ 7100 := by
      have : a * 1 ≤ a * n := Nat.mul_le_mul_left _ (by omega)
      omega
    have m1 : IntMulOk (v ^ i).num v.num := mulOk_bits h1.1 hv.1 (by omega)
    have m2 : IntMulOk ((v ^ i).den : Int) (v.den : Int) := mulOk_bits h1.den hv.den (by omega)
    walk_at "go"
    have e : D.tup [.int ((v ^ i).num * v.num), .int (((v ^ i).den : Int) * (v.den : Int))] = dq (v ^ (i + 1)) := by
      show _ = D.tup [.int ((v ^ (i + 1)).num), .int (((v ^ (i + 1)).den : Nat) : Int)]
      rw [Rat.num_pow, Rat.den_pow, Rat.num_pow, Rat.den_pow, Nat.pow_succ, Int.natCast_mul, Int.pow_succ]
    rw [e]
    exact s_end
end

local macro_rules | `(tactic| walk_at "cl") => `(tactic| first | refine c_total ?_ (by assumption) | refine c_part ?_ (by assumption) | refine c_leads ?_ (by assumption) | fail)

/-! ### senders in a round -/
/-- what rates_in asks -/
structure RateOk (sp k : Rat) (ss rs : List Rat) (E n place : Nat) : Prop where
  send : SendOk ss rs
  walk : Walks sp (sumQ ss) k (sumQ rs) E n
  cnt : cntAt sp (sumQ ss) k place (sumQ rs) ≤ n
  kz : Sz 8 k
  few : n ≤ 200
  lz : ∀ l ∈ leadL ss rs, Sz 1700 l
  wz : Sz 1560 (walkAt sp (sumQ ss) k place (sumQ rs))
section
variable {P : Program} {w : World} {K : PySem.W.Frag} {mg : Str → Option Value} {base : Heap}
abbrev P_ratesin : Pr := detP (fun (a : (Rat × Rat) × (List Rat × List Rat) × Nat × Nat × Nat) => [dq a.1.1, dq a.1.2, .lst (a.2.1.1.map dq), .lst (a.2.1.2.map dq), .int a.2.2.1]) (fun a => RateOk a.1.1 a.1.2 a.2.1.1 a.2.1.2 a.2.2.2.1 a.2.2.2.2 a.2.2.1)
  fun a => .lst ((rateV a.2.1.1 a.2.1.2 (walkAt a.1.1 (sumQ a.2.1.1) a.1.2 a.2.2.1 (sumQ a.2.1.2)) (a.1.2 ^ cntAt a.1.1 (sumQ a.2.1.1) a.1.2 a.2.2.1 (sumQ a.2.1.2))).map dq)
theorem ok_ratesin {f : Addr} {fd : FuncData} (F : Fun K "rates_in" "rates_in" s_rates_in f fd) (hm : mg "rates_in" = some (.ref f)) (hb : Binds K fd (N_rates_in.take 5) []) (m_enumerate : mg "enumerate" = none)
    (G1 : FnP P w K mg base "total" 4 P_total) (G2 : FnP P w K mg base "reached" 5 P_reached) (G3 : FnP P w K mg base "power" 1 P_power) (G4 : FnP P w K mg base "leads" 6 P_leads) (G5 : FnP P w K mg base "plus" 3 (det (R_qq (· + ·)))) (G6 : FnP P w K mg base "times" 3 (det (R_qq (· * ·)))) (G7 : FnP P w K mg base "part_of" 5 P_part) : FnP P w K mg base "rates_in" 7 P_ratesin :=
  fnP_det F sc_rates_in hm hb (fun _ _ => rfl) fun cdv A outer s H E hr nd ⟨⟨sp, k⟩, ⟨ss, rs⟩, place, E0, n⟩ h => by
    simp only at h
    have o1 : Own "found" := ⟨⟩
    show Go _ H (_ :: _) _ [.dat (dq sp), .dat (dq k), .dat (.lst (ss.map dq)), .dat (.lst (rs.map dq)), .dat (.int place), .any, .any, .any, .any, .any, .any, .any]
    have hs := h.send
    have so := hs.so
    have ro := hs.ro
    obtain ⟨W, hW⟩ : ∃ W, walkAt sp (sumQ ss) k place (sumQ rs) = W := ⟨_, rfl⟩
    obtain ⟨c, hc⟩ : ∃ c, cntAt sp (sumQ ss) k place (sumQ rs) = c := ⟨_, rfl⟩
    have hcn : c ≤ n := by rw [← hc]; exact h.cnt
    have hn := h.few
    have hWz := h.wz
    rw [hW] at hWz
    walk_at "go"
    refine cl_detP ((sp, sumQ ss, k), sumQ rs, place, E0, n) ?_ ⟨h.walk, h.cnt⟩
    dsimp only
    rw [hW, hc]
    walk_at "go"
    refine cl_detP (k, c, 8) ?_ ⟨h.kz, by show 8 * c ≤ 3500; omega, by show c ≤ 100000; omega⟩
    dsimp only
    have hF : Sz 1601 (k ^ c) := (h.kz.pow c).mono (by omega)
    generalize hFe : k ^ c = F at hF ⊢
    walk_at "go"
    rename_i pa
    refine s_foldJ2 (fun (i : Nat) => .int i) (fun (i : Nat) => dq ((leadL ss rs).getD i 0)) (List.range (leadL ss rs).length) (fun acc => [.dat (dq sp), .dat (dq k), .dat (.lst (ss.map dq)), .dat (.lst (rs.map dq)), .dat (.int place), .dat (dSaw sp (sumQ ss) k), .dat (dq W), .dat (.int c), .dat (dq F), .own pa (acc.map dq), .any, .any]) (fun acc i => acc ++ [ss.getD i 0 / sumQ ss * W + (leadL ss rs).getD i 0 * F]) [] (wj_enumL 0 m_enumerate (wi_new (by walk_at "go") (fun ds e => by rw [e]; exact flat_map (fun _ => rfl) _))) (fun Hb' eb pre i post he => ?_) ?_
    · have hi : i < (leadL ss rs).length := List.mem_range.mp (by rw [he]; simp)
      have hl : pre.length ≤ rs.length := by
        have := congrArg List.length he
        rw [List.length_range, leadL_len hs.len, List.length_append] at this
        omega
      have p1 : (SumOk ss ∧ sumQ ss ≠ 0) ∧ i < ss.length := ⟨⟨so, hs.ne⟩, by rw [hs.len, ← leadL_len hs.len]; exact hi⟩
      have z1 := hs.pt (getD_mem p1.2)
      have z2 := h.lz _ (getD_mem hi)
      rw [fold_snoc, List.nil_append]
      have e1 : Ent.own pa ((pre.map fun i => ss.getD i 0 / sumQ ss * W + (leadL ss rs).getD i 0 * F).map dq ++ [dq (ss.getD i 0 / sumQ ss * W + (leadL ss rs).getD i 0 * F)]) = .own pa (((pre.map fun i => ss.getD i 0 / sumQ ss * W + (leadL ss rs).getD i 0 * F) ++ [ss.getD i 0 / sumQ ss * W + (leadL ss rs).getD i 0 * F]).map dq) := by rw [List.map_append]; rfl
      have hl : ((pre.map fun i => ss.getD i 0 / sumQ ss * W + (leadL ss rs).getD i 0 * F).map dq).length ≤ 100000 := by rw [List.length_map, List.length_map]; have := ro.few; omega
      walk_at "go"
    · rw [fold_snoc, List.nil_append, range_zip 0 0 (fun s l => s / sumQ ss * W + l * F) (by rw [leadL_len hs.len, hs.len])]
      walk_at "go"
      rfl
/-- a fraction without its sign -/
def absQ (l : Rat) : Rat := Rat.divInt (l.num.natAbs : Int) l.den
theorem absQ_sz {l : Rat} {n : Nat} (h : Sz n l) : Sz n (absQ l) := sz_divInt (by rw [Int.natAbs_natCast]; exact h.1) (by rw [Int.natAbs_natCast]; exact h.2) (den_ne l)
/-- what losses_until asks: N losses -/
structure UntilOk (k : Rat) (ls : List Rat) (b : Rat) (N : Nat) : Prop where
  kz : Sz 8 k
  lz : ∀ l ∈ ls, Sz 400 l
  bz : Sz 400 b
  few : N ≤ 300
  yes : ∀ i, i < N → (ls.any fun l => decide (b < absQ l * k ^ i)) = true
  no : (ls.any fun l => decide (b < absQ l * k ^ N)) = false
abbrev P_until : Pr := detP (fun (a : Rat × (List Rat × List Rat) × Rat × Nat) => [dq a.1, .lst (a.2.1.1.map dq), .lst (a.2.1.2.map dq), dq a.2.2.1]) (fun a => SendOk a.2.1.1 a.2.1.2 ∧ UntilOk a.1 (leadL a.2.1.1 a.2.1.2) a.2.2.1 a.2.2.2) fun a => .int a.2.2.2
end

/-! ### rates of several senders, round by round -/
theorem cnt_succ (sp st k : Rat) : ∀ (n : Nat) (r : Rat), cntAt sp st k (n + 1) r = cntAt sp st k n r + if sp < walkAt sp st k n r then 1 else 0
  | 0, r => by
    show (if sp < r then 1 else 0) + 0 = 0 + if sp < r then 1 else 0
    omega
  | n + 1, r => by
    show (if sp < r then 1 else 0) + cntAt sp st k (n + 1) (nextR sp st k r) = (if sp < r then 1 else 0) + cntAt sp st k n (nextR sp st k r) + _
    rw [cnt_succ sp st k n (nextR sp st k r), Nat.add_assoc]
    rfl
theorem zip_fst {α β γ : Type} (h : α × β → γ) : ∀ (xs : List α) (ys : List β), xs.length = ys.length → xs.zip ((xs.zip ys).map h) = (xs.zip ys).map fun p => (p.1, h p)
  | [], _, _ => rfl
  | x :: xs, [], e => by simp at e
  | x :: xs, y :: ys, e => by
    rw [List.zip_cons_cons, List.map_cons, List.zip_cons_cons, List.map_cons, zip_fst h xs ys (by simpa using e)]
theorem zip_fst' {α β γ : Type} (h : α × β → γ) : ∀ (xs : List α) (ys : List β), xs.length = ys.length → ((xs.zip ys).map h).zip xs = (xs.zip ys).map fun p => (h p, p.1)
  | [], _, _ => by rw [List.zip_nil_right]; rfl
  | x :: xs, [], e => by simp at e
  | x :: xs, y :: ys, e => by
    rw [List.zip_cons_cons, List.map_cons, List.zip_cons_cons, List.map_cons, zip_fst' h xs ys (by simpa using e)]
theorem map_snd {α β : Type} : ∀ (xs : List α) (ys : List β), xs.length = ys.length → (xs.zip ys).map (·.2) = ys
  | [], [], _ => rfl
  | [], _ :: _, e => by simp at e
  | x :: xs, [], e => by simp at e
  | x :: xs, y :: ys, e => by rw [List.zip_cons_cons, List.map_cons, map_snd xs ys (by simpa using e)]
theorem map_fst {α β : Type} : ∀ (xs : List α) (ys : List β), xs.length = ys.length → (xs.zip ys).map (·.1) = xs
  | [], [], _ => rfl
  | [], _ :: _, e => by simp at e
  | x :: xs, [], e => by simp at e
  | x :: xs, y :: ys, e => by rw [List.zip_cons_cons, List.map_cons, map_fst xs ys (by simpa using e)]
theorem sum_lin (a b : Rat) : ∀ ps : List (Rat × Rat), sumQ (ps.map fun p => p.1 * a + p.2 * b) = sumQ (ps.map (·.1)) * a + sumQ (ps.map (·.2)) * b
  | [] => by show (0 : Rat) = 0 * a + 0 * b; grind
  | p :: ps => by
    rw [List.map_cons, List.map_cons, List.map_cons, sumQ_cons, sumQ_cons, sumQ_cons, sum_lin a b ps]
    grind
def nowL (sp k : Rat) (ss rs : List Rat) (n : Nat) : List Rat := rateV ss rs (walkAt sp (sumQ ss) k n (sumQ rs)) (k ^ cntAt sp (sumQ ss) k n (sumQ rs))
theorem rateV_ps {ss rs : List Rat} (h : ss.length = rs.length) (W F : Rat) : rateV ss rs W F = (ss.zip rs).map fun p => p.1 / sumQ ss * W + (p.2 - p.1 / sumQ ss * sumQ rs) * F := by
  unfold rateV leadL
  rw [zip_fst _ _ _ h, List.map_map]
  rfl
theorem now_zero {sp k : Rat} {ss rs : List Rat} (h : ss.length = rs.length) : nowL sp k ss rs 0 = rs := by
  unfold nowL
  rw [rateV_ps h]
  refine Eq.trans (List.map_congr_left fun p _ => ?_) (map_snd ss rs h)
  show p.1 / sumQ ss * sumQ rs + (p.2 - p.1 / sumQ ss * sumQ rs) * k ^ 0 = p.2
  rw [Rat.pow_zero]
  grind
theorem now_succ {sp k : Rat} {ss rs : List Rat} (h : ss.length = rs.length) (hne : sumQ ss ≠ 0) (n : Nat) : nowL sp k ss rs (n + 1) = if sp < walkAt sp (sumQ ss) k n (sumQ rs) then (nowL sp k ss rs n).map (fun x => k * x) else ((nowL sp k ss rs n).zip ss).map fun p => p.1 + p.2 := by
  unfold nowL
  rw [cnt_succ, walkAt_succ, rateV_ps h, rateV_ps h]
  unfold nextR
  by_cases hc : sp < walkAt sp (sumQ ss) k n (sumQ rs)
  · rw [if_pos hc, if_pos hc, if_pos hc, List.map_map]
    refine List.map_congr_left fun p _ => ?_
    show p.1 / sumQ ss * (k * walkAt sp (sumQ ss) k n (sumQ rs)) + (p.2 - p.1 / sumQ ss * sumQ rs) * k ^ (cntAt sp (sumQ ss) k n (sumQ rs) + 1) = k * (p.1 / sumQ ss * walkAt sp (sumQ ss) k n (sumQ rs) + (p.2 - p.1 / sumQ ss * sumQ rs) * k ^ cntAt sp (sumQ ss) k n (sumQ rs))
    rw [Rat.pow_succ]
    grind
  · rw [if_neg hc, if_neg hc, if_neg hc, zip_fst' _ _ _ h, List.map_map]
    refine List.map_congr_left fun p _ => ?_
    show p.1 / sumQ ss * (walkAt sp (sumQ ss) k n (sumQ rs) + sumQ ss) + (p.2 - p.1 / sumQ ss * sumQ rs) * k ^ (cntAt sp (sumQ ss) k n (sumQ rs) + 0) = p.1 / sumQ ss * walkAt sp (sumQ ss) k n (sumQ rs) + (p.2 - p.1 / sumQ ss * sumQ rs) * k ^ cntAt sp (sumQ ss) k n (sumQ rs) + p.1
    have e : p.1 / sumQ ss * sumQ ss = p.1 := Rat.div_mul_cancel hne
    rw [Nat.add_zero]
    grind
theorem rateV_sum {ss rs : List Rat} (h : ss.length = rs.length) (hne : sumQ ss ≠ 0) (W F : Rat) : sumQ (rateV ss rs W F) = W := by
  have e : (ss.zip rs).map (fun p => p.1 / sumQ ss * W + (p.2 - p.1 / sumQ ss * sumQ rs) * F) = (ss.zip rs).map fun p => p.1 * (W / sumQ ss - sumQ rs / sumQ ss * F) + p.2 * F := List.map_congr_left fun p _ => by
    rw [Rat.div_def, Rat.div_def, Rat.div_def]
    grind
  have e2 : sumQ ss * (sumQ ss)⁻¹ = 1 := Rat.mul_inv_cancel _ hne
  rw [rateV_ps h, e, sum_lin, map_fst _ _ h, map_snd _ _ h, Rat.div_def, Rat.div_def]
  grind
theorem now_sum {sp k : Rat} {ss rs : List Rat} (h : ss.length = rs.length) (hne : sumQ ss ≠ 0) (n : Nat) : sumQ (nowL sp k ss rs n) = walkAt sp (sumQ ss) k n (sumQ rs) := rateV_sum h hne _ _
theorem now_len {sp k : Rat} {ss rs : List Rat} (h : ss.length = rs.length) (n : Nat) : (nowL sp k ss rs n).length = rs.length := rateV_len h
theorem now_lead {sp k : Rat} {ss rs : List Rat} (h : ss.length = rs.length) (hne : sumQ ss ≠ 0) (n : Nat) : leadL ss (nowL sp k ss rs n) = (leadL ss rs).map fun l => l * k ^ cntAt sp (sumQ ss) k n (sumQ rs) := by
  have e := now_sum (sp := sp) (k := k) h hne n
  unfold leadL
  rw [e]
  unfold nowL
  rw [rateV_ps h, zip_fst _ _ _ h, List.map_map, List.map_map]
  refine List.map_congr_left fun p _ => ?_
  show p.1 / sumQ ss * walkAt sp (sumQ ss) k n (sumQ rs) + (p.2 - p.1 / sumQ ss * sumQ rs) * k ^ cntAt sp (sumQ ss) k n (sumQ rs) - p.1 / sumQ ss * walkAt sp (sumQ ss) k n (sumQ rs) = _
  grind
/-- on one bottom, from 0 on -/
theorem now_on {sp k : Rat} {ss rs : List Rat} {E : Nat} (h : ss.length = rs.length) (hne : sumQ ss ≠ 0) (hk : 0 ≤ k) (hs : ∀ s ∈ ss, 0 ≤ s ∧ On E s) (hr : ∀ r ∈ rs, 0 ≤ r ∧ On E r) : ∀ n, ∀ x ∈ nowL sp k ss rs n, 0 ≤ x ∧ On (E * k.den ^ cntAt sp (sumQ ss) k n (sumQ rs)) x
  | 0, x, hx => by
    rw [now_zero h] at hx
    show 0 ≤ x ∧ On (E * k.den ^ 0) x
    rw [Nat.pow_zero, Nat.mul_one]
    exact hr x hx
  | n + 1, x, hx => by
    have ih := now_on (sp := sp) h hne hk hs hr n
    rw [now_succ h hne] at hx
    rw [cnt_succ]
    by_cases hc : sp < walkAt sp (sumQ ss) k n (sumQ rs)
    · rw [if_pos hc] at hx ⊢
      obtain ⟨y, hy, rfl⟩ := List.mem_map.mp hx
      obtain ⟨h1, h2⟩ := ih y hy
      refine ⟨Rat.mul_nonneg hk h1, ?_⟩
      rw [Nat.pow_succ, ← Nat.mul_assoc]
      exact h2.k k
    · rw [if_neg hc] at hx ⊢
      obtain ⟨p, hp, rfl⟩ := List.mem_map.mp hx
      obtain ⟨h1, h2⟩ := ih p.1 (List.of_mem_zip hp).1
      obtain ⟨h3, h4⟩ := hs p.2 (List.of_mem_zip hp).2
      exact ⟨by grind, h2.add (h4.up _)⟩

theorem walk_top {sp st k B : Rat} (h0 : 0 ≤ k) (h1 : k ≤ 1) (hs : 0 ≤ st) (hB : sp + st ≤ B) : ∀ (n : Nat) (r : Rat), 0 ≤ r → r ≤ B → walkAt sp st k n r ≤ B
  | 0, _, _, h => h
  | n + 1, r, hr, h => by
    show walkAt sp st k n (nextR sp st k r) ≤ B
    unfold nextR
    by_cases hc : sp < r
    · rw [if_pos hc]
      have h2 := Rat.mul_le_mul_of_nonneg_right h1 hr
      rw [Rat.one_mul] at h2
      exact walk_top h0 h1 hs hB n _ (Rat.mul_nonneg h0 hr) (Rat.le_trans h2 h)
    · rw [if_neg hc]
      exact walk_top h0 h1 hs hB n _ (by grind) (by grind)
/-- senders that are walked -/
structure VecOk (sp k : Rat) (ss rs : List Rat) (E n : Nat) : Prop where
  send : SendOk ss rs
  walk : Walks sp (sumQ ss) k (sumQ rs) E n
  hs : ∀ s ∈ ss, 0 ≤ s ∧ On E s
  hr : ∀ r ∈ rs, 0 ≤ r ∧ On E r
  kz : Sz 8 k
  few : n ≤ 200
  lz : ∀ l ∈ leadL ss rs, Sz 1700 l
theorem VecOk.sum {sp k : Rat} {ss rs : List Rat} {E n i : Nat} (h : VecOk sp k ss rs E n) (hi : cntAt sp (sumQ ss) k i (sumQ rs) ≤ n) : SumOk (nowL sp k ss rs i) ∧ (∀ x ∈ nowL sp k ss rs i, Sz 1560 x) ∧ Sz 1560 (walkAt sp (sumQ ss) k i (sumQ rs)) := by
  have hl := h.send.len
  have hne := h.send.ne
  have hw := h.walk
  have k0 := Rat.le_of_lt hw.kpos
  have hon := now_on (sp := sp) hl hne k0 h.hs h.hr i
  have hsum := now_sum (sp := sp) (k := k) hl hne i
  have htop := walk_top k0 (Rat.le_of_lt hw.klt) (Rat.le_of_lt hw.spos) hw.top2 i (sumQ rs) hw.nn hw.top
  have hE : E * k.den ^ cntAt sp (sumQ ss) k i (sumQ rs) < 2 ^ 1500 := Nat.lt_of_le_of_lt (Nat.mul_le_mul_left E (Nat.pow_le_pow_right k.den_pos hi)) hw.small
  have hE0 : 0 < E * k.den ^ cntAt sp (sumQ ss) k i (sumQ rs) := Nat.mul_pos hw.e0 (Nat.pow_pos k.den_pos)
  rw [← hsum] at htop
  refine ⟨SumOk.on (fun x hx => (hon x hx).2) (fun x hx => (hon x hx).1) htop hE0 hE (by decide) (by rw [now_len hl]; exact h.send.ro.few), fun x hx => (hon x hx).2.sz (hon x hx).1 (Rat.le_trans (sumQ_mem_le (fun x hx => (hon x hx).1) hx) htop) hE0 hE, ?_⟩
  rw [← hsum]
  exact (sumQ_on _ fun x hx => (hon x hx).2).sz (sumQ_nn _ fun x hx => (hon x hx).1) htop hE0 hE
theorem VecOk.rate {sp k : Rat} {ss rs : List Rat} {E n i : Nat} (h : VecOk sp k ss rs E n) (hi : cntAt sp (sumQ ss) k i (sumQ rs) ≤ n) : RateOk sp k ss rs E n i :=
  ⟨h.send, h.walk, hi, h.kz, h.few, h.lz, (h.sum hi).2.2⟩
theorem VecOk.sendn {sp k : Rat} {ss rs : List Rat} {E n i : Nat} (h : VecOk sp k ss rs E n) (hi : cntAt sp (sumQ ss) k i (sumQ rs) ≤ n) : SendOk ss (nowL sp k ss rs i) :=
  { h.send with len := h.send.len.trans (now_len h.send.len i).symm, ro := (h.sum hi).1 }
theorem cnt_le : ∀ {sp st k : Rat} (n : Nat) (r : Rat), cntAt sp st k n r ≤ n
  | _, _, _, 0, _ => Nat.le_refl _
  | sp, st, k, n + 1, r => by
    have := cnt_le (sp := sp) (st := st) (k := k) n (nextR sp st k r)
    show (if sp < r then 1 else 0) + cntAt sp st k n (nextR sp st k r) ≤ n + 1
    split <;> omega

/-! ### drawn fractions, told -/
section
variable {P : Program} {w : World} {K : PySem.W.Frag} {mg : Str → Option Value} {base : Heap}
/-- i/b with a bottom of the list, above 0, up to most -/
def FracE (most : Int) (bs : List Int) (q : Rat) : Prop := ∃ i b : Int, b ∈ bs ∧ 1 ≤ i ∧ i ≤ most * b ∧ q = Rat.divInt i b
abbrev P_fracE : Pr := setP (fun (a : Int × List Int) => [dDraw, .int a.1, .lst (a.2.map D.int)]) (fun a => ((0 < a.1 ∧ a.1 ≤ 1000000) ∧ (0 < a.2.length ∧ a.2.length < 1000)) ∧ ∀ b ∈ a.2, 0 < b ∧ b ≤ 1000000) fun a z => ∃ q : Rat, z = dq q ∧ FracE a.1 a.2 q
theorem c_fracE {most : Int} (bs : List Int) {Q : D → Prop} (q : ∀ x : Rat, FracE most bs x → Q (dq x)) (h : ((0 < most ∧ most ≤ 1000000) ∧ (0 < bs.length ∧ bs.length < 1000)) ∧ ∀ b ∈ bs, 0 < b ∧ b ≤ 1000000) : Cl P_fracE [dDraw, .int most, .lst (bs.map D.int)] Q := cl_setP (most, bs) (fun d ⟨x, e, hx⟩ => by rw [e]; exact q x hx) h
theorem ok_fracE {f : Addr} {fd : FuncData} (F : Fun K "_law_frac" "_law_frac" s__law_frac f fd) (hm : mg "_law_frac" = some (.ref f)) (hb : Binds K fd (N__law_frac.take 3) [])
    (G : FnP P w K mg base "_law_draw" 1 P_draw) (Gc : FnP P w K mg base "_law_choose" 2 P_choose) (Gm : FnP P w K mg base "_law_made" 1 (det R_reduced)) : FnP P w K mg base "_law_frac" 3 P_fracE :=
  fnP_set F sc__law_frac hm hb (fun _ _ => rfl) fun cdv A outer s H E hr nd ⟨most, bs⟩ ⟨⟨⟨h0, h1⟩, hl0, hl1⟩, hbs⟩ => by
    simp only at h0 h1 hl0 hl1 hbs
    show Go _ H (_ :: _) _ [.dat dDraw, .dat (.int most), .dat (.lst (bs.map .int)), .any]
    walk_at "go"
    rotate_left
    · exact ⟨⟨by rw [List.length_map]; exact hl0, by rw [List.length_map]; exact hl1⟩, fun x m => by obtain ⟨i, _, rfl⟩ := List.mem_map.mp m; rfl⟩
    intro d hd
    obtain ⟨b, hb2, rfl⟩ := List.mem_map.mp hd
    obtain ⟨hb0, hb1⟩ := hbs b hb2
    have hmb : 0 < most * b := Int.mul_pos h0 hb0
    have hmb2 : most * b ≤ 1000000 * 1000000 := Int.mul_le_mul h1 hb1 (by omega) (by decide)
    have m1 : IntMulOk most b := mulOk_bits (a := 40) (b := 40) (by omega) (by omega) (by decide)
    walk_at "go"
    rename_i i hi0 hi1
    exact ⟨1 + i, b, hb2, by omega, by show 1 + i ≤ most * b; omega, rfl⟩
end
theorem FracE.sz {most : Int} {bs : List Int} {q : Rat} {n : Nat} (h : FracE most bs q) (hb : ∀ b ∈ bs, 0 < b ∧ b < 2 ^ n ∧ most * b < 2 ^ n) : Sz n q ∧ 0 < q := by
  obtain ⟨i, b, hm, h1, h2, rfl⟩ := h
  obtain ⟨b0, b1, b2⟩ := hb b hm
  have e : (((2 : Nat) ^ n : Nat) : Int) = (2 : Int) ^ n := Int.natCast_pow 2 n
  exact ⟨sz_divInt (by omega) (by omega) (by omega), divInt_pos' (by omega) b0⟩
theorem FracE.on {most : Int} {bs : List Int} {q : Rat} {E : Nat} (h : FracE most bs q) (hb : ∀ b ∈ bs, 0 < b ∧ b ∣ (E : Int)) : On E q := by
  obtain ⟨i, b, hm, _, _, rfl⟩ := h
  obtain ⟨b0, c, hc⟩ := hb b hm
  refine ⟨i * c, ?_⟩
  rw [hc, Rat.divInt_eq_div, Rat.intCast_mul, Rat.intCast_mul, Rat.div_def]
  have hne : (b : Rat) ≠ 0 := Rat.pos_ne (Rat.intCast_pos.mpr b0)
  have := Rat.mul_inv_cancel (b : Rat) hne
  grind
theorem FracE.le {most : Int} {bs : List Int} {q : Rat} (h : FracE most bs q) (hb : ∀ b ∈ bs, 0 < b) : q ≤ (most : Rat) := by
  obtain ⟨i, b, hm, _, h2, rfl⟩ := h
  exact divInt_le (hb b hm) h2

local macro_rules | `(tactic| walk_at "lit") => `(tactic| first | exact alln | (refine allc (lit01 (by decide +kernel)) ?_; walk_at "lit") | (refine allc (litq (by decide +kernel)) ?_; walk_at "lit") | (refine allc (litI (by first | decide | omega)) ?_; walk_at "lit") | fail)

/-! ### k35 -/
theorem dqs_of {P : Rat → Prop} : ∀ {ds : List D}, (∀ d ∈ ds, ∃ q, d = dq q ∧ P q) → ∃ qs : List Rat, ds = qs.map dq ∧ ∀ q ∈ qs, P q
  | [], _ => ⟨[], rfl, fun _ m => nomatch m⟩
  | d :: ds, h => by
    obtain ⟨q, rfl, hq⟩ := h d List.mem_cons_self
    obtain ⟨qs, rfl, hqs⟩ := dqs_of fun d m => h d (List.mem_cons_of_mem _ m)
    exact ⟨q :: qs, rfl, fun x m => by
      rcases List.mem_cons.mp m with e | m
      · rw [e]; exact hq
      · exact hqs x m⟩
theorem sumQ_le {c : Rat} : ∀ {xs : List Rat}, (∀ x ∈ xs, x ≤ c) → sumQ xs ≤ c * ((xs.length : Int) : Rat)
  | [], _ => by rw [sumQ_nil]; show (0 : Rat) ≤ c * 0; grind
  | x :: xs, h => by
    have h1 := h x List.mem_cons_self
    have h2 := sumQ_le fun y hy => h y (List.mem_cons_of_mem _ hy)
    rw [sumQ_cons, List.length_cons, Int.natCast_succ, Rat.intCast_add]
    have e1 : ((1 : Int) : Rat) = 1 := rfl
    grind
theorem sumQ_pos : ∀ {xs : List Rat}, xs ≠ [] → (∀ x ∈ xs, 0 < x) → 0 < sumQ xs
  | [], h, _ => absurd rfl h
  | x :: xs, _, h => by
    have h1 := h x List.mem_cons_self
    have h2 := sumQ_nn xs fun y hy => Rat.le_of_lt (h y (List.mem_cons_of_mem _ hy))
    rw [sumQ_cons]
    grind
/-- drawn steps and rates -/
structure Snd35 (ss rs : List Rat) : Prop where
  len : ss.length = rs.length
  few : ss.length ≤ 4
  ne : ss ≠ []
  s : ∀ s ∈ ss, FracE 3 [1, 1, 2, 3] s
  r : ∀ r ∈ rs, r = 0 ∨ FracE 6 [1, 2, 3] r ∨ FracE 40 [1] r
theorem Snd35.facts {ss rs : List Rat} (h : Snd35 ss rs) {sp k : Rat} (hsp : 0 < sp ∧ sp ≤ ((9 : Int) : Rat) ∧ Sz 60 sp) (hk : Sz 8 k ∧ 0 < k ∧ k < 1) : VecOk sp k ss rs 6 20 ∧ ((∀ s ∈ ss, Sz 4 s) ∧ ∀ r ∈ rs, Sz 6 r) ∧ Sz 7 (sumQ ss) ∧ ∀ l ∈ leadL ss rs, Sz 60 l := by
  have e2 : (((2 ^ 4 : Nat) : Int) : Rat) = 16 := rfl
  have e3 : (((2 ^ 8 : Nat) : Int) : Rat) = 256 := rfl
  have e4 : ((3 : Int) : Rat) = 3 := rfl
  have e5 : ((40 : Int) : Rat) = 40 := rfl
  have e8 : ((6 : Int) : Rat) = 6 := rfl
  have s1 : ∀ s ∈ ss, Sz 4 s ∧ 0 < s := fun s m => (h.s s m).sz (by decide)
  have s2 : ∀ s ∈ ss, On 6 s := fun s m => (h.s s m).on (by decide)
  have s3 : ∀ s ∈ ss, s ≤ ((3 : Int) : Rat) := fun s m => (h.s s m).le (by decide)
  have z0 : On 6 0 := ⟨0, by rw [Rat.zero_mul]; rfl⟩
  have r1 : ∀ r ∈ rs, Sz 6 r ∧ 0 ≤ r := fun r m => by
    rcases h.r r m with e | f | f
    · rw [e]; exact ⟨⟨by decide, by decide⟩, Rat.le_refl⟩
    · exact ⟨(f.sz (by decide)).1, Rat.le_of_lt (f.sz (n := 6) (by decide)).2⟩
    · exact ⟨(f.sz (by decide)).1, Rat.le_of_lt (f.sz (n := 6) (by decide)).2⟩
  have r2 : ∀ r ∈ rs, On 6 r := fun r m => by
    rcases h.r r m with e | f | f
    · rw [e]; exact z0
    · exact f.on (by decide)
    · exact f.on (by decide)
  have r3 : ∀ r ∈ rs, r ≤ ((40 : Int) : Rat) := fun r m => by
    rcases h.r r m with e | f | f
    · rw [e]; exact Rat.intCast_nonneg.mpr (by decide)
    · exact Rat.le_trans (f.le (by decide)) (Rat.intCast_le_intCast.mpr (by decide))
    · exact f.le (by decide)
  have l4 : ((ss.length : Int) : Rat) ≤ ((4 : Int) : Rat) := Rat.intCast_le_intCast.mpr (by have := h.few; omega)
  have l4' : ((rs.length : Int) : Rat) ≤ ((4 : Int) : Rat) := by rw [← h.len]; exact l4
  have e6 : ((4 : Int) : Rat) = 4 := rfl
  have t1 := sumQ_le s3
  have t2 := sumQ_le r3
  have p1 := sumQ_pos h.ne fun s m => (s1 s m).2
  have p2 := sumQ_nn rs fun r m => (r1 r m).2
  have u1 : sumQ ss ≤ (((2 ^ 4 : Nat) : Int) : Rat) := by rw [e2]; rw [e4] at t1; rw [e6] at l4; grind
  have u2 : sumQ rs ≤ (((2 ^ 8 : Nat) : Int) : Rat) := by rw [e3]; rw [e5] at t2; rw [e6] at l4'; grind
  have v1 : Sz 7 (sumQ ss) := (sumQ_on ss s2).sz (Rat.le_of_lt p1) u1 (by decide) (e := 3) (by decide)
  have v2 : Sz 11 (sumQ rs) := (sumQ_on rs r2).sz p2 u2 (by decide) (e := 3) (by decide)
  have fs := h.few
  have e9 : ((9 : Int) : Rat) = 9 := rfl
  have e10 : (((2 ^ 60 : Nat) : Int) : Rat) = 1152921504606846976 := rfl
  have hl : ∀ l ∈ leadL ss rs, Sz 60 l := fun l m => by
    obtain ⟨⟨s, r⟩, hp, rfl⟩ := List.mem_map.mp m
    obtain ⟨ms, mr⟩ := List.of_mem_zip hp
    exact (Sz.sub (r1 r mr).1 (Sz.mul (Sz.div (s1 s ms).1 v1 (Rat.pos_ne p1)) v2)).mono (by decide)
  obtain ⟨q0, q1, q2⟩ := hsp
  obtain ⟨k1, k2, k3⟩ := hk
  refine ⟨⟨⟨h.len, Rat.pos_ne p1, fun s m => (s1 s m).1.mono (by decide), v1.mono (by decide), SumOk.on s2 (fun s m => Rat.le_of_lt (s1 s m).2) u1 (by decide) (e := 3) (by decide) (by decide) (by omega), SumOk.on r2 (fun r m => (r1 r m).2) u2 (by decide) (e := 3) (by decide) (by decide) (by rw [← h.len]; omega)⟩,
    ⟨p1, q0, k2, k3, p2, by rw [e10]; rw [e3] at u2; grind, by rw [e10]; rw [e2] at u1; rw [e9] at q1; grind, sumQ_on rs r2, sumQ_on ss s2, by decide, ?_, q2.mono (by decide), v1.mono (by decide), k1.mono (by decide)⟩, fun s m => ⟨Rat.le_of_lt (s1 s m).2, s2 s m⟩, fun r m => ⟨(r1 r m).2, r2 r m⟩, k1, by decide, fun l m => (hl l m).mono (by decide)⟩, ⟨fun s m => (s1 s m).1, fun r m => (r1 r m).1⟩, v1, hl⟩
  have a2 : k.den ^ 20 ≤ 2 ^ 160 := by
    refine Nat.le_trans (Nat.pow_le_pow_left (Nat.le_of_lt k1.2) 20) ?_
    rw [← Nat.pow_mul]
    exact Nat.pow_le_pow_right (by decide) (by decide)
  have a3 := Nat.mul_le_mul (show 6 ≤ 2 ^ 3 by decide) a2
  have a4 : (2 : Nat) ^ 3 * 2 ^ 160 < 2 ^ 1500 := by
    rw [← Nat.pow_add]
    exact Nat.pow_lt_pow_right (by decide) (by decide)
  exact Nat.lt_of_le_of_lt a3 a4
theorem noDct2 (ss rs : List Rat) : D.noDctAll [.lst (ss.map dq), .lst (rs.map dq)] = true := by
  show (D.noDctAll (ss.map dq) && (D.noDctAll (rs.map dq) && true)) = true
  rw [noDct_dqs, noDct_dqs]
  rfl
section
variable {P : Program} {w : World} {K : PySem.W.Frag} {mg : Str → Option Value} {base : Heap}
abbrev P_saw35 : Pr := setP (fun (_ : Unit) => [dDraw]) (fun _ => True) fun _ z => ∃ sp st k : Rat, z = dSaw sp st k ∧ (0 < sp ∧ sp ≤ ((9 : Int) : Rat) ∧ Sz 60 sp) ∧ (Sz 8 k ∧ 0 < k ∧ k < 1)
theorem c_saw35 {Q : D → Prop} (q : ∀ sp st k : Rat, (0 < sp ∧ sp ≤ ((9 : Int) : Rat) ∧ Sz 60 sp) → (Sz 8 k ∧ 0 < k ∧ k < 1) → Q (dSaw sp st k)) : Cl P_saw35 [dDraw] Q := cl_setP () (fun d ⟨sp, st, k, e, h1, h2⟩ => by rw [e]; exact q sp st k h1 h2) trivial
local macro_rules | `(tactic| walk_at "cl") => `(tactic| first | refine c_fracE [1, 1, 2, 3] (fun _ _ => ?_) (by decide) | refine c_fracE [1, 2, 3, 4] (fun _ _ => ?_) (by decide) | refine c_fracE [1, 2, 3] (fun _ _ => ?_) (by decide) | refine c_fracE [1] (fun _ _ => ?_) (by decide) | refine c_saw35 (fun _ _ _ _ _ => ?_) | fail)
theorem ok_saw35 {f : Addr} {fd : FuncData} (F : Fun K "_law_saw" "_law_saw" s__law_saw f fd) (hm : mg "_law_saw" = some (.ref f)) (hb : Binds K fd (N__law_saw.take 1) [])
    (G2 : FnP P w K mg base "_law_choose" 2 P_choose) (G3 : FnP P w K mg base "_law_frac" 3 P_fracE) : FnP P w K mg base "_law_saw" 4 P_saw35 :=
  fnP_set F sc__law_saw hm hb (fun _ _ => rfl) fun cdv A outer s H E hr nd _ _ => by
    show Go _ H (_ :: _) _ [.dat dDraw, .any, .any]
    walk_at "go"
    intro d hd
    obtain ⟨k, rfl, hk, hk0, hk1⟩ := lits (P := P01) hd (by walk_at "lit")
    clear hd
    walk_at "go"
    intro d hd
    obtain ⟨st, rfl, hst, hst0⟩ := lits (P := Pq 8) hd (by walk_at "lit")
    clear hd
    walk_at "go"
    rename_i sp hsp
    have hz := hsp.sz (n := 60) (by decide)
    exact ⟨⟨hz.2, hsp.le (by decide), hz.1⟩, hk, hk0, hk1⟩
abbrev P_drawn : Pr := setP (fun (_ : Unit) => [dDraw]) (fun _ => True) fun _ z => ∃ ss rs : List Rat, z = .tup [.lst (ss.map dq), .lst (rs.map dq)] ∧ Snd35 ss rs
theorem c_drawn {Q : D → Prop} (q : ∀ ss rs : List Rat, Snd35 ss rs → Q (.tup [.lst (ss.map dq), .lst (rs.map dq)])) : Cl P_drawn [dDraw] Q := cl_setP () (fun d ⟨ss, rs, e, h⟩ => by rw [e]; exact q ss rs h) trivial
theorem ok_drawn {f : Addr} {fd : FuncData} (F : Fun K "_law_drawn" "_law_drawn" s__law_drawn f fd) (hm : mg "_law_drawn" = some (.ref f)) (hb : Binds K fd (N__law_drawn.take 1) []) (m_range : mg "range" = none)
    (G1 : FnP P w K mg base "_law_draw" 1 P_draw) (G2 : FnP P w K mg base "_law_choose" 2 P_choose) (G3 : FnP P w K mg base "_law_frac" 3 P_fracE) : FnP P w K mg base "_law_drawn" 4 P_drawn :=
  fnP_set F sc__law_drawn hm hb (fun _ _ => rfl) fun cdv A outer s H E hr nd _ _ => by
    have o1 : Own "_law_some" := ⟨⟩
    show Go _ H (_ :: _) _ [.dat dDraw, .any, .any, .any, .any, .any]
    walk_at "go"
    rename_i n hn0 hn1
    walk_at "go"
    refine lc1N (fun (i : Nat) => .int i) (List.range (1 + n).toNat) (fun _ d => ∃ q, d = dq q ∧ FracE 3 [1, 1, 2, 3] q) (wj_r0 (wr_1 (by assumption) ?_)) (fun i hi s H C cl fp => ?_) (fun ys hp => ?_) (fun _ d ⟨i, e, _⟩ => by rw [e]; rfl) (by rw [List.length_range]; omega)
    · walk_at "go"
      exact ⟨⟨rfl, rfl⟩, by omega⟩
    · walk_at "go"
      assumption
    obtain ⟨ss, rfl, hss⟩ := dqs_of (P := FracE 3 [1, 1, 2, 3]) (paired_all (P := fun d => ∃ q, d = dq q ∧ FracE 3 [1, 1, 2, 3] q) (fun _ _ h => h) hp)
    have hsl := Paired.length hp
    rw [List.length_range, List.length_map] at hsl
    clear hp
    walk_at "go"
    rename_i pa
    refine s_stJ dq ss (fun rs => [.dat dDraw, .any, .dat (.lst (ss.map dq)), .own pa (rs.map dq), .any, .any]) (fun n rs => rs.length = n ∧ ∀ r ∈ rs, r = 0 ∨ FracE 6 [1, 2, 3] r ∨ FracE 40 [1] r) [] ⟨rfl, fun _ m => nomatch m⟩ (wj_i (wi_dat (by walk_at "look"))) (fun Hb' eb j x rs hx hI => ?_) (fun rs hI => ?_)
    · have hj : j < ss.length := (List.getElem?_eq_some_iff.mp hx).1
      have hl : (rs.map dq).length ≤ 100000 := by rw [List.length_map, hI.1]; omega
      walk_at "go"
      rename_i x1 hx1 x2 hx2
      intro d hd
      have hr : ∃ r, d = dq r ∧ (r = 0 ∨ FracE 6 [1, 2, 3] r ∨ FracE 40 [1] r) := by
        simp only [List.mem_cons, List.not_mem_nil, or_false] at hd
        rcases hd with e | e | e
        · exact ⟨0, e, .inl rfl⟩
        · exact ⟨x1, e, .inr (.inl hx1)⟩
        · exact ⟨x2, e, .inr (.inr hx2)⟩
      obtain ⟨r, rfl, hr⟩ := hr
      clear hd
      have e1 : Ent.own pa (rs.map dq ++ [dq r]) = .own pa ((rs ++ [r]).map dq) := by rw [List.map_append]; rfl
      walk_at "go"
      exact s_btw ⟨rs ++ [r], ⟨by rw [List.length_append, hI.1]; rfl, fun y m => by
        rcases List.mem_append.mp m with m | m
        · exact hI.2 y m
        · rw [List.mem_singleton.mp m]; exact hr⟩, rfl⟩
    · walk_at "go"
      exact ⟨hI.1.symm, by omega, fun e => by rw [e] at hsl; simp at hsl; omega, hss, hI.2⟩
end

section
variable {P : Program} {w : World} {K : PySem.W.Frag} {mg : Str → Option Value} {base : Heap}
theorem c_ratesin {sp k : Rat} {ss rs : List Rat} {E n place : Nat} {m : Int} {d1 d2 : D} {Q : D → Prop} (e1 : d1 = dq sp) (e2 : d2 = dq k) (q : Q (.lst ((nowL sp k ss rs place).map dq))) (h : RateOk sp k ss rs E n place ∧ m = place) : Cl P_ratesin [d1, d2, .lst (ss.map dq), .lst (rs.map dq), .int m] Q := by
  obtain ⟨h1, rfl⟩ := h
  rw [e1, e2]
  exact cl_detP ((sp, k), (ss, rs), place, E, n) q h1
theorem shp_dqs (qs : List Rat) : Shp (.lst (qs.map dq)) := (shpN_lst (shpN_map shpN_dq qs)).shp (by decide)
theorem shp2 {a b : D} (h1 : Shp a) (h2 : Shp b) : (a.ok = true ∧ b.ok = true) ∧ SeqAt.shaped a.py = true ∧ SeqAt.shaped b.py = true := ⟨⟨h1.1, h2.1⟩, h1.2, h2.2⟩
theorem neq_dqs {xs ys : List Rat} (h : xs = ys) : (!(D.lst (xs.map dq)).py.eqv (D.lst (ys.map dq)).py) = false := by rw [h, eqv_same (shp_dqs ys)]; rfl
local macro_rules | `(tactic| walk_at "shp") => `(tactic| first | exact shp2 (shp_dqs _) (shp_dqs _) | fail)
local macro_rules | `(tactic| walk_at "cl") => `(tactic| first | refine c_ratesin (by walk_at "dq") (by walk_at "dq") ?_ (by first | assumption | exact IfB.f (by assumption) (by assumption)) | refine c_saw35 (fun _ _ _ _ _ => ?_) | refine c_drawn (fun _ _ _ => ?_) | fail)
@[irreducible] def ss0 : List Rat := [Rat.divInt 1 3, Rat.divInt 2 3]
@[irreducible] def rs0 (a : Int) : List Rat := [(a : Rat), Rat.divInt 1 2]
theorem ss0_eq : ss0 = [Rat.divInt 1 3, Rat.divInt 2 3] := by unfold ss0; rfl
theorem rs0_eq (a : Int) : rs0 a = [(a : Rat), Rat.divInt 1 2] := by unfold rs0; rfl
theorem vec0 (a : Int) (h0 : 0 ≤ a) (h1 : a < 9) : VecOk ((1 : Int) : Rat) (Rat.divInt 2 3) ss0 (rs0 a) 6 199 := by
  have f1 : Rat.divInt 1 3 = 1 / 3 := Rat.divInt_eq_div 1 3
  have f2 : Rat.divInt 2 3 = 2 / 3 := Rat.divInt_eq_div 2 3
  have f3 : Rat.divInt 1 2 = 1 / 2 := Rat.divInt_eq_div 1 2
  have f4 : ((1 : Int) : Rat) = 1 := rfl
  have f5 : (((2 ^ 60 : Nat) : Int) : Rat) = 1152921504606846976 := rfl
  have f6 : (((6 : Nat) : Int) : Rat) = 6 := rfl
  have f7 : ((9 : Int) : Rat) = 9 := rfl
  have a0 : (0 : Rat) ≤ (a : Rat) := Rat.intCast_nonneg.mpr h0
  have a1 : (a : Rat) ≤ ((9 : Int) : Rat) := Rat.intCast_le_intCast.mpr (by omega)
  have hs : sumQ ss0 = 1 := by rw [ss0_eq, sumQ_cons, sumQ_cons, sumQ_nil, f1, f2]; grind
  have hr : sumQ (rs0 a) = (a : Rat) + Rat.divInt 1 2 := by rw [rs0_eq, sumQ_cons, sumQ_cons, sumQ_nil]; grind
  have z1 : ∀ s ∈ ss0, Sz 4 s := fun s m => by
    rw [ss0_eq] at m
    simp only [List.mem_cons, List.not_mem_nil, or_false] at m
    rcases m with rfl | rfl <;> exact sz_divInt (by decide) (by decide) (by decide)
  have z2 : ∀ r ∈ rs0 a, Sz 4 r := fun r m => by
    rw [rs0_eq] at m
    simp only [List.mem_cons, List.not_mem_nil, or_false] at m
    rcases m with rfl | rfl
    · exact sz_int (by omega) (by decide)
    · exact sz_divInt (by decide) (by decide) (by decide)
  have o1 : ∀ s ∈ ss0, 0 ≤ s ∧ On 6 s := fun s m => by
    rw [ss0_eq] at m
    simp only [List.mem_cons, List.not_mem_nil, or_false] at m
    rcases m with rfl | rfl
    · exact ⟨Rat.le_of_lt (divInt_pos' (by decide) (by decide)), 2, by rw [f6, f1]; show (1 / 3 : Rat) * 6 = 2; grind⟩
    · exact ⟨Rat.le_of_lt (divInt_pos' (by decide) (by decide)), 4, by rw [f6, f2]; show (2 / 3 : Rat) * 6 = 4; grind⟩
  have o2 : ∀ r ∈ rs0 a, 0 ≤ r ∧ On 6 r := fun r m => by
    rw [rs0_eq] at m
    simp only [List.mem_cons, List.not_mem_nil, or_false] at m
    rcases m with rfl | rfl
    · exact ⟨a0, a * 6, by rw [f6, Rat.intCast_mul]; rfl⟩
    · exact ⟨Rat.le_of_lt (divInt_pos' (by decide) (by decide)), 3, by rw [f6, f3]; show (1 / 2 : Rat) * 6 = 3; grind⟩
  have hz : Sz 4 (sumQ ss0) := by rw [hs]; exact ⟨by decide, by decide⟩
  have l1 : ss0.length = 2 := by rw [ss0_eq]; rfl
  have l2 : (rs0 a).length = 2 := by rw [rs0_eq]; rfl
  refine ⟨⟨l1.trans l2.symm, by rw [hs]; decide, fun s m => (z1 s m).mono (by decide), hz.mono (by decide), SumOk.naive z1 (by rw [l1]; decide) (by rw [l1]; decide) (by decide), SumOk.naive z2 (by rw [l2]; decide) (by rw [l2]; decide) (by decide)⟩,
    ⟨by rw [hs]; decide, by rw [f4]; decide, divInt_pos' (by decide) (by decide), by rw [f2]; grind, sumQ_nn _ fun r m => (o2 r m).1, by rw [hr, f5, f3]; rw [f7] at a1; grind, by rw [hs, f5, f4]; grind, sumQ_on _ fun r m => (o2 r m).2, sumQ_on _ fun r m => (o1 r m).2, by decide, ?_, sz_int (by decide) (by decide), hz.mono (by decide), sz_divInt (by decide) (by decide) (by decide)⟩, o1, o2, sz_divInt (by decide) (by decide) (by decide), by decide, fun l m => ?_⟩
  · have e : (Rat.divInt 2 3).den = 3 := by decide +kernel
    rw [e]
    decide +kernel
  · obtain ⟨⟨s, r⟩, hp, rfl⟩ := List.mem_map.mp m
    obtain ⟨ms, mr⟩ := List.of_mem_zip hp
    exact (Sz.sub (z2 r mr) (Sz.mul (Sz.div (z1 s ms) hz (by rw [hs]; decide)) (sumQ_sz _ z2))).mono (by rw [l2]; decide)
theorem cnt0 (a : Int) (h0 : 0 ≤ a) (h1 : a < 9) : decide (60 < ((cntAt ((1 : Int) : Rat) (sumQ ss0) (Rat.divInt 2 3) 199 (sumQ (rs0 a)) : Nat) : Int)) = true := by
  have h : a = 0 ∨ a = 1 ∨ a = 2 ∨ a = 3 ∨ a = 4 ∨ a = 5 ∨ a = 6 ∨ a = 7 ∨ a = 8 := by omega
  rcases h with rfl | rfl | rfl | rfl | rfl | rfl | rfl | rfl | rfl <;> decide +kernel
abbrev P_longer : Pr := detP (fun (a : Int) => [.int a]) (fun a => 0 ≤ a ∧ a < 9) fun _ => .bl true
theorem c_longer {a : Int} {Q : D → Prop} (q : Q (.bl true)) (h : 0 ≤ a ∧ a < 9) : Cl P_longer [.int a] Q := cl_detP a q h
theorem ok_longer {f : Addr} {fd : FuncData} (F : Fun K "_law_longer_right" "_law_longer_right" s__law_longer_right f fd) (hm : mg "_law_longer_right" = some (.ref f)) (hb : Binds K fd (N__law_longer_right.take 1) []) (m_range : mg "range" = none) (m_list : mg "list" = none) (m_zip : mg "zip" = none)
    (G1 : FnP P w K mg base "rates_in" 7 P_ratesin) (G2 : FnP P w K mg base "_law_less" 1 (det R_less)) (G3 : FnP P w K mg base "_law_all" 3 P_total) (G4 : FnP P w K mg base "_law_times" 2 (det (R_qq (· * ·)))) (G5 : FnP P w K mg base "_law_plus" 2 (det (R_qq (· + ·)))) : FnP P w K mg base "_law_longer_right" 8 P_longer :=
  fnP_det F sc__law_longer_right hm hb (fun _ _ => rfl) fun cdv A outer s H E hr nd a ⟨h0, h1⟩ => by
    have hv := vec0 a h0 h1
    have hlen := hv.send.len
    have hne := hv.send.ne
    have eS : D.lst [.tup [.int 1, .int 3], .tup [.int 2, .int 3]] = .lst (ss0.map dq) := by rw [ss0_eq, lit_num (by decide) (by decide), lit_num (by decide) (by decide)]; rfl
    have eR : D.lst [.tup [.int a, .int 1], .tup [.int 1, .int 2]] = .lst ((rs0 a).map dq) := by rw [rs0_eq, dq_int', lit_num (by decide) (by decide)]; rfl
    have eK : D.tup [.int 2, .int 3] = dq (Rat.divInt 2 3) := lit_num (by decide) (by decide)
    have n0 := now_zero (sp := ((1 : Int) : Rat)) (k := Rat.divInt 2 3) hlen
    have ns := fun i => now_succ (sp := ((1 : Int) : Rat)) (k := Rat.divInt 2 3) hlen hne i
    have sm := fun i => now_sum (sp := ((1 : Int) : Rat)) (k := Rat.divInt 2 3) hlen hne i
    have ln := fun i => now_len (sp := ((1 : Int) : Rat)) (k := Rat.divInt 2 3) hlen i
    have ct := fun i => cnt_succ ((1 : Int) : Rat) (sumQ ss0) (Rat.divInt 2 3) i (sumQ (rs0 a))
    have c0 : IfB true (decide (60 < ((cntAt ((1 : Int) : Rat) (sumQ ss0) (Rat.divInt 2 3) 199 (sumQ (rs0 a)) : Nat) : Int)) = true) := ⟨fun _ => cnt0 a h0 h1⟩
    have hz1 : ∀ s ∈ ss0, Sz 60 s := hv.send.s1
    obtain ⟨ss, hss⟩ : ∃ ss, ss0 = ss := ⟨_, rfl⟩
    obtain ⟨rs, hrs⟩ : ∃ rs, rs0 a = rs := ⟨_, rfl⟩
    rw [hss] at hv hlen hne eS n0 ns sm ln ct c0 hz1
    rw [hrs] at hv hlen eR n0 ns sm ln ct c0
    clear hss hrs
    have e0 : Ent.dat (.lst [.tup [.int a, .int 1], .tup [.int 1, .int 2]]) = .dat (.lst ((nowL ((1 : Int) : Rat) (Rat.divInt 2 3) ss rs 0).map dq)) := by rw [n0, eR]
    have e1 : Ent.dat (.lst [.tup [.int 1, .int 3], .tup [.int 2, .int 3]]) = .dat (.lst (ss.map dq)) := by rw [eS]
    have e2 : Ent.dat (.lst [.tup [.int a, .int 1], .tup [.int 1, .int 2]]) = .dat (.lst (rs.map dq)) := by rw [eR]
    have e3 : Ent.dat (.int 0) = .dat (.int (cntAt ((1 : Int) : Rat) (sumQ ss) (Rat.divInt 2 3) 0 (sumQ rs) : Nat)) := rfl
    show Go _ H (_ :: _) _ [.dat (.int a), .any, .any, .any, .any, .any, .any, .any]
    walk_at "go"
    refine s_forG 0 199 (fun i => [.any, .dat (.lst (ss.map dq)), .dat (.lst ((nowL ((1 : Int) : Rat) (Rat.divInt 2 3) ss rs i).map dq)), .dat (.int (cntAt ((1 : Int) : Rat) (sumQ ss) (Rat.divInt 2 3) i (sumQ rs) : Nat)), .dat (.lst (rs.map dq)), .any, .any, .any]) (wr_1 (by assumption) (by walk_at "go"; exact ⟨⟨rfl, rfl⟩, by omega⟩)) (fun i hi => ?_) ?_
    · have hcn : cntAt ((1 : Int) : Rat) (sumQ ss) (Rat.divInt 2 3) i (sumQ rs) ≤ 199 := Nat.le_trans (cnt_le i _) (by omega)
      obtain ⟨hsum, hnz, hwz⟩ := hv.sum hcn
      have hrt : RateOk ((1 : Int) : Rat) (Rat.divInt 2 3) ss rs 6 199 i ∧ (0 : Int) + (i : Int) = i := ⟨hv.rate hcn, Int.zero_add _⟩
      have hsz := hsum.tot
      have hfl := hv.send.ro.few
      have l1 := ln i
      have hkz : Sz 8 (Rat.divInt 2 3) := hv.kz
      refine s_ifF (by walk_at "go") (by rw [neq_dqs rfl, Bool.and_false]) ?_
      refine s_join ?_
      walk_at "go"
      refine s_if (by walk_at "go") (fun hk => ?_) (fun hk => ?_)
      · have hlt := of_decide_eq_true hk
        rw [sm] at hlt
        walk_at "go"
        refine lc1 dq (nowL ((1 : Int) : Rat) (Rat.divInt 2 3) ss rs i) (fun x => dq (Rat.divInt 2 3 * x)) (wj_i (wi_dat (by walk_at "look"))) (fun x hx s H C cl fp => ?_) ?_ (by omega)
        · have hz2 := hnz x hx
          walk_at "go"
        · have e4 : Ent.dat (.lst ((nowL ((1 : Int) : Rat) (Rat.divInt 2 3) ss rs i).map fun x => dq (Rat.divInt 2 3 * x))) = .dat (.lst ((nowL ((1 : Int) : Rat) (Rat.divInt 2 3) ss rs (i + 1)).map dq)) := by
            rw [ns i, if_pos hlt, List.map_map]
            rfl
          have e5 : Ent.dat (.int ((cntAt ((1 : Int) : Rat) (sumQ ss) (Rat.divInt 2 3) i (sumQ rs) : Nat) + 1)) = .dat (.int (cntAt ((1 : Int) : Rat) (sumQ ss) (Rat.divInt 2 3) (i + 1) (sumQ rs) : Nat)) := by
            rw [ct i, if_pos hlt]
            rfl
          walk_at "go"
      · have hlt := of_decide_eq_false hk
        rw [sm] at hlt
        walk_at "go"
        refine lc2 (fun p : Rat × Rat => dq p.1) (fun p => dq p.2) ((nowL ((1 : Int) : Rat) (Rat.divInt 2 3) ss rs i).zip ss) (fun p => dq (p.1 + p.2)) (wj_zip (f := dq) (g := dq) (by assumption) (wi_dat (by walk_at "look")) (wi_dat (by walk_at "look"))) (fun p hp s H C cl fp => ?_) ?_ (by rw [List.length_zip]; omega)
        · have hz2 := hnz _ (List.of_mem_zip hp).1
          have hz3 := hz1 _ (List.of_mem_zip hp).2
          walk_at "go"
        · have e4 : Ent.dat (.lst (((nowL ((1 : Int) : Rat) (Rat.divInt 2 3) ss rs i).zip ss).map fun p => dq (p.1 + p.2))) = .dat (.lst ((nowL ((1 : Int) : Rat) (Rat.divInt 2 3) ss rs (i + 1)).map dq)) := by
            rw [ns i, if_neg hlt, List.map_map]
            rfl
          have e5 : Ent.dat (.int (cntAt ((1 : Int) : Rat) (sumQ ss) (Rat.divInt 2 3) i (sumQ rs) : Nat)) = .dat (.int (cntAt ((1 : Int) : Rat) (sumQ ss) (Rat.divInt 2 3) (i + 1) (sumQ rs) : Nat)) := by
            rw [ct i, if_neg hlt]
            rfl
          walk_at "go"
    · walk_at "go"
      exact congrArg D.bl (c0.f rfl)
end

section
variable {P : Program} {w : World} {K : PySem.W.Frag} {mg : Str → Option Value} {base : Heap}
local macro_rules | `(tactic| walk_at "shp") => `(tactic| first | exact shp2 (shp_dqs _) (shp_dqs _) | fail)
local macro_rules | `(tactic| walk_at "cl") => `(tactic| first | refine c_ratesin (by walk_at "dq") (by walk_at "dq") ?_ (by first | assumption | exact IfB.f (by assumption) (by assumption)) | refine c_saw35 (fun _ _ _ _ _ => ?_) | refine c_longer ?_ (by constructor <;> omega) | fail)
theorem ok_law {f : Addr} {fd : FuncData} (F : Fun K "law" "law" s_law f fd) (m_range : mg "range" = none) (m_max : mg "max" = none) (m_min : mg "min" = none) (m_len : mg "len" = none) (m_zip : mg "zip" = none) (m_repr : mg "repr" = none) (m_list : mg "list" = none)
    (G1 : FnP P w K mg base "_law_stream" 1 P_stream) (G2 : FnP P w K mg base "_law_saw" 4 P_saw35) (G3 : FnP P w K mg base "_law_draw" 1 P_draw) (G4 : FnP P w K mg base "_law_drawn" 4 P_drawn) (G5 : FnP P w K mg base "_law_leads" 4 P_leads) (G6 : FnP P w K mg base "_law_all" 3 P_total)
    (G7 : FnP P w K mg base "rates_in" 7 P_ratesin) (G8 : FnP P w K mg base "_law_times" 2 (det (R_qq (· * ·)))) (G9 : FnP P w K mg base "_law_less" 1 (det R_less)) (Ga : FnP P w K mg base "leads" 6 P_leads) (Gb : FnP P w K mg base "_law_plus" 2 (det (R_qq (· + ·)))) (Gc : FnP P w K mg base "_law_longer_right" 8 P_longer) : FnG P w K mg base 9 f fd ["_law_script"] (spLaw K) := by
  refine fnG_law (N := N_law) F sc_law fun cdv A outer s H hg hr ns hl hb => ?_
  have nd := sc_law.nd
  show Go _ H (_ :: _) _ [.dat (.lst (ns.map .int)), .any, .any, .any, .any, .any, .any, .any, .any, .any, .any, .any, .any, .any, .any, .any, .any, .any]
  walk_at "range"
  · rename_i i hi
    walk_at "go"
    walk_at "range"
    · clear hi
      rename_i j hj
      walk_at "go"
      rename_i sp st k hsp hk
      refine c_drawn (fun ss rs hsr => ?_)
      obtain ⟨hv, ⟨hsz, hrz⟩, hzs, hlz⟩ := hsr.facts hsp hk
      have hlen := hv.send.len
      have hne := hv.send.ne
      have hfew := hsr.few
      have hso := hv.send
      have hsq := hsp.2.2
      have hkz := hk.1
      have sh1 : Sh 40 10000000 (.tup [.lst (ss.map dq), .lst (rs.map dq)]) := by
        refine Sh.mono (sh_tup (n := 2) (c := 10002 * 4 + 3) (fun d m => ?_) (.inl (noDct2 ss rs))) (by decide) (by show (10002 * 4 + 3 + 2) * 2 + 3 ≤ 10000000; decide)
        simp only [List.mem_cons, List.not_mem_nil, or_false] at m
        rcases m with rfl | rfl
        · exact Sh.mono (sh_dqs hsz (by decide) (by decide)) (Nat.le_refl _) (by omega)
        · exact Sh.mono (sh_dqs hrz (by decide) (by decide)) (Nat.le_refl _) (by omega)
      have c0 : Ent.dat (.lst (rs.map dq)) = .dat (.lst ((nowL sp k ss rs 0).map dq)) := by rw [now_zero hlen]
      have c1 : Ent.dat (.tup [.int 1, .int 1]) = .dat (dq (k ^ cntAt sp (sumQ ss) k 0 (sumQ rs))) := by
        show _ = Ent.dat (dq (k ^ 0))
        rw [Rat.pow_zero]
        rfl
      have hll := leadL_len hlen
      walk_at "go"
      refine s_forG 0 20 (fun i' => [.dat (.lst (ns.map .int)), .dat (.int i), .dat dDraw, .dat (.int j), .dat (dSaw sp st k), .dat (.lst (ss.map dq)), .dat (.lst (rs.map dq)), .dat (.str (reprD (.tup [.lst (ss.map dq), .lst (rs.map dq)]))), .dat (.lst ((leadL ss rs).map dq)), .dat (dq (k ^ cntAt sp (sumQ ss) k i' (sumQ rs))), .dat (.lst ((nowL sp k ss rs i').map dq)), .any, .any, .any, .any, .any, .any, .any]) (wr_1 (by assumption) (by walk_at "go"; exact ⟨⟨rfl, rfl⟩, by omega⟩)) (fun i' hi' => ?_) ?_
      · clear c0 c1
        have hcn : cntAt sp (sumQ ss) k i' (sumQ rs) ≤ 20 := Nat.le_trans (cnt_le i' _) (by omega)
        obtain ⟨hsum, hnz, hwz⟩ := hv.sum hcn
        have hrt : RateOk sp k ss rs 6 20 i' ∧ (0 : Int) + (i' : Int) = i' := ⟨hv.rate hcn, Int.zero_add _⟩
        have hsn := hv.sendn hcn
        have hst := hsum.tot
        have l1 := now_len (sp := sp) (k := k) hlen i'
        have sm := now_sum (sp := sp) (k := k) hlen hne i'
        have nsu : IfB true (nowL sp k ss rs (i' + 1) = if sp < walkAt sp (sumQ ss) k i' (sumQ rs) then (nowL sp k ss rs i').map (fun x => k * x) else ((nowL sp k ss rs i').zip ss).map fun p => p.1 + p.2) := ⟨fun _ => now_succ hlen hne i'⟩
        have csu : IfB true (cntAt sp (sumQ ss) k (i' + 1) (sumQ rs) = cntAt sp (sumQ ss) k i' (sumQ rs) + if sp < walkAt sp (sumQ ss) k i' (sumQ rs) then 1 else 0) := ⟨fun _ => cnt_succ sp (sumQ ss) k i' (sumQ rs)⟩
        have lead : IfB true (leadL ss (nowL sp k ss rs i') = (leadL ss rs).map fun l => l * k ^ cntAt sp (sumQ ss) k i' (sumQ rs)) := ⟨fun _ => now_lead hlen hne i'⟩
        have hF : Sz 161 (k ^ cntAt sp (sumQ ss) k i' (sumQ rs)) := (hkz.pow _).mono (by omega)
        have sh2 : Sh 40 10000000 (.lst ((nowL sp k ss rs i').map dq)) := Sh.mono (sh_dqs hnz (by decide) (by decide)) (by decide) (by omega)
        have o1 : Own "_law_told" := ⟨⟩
        have o2 : Own "_law_found" := ⟨⟩
        have l2 : ((nowL sp k ss rs i').map dq).length ≤ 100000 := by rw [List.length_map]; omega
        have l3 := leadL_len hsn.len
        have l4 : ((leadL ss (nowL sp k ss rs i')).map dq).length ≤ 100000 := by rw [List.length_map]; omega
        walk_at "go"
        refine s_ifF (by walk_at "go") (by simp) ?_
        refine s_join ?_
        walk_at "go"
        refine s_forG 0 2 (fun _ => [.dat (.lst (ns.map .int)), .dat (.int i), .dat dDraw, .dat (.int j), .dat (dSaw sp st k), .dat (.lst (ss.map dq)), .dat (.lst (rs.map dq)), .dat (.str (reprD (.tup [.lst (ss.map dq), .lst (rs.map dq)]))), .dat (.lst ((leadL ss rs).map dq)), .dat (dq (k ^ cntAt sp (sumQ ss) k i' (sumQ rs))), .dat (.lst ((nowL sp k ss rs i').map dq)), .any, .any, .any, .any, .any, .any, .any]) (wr_1 (by assumption) (by walk_at "go"; exact ⟨⟨rfl, rfl⟩, by omega⟩)) (fun look hlook => ?_) ?_
        · walk_at "go"
          refine s_ifF (k := false || false) (EvW.t (evw_orD (k := false) (k' := false) ?_ fun _ => evw_or1 ?_)) rfl ?_
          · walk_at "go"
            refine lc1 dq (leadL ss rs) (fun l => dq (l * k ^ cntAt sp (sumQ ss) k i' (sumQ rs))) (wj_i (wi_dat (by walk_at "look"))) (fun l hl s H C cl fp => ?_) ?_ (by omega)
            · have hz2 := hlz l hl
              walk_at "go"
            · rw [show (leadL ss rs).map (fun l => dq (l * k ^ cntAt sp (sumQ ss) k i' (sumQ rs))) = ((leadL ss rs).map fun l => l * k ^ cntAt sp (sumQ ss) k i' (sumQ rs)).map dq from by rw [List.map_map]; rfl]
              walk_at "go"
              exact neq_dqs (lead.f rfl)
          · walk_at "go"
            exact neq_dqs rfl
          refine s_join ?_
          walk_at "go"
        · walk_at "go"
          clear o1 o2
          refine s_if (by walk_at "go") (fun hk => ?_) (fun hk => ?_)
          · have hlt := of_decide_eq_true hk
            rw [sm] at hlt
            walk_at "go"
            refine lc1 dq (nowL sp k ss rs i') (fun x => dq (k * x)) (wj_i (wi_dat (by walk_at "look"))) (fun x hx s H C cl fp => ?_) ?_ (by omega)
            · have hz2 := hnz x hx
              walk_at "go"
            · have e4 : Ent.dat (.lst ((nowL sp k ss rs i').map fun x => dq (k * x))) = .dat (.lst ((nowL sp k ss rs (i' + 1)).map dq)) := by
                rw [nsu.f rfl, if_pos hlt, List.map_map]
                rfl
              have e5 : Ent.dat (dq (k ^ cntAt sp (sumQ ss) k i' (sumQ rs) * k)) = .dat (dq (k ^ cntAt sp (sumQ ss) k (i' + 1) (sumQ rs))) := by
                rw [csu.f rfl, if_pos hlt, Rat.pow_succ]
              walk_at "go"
          · have hlt := of_decide_eq_false hk
            rw [sm] at hlt
            walk_at "go"
            refine lc2 (fun p : Rat × Rat => dq p.1) (fun p => dq p.2) ((nowL sp k ss rs i').zip ss) (fun p => dq (p.1 + p.2)) (wj_zip (f := dq) (g := dq) (by assumption) (wi_dat (by walk_at "look")) (wi_dat (by walk_at "look"))) (fun p hp s H C cl fp => ?_) ?_ (by rw [List.length_zip]; omega)
            · have hz2 := hnz _ (List.of_mem_zip hp).1
              have hz3 := hsz _ (List.of_mem_zip hp).2
              walk_at "go"
            · have e4 : Ent.dat (.lst (((nowL sp k ss rs i').zip ss).map fun p => dq (p.1 + p.2))) = .dat (.lst ((nowL sp k ss rs (i' + 1)).map dq)) := by
                rw [nsu.f rfl, if_neg hlt, List.map_map]
                rfl
              have e5 : Ent.dat (dq (k ^ cntAt sp (sumQ ss) k i' (sumQ rs))) = .dat (dq (k ^ cntAt sp (sumQ ss) k (i' + 1) (sumQ rs))) := by
                rw [csu.f rfl, if_neg hlt, Nat.add_zero]
              walk_at "go"
      · walk_at "go"
        refine s_ifF (by walk_at "go") (by simp) ?_
        refine s_join ?_
        walk_at "go"
    · walk_at "go"
  · walk_at "go"
    refine s_ifF (k := !true) (by walk_at "go") rfl ?_
    refine s_join ?_
    walk_at "go"
    have e1 : [D.tup [.int 1, .int 1]] = [((1 : Int) : Rat)].map dq := by
      rw [dq_int']
      rfl
    have e2 : [D.tup [.int 7, .int 2]] = [Rat.divInt 7 2].map dq := by
      rw [lit_num (by decide) (by decide)]
      rfl
    have f1 : sumQ [((1 : Int) : Rat)] = 1 := by rw [sumQ_cons, sumQ_nil]; show (1 : Rat) + 0 = 1; grind
    have z1 : ∀ s ∈ [((1 : Int) : Rat)], Sz 4 s := fun s m => by
      rw [List.mem_singleton.mp m]; exact ⟨by decide, by decide⟩
    have z2 : ∀ s ∈ [Rat.divInt 7 2], Sz 4 s := fun s m => by
      rw [List.mem_singleton.mp m]; exact sz_divInt (by decide) (by decide) (by decide)
    have hs : SendOk [((1 : Int) : Rat)] [Rat.divInt 7 2] := ⟨rfl, by rw [f1]; decide, fun s m => (z1 s m).mono (by decide), by rw [f1]; exact ⟨Nat.one_lt_two_pow (by decide), Nat.one_lt_two_pow (by decide)⟩, SumOk.naive z1 (by decide) (by decide) (by decide), SumOk.naive z2 (by decide) (by decide) (by decide)⟩
    have hv : leadL [((1 : Int) : Rat)] [Rat.divInt 7 2] = [0] := by decide +kernel
    rw [e1, e2]
    refine c_leads ?_ hs
    rw [hv]
    walk_at "go"
    rfl
end

theorem all_mk {l : PySem.W.OpenLaw} {w : World} {K : PySem.W.Frag} {h : Heap} {mg : Str → Option Value} {fa f0 f1 f2 f3 f4 f5 f6 f7 f8 f9 f10 f11 f12 f13 f14 f15 f16 f17 f18 f19 f20 f21 f22 f23 f24 f25 f26 f27 f28 f29 f30 f31 : Addr} (X : K.In h) (G : h.Ns mainGlobals mg) (hfa : mg "law" = some (.ref fa))
    {od0 an0 od1 an1 od2 an2 od3 an3 od4 an4 od5 an5 od6 an6 od7 an7 od8 an8 od9 an9 od10 an10 od11 an11 od12 an12 od13 an13 od14 an14 od15 an15 od16 an16 od17 an17 od18 an18 od19 an19 od20 an20 od21 an21 od22 an22 od23 an23 od24 an24 od25 an25 od26 an26 od27 an27 od28 an28 od29 an29 od30 an30 od31 an31 : Option Addr} {sl0 sl1 sl2 sl3 sl4 sl5 sl6 sl7 sl8 sl9 sl10 sl11 sl12 sl13 sl14 sl15 sl16 sl17 sl18 sl19 sl20 sl21 sl22 sl23 sl24 sl25 sl26 sl27 sl28 sl29 sl30 sl31 : Array (Option Value)} {oc0 kV0 dc0 pm0 cd0 ct0 oc1 kV1 dc1 pm1 cd1 ct1 oc2 kV2 dc2 pm2 cd2 ct2 oc3 kV3 dc3 pm3 cd3 ct3 oc4 kV4 dc4 pm4 cd4 ct4 oc5 kV5 dc5 pm5 cd5 ct5 oc6 kV6 dc6 pm6 cd6 ct6 oc7 kV7 dc7 pm7 cd7 ct7 oc8 kV8 dc8 pm8 cd8 ct8 oc9 kV9 dc9 pm9 cd9 ct9 oc10 kV10 dc10 pm10 cd10 ct10 oc11 kV11 dc11 pm11 cd11 ct11 oc12 kV12 dc12 pm12 cd12 ct12 oc13 kV13 dc13 pm13 cd13 ct13 oc14 kV14 dc14 pm14 cd14 ct14 oc15 kV15 dc15 pm15 cd15 ct15 oc16 kV16 dc16 pm16 cd16 ct16 oc17 kV17 dc17 pm17 cd17 ct17 oc18 kV18 dc18 pm18 cd18 ct18 oc19 kV19 dc19 pm19 cd19 ct19 oc20 kV20 dc20 pm20 cd20 ct20 oc21 kV21 dc21 pm21 cd21 ct21 oc22 kV22 dc22 pm22 cd22 ct22 oc23 kV23 dc23 pm23 cd23 ct23 oc24 kV24 dc24 pm24 cd24 ct24 oc25 kV25 dc25 pm25 cd25 ct25 oc26 kV26 dc26 pm26 cd26 ct26 oc27 kV27 dc27 pm27 cd27 ct27 oc28 kV28 dc28 pm28 cd28 ct28 oc29 kV29 dc29 pm29 cd29 ct29 oc30 kV30 dc30 pm30 cd30 ct30 oc31 kV31 dc31 pm31 cd31 ct31 : Value}
    (a0 : PySem.W.nsIn K mainGlobals "divisor" = some (some (.ref f0))) (l0 : K.lookup f0 = some ⟨oc0, od0, .func (PySem.W.fnOf "divisor" "divisor" (defArgs s_divisor) (defBody s_divisor) (defScope s_divisor) .none kV0 dc0 pm0 an0 cd0 ct0), sl0⟩) (c0 : PySem.W.codeIn K cd0 "divisor" = true) (k0 : PySem.W.keepIn K (.ref f0) = true)
    (a1 : PySem.W.nsIn K mainGlobals "reduced" = some (some (.ref f1))) (l1 : K.lookup f1 = some ⟨oc1, od1, .func (PySem.W.fnOf "reduced" "reduced" (defArgs s_reduced) (defBody s_reduced) (defScope s_reduced) .none kV1 dc1 pm1 an1 cd1 ct1), sl1⟩) (c1 : PySem.W.codeIn K cd1 "reduced" = true) (k1 : PySem.W.keepIn K (.ref f1) = true)
    (a2 : PySem.W.nsIn K mainGlobals "plus" = some (some (.ref f2))) (l2 : K.lookup f2 = some ⟨oc2, od2, .func (PySem.W.fnOf "plus" "plus" (defArgs s_plus) (defBody s_plus) (defScope s_plus) .none kV2 dc2 pm2 an2 cd2 ct2), sl2⟩) (c2 : PySem.W.codeIn K cd2 "plus" = true) (k2 : PySem.W.keepIn K (.ref f2) = true)
    (a3 : PySem.W.nsIn K mainGlobals "minus" = some (some (.ref f3))) (l3 : K.lookup f3 = some ⟨oc3, od3, .func (PySem.W.fnOf "minus" "minus" (defArgs s_minus) (defBody s_minus) (defScope s_minus) .none kV3 dc3 pm3 an3 cd3 ct3), sl3⟩) (c3 : PySem.W.codeIn K cd3 "minus" = true) (k3 : PySem.W.keepIn K (.ref f3) = true)
    (a4 : PySem.W.nsIn K mainGlobals "times" = some (some (.ref f4))) (l4 : K.lookup f4 = some ⟨oc4, od4, .func (PySem.W.fnOf "times" "times" (defArgs s_times) (defBody s_times) (defScope s_times) .none kV4 dc4 pm4 an4 cd4 ct4), sl4⟩) (c4 : PySem.W.codeIn K cd4 "times" = true) (k4 : PySem.W.keepIn K (.ref f4) = true)
    (a5 : PySem.W.nsIn K mainGlobals "divided" = some (some (.ref f5))) (l5 : K.lookup f5 = some ⟨oc5, od5, .func (PySem.W.fnOf "divided" "divided" (defArgs s_divided) (defBody s_divided) (defScope s_divided) .none kV5 dc5 pm5 an5 cd5 ct5), sl5⟩) (c5 : PySem.W.codeIn K cd5 "divided" = true) (k5 : PySem.W.keepIn K (.ref f5) = true)
    (a6 : PySem.W.nsIn K mainGlobals "is_less" = some (some (.ref f6))) (l6 : K.lookup f6 = some ⟨oc6, od6, .func (PySem.W.fnOf "is_less" "is_less" (defArgs s_is_less) (defBody s_is_less) (defScope s_is_less) .none kV6 dc6 pm6 an6 cd6 ct6), sl6⟩) (c6 : PySem.W.codeIn K cd6 "is_less" = true) (k6 : PySem.W.keepIn K (.ref f6) = true)
    (a7 : PySem.W.nsIn K mainGlobals "floor" = some (some (.ref f7))) (l7 : K.lookup f7 = some ⟨oc7, od7, .func (PySem.W.fnOf "floor" "floor" (defArgs s_floor) (defBody s_floor) (defScope s_floor) .none kV7 dc7 pm7 an7 cd7 ct7), sl7⟩) (c7 : PySem.W.codeIn K cd7 "floor" = true) (k7 : PySem.W.keepIn K (.ref f7) = true)
    (a8 : PySem.W.nsIn K mainGlobals "total" = some (some (.ref f8))) (l8 : K.lookup f8 = some ⟨oc8, od8, .func (PySem.W.fnOf "total" "total" (defArgs s_total) (defBody s_total) (defScope s_total) .none kV8 dc8 pm8 an8 cd8 ct8), sl8⟩) (c8 : PySem.W.codeIn K cd8 "total" = true) (k8 : PySem.W.keepIn K (.ref f8) = true)
    (a9 : PySem.W.nsIn K mainGlobals "power" = some (some (.ref f9))) (l9 : K.lookup f9 = some ⟨oc9, od9, .func (PySem.W.fnOf "power" "power" (defArgs s_power) (defBody s_power) (defScope s_power) .none kV9 dc9 pm9 an9 cd9 ct9), sl9⟩) (c9 : PySem.W.codeIn K cd9 "power" = true) (k9 : PySem.W.keepIn K (.ref f9) = true)
    (a10 : PySem.W.nsIn K mainGlobals "rounds_to_loss" = some (some (.ref f10))) (l10 : K.lookup f10 = some ⟨oc10, od10, .func (PySem.W.fnOf "rounds_to_loss" "rounds_to_loss" (defArgs s_rounds_to_loss) (defBody s_rounds_to_loss) (defScope s_rounds_to_loss) .none kV10 dc10 pm10 an10 cd10 ct10), sl10⟩) (c10 : PySem.W.codeIn K cd10 "rounds_to_loss" = true) (k10 : PySem.W.keepIn K (.ref f10) = true)
    (a11 : PySem.W.nsIn K mainGlobals "after" = some (some (.ref f11))) (l11 : K.lookup f11 = some ⟨oc11, od11, .func (PySem.W.fnOf "after" "after" (defArgs s_after) (defBody s_after) (defScope s_after) .none kV11 dc11 pm11 an11 cd11 ct11), sl11⟩) (c11 : PySem.W.codeIn K cd11 "after" = true) (k11 : PySem.W.keepIn K (.ref f11) = true)
    (a12 : PySem.W.nsIn K mainGlobals "reached" = some (some (.ref f12))) (l12 : K.lookup f12 = some ⟨oc12, od12, .func (PySem.W.fnOf "reached" "reached" (defArgs s_reached) (defBody s_reached) (defScope s_reached) .none kV12 dc12 pm12 an12 cd12 ct12), sl12⟩) (c12 : PySem.W.codeIn K cd12 "reached" = true) (k12 : PySem.W.keepIn K (.ref f12) = true)
    (a13 : PySem.W.nsIn K mainGlobals "part_of" = some (some (.ref f13))) (l13 : K.lookup f13 = some ⟨oc13, od13, .func (PySem.W.fnOf "part_of" "part_of" (defArgs s_part_of) (defBody s_part_of) (defScope s_part_of) .none kV13 dc13 pm13 an13 cd13 ct13), sl13⟩) (c13 : PySem.W.codeIn K cd13 "part_of" = true) (k13 : PySem.W.keepIn K (.ref f13) = true)
    (a14 : PySem.W.nsIn K mainGlobals "leads" = some (some (.ref f14))) (l14 : K.lookup f14 = some ⟨oc14, od14, .func (PySem.W.fnOf "leads" "leads" (defArgs s_leads) (defBody s_leads) (defScope s_leads) .none kV14 dc14 pm14 an14 cd14 ct14), sl14⟩) (c14 : PySem.W.codeIn K cd14 "leads" = true) (k14 : PySem.W.keepIn K (.ref f14) = true)
    (a15 : PySem.W.nsIn K mainGlobals "rates_in" = some (some (.ref f15))) (l15 : K.lookup f15 = some ⟨oc15, od15, .func (PySem.W.fnOf "rates_in" "rates_in" (defArgs s_rates_in) (defBody s_rates_in) (defScope s_rates_in) .none kV15 dc15 pm15 an15 cd15 ct15), sl15⟩) (c15 : PySem.W.codeIn K cd15 "rates_in" = true) (k15 : PySem.W.keepIn K (.ref f15) = true)
    (a16 : PySem.W.nsIn K mainGlobals "_law_stream" = some (some (.ref f16))) (l16 : K.lookup f16 = some ⟨oc16, od16, .func (PySem.W.fnOf "_law_stream" "_law_stream" (defArgs s__law_stream) (defBody s__law_stream) (defScope s__law_stream) .none kV16 dc16 pm16 an16 cd16 ct16), sl16⟩) (c16 : PySem.W.codeIn K cd16 "_law_stream" = true) (k16 : PySem.W.keepIn K (.ref f16) = true)
    (a17 : PySem.W.nsIn K mainGlobals "_law_draw" = some (some (.ref f17))) (l17 : K.lookup f17 = some ⟨oc17, od17, .func (PySem.W.fnOf "_law_draw" "_law_draw" (defArgs s__law_draw) (defBody s__law_draw) (defScope s__law_draw) .none kV17 dc17 pm17 an17 cd17 ct17), sl17⟩) (c17 : PySem.W.codeIn K cd17 "_law_draw" = true) (k17 : PySem.W.keepIn K (.ref f17) = true)
    (a18 : PySem.W.nsIn K mainGlobals "_law_choose" = some (some (.ref f18))) (l18 : K.lookup f18 = some ⟨oc18, od18, .func (PySem.W.fnOf "_law_choose" "_law_choose" (defArgs s__law_choose) (defBody s__law_choose) (defScope s__law_choose) .none kV18 dc18 pm18 an18 cd18 ct18), sl18⟩) (c18 : PySem.W.codeIn K cd18 "_law_choose" = true) (k18 : PySem.W.keepIn K (.ref f18) = true)
    (a19 : PySem.W.nsIn K mainGlobals "_law_made" = some (some (.ref f19))) (l19 : K.lookup f19 = some ⟨oc19, od19, .func (PySem.W.fnOf "_law_made" "_law_made" (defArgs s__law_made) (defBody s__law_made) (defScope s__law_made) .none kV19 dc19 pm19 an19 cd19 ct19), sl19⟩) (c19 : PySem.W.codeIn K cd19 "_law_made" = true) (k19 : PySem.W.keepIn K (.ref f19) = true)
    (a20 : PySem.W.nsIn K mainGlobals "_law_plus" = some (some (.ref f20))) (l20 : K.lookup f20 = some ⟨oc20, od20, .func (PySem.W.fnOf "_law_plus" "_law_plus" (defArgs s__law_plus) (defBody s__law_plus) (defScope s__law_plus) .none kV20 dc20 pm20 an20 cd20 ct20), sl20⟩) (c20 : PySem.W.codeIn K cd20 "_law_plus" = true) (k20 : PySem.W.keepIn K (.ref f20) = true)
    (a21 : PySem.W.nsIn K mainGlobals "_law_minus" = some (some (.ref f21))) (l21 : K.lookup f21 = some ⟨oc21, od21, .func (PySem.W.fnOf "_law_minus" "_law_minus" (defArgs s__law_minus) (defBody s__law_minus) (defScope s__law_minus) .none kV21 dc21 pm21 an21 cd21 ct21), sl21⟩) (c21 : PySem.W.codeIn K cd21 "_law_minus" = true) (k21 : PySem.W.keepIn K (.ref f21) = true)
    (a22 : PySem.W.nsIn K mainGlobals "_law_times" = some (some (.ref f22))) (l22 : K.lookup f22 = some ⟨oc22, od22, .func (PySem.W.fnOf "_law_times" "_law_times" (defArgs s__law_times) (defBody s__law_times) (defScope s__law_times) .none kV22 dc22 pm22 an22 cd22 ct22), sl22⟩) (c22 : PySem.W.codeIn K cd22 "_law_times" = true) (k22 : PySem.W.keepIn K (.ref f22) = true)
    (a23 : PySem.W.nsIn K mainGlobals "_law_over" = some (some (.ref f23))) (l23 : K.lookup f23 = some ⟨oc23, od23, .func (PySem.W.fnOf "_law_over" "_law_over" (defArgs s__law_over) (defBody s__law_over) (defScope s__law_over) .none kV23 dc23 pm23 an23 cd23 ct23), sl23⟩) (c23 : PySem.W.codeIn K cd23 "_law_over" = true) (k23 : PySem.W.keepIn K (.ref f23) = true)
    (a24 : PySem.W.nsIn K mainGlobals "_law_less" = some (some (.ref f24))) (l24 : K.lookup f24 = some ⟨oc24, od24, .func (PySem.W.fnOf "_law_less" "_law_less" (defArgs s__law_less) (defBody s__law_less) (defScope s__law_less) .none kV24 dc24 pm24 an24 cd24 ct24), sl24⟩) (c24 : PySem.W.codeIn K cd24 "_law_less" = true) (k24 : PySem.W.keepIn K (.ref f24) = true)
    (a25 : PySem.W.nsIn K mainGlobals "_law_all" = some (some (.ref f25))) (l25 : K.lookup f25 = some ⟨oc25, od25, .func (PySem.W.fnOf "_law_all" "_law_all" (defArgs s__law_all) (defBody s__law_all) (defScope s__law_all) .none kV25 dc25 pm25 an25 cd25 ct25), sl25⟩) (c25 : PySem.W.codeIn K cd25 "_law_all" = true) (k25 : PySem.W.keepIn K (.ref f25) = true)
    (a26 : PySem.W.nsIn K mainGlobals "_law_frac" = some (some (.ref f26))) (l26 : K.lookup f26 = some ⟨oc26, od26, .func (PySem.W.fnOf "_law_frac" "_law_frac" (defArgs s__law_frac) (defBody s__law_frac) (defScope s__law_frac) .none kV26 dc26 pm26 an26 cd26 ct26), sl26⟩) (c26 : PySem.W.codeIn K cd26 "_law_frac" = true) (k26 : PySem.W.keepIn K (.ref f26) = true)
    (a27 : PySem.W.nsIn K mainGlobals "_law_saw" = some (some (.ref f27))) (l27 : K.lookup f27 = some ⟨oc27, od27, .func (PySem.W.fnOf "_law_saw" "_law_saw" (defArgs s__law_saw) (defBody s__law_saw) (defScope s__law_saw) .none kV27 dc27 pm27 an27 cd27 ct27), sl27⟩) (c27 : PySem.W.codeIn K cd27 "_law_saw" = true) (k27 : PySem.W.keepIn K (.ref f27) = true)
    (a28 : PySem.W.nsIn K mainGlobals "_law_leads" = some (some (.ref f28))) (l28 : K.lookup f28 = some ⟨oc28, od28, .func (PySem.W.fnOf "_law_leads" "_law_leads" (defArgs s__law_leads) (defBody s__law_leads) (defScope s__law_leads) .none kV28 dc28 pm28 an28 cd28 ct28), sl28⟩) (c28 : PySem.W.codeIn K cd28 "_law_leads" = true) (k28 : PySem.W.keepIn K (.ref f28) = true)
    (a29 : PySem.W.nsIn K mainGlobals "_law_drawn" = some (some (.ref f29))) (l29 : K.lookup f29 = some ⟨oc29, od29, .func (PySem.W.fnOf "_law_drawn" "_law_drawn" (defArgs s__law_drawn) (defBody s__law_drawn) (defScope s__law_drawn) .none kV29 dc29 pm29 an29 cd29 ct29), sl29⟩) (c29 : PySem.W.codeIn K cd29 "_law_drawn" = true) (k29 : PySem.W.keepIn K (.ref f29) = true)
    (a30 : PySem.W.nsIn K mainGlobals "_law_longer_right" = some (some (.ref f30))) (l30 : K.lookup f30 = some ⟨oc30, od30, .func (PySem.W.fnOf "_law_longer_right" "_law_longer_right" (defArgs s__law_longer_right) (defBody s__law_longer_right) (defScope s__law_longer_right) .none kV30 dc30 pm30 an30 cd30 ct30), sl30⟩) (c30 : PySem.W.codeIn K cd30 "_law_longer_right" = true) (k30 : PySem.W.keepIn K (.ref f30) = true)
    (a31 : PySem.W.nsIn K mainGlobals "law" = some (some (.ref f31))) (l31 : K.lookup f31 = some ⟨oc31, od31, .func (PySem.W.fnOf "law" "law" (defArgs s_law) (defBody s_law) (defScope s_law) .none kV31 dc31 pm31 an31 cd31 ct31), sl31⟩) (c31 : PySem.W.codeIn K cd31 "law" = true) (k31 : PySem.W.keepIn K (.ref f31) = true)
    {gc0 : Addr} {gd0 : Option Addr} {gt0 gu0 : Tok} {gn0 : Nat} {gs0 : Array (Option Value)} (cg0 : PySem.W.nsIn K mainGlobals "NOTHING" = some (some (.ref gc0))) (ch0 : K.lookup gc0 = some ⟨.type "tuple", gd0, .seq #[.int 0 gt0, .int 1 gu0] gn0, gs0⟩)
    {gc1 : Addr} {gd1 : Option Addr} {gt1 gu1 : Tok} {gn1 : Nat} {gs1 : Array (Option Value)} (cg1 : PySem.W.nsIn K mainGlobals "ONE" = some (some (.ref gc1))) (ch1 : K.lookup gc1 = some ⟨.type "tuple", gd1, .seq #[.int 1 gt1, .int 1 gu1] gn1, gs1⟩)
    (z0 : PySem.W.nsIn K mainGlobals "abs" = some none)
    (z1 : PySem.W.nsIn K mainGlobals "range" = some none)
    (z2 : PySem.W.nsIn K mainGlobals "enumerate" = some none)
    (z3 : PySem.W.nsIn K mainGlobals "len" = some none)
    (z4 : PySem.W.nsIn K mainGlobals "int" = some none)
    (z5 : PySem.W.nsIn K mainGlobals "zip" = some none)
    (z6 : PySem.W.nsIn K mainGlobals "list" = some none)
    (z7 : PySem.W.nsIn K mainGlobals "max" = some none)
    (z8 : PySem.W.nsIn K mainGlobals "min" = some none)
    (z9 : PySem.W.nsIn K mainGlobals "repr" = some none)
    : ∃ fd : FuncData, (∀ (s : Shared) (v : Value), BindsTo s fd ⟨[v], []⟩ [("_law_script", v)]) ∧ ∀ base : Heap, K.In base → base.Ns mainGlobals mg → FnG l.prog w K mg base 9 fa fd ["_law_script"] (spLaw K) := by
  have e := hfa.symm.trans (PySem.W.mg_of X G a31)
  cases e
  have m_abs := PySem.W.mg_none_of X G z0
  have m_range := PySem.W.mg_none_of X G z1
  have m_enumerate := PySem.W.mg_none_of X G z2
  have m_len := PySem.W.mg_none_of X G z3
  have m_int := PySem.W.mg_none_of X G z4
  have m_zip := PySem.W.mg_none_of X G z5
  have m_list := PySem.W.mg_none_of X G z6
  have m_max := PySem.W.mg_none_of X G z7
  have m_min := PySem.W.mg_none_of X G z8
  have m_repr := PySem.W.mg_none_of X G z9
  have v_NOTHING := gv_tup2 (PySem.W.mg_of X G cg0) ch0
  have v_ONE := gv_tup2 (PySem.W.mg_of X G cg1) ch1
  have F_divisor := fun_mk (st := s_divisor) l0 c0 k0
  have m_divisor := PySem.W.mg_of X G a0
  have b_divisor := F_divisor.binds (ps := ["first", "second"]) fun _ _ _ _ _ _ us hl => match us, hl with | [_, _], _ => rfl
  have F_reduced := fun_mk (st := s_reduced) l1 c1 k1
  have m_reduced := PySem.W.mg_of X G a1
  have b_reduced := F_reduced.binds (ps := ["top", "bottom"]) fun _ _ _ _ _ _ us hl => match us, hl with | [_, _], _ => rfl
  have F_plus := fun_mk (st := s_plus) l2 c2 k2
  have m_plus := PySem.W.mg_of X G a2
  have b_plus := F_plus.binds (ps := ["first", "second"]) fun _ _ _ _ _ _ us hl => match us, hl with | [_, _], _ => rfl
  have F_minus := fun_mk (st := s_minus) l3 c3 k3
  have m_minus := PySem.W.mg_of X G a3
  have b_minus := F_minus.binds (ps := ["first", "second"]) fun _ _ _ _ _ _ us hl => match us, hl with | [_, _], _ => rfl
  have F_times := fun_mk (st := s_times) l4 c4 k4
  have m_times := PySem.W.mg_of X G a4
  have b_times := F_times.binds (ps := ["first", "second"]) fun _ _ _ _ _ _ us hl => match us, hl with | [_, _], _ => rfl
  have F_divided := fun_mk (st := s_divided) l5 c5 k5
  have m_divided := PySem.W.mg_of X G a5
  have b_divided := F_divided.binds (ps := ["first", "second"]) fun _ _ _ _ _ _ us hl => match us, hl with | [_, _], _ => rfl
  have F_is_less := fun_mk (st := s_is_less) l6 c6 k6
  have m_is_less := PySem.W.mg_of X G a6
  have b_is_less := F_is_less.binds (ps := ["first", "second"]) fun _ _ _ _ _ _ us hl => match us, hl with | [_, _], _ => rfl
  have F_floor := fun_mk (st := s_floor) l7 c7 k7
  have m_floor := PySem.W.mg_of X G a7
  have b_floor := F_floor.binds (ps := ["value"]) fun _ _ _ _ _ _ us hl => match us, hl with | [_], _ => rfl
  have F_total := fun_mk (st := s_total) l8 c8 k8
  have m_total := PySem.W.mg_of X G a8
  have b_total := F_total.binds (ps := ["values"]) fun _ _ _ _ _ _ us hl => match us, hl with | [_], _ => rfl
  have F_power := fun_mk (st := s_power) l9 c9 k9
  have m_power := PySem.W.mg_of X G a9
  have b_power := F_power.binds (ps := ["value", "number"]) fun _ _ _ _ _ _ us hl => match us, hl with | [_, _], _ => rfl
  have F_rounds_to_loss := fun_mk (st := s_rounds_to_loss) l10 c10 k10
  have m_rounds_to_loss := PySem.W.mg_of X G a10
  have b_rounds_to_loss := F_rounds_to_loss.binds (ps := ["saw", "rate"]) fun _ _ _ _ _ _ us hl => match us, hl with | [_, _], _ => rfl
  have F_after := fun_mk (st := s_after) l11 c11 k11
  have m_after := PySem.W.mg_of X G a11
  have b_after := F_after.binds (ps := ["saw", "rate", "rounds"]) fun _ _ _ _ _ _ us hl => match us, hl with | [_, _, _], _ => rfl
  have F_reached := fun_mk (st := s_reached) l12 c12 k12
  have m_reached := PySem.W.mg_of X G a12
  have b_reached := F_reached.binds (ps := ["saw", "rate", "place"]) fun _ _ _ _ _ _ us hl => match us, hl with | [_, _, _], _ => rfl
  have F_part_of := fun_mk (st := s_part_of) l13 c13 k13
  have m_part_of := PySem.W.mg_of X G a13
  have b_part_of := F_part_of.binds (ps := ["steps", "number"]) fun _ _ _ _ _ _ us hl => match us, hl with | [_, _], _ => rfl
  have F_leads := fun_mk (st := s_leads) l14 c14 k14
  have m_leads := PySem.W.mg_of X G a14
  have b_leads := F_leads.binds (ps := ["steps", "rates"]) fun _ _ _ _ _ _ us hl => match us, hl with | [_, _], _ => rfl
  have F_rates_in := fun_mk (st := s_rates_in) l15 c15 k15
  have m_rates_in := PySem.W.mg_of X G a15
  have b_rates_in := F_rates_in.binds (ps := ["speed", "keep", "steps", "rates", "place"]) fun _ _ _ _ _ _ us hl => match us, hl with | [_, _, _, _, _], _ => rfl
  have F__law_stream := fun_mk (st := s__law_stream) l16 c16 k16
  have m__law_stream := PySem.W.mg_of X G a16
  have b__law_stream := F__law_stream.binds (ps := ["_law_script", "_law_start"]) fun _ _ _ _ _ _ us hl => match us, hl with | [_, _], _ => rfl
  have F__law_draw := fun_mk (st := s__law_draw) l17 c17 k17
  have m__law_draw := PySem.W.mg_of X G a17
  have b__law_draw := F__law_draw.binds (ps := ["_law_stream_here", "_law_size"]) fun _ _ _ _ _ _ us hl => match us, hl with | [_, _], _ => rfl
  have F__law_choose := fun_mk (st := s__law_choose) l18 c18 k18
  have m__law_choose := PySem.W.mg_of X G a18
  have b__law_choose := F__law_choose.binds (ps := ["_law_stream_here", "_law_items"]) fun _ _ _ _ _ _ us hl => match us, hl with | [_, _], _ => rfl
  have F__law_made := fun_mk (st := s__law_made) l19 c19 k19
  have m__law_made := PySem.W.mg_of X G a19
  have b__law_made := F__law_made.binds (ps := ["_law_top", "_law_bottom"]) fun _ _ _ _ _ _ us hl => match us, hl with | [_, _], _ => rfl
  have F__law_plus := fun_mk (st := s__law_plus) l20 c20 k20
  have m__law_plus := PySem.W.mg_of X G a20
  have b__law_plus := F__law_plus.binds (ps := ["_law_one", "_law_two"]) fun _ _ _ _ _ _ us hl => match us, hl with | [_, _], _ => rfl
  have F__law_minus := fun_mk (st := s__law_minus) l21 c21 k21
  have m__law_minus := PySem.W.mg_of X G a21
  have b__law_minus := F__law_minus.binds (ps := ["_law_one", "_law_two"]) fun _ _ _ _ _ _ us hl => match us, hl with | [_, _], _ => rfl
  have F__law_times := fun_mk (st := s__law_times) l22 c22 k22
  have m__law_times := PySem.W.mg_of X G a22
  have b__law_times := F__law_times.binds (ps := ["_law_one", "_law_two"]) fun _ _ _ _ _ _ us hl => match us, hl with | [_, _], _ => rfl
  have F__law_over := fun_mk (st := s__law_over) l23 c23 k23
  have m__law_over := PySem.W.mg_of X G a23
  have b__law_over := F__law_over.binds (ps := ["_law_one", "_law_two"]) fun _ _ _ _ _ _ us hl => match us, hl with | [_, _], _ => rfl
  have F__law_less := fun_mk (st := s__law_less) l24 c24 k24
  have m__law_less := PySem.W.mg_of X G a24
  have b__law_less := F__law_less.binds (ps := ["_law_one", "_law_two"]) fun _ _ _ _ _ _ us hl => match us, hl with | [_, _], _ => rfl
  have F__law_all := fun_mk (st := s__law_all) l25 c25 k25
  have m__law_all := PySem.W.mg_of X G a25
  have b__law_all := F__law_all.binds (ps := ["_law_values"]) fun _ _ _ _ _ _ us hl => match us, hl with | [_], _ => rfl
  have F__law_frac := fun_mk (st := s__law_frac) l26 c26 k26
  have m__law_frac := PySem.W.mg_of X G a26
  have b__law_frac := F__law_frac.binds (ps := ["_law_stream_here", "_law_most", "_law_bottoms"]) fun _ _ _ _ _ _ us hl => match us, hl with | [_, _, _], _ => rfl
  have F__law_saw := fun_mk (st := s__law_saw) l27 c27 k27
  have m__law_saw := PySem.W.mg_of X G a27
  have b__law_saw := F__law_saw.binds (ps := ["_law_stream_here"]) fun _ _ _ _ _ _ us hl => match us, hl with | [_], _ => rfl
  have F__law_leads := fun_mk (st := s__law_leads) l28 c28 k28
  have m__law_leads := PySem.W.mg_of X G a28
  have b__law_leads := F__law_leads.binds (ps := ["_law_steps", "_law_some"]) fun _ _ _ _ _ _ us hl => match us, hl with | [_, _], _ => rfl
  have F__law_drawn := fun_mk (st := s__law_drawn) l29 c29 k29
  have m__law_drawn := PySem.W.mg_of X G a29
  have b__law_drawn := F__law_drawn.binds (ps := ["_law_stream_here"]) fun _ _ _ _ _ _ us hl => match us, hl with | [_], _ => rfl
  have F__law_longer_right := fun_mk (st := s__law_longer_right) l30 c30 k30
  have m__law_longer_right := PySem.W.mg_of X G a30
  have b__law_longer_right := F__law_longer_right.binds (ps := ["_law_start"]) fun _ _ _ _ _ _ us hl => match us, hl with | [_], _ => rfl
  have F_law := fun_mk (st := s_law) l31 c31 k31
  have m_law := PySem.W.mg_of X G a31
  refine ⟨PySem.W.fnOf "law" "law" (defArgs s_law) (defBody s_law) (defScope s_law) .none kV31 dc31 pm31 an31 cd31 ct31, fun s v => .of_eq rfl, fun base _ _ => ?_⟩
  have H1 := ok_stream (P := l.prog) (w := w) (base := base) F__law_stream m__law_stream b__law_stream m_int m_len
  have H2 := ok_draw (P := l.prog) (w := w) (base := base) F__law_draw m__law_draw b__law_draw m_int
  have H3 := ok_choose F__law_choose m__law_choose b__law_choose m_len H2
  have B1 := ok_made (P := l.prog) (w := w) (base := base) F__law_made m__law_made b__law_made m_abs m_int
  have B2 := ok__law_plus F__law_plus m__law_plus b__law_plus B1
  have B3 := ok__law_minus F__law_minus m__law_minus b__law_minus B1
  have B4 := ok__law_times F__law_times m__law_times b__law_times B1
  have B5 := ok__law_less (P := l.prog) (w := w) (base := base) F__law_less m__law_less b__law_less
  have B6 := ok__law_over F__law_over m__law_over b__law_over B1
  have B7 := ok_lawall F__law_all m__law_all b__law_all B2
  have B8 := ok_fracE F__law_frac m__law_frac b__law_frac H2 H3 B1
  have B9 := ok_lawleads F__law_leads m__law_leads b__law_leads m_zip B7 B3 B4 B6
  have D1 := ok_saw35 F__law_saw m__law_saw b__law_saw H3 B8
  have D2 := ok_drawn F__law_drawn m__law_drawn b__law_drawn m_range H2 H3 B8
  have A1 := ok_divisor (P := l.prog) (w := w) (base := base) F_divisor m_divisor b_divisor m_abs
  have A2 := ok_reduced F_reduced m_reduced b_reduced A1
  have A3 := ok_plus F_plus m_plus b_plus A2
  have A4 := ok_minus F_minus m_minus b_minus A2
  have A5 := ok_times F_times m_times b_times A2
  have A6 := ok_divided F_divided m_divided b_divided A2
  have A7 := ok_is_less (P := l.prog) (w := w) (base := base) F_is_less m_is_less b_is_less
  have A8 := ok_floor (P := l.prog) (w := w) (base := base) F_floor m_floor b_floor
  have A9 := ok_r2l F_rounds_to_loss m_rounds_to_loss b_rounds_to_loss A7 A4 A6 A8
  have C0 := ok_after F_after m_after b_after A3 A5 A2
  have C1 := ok_total F_total m_total b_total v_NOTHING A3
  have C2 := ok_part F_part_of m_part_of b_part_of A6 C1
  have C3 := ok_leads F_leads m_leads b_leads m_enumerate C1 A4 A5 C2
  have C4 := ok_reached F_reached m_reached b_reached A9 C0 A5
  have C5 := ok_power (P := l.prog) (w := w) (base := base) F_power m_power b_power m_range v_ONE
  have C6 := ok_ratesin F_rates_in m_rates_in b_rates_in m_enumerate C1 C4 C5 C3 A3 A5 C2
  have D3 := ok_longer F__law_longer_right m__law_longer_right b__law_longer_right m_range m_list m_zip C6 B5 B7 B4 B2
  exact ok_law F_law m_range m_max m_min m_len m_zip m_repr m_list H1 D1 H2 D2 B9 B7 C6 B4 B5 C3 B2 D3
end My
open PySem PySem.W PyProof.Rows
set_option maxRecDepth 100000 in
set_option maxHeartbeats 0 in
theorem PySem.Challenge.cw_fairflows_k35_senders_walked_holds : PySem.Challenge.rw_fairflows_k35_senders_walked.Holds := by
  w_on; o_law; k_head; (case hw => w_witness2)
  k_fill
  refine L3.walkLaw (l := PySem.Challenge.rw_fairflows_k35_senders_walked) (k := 9) (x := "_law_script") rfl rfl ⟨rfl, by decide, by decide⟩ (fun w h Y => PySem.W.kIn_of Y) ?F
  case F =>
    intro w mg fa h KX G hmg
    refine' My.all_mk KX G hmg ?a0 ?l0 ?c0 ?k0 ?a1 ?l1 ?c1 ?k1 ?a2 ?l2 ?c2 ?k2 ?a3 ?l3 ?c3 ?k3 ?a4 ?l4 ?c4 ?k4 ?a5 ?l5 ?c5 ?k5 ?a6 ?l6 ?c6 ?k6 ?a7 ?l7 ?c7 ?k7 ?a8 ?l8 ?c8 ?k8 ?a9 ?l9 ?c9 ?k9 ?a10 ?l10 ?c10 ?k10 ?a11 ?l11 ?c11 ?k11 ?a12 ?l12 ?c12 ?k12 ?a13 ?l13 ?c13 ?k13 ?a14 ?l14 ?c14 ?k14 ?a15 ?l15 ?c15 ?k15 ?a16 ?l16 ?c16 ?k16 ?a17 ?l17 ?c17 ?k17 ?a18 ?l18 ?c18 ?k18 ?a19 ?l19 ?c19 ?k19 ?a20 ?l20 ?c20 ?k20 ?a21 ?l21 ?c21 ?k21 ?a22 ?l22 ?c22 ?k22 ?a23 ?l23 ?c23 ?k23 ?a24 ?l24 ?c24 ?k24 ?a25 ?l25 ?c25 ?k25 ?a26 ?l26 ?c26 ?k26 ?a27 ?l27 ?c27 ?k27 ?a28 ?l28 ?c28 ?k28 ?a29 ?l29 ?c29 ?k29 ?a30 ?l30 ?c30 ?k30 ?a31 ?l31 ?c31 ?k31 ?cg0 ?ch0 ?cg1 ?ch1 ?z0 ?z1 ?z2 ?z3 ?z4 ?z5 ?z6 ?z7 ?z8 ?z9
    (case a0 => k_is)
    (case l0 => k_is)
    (case c0 => k_is)
    (case k0 => k_is)
    (case a1 => k_is)
    (case l1 => k_is)
    (case c1 => k_is)
    (case k1 => k_is)
    (case a2 => k_is)
    (case l2 => k_is)
    (case c2 => k_is)
    (case k2 => k_is)
    (case a3 => k_is)
    (case l3 => k_is)
    (case c3 => k_is)
    (case k3 => k_is)
    (case a4 => k_is)
    (case l4 => k_is)
    (case c4 => k_is)
    (case k4 => k_is)
    (case a5 => k_is)
    (case l5 => k_is)
    (case c5 => k_is)
    (case k5 => k_is)
    (case a6 => k_is)
    (case l6 => k_is)
    (case c6 => k_is)
    (case k6 => k_is)
    (case a7 => k_is)
    (case l7 => k_is)
    (case c7 => k_is)
    (case k7 => k_is)
    (case a8 => k_is)
    (case l8 => k_is)
    (case c8 => k_is)
    (case k8 => k_is)
    (case a9 => k_is)
    (case l9 => k_is)
    (case c9 => k_is)
    (case k9 => k_is)
    (case a10 => k_is)
    (case l10 => k_is)
    (case c10 => k_is)
    (case k10 => k_is)
    (case a11 => k_is)
    (case l11 => k_is)
    (case c11 => k_is)
    (case k11 => k_is)
    (case a12 => k_is)
    (case l12 => k_is)
    (case c12 => k_is)
    (case k12 => k_is)
    (case a13 => k_is)
    (case l13 => k_is)
    (case c13 => k_is)
    (case k13 => k_is)
    (case a14 => k_is)
    (case l14 => k_is)
    (case c14 => k_is)
    (case k14 => k_is)
    (case a15 => k_is)
    (case l15 => k_is)
    (case c15 => k_is)
    (case k15 => k_is)
    (case a16 => k_is)
    (case l16 => k_is)
    (case c16 => k_is)
    (case k16 => k_is)
    (case a17 => k_is)
    (case l17 => k_is)
    (case c17 => k_is)
    (case k17 => k_is)
    (case a18 => k_is)
    (case l18 => k_is)
    (case c18 => k_is)
    (case k18 => k_is)
    (case a19 => k_is)
    (case l19 => k_is)
    (case c19 => k_is)
    (case k19 => k_is)
    (case a20 => k_is)
    (case l20 => k_is)
    (case c20 => k_is)
    (case k20 => k_is)
    (case a21 => k_is)
    (case l21 => k_is)
    (case c21 => k_is)
    (case k21 => k_is)
    (case a22 => k_is)
    (case l22 => k_is)
    (case c22 => k_is)
    (case k22 => k_is)
    (case a23 => k_is)
    (case l23 => k_is)
    (case c23 => k_is)
    (case k23 => k_is)
    (case a24 => k_is)
    (case l24 => k_is)
    (case c24 => k_is)
    (case k24 => k_is)
    (case a25 => k_is)
    (case l25 => k_is)
    (case c25 => k_is)
    (case k25 => k_is)
    (case a26 => k_is)
    (case l26 => k_is)
    (case c26 => k_is)
    (case k26 => k_is)
    (case a27 => k_is)
    (case l27 => k_is)
    (case c27 => k_is)
    (case k27 => k_is)
    (case a28 => k_is)
    (case l28 => k_is)
    (case c28 => k_is)
    (case k28 => k_is)
    (case a29 => k_is)
    (case l29 => k_is)
    (case c29 => k_is)
    (case k29 => k_is)
    (case a30 => k_is)
    (case l30 => k_is)
    (case c30 => k_is)
    (case k30 => k_is)
    (case a31 => k_is)
    (case l31 => k_is)
    (case c31 => k_is)
    (case k31 => k_is)
    (case cg0 => k_is)
    (case ch0 => k_is)
    (case cg1 => k_is)
    (case ch1 => k_is)
    (case z0 => k_is)
    (case z1 => k_is)
    (case z2 => k_is)
    (case z3 => k_is)
    (case z4 => k_is)
    (case z5 => k_is)
    (case z6 => k_is)
    (case z7 => k_is)
    (case z8 => k_is)
    (case z9 => k_is)
