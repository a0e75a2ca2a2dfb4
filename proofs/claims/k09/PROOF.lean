import PyProof.Rows.All
import Wide.All
import OpenK.AllK
import Wide.FinOn
import HandS.ForMost
import HandS.Wide
import HandS.IsInst
import HandS.Zip
import HandS.Lambda
import HandS.TupAny
import HandS.TupMul
import HandS.More
import PyProof.ReprRoads
import PyProof.ReprLen
import HandS.EndBits
import HandS.TupLe
import HandS.Walk
import HandS.Style
import KE.GoesMore
import HandS.Deep
import KE.SortKeyHeap
import HandS.TupSets
import HandS.Star
import HandS.Strs
import HandS.NoneIn
import HandS.DictTup
import HandS.TupLen
import HandS.DictComp
import HandS.WideBits
import HandS.FStr
import HandS.Text
import PySem.Challenge.RW_fairflows_k09_fractions_and_saws_by_name
set_option Elab.async false
set_option linter.all false
set_option maxRecDepth 100000
set_option maxHeartbeats 4000000
/-! Core: data trees over the hand layer, and what a text does to them. -/
namespace L3
open PySem PySem.Spec PyProof.Rows L2

/-! ### data -/
inductive D where
  | non | bl (b : Bool) | int (i : Int) | str (s : Str)
  | lst (xs : List D) | tup (xs : List D) | dct (kvs : List (Key × D))
  | ext (φ : Addr → Heap → Prop)

mutual
inductive Rep (K : PySem.W.Frag) (H : Hp) : V → D → Prop
  | non : Rep K H .non .non
  | bl (b : Bool) : Rep K H (.bl b) (.bl b)
  | int (i : Int) : Rep K H (.int i) (.int i)
  | str (x : Str) : Rep K H (.str x) (.str x)
  | lst {a : Addr} {xs : List V} {ds : List D} : SqL K H a xs → RepAll K H xs ds → Rep K H (.ref a) (.lst ds)
  | tup {a : Addr} {xs : List V} {ds : List D} : SqT K H a xs → RepAll K H xs ds → Rep K H (.ref a) (.tup ds)
  | dct {a : Addr} {kvs : List (Key × V)} {ds : List (Key × D)} : Rd H a (.dK kvs) → RepKV K H kvs ds → Rep K H (.ref a) (.dct ds)
  | ext {a : Addr} {φ : Addr → Heap → Prop} : H a = some (.ext (φ a)) → Rep K H (.ref a) (.ext φ)
inductive RepAll (K : PySem.W.Frag) (H : Hp) : List V → List D → Prop
  | nil : RepAll K H [] []
  | cons {v : V} {vs : List V} {d : D} {ds : List D} : Rep K H v d → RepAll K H vs ds → RepAll K H (v :: vs) (d :: ds)
inductive RepKV (K : PySem.W.Frag) (H : Hp) : List (Key × V) → List (Key × D) → Prop
  | nil : RepKV K H [] []
  | cons {k : Key} {v : V} {vs : List (Key × V)} {d : D} {ds : List (Key × D)} : Rep K H v d → RepKV K H vs ds → RepKV K H ((k, v) :: vs) ((k, d) :: ds)
end

/-- no table of code objects -/
def NT (o : HO) : Prop := ∀ ps, o ≠ .tbl ps
/-- the one lambda's name: what each table of code objects holds -/
def lamQ : Str := "sorted_fractions.<locals>.<lambda>"
/-- all that is tracked stays; a table may get more -/
structure Ex (H H' : Hp) : Prop where
  get : ∀ a o, H a = some o → NT o → H' a = some o
  fr : ∀ a, H' a = none → H a = none
  tab : ∀ P, LamX.TabS H P lamQ → LamX.TabS H' P lamQ
theorem Ex.of {H H' : Hp} (h : ∀ a o, H a = some o → H' a = some o) : Ex H H' := by
  refine ⟨fun a o e _ => h a o e, fun a n => ?_, fun _ t => t.ext h⟩
  cases h1 : H a with
  | none => rfl
  | some o => rw [h a o h1] at n; cases n
theorem Ex.refl {H : Hp} : Ex H H := Ex.of fun _ _ h => h
theorem Ex.trans {H H1 H2 : Hp} (a : Ex H H1) (b : Ex H1 H2) : Ex H H2 := ⟨fun x o h n => b.get x o (a.get x o h n) n, fun x n => a.fr x (b.fr x n), fun P t => b.tab P (a.tab P t)⟩
theorem Ex.new {H : Hp} {p : Addr} {o : HO} (h : H p = none) : Ex H (upd H p o) := Ex.of fun a u e => by
  rw [upd_ne (ne_of_none e h)]
  exact e
/-- neither a table nor a thing told of its one object -/
def Pln : Option HO → Prop
  | some (.ext _) => False
  | some (.tbl _) => False
  | _ => True
theorem TabS.but {H H' : Hp} {P : Addr} {q : Str} (t : LamX.TabS H P q) (k : ∀ a u, H a = some u → ¬ Pln (some u) → H' a = some u) : LamX.TabS H' P q := by
  obtain ⟨ps, h1, h2, h3⟩ := t
  refine ⟨ps, k _ _ h1 fun z => z, h2, fun pos cv hc => ?_⟩
  obtain ⟨c, e1, e2⟩ := h3 pos cv hc
  exact ⟨c, e1, k _ _ e2 fun z => z⟩
theorem Ex.mut {H H' : Hp} {p : Addr} {o : HO} (e : Ex H H') (h : H p = none) (hl : Pln (H' p)) : Ex H (upd H' p o) := by
  refine ⟨fun a u ha n => ?_, fun a n => ?_, fun P t => TabS.but (e.tab P t) fun a u ha n => ?_⟩
  · rw [upd_ne (ne_of_none ha h)]
    exact e.get a u ha n
  · by_cases z : a = p
    · rw [z]; exact h
    · rw [upd_ne z] at n; exact e.fr a n
  · rw [upd_ne fun z => n (by rw [← ha, z]; exact hl)]
    exact ha
theorem Ex.lst {H H' : Hp} (e : Ex H H') {a : Addr} {xs : List V} (h : H a = some (.lst xs)) : H' a = some (.lst xs) := e.get _ _ h fun _ z => nomatch z
theorem Ex.dK {H H' : Hp} (e : Ex H H') {a : Addr} {xs : List (Key × V)} (h : H a = some (.dK xs)) : H' a = some (.dK xs) := e.get _ _ h fun _ z => nomatch z
theorem Ex.ext {H H' : Hp} (e : Ex H H') {a : Addr} {φ : Heap → Prop} (h : H a = some (.ext φ)) : H' a = some (.ext φ) := e.get _ _ h fun _ z => nomatch z
theorem Ex.free {H H' : Hp} {p : Addr} (e : Ex H H') (h : H' p = none) : H p = none := e.fr p h
/-- where the def with the lambda is known, its table stands -/
def TbOk (K : PySem.W.Frag) (H : Hp) : Prop := ∀ c P, PySem.W.tabIn K "sorted_fractions" = some (c, P) → LamX.TabS H P lamQ
theorem TbOk.ex {K : PySem.W.Frag} {H H' : Hp} (t : TbOk K H) (e : Ex H H') : TbOk K H' := fun c P h => e.tab P (t c P h)
structure ExK (K : PySem.W.Frag) (H H' : Hp) : Prop extends Ex H H' where
  tb : TbOk K H
theorem ExK.trans {K : PySem.W.Frag} {H H1 H2 : Hp} (a : ExK K H H1) (b : Ex H1 H2) : ExK K H H2 := ⟨a.toEx.trans b, a.tb⟩
theorem ExK.self {K : PySem.W.Frag} {H H' : Hp} (a : ExK K H H') : ExK K H' H' := ⟨Ex.refl, a.tb.ex a.toEx⟩
theorem Rd.ex {H H' : Hp} {a : Addr} {u : HO} (e : Ex H H') (h : Rd H a u) (n : NT u := by exact fun _ z => nomatch z) : Rd H' a u := by
  rcases h with h | ⟨o, h⟩
  · exact .inl (e.get a _ h n)
  · exact .inr ⟨o, e.get a _ h fun _ z => nomatch z⟩
theorem SqL.ex {K : PySem.W.Frag} {H H' : Hp} {a : Addr} {xs : List V} (e : Ex H H') (h : SqL K H a xs) : SqL K H' a xs := by
  rcases h with h | h
  · exact .inl (Rd.ex e h)
  · exact .inr h
theorem SqT.ex {K : PySem.W.Frag} {H H' : Hp} {a : Addr} {xs : List V} (e : Ex H H') (h : SqT K H a xs) : SqT K H' a xs := by
  rcases h with h | h
  · exact .inl (Rd.ex e h)
  · exact .inr h
mutual
theorem Rep.ex {K : PySem.W.Frag} {H H' : Hp} (e : Ex H H') : ∀ {v : V} {d : D}, Rep K H v d → Rep K H' v d
  | _, _, .non => .non
  | _, _, .bl b => .bl b
  | _, _, .int i => .int i
  | _, _, .str x => .str x
  | _, _, .lst h r => .lst (SqL.ex e h) (RepAll.ex e r)
  | _, _, .tup h r => .tup (SqT.ex e h) (RepAll.ex e r)
  | _, _, .dct h r => .dct (Rd.ex e h) (RepKV.ex e r)
  | _, _, .ext h => .ext (e.ext h)
theorem RepAll.ex {K : PySem.W.Frag} {H H' : Hp} (e : Ex H H') : ∀ {vs : List V} {ds : List D}, RepAll K H vs ds → RepAll K H' vs ds
  | _, _, .nil => .nil
  | _, _, .cons h r => .cons (Rep.ex e h) (RepAll.ex e r)
theorem RepKV.ex {K : PySem.W.Frag} {H H' : Hp} (e : Ex H H') : ∀ {vs : List (Key × V)} {ds : List (Key × D)}, RepKV K H vs ds → RepKV K H' vs ds
  | _, _, .nil => .nil
  | _, _, .cons h r => .cons (Rep.ex e h) (RepKV.ex e r)
end

mutual
/-- tuples and simple things alone -/
def D.flat : D → Bool
  | .non | .bl _ | .int _ | .str _ => true
  | .tup xs => flatAll xs
  | _ => false
def D.flatAll : List D → Bool
  | [] => true
  | x :: xs => D.flat x && D.flatAll xs
end
/-- a heap without some lists -/
def hide (H : Hp) (ps : List Addr) : Hp := fun a => if a ∈ ps then none else H a
theorem hide_in {H : Hp} {ps : List Addr} {a : Addr} (h : a ∈ ps) : hide H ps a = none := if_pos h
theorem hide_out {H : Hp} {ps : List Addr} {a : Addr} (h : a ∉ ps) : hide H ps a = H a := if_neg h
theorem hide_ex {H : Hp} {ps : List Addr} : Ex (hide H ps) H := Ex.of fun a o h => by
  by_cases z : a ∈ ps
  · rw [hide_in z] at h; cases h
  · rw [hide_out z] at h; exact h
/-- what may be one's own: lists, dicts, instances -/
def Mu : HO → Prop
  | .lst _ | .dK _ | .dT _ | .ins _ _ _ | .own _ => True
  | _ => False
theorem Mu.pln {u : HO} (h : Mu u) : Pln (some u) := by cases u <;> first | trivial | exact h.elim
theorem Mu.nt {u : HO} (h : Mu u) : NT u := fun ps e => by rw [e] at h; exact h
def Lsts (H : Hp) (ps : List Addr) : Prop := ∀ p ∈ ps, ∃ u, H p = some u ∧ Mu u
theorem tabS_hide {H : Hp} {ps : List Addr} (hl : Lsts H ps) {P : Addr} {q : Str} (t : LamX.TabS H P q) : LamX.TabS (hide H ps) P q := TabS.but t fun a u e n => by
  rw [hide_out fun z => ?_]
  · exact e
  · obtain ⟨v, h, mu⟩ := hl a z
    rw [e] at h
    cases h
    exact n mu.pln
theorem Ex.hides {H H' : Hp} {ps : List Addr} (e : Ex H H') (hl : Lsts H' ps) : Ex (hide H ps) (hide H' ps) := by
  refine ⟨fun a o h n => ?_, fun a n => ?_, fun P t => tabS_hide hl (e.tab P (hide_ex.tab P t))⟩
  · by_cases z : a ∈ ps
    · rw [hide_in z] at h; cases h
    · rw [hide_out z] at h ⊢
      exact e.get a o h n
  · by_cases z : a ∈ ps
    · exact hide_in z
    · rw [hide_out z] at n ⊢
      exact e.fr a n
/-- a part without some lists -/
theorem ex_hide {Hz H : Hp} {ps : List Addr} (e : Ex Hz H) (hl : Lsts H ps) (hn : ∀ p ∈ ps, Hz p = none) : Ex Hz (hide H ps) := by
  refine ⟨fun a o h n => ?_, fun a n => ?_, fun P t => tabS_hide hl (e.tab P t)⟩
  · rw [hide_out fun z => by rw [hn a z] at h; cases h]
    exact e.get a o h n
  · by_cases z : a ∈ ps
    · exact hn a z
    · rw [hide_out z] at n; exact e.fr a n
theorem SqT.hide {K : PySem.W.Frag} {H : Hp} {ps : List Addr} (hl : Lsts H ps) {a : Addr} {xs : List V} (h : SqT K H a xs) : SqT K (hide H ps) a xs := by
  have nin : ∀ o, H a = some o → ¬ Mu o → a ∉ ps := fun o e n z => by
    obtain ⟨u, q, mu⟩ := hl a z
    rw [e] at q
    exact n (Option.some.inj q ▸ mu)
  rcases h with (h | ⟨o, h⟩) | h
  · exact .inl (.inl (by rw [hide_out (nin _ h fun z => z)]; exact h))
  · exact .inl (.inr ⟨o, by rw [hide_out (nin _ h fun z => z)]; exact h⟩)
  · exact .inr h
mutual
theorem Rep.hide {K : PySem.W.Frag} {H : Hp} {ps : List Addr} (hl : Lsts H ps) : ∀ {v : V} {d : D}, Rep K H v d → d.flat = true → Rep K (hide H ps) v d
  | _, _, .non, _ => .non
  | _, _, .bl b, _ => .bl b
  | _, _, .int i, _ => .int i
  | _, _, .str x, _ => .str x
  | _, _, .lst h r, f => by simp [D.flat] at f
  | _, _, .tup h r, f => .tup (SqT.hide hl h) (RepAll.hide hl r (by simpa [D.flat] using f))
  | _, _, .dct h r, f => by simp [D.flat] at f
  | _, _, .ext h, f => by simp [D.flat] at f
theorem RepAll.hide {K : PySem.W.Frag} {H : Hp} {ps : List Addr} (hl : Lsts H ps) : ∀ {vs : List V} {ds : List D}, RepAll K H vs ds → D.flatAll ds = true → RepAll K (hide H ps) vs ds
  | _, _, .nil, _ => .nil
  | _, _, .cons h r, f => by
    obtain ⟨f1, f2⟩ := Bool.and_eq_true_iff.mp (show (D.flat _ && D.flatAll _) = true from f)
    exact .cons (Rep.hide hl h f1) (RepAll.hide hl r f2)
end
theorem RepAll.length {K : PySem.W.Frag} {H : Hp} : ∀ {vs : List V} {ds : List D}, RepAll K H vs ds → vs.length = ds.length
  | _, _, .nil => rfl
  | _, _, .cons _ r => congrArg (· + 1) (RepAll.length r)
theorem RepAll.append {K : PySem.W.Frag} {H : Hp} : ∀ {vs ws : List V} {ds es : List D}, RepAll K H vs ds → RepAll K H ws es → RepAll K H (vs ++ ws) (ds ++ es)
  | _, _, _, _, .nil, s => s
  | _, _, _, _, .cons h r, s => .cons h (RepAll.append r s)
theorem RepAll.get {K : PySem.W.Frag} {H : Hp} : ∀ {vs : List V} {ds : List D} {i : Nat} {d : D}, RepAll K H vs ds → ds[i]? = some d → ∃ v, vs[i]? = some v ∧ Rep K H v d
  | _, _, _, _, .nil, e => by simp at e
  | _, _, 0, _, .cons h _, e => by simp at e; subst e; exact ⟨_, rfl, h⟩
  | _, _, i + 1, d, .cons _ r, e => by
    obtain ⟨v, h1, h2⟩ := RepAll.get (i := i) (d := d) r (by simpa using e)
    exact ⟨v, by simpa using h1, h2⟩
theorem RepAll.get' {K : PySem.W.Frag} {H : Hp} : ∀ {vs : List V} {ds : List D} {i : Nat} {v : V}, RepAll K H vs ds → vs[i]? = some v → ∃ d, ds[i]? = some d ∧ Rep K H v d
  | _, _, _, _, .nil, e => by simp at e
  | _, _, 0, _, .cons h _, e => by simp at e; subst e; exact ⟨_, rfl, h⟩
  | _, _, i + 1, v, .cons _ r, e => by
    obtain ⟨d, h1, h2⟩ := RepAll.get' (i := i) (v := v) r (by simpa using e)
    exact ⟨d, by simpa using h1, h2⟩
theorem RepAll.take {K : PySem.W.Frag} {H : Hp} : ∀ {vs : List V} {ds : List D} (n : Nat), RepAll K H vs ds → RepAll K H (vs.take n) (ds.take n)
  | _, _, 0, _ => .nil
  | _, _, _ + 1, .nil => .nil
  | _, _, n + 1, .cons h r => .cons h (RepAll.take n r)
theorem RepAll.drop {K : PySem.W.Frag} {H : Hp} : ∀ {vs : List V} {ds : List D} (n : Nat), RepAll K H vs ds → RepAll K H (vs.drop n) (ds.drop n)
  | _, _, 0, r => r
  | _, _, _ + 1, .nil => .nil
  | _, _, n + 1, .cons _ r => RepAll.drop n r
theorem RepAll.set {K : PySem.W.Frag} {H : Hp} {v : V} {d : D} (h : Rep K H v d) : ∀ {vs : List V} {ds : List D} (i : Nat), RepAll K H vs ds → RepAll K H (vs.set i v) (ds.set i d)
  | _, _, _, .nil => .nil
  | _, _, 0, .cons _ r => .cons h r
  | _, _, i + 1, .cons q r => .cons q (RepAll.set h i r)
theorem RepAll.eraseIdx {K : PySem.W.Frag} {H : Hp} : ∀ {vs : List V} {ds : List D} (i : Nat), RepAll K H vs ds → RepAll K H (vs.eraseIdx i) (ds.eraseIdx i)
  | _, _, _, .nil => .nil
  | _, _, 0, .cons _ r => r
  | _, _, i + 1, .cons q r => .cons q (RepAll.eraseIdx i r)
theorem RepAll.ints {K : PySem.W.Frag} {H : Hp} : ∀ {vs : List V} {ns : List Int}, RepAll K H vs (ns.map D.int) → vs = ns.map V.int
  | _, [], .nil => rfl
  | _, n :: ns, .cons (.int _) r => congrArg (V.int n :: ·) (RepAll.ints r)
theorem repAll_ints {K : PySem.W.Frag} {H : Hp} : ∀ ns : List Int, RepAll K H (ns.map V.int) (ns.map D.int)
  | [] => .nil
  | n :: ns => .cons (.int n) (repAll_ints ns)
theorem RepAll.bls {K : PySem.W.Frag} {H : Hp} : ∀ {vs : List V} {ns : List Bool}, RepAll K H vs (ns.map D.bl) → vs = ns.map V.bl
  | _, [], .nil => rfl
  | _, n :: ns, .cons (.bl _) r => congrArg (V.bl n :: ·) (RepAll.bls r)

/-! ### the slots -/
inductive Ent where
  | any
  | dat (d : D)
  | own (p : Addr) (ds : List D)
  /-- a thing of one's own that stands in the cells ps: φ of what stands in them and of the rest -/
  | res (ps : List Addr) (v : V) (φ : List HO → Hp → Prop)
/-- what stands in some cells -/
def Cells (H : Hp) (ps : List Addr) (us : List HO) : Prop := Paired (fun p u => H p = some u ∧ Mu u) ps us
def EntOk (K : PySem.W.Frag) (Hz H : Hp) : Ent → Option V → Prop
  | .any, _ => True
  | .dat d, o => ∃ v, o = some v ∧ Rep K Hz v d
  | .own p ds, o => o = some (.ref p) ∧ Hz p = none ∧ ∃ vs, H p = some (.lst vs) ∧ RepAll K Hz vs ds
  | .res ps v φ, o => o = some v ∧ ∃ us, Cells H ps us ∧ (∀ p ∈ ps, Hz p = none) ∧ ∀ Hz', Ex Hz Hz' → φ us Hz'
abbrev Slots := List Ent
def owns : Slots → List Addr
  | [] => []
  | .own p _ :: r => p :: owns r
  | .res ps _ _ :: r => ps ++ owns r
  | _ :: r => owns r
theorem Cells.mem {H : Hp} : ∀ {ps : List Addr} {us : List HO}, Cells H ps us → ∀ p ∈ ps, ∃ u, H p = some u ∧ Mu u
  | _, _, .nil, _, h => nomatch h
  | _, _, .cons (b := u) h r, p, m => by
    rcases List.mem_cons.mp m with e | m
    · rw [e]; exact ⟨u, h⟩
    · exact Cells.mem r p m
theorem Cells.on {H H' : Hp} : ∀ {ps : List Addr} {us : List HO}, Cells H ps us → (∀ p u, p ∈ ps → H p = some u → Mu u → H' p = some u) → Cells H' ps us
  | _, _, .nil, _ => .nil
  | _, _, .cons h r, f => .cons ⟨f _ _ List.mem_cons_self h.1 h.2, h.2⟩ (Cells.on r fun p u m => f p u (List.mem_cons_of_mem _ m))
/-- the slots σ hold what Γ says; all that stood in Hb stands -/
def EnvOk (K : PySem.W.Frag) (Hb : Hp) (Γ : Slots) (σ : L2.St) (H : Hp) : Prop :=
  ∃ Hz : Hp, ExK K Hb Hz ∧ Ex Hz H ∧ Paired (EntOk K Hz H) Γ σ ∧ (owns Γ).Nodup
section
variable {K : PySem.W.Frag} {Hb Hz H H' : Hp} {Γ : Slots} {σ : L2.St}
theorem Paired.getE {α β : Type} {F : α → β → Prop} : ∀ {l₁ : List α} {l₂ : List β} {i : Nat} {a : α}, Paired F l₁ l₂ → l₁[i]? = some a → ∃ b, l₂[i]? = some b ∧ F a b
  | _, _, _, _, .nil, e => by simp at e
  | _, _, 0, _, .cons h _, e => by simp at e; subst e; exact ⟨_, rfl, h⟩
  | _, _, i + 1, a, .cons _ r, e => by
    obtain ⟨b, h1, h2⟩ := Paired.getE (i := i) (a := a) r (by simpa using e)
    exact ⟨b, by simpa using h1, h2⟩
theorem Paired.setE {α β : Type} {F : α → β → Prop} {a : α} {b : β} (h : F a b) : ∀ {l₁ : List α} {l₂ : List β} (i : Nat), Paired F l₁ l₂ → Paired F (l₁.set i a) (l₂.set i b)
  | _, _, _, .nil => .nil
  | _, _, 0, .cons _ r => .cons h r
  | _, _, i + 1, .cons q r => .cons q (Paired.setE h i r)
theorem Paired.setL {α β : Type} {F : α → β → Prop} {a : α} (h : ∀ b, F a b) : ∀ {l₁ : List α} {l₂ : List β} (i : Nat), Paired F l₁ l₂ → Paired F (l₁.set i a) l₂
  | _, _, _, .nil => .nil
  | _, _, 0, .cons _ r => .cons (h _) r
  | _, _, i + 1, .cons q r => .cons q (Paired.setL h i r)
/-- the cells of an entry -/
def Ent.cells : Ent → List Addr
  | .own p _ => [p]
  | .res ps _ _ => ps
  | _ => []
theorem mem_owns : ∀ {Γ : Slots} {p : Addr}, p ∈ owns Γ → ∃ (i : Nat) (e : Ent), Γ[i]? = some e ∧ p ∈ e.cells
  | [], _, h => by simp [owns] at h
  | .own q ds :: r, p, h => by
    rcases List.mem_cons.mp h with e | h
    · exact ⟨0, .own q ds, rfl, by rw [e]; exact List.mem_cons_self⟩
    · obtain ⟨i, ds', q⟩ := mem_owns h
      exact ⟨i + 1, ds', q⟩
  | .res qs v φ :: r, p, h => by
    rcases List.mem_append.mp h with h | h
    · exact ⟨0, .res qs v φ, rfl, h⟩
    · obtain ⟨i, ds', q⟩ := mem_owns h
      exact ⟨i + 1, ds', q⟩
  | .any :: r, p, h => by
    obtain ⟨i, ds', q⟩ := mem_owns (Γ := r) h
    exact ⟨i + 1, ds', q⟩
  | .dat d :: r, p, h => by
    obtain ⟨i, ds', q⟩ := mem_owns (Γ := r) h
    exact ⟨i + 1, ds', q⟩
theorem owns_cells : ∀ {Γ : Slots} {i : Nat} {e : Ent}, Γ[i]? = some e → ∀ p ∈ e.cells, p ∈ owns Γ
  | [], _, _, h, _, _ => by simp at h
  | e :: r, 0, e', h, p, hp => by
    simp at h; subst h
    cases e with
    | own q ds => rw [List.mem_singleton.mp hp]; exact List.mem_cons_self
    | res qs v φ => exact List.mem_append_left _ hp
    | any => exact nomatch hp
    | dat d => exact nomatch hp
  | .own q _ :: r, i + 1, e, h, p, hp => List.mem_cons_of_mem _ (owns_cells (Γ := r) (i := i) (by simpa using h) p hp)
  | .res _ _ _ :: r, i + 1, e, h, p, hp => List.mem_append_right _ (owns_cells (Γ := r) (i := i) (by simpa using h) p hp)
  | .any :: r, i + 1, e, h, p, hp => owns_cells (Γ := r) (i := i) (by simpa using h) p hp
  | .dat _ :: r, i + 1, e, h, p, hp => owns_cells (Γ := r) (i := i) (by simpa using h) p hp
theorem EntOk.cell {e : Ent} {o : Option V} (h : EntOk K Hz H e o) : ∀ p ∈ e.cells, (∃ u, H p = some u ∧ Mu u) ∧ Hz p = none := by
  cases e with
  | any => exact fun p m => nomatch m
  | dat d => exact fun p m => nomatch m
  | own q ds =>
    obtain ⟨_, n, vs, h1, _⟩ := h
    intro p m
    rw [List.mem_singleton.mp m]
    exact ⟨⟨_, h1, trivial⟩, n⟩
  | res qs v φ =>
    obtain ⟨_, us, h1, h2, _⟩ := h
    exact fun p m => ⟨Cells.mem h1 p m, h2 p m⟩
theorem owns_of {i : Nat} {p : Addr} {ds : List D} (h : Γ[i]? = some (.own p ds)) : p ∈ owns Γ := owns_cells h p List.mem_cons_self
theorem owns_lsts (h : Paired (EntOk K Hz H) Γ σ) : Lsts H (owns Γ) := fun p hp => by
  obtain ⟨i, e, he, m⟩ := mem_owns hp
  obtain ⟨o, _, q⟩ := Paired.getE h he
  exact (q.cell p m).1
theorem owns_free (h : Paired (EntOk K Hz H) Γ σ) : ∀ p ∈ owns Γ, Hz p = none := fun p hp => by
  obtain ⟨i, e, he, m⟩ := mem_owns hp
  obtain ⟨o, _, q⟩ := Paired.getE h he
  exact (q.cell p m).2
/-- the frozen part grows, the lists stay -/
theorem EntOk.growC {Hz' : Hp} {e : Ent} {o : Option V} (ez : Ex Hz Hz') (eh : ∀ p u, p ∈ e.cells → H p = some u → Mu u → Hz p = none → H' p = some u ∧ Hz' p = none) (h : EntOk K Hz H e o) : EntOk K Hz' H' e o := by
  cases e with
  | any => trivial
  | dat d => obtain ⟨v, e, r⟩ := h; exact ⟨v, e, r.ex ez⟩
  | own q ds =>
    obtain ⟨e, n, vs, q, r⟩ := h
    have z := eh _ _ List.mem_cons_self q trivial n
    exact ⟨e, z.2, vs, z.1, r.ex ez⟩
  | res ps v φ =>
    obtain ⟨e, us, h1, h2, h3⟩ := h
    refine ⟨e, us, Cells.on h1 fun p u m q mu => (eh p u m q mu (h2 p m)).1, fun p m => ?_, fun Hw x => h3 Hw (ez.trans x)⟩
    obtain ⟨u, q, mu⟩ := Cells.mem h1 p m
    exact (eh p u m q mu (h2 p m)).2
theorem EntOk.grow {Hz' : Hp} (ez : Ex Hz Hz') (eh : ∀ p u, H p = some u → Mu u → Hz p = none → H' p = some u ∧ Hz' p = none) {e : Ent} {o : Option V} (h : EntOk K Hz H e o) : EntOk K Hz' H' e o := h.growC ez fun p u _ => eh p u
theorem Paired.mapE {α β : Type} {F G : α → β → Prop} : ∀ {l₁ : List α} {l₂ : List β}, Paired F l₁ l₂ → (∀ a b, a ∈ l₁ → F a b → G a b) → Paired G l₁ l₂
  | _, _, .nil, _ => .nil
  | _, _, .cons h r, f => .cons (f _ _ List.mem_cons_self h) (Paired.mapE r fun a b m => f a b (List.mem_cons_of_mem _ m))
theorem EnvOk.ex (h : EnvOk K Hb Γ σ H) (e : Ex H H') : EnvOk K Hb Γ σ H' := by
  obtain ⟨Hz, h1, h2, h3, h4⟩ := h
  refine ⟨Hz, h1, h2.trans e, Paired.mapE h3 fun a b _ q => q.grow Ex.refl fun p u q1 mu q2 => ⟨e.get p u q1 mu.nt, q2⟩, h4⟩
theorem EnvOk.base (h : EnvOk K Hb Γ σ H) : Ex Hb H := let ⟨_, h1, h2, _⟩ := h; h1.toEx.trans h2
theorem EnvOk.tb (h : EnvOk K Hb Γ σ H) : TbOk K Hb := let ⟨_, h1, _⟩ := h; h1.tb
theorem EnvOk.dat {i : Nat} {d : D} (h : EnvOk K Hb Γ σ H) (e : Γ[i]? = some (.dat d)) : ∃ v, σ[i]? = some (some v) ∧ Rep K H v d := by
  obtain ⟨Hz, h1, h2, h3, h4⟩ := h
  obtain ⟨o, q, v, rfl, r⟩ := Paired.getE h3 e
  exact ⟨v, q, r.ex h2⟩
theorem EnvOk.own {i : Nat} {p : Addr} {ds : List D} (h : EnvOk K Hb Γ σ H) (e : Γ[i]? = some (.own p ds)) : σ[i]? = some (some (.ref p)) ∧ Hb p = none ∧ ∃ vs, H p = some (.lst vs) ∧ RepAll K H vs ds := by
  obtain ⟨Hz, h1, h2, h3, h4⟩ := h
  obtain ⟨o, q, rfl, n, vs, q2, r⟩ := Paired.getE h3 e
  exact ⟨q, h1.free n, vs, q2, r.ex h2⟩
/-- what may be stored as frozen -/
def Sto (Γ : Slots) (d : D) : Prop := d.flat = true ∨ owns Γ = []
theorem owns_cons (e : Ent) (r : Slots) : owns (e :: r) = e.cells ++ owns r := by cases e <;> rfl
theorem owns_set_cells : ∀ {Γ : Slots} {i : Nat} {e : Ent}, e.cells = [] → (owns (Γ.set i e)).Sublist (owns Γ)
  | [], _, _, _ => List.Sublist.refl _
  | x :: r, 0, e, he => by
    show (owns (e :: r)).Sublist _
    rw [owns_cons, owns_cons, he]
    exact List.sublist_append_right _ _
  | x :: r, i + 1, e, he => by
    show (owns (x :: r.set i e)).Sublist _
    rw [owns_cons, owns_cons]
    exact List.Sublist.append (List.Sublist.refl _) (owns_set_cells he)
/-- the frozen part taken as large as may be -/
theorem EnvOk.wide (h : EnvOk K Hb Γ σ H) : ExK K Hb (hide H (owns Γ)) ∧ Ex (hide H (owns Γ)) H ∧ Paired (EntOk K (hide H (owns Γ)) H) Γ σ ∧ (owns Γ).Nodup := by
  obtain ⟨Hz, h1, h2, h3, h4⟩ := h
  have fr := owns_free h3
  have ez : Ex Hz (hide H (owns Γ)) := ex_hide h2 (owns_lsts h3) fr
  refine ⟨h1.trans ez, hide_ex, Paired.mapE h3 fun a b m q => ?_, h4⟩
  obtain ⟨i, hi, hm⟩ := List.mem_iff_getElem.mp m
  exact q.growC ez fun p u mc q1 _ _ => ⟨q1, hide_in (owns_cells (i := i) (e := a) (by rw [List.getElem?_eq_getElem hi, hm]) p mc)⟩
theorem EnvOk.setDat {i : Nat} {v : V} {d : D} (h : EnvOk K Hb Γ σ H) (r : Rep K H v d) (s : Sto Γ d) : EnvOk K Hb (Γ.set i (.dat d)) (σ.set i (some v)) H := by
  obtain ⟨h1, h2, h3, h4⟩ := h.wide
  have r' : Rep K (hide H (owns Γ)) v d := by
    rcases s with f | e
    · exact r.hide (owns_lsts h3) f
    · have : hide H (owns Γ) = H := by
        funext a
        rw [e]
        exact hide_out (by simp)
      rw [this]
      exact r
  exact ⟨_, h1, h2, Paired.setE (show EntOk K _ H (.dat d) (some v) from ⟨v, rfl, r'⟩) i h3, List.Nodup.sublist (owns_set_cells rfl) h4⟩
theorem EnvOk.setAny {i : Nat} {o : Option V} (h : EnvOk K Hb Γ σ H) : EnvOk K Hb (Γ.set i .any) (σ.set i o) H := by
  obtain ⟨Hz, h1, h2, h3, h4⟩ := h
  exact ⟨_, h1, h2, Paired.setE (show EntOk K _ H .any o from trivial) i h3, List.Nodup.sublist (owns_set_cells rfl) h4⟩
theorem EnvOk.forget {i : Nat} (h : EnvOk K Hb Γ σ H) : EnvOk K Hb (Γ.set i .any) σ H := by
  obtain ⟨Hz, h1, h2, h3, h4⟩ := h
  exact ⟨_, h1, h2, Paired.setL (fun _ => trivial) i h3, List.Nodup.sublist (owns_set_cells rfl) h4⟩
theorem nodup_app {α : Type} {l r : List α} : (l ++ r).Nodup ↔ l.Nodup ∧ r.Nodup ∧ ∀ a ∈ l, a ∉ r := by
  rw [List.nodup_append]
  exact ⟨fun ⟨a, b, c⟩ => ⟨a, b, fun x h1 h2 => c x h1 x h2 rfl⟩, fun ⟨a, b, c⟩ => ⟨a, b, fun x h1 y h2 e => c x h1 (e ▸ h2)⟩⟩
theorem owns_set_new : ∀ {Γ : Slots} {i : Nat} {e : Ent}, e.cells.Nodup → (∀ p ∈ e.cells, p ∉ owns Γ) → (owns Γ).Nodup → (owns (Γ.set i e)).Nodup ∧ ∀ q ∈ owns (Γ.set i e), q ∈ e.cells ∨ q ∈ owns Γ
  | [], _, _, _, _, h => ⟨h, fun q hq => .inr hq⟩
  | x :: r, 0, e, hn, hp, h => by
    show (owns (e :: r)).Nodup ∧ _
    rw [owns_cons] at h hp ⊢
    have h' := nodup_app.mp h
    refine ⟨nodup_app.mpr ⟨hn, h'.2.1, fun a ha z => hp a ha (List.mem_append_right _ z)⟩, fun q hq => ?_⟩
    have hq : q ∈ owns (e :: r) := hq
    rw [owns_cons] at hq
    rcases List.mem_append.mp hq with z | z
    · exact .inl z
    · exact .inr (by rw [owns_cons]; exact List.mem_append_right _ z)
  | x :: r, i + 1, e, hn, hp, h => by
    show (owns (x :: r.set i e)).Nodup ∧ _
    rw [owns_cons] at h hp ⊢
    have h' := nodup_app.mp h
    obtain ⟨a, b⟩ := owns_set_new (Γ := r) (i := i) hn (fun p m z => hp p m (List.mem_append_right _ z)) h'.2.1
    refine ⟨nodup_app.mpr ⟨h'.1, a, fun y hy z => ?_⟩, fun q hq => ?_⟩
    · rcases b y z with z | z
      · exact hp y z (List.mem_append_left _ hy)
      · exact h'.2.2 y hy z
    · have hq : q ∈ owns (x :: r.set i e) := hq
      rw [owns_cons] at hq
      rcases List.mem_append.mp hq with z | z
      · exact .inr (by rw [owns_cons]; exact List.mem_append_left _ z)
      · exact (b q z).imp id fun z => by rw [owns_cons]; exact List.mem_append_right _ z
/-- a new thing of one's own is stored -/
theorem EnvOk.setNew {i : Nat} {e : Ent} {v : V} (h : EnvOk K Hb Γ σ H) (hp : ∀ p ∈ e.cells, H p = none) (x : Ex H H') (hn : e.cells.Nodup) (hm : ∀ p ∈ e.cells, ∃ u, H' p = some u ∧ Mu u) (hok : ∀ Hz, Ex Hz H' → (∀ p ∈ e.cells, Hz p = none) → Ex (hide H' (e.cells ++ owns Γ)) Hz → EntOk K Hz H' e (some v)) :
    EnvOk K Hb (Γ.set i e) (σ.set i (some v)) H' := by
  obtain ⟨Hz, k1, k2, k3, k4⟩ := h
  have hno : ∀ p ∈ e.cells, p ∉ owns Γ := fun p m z => by
    obtain ⟨u, q, _⟩ := owns_lsts k3 p z
    rw [hp p m] at q; cases q
  have l2 : Lsts H' (e.cells ++ owns Γ) := fun q hq => by
    rcases List.mem_append.mp hq with z | z
    · exact hm q z
    · obtain ⟨u, q1, mu⟩ := owns_lsts k3 q z
      exact ⟨u, x.get q u q1 mu.nt, mu⟩
  have ezp : Ex Hz (hide H' (e.cells ++ owns Γ)) := ex_hide (k2.trans x) l2 fun q hq => by
    rcases List.mem_append.mp hq with z | z
    · exact k2.fr q (hp q z)
    · exact owns_free k3 q z
  have k3' : Paired (EntOk K (hide H' (e.cells ++ owns Γ)) H') Γ σ := Paired.mapE k3 fun a b m q => by
    obtain ⟨j, hj, hmm⟩ := List.mem_iff_getElem.mp m
    exact q.growC ezp fun p u mc q1 mu _ => ⟨x.get p u q1 mu.nt, hide_in (List.mem_append_right _ (owns_cells (i := j) (e := a) (by rw [List.getElem?_eq_getElem hj, hmm]) p mc))⟩
  exact ⟨hide H' (e.cells ++ owns Γ), k1.trans ezp, hide_ex, Paired.setE (hok _ hide_ex (fun p m => hide_in (List.mem_append_left _ m)) Ex.refl) i k3', (owns_set_new hn hno k4).1⟩
/-- a new list is stored, to be changed -/
theorem EnvOk.setOwn {i : Nat} {p : Addr} {vs : List V} {ds : List D} (h : EnvOk K Hb Γ σ H) (hp : H p = none) (e : Ex H H') (hl : H' p = some (.lst vs)) (r : RepAll K H' vs ds) (f : D.flatAll ds = true) :
    EnvOk K Hb (Γ.set i (.own p ds)) (σ.set i (some (.ref p))) H' := by
  have l2 : Lsts H' (p :: owns Γ) := fun q hq => by
    rcases List.mem_cons.mp hq with z | z
    · exact ⟨.lst vs, z ▸ hl, (trivial : Mu (.lst vs))⟩
    · exact owns_lsts (h.ex e).wide.2.2.1 q z
  have hc : (Ent.own p ds).cells = [p] := rfl
  exact h.setNew (e := .own p ds) (fun q m => by rw [List.mem_singleton.mp m]; exact hp) e (by rw [hc]; simp) (fun q m => by rw [List.mem_singleton.mp m]; exact ⟨.lst vs, hl, (trivial : Mu (.lst vs))⟩)
    fun Hz _ hz ez => ⟨rfl, hz p List.mem_cons_self, vs, hl, (r.hide l2 f).ex ez⟩
/-- the cells of an entry are changed -/
theorem EnvOk.mutNew {i : Nat} {e e' : Ent} {v : V} (h : EnvOk K Hb Γ σ H) (he : Γ[i]? = some e) (hv : σ[i]? = some (some v)) (hc : e'.cells = e.cells) (hH : ∀ a, a ∉ e.cells → H' a = H a) (x : Ex (hide H (owns Γ)) H') (hok : EntOk K (hide H (owns Γ)) H' e' (some v)) :
    EnvOk K Hb (Γ.set i e') σ H' := by
  obtain ⟨h1, h2, h3, h4⟩ := h.wide
  have go : ∀ {Γ' : Slots} {σ' : L2.St} {j : Nat}, Paired (EntOk K (hide H (owns Γ)) H) Γ' σ' → Γ'[j]? = some e → σ'[j]? = some (some v) → (owns Γ').Nodup → Paired (EntOk K (hide H (owns Γ)) H') (Γ'.set j e') σ' ∧ owns (Γ'.set j e') = owns Γ' := by
    have oth : ∀ {Γ' : Slots} {σ' : L2.St}, Paired (EntOk K (hide H (owns Γ)) H) Γ' σ' → (∀ p ∈ e.cells, p ∉ owns Γ') → Paired (EntOk K (hide H (owns Γ)) H') Γ' σ' := fun {Γ' σ'} k np => Paired.mapE k fun a b m q => by
      obtain ⟨j, hj, hm⟩ := List.mem_iff_getElem.mp m
      refine q.growC Ex.refl fun p u mc q1 _ q2 => ⟨?_, q2⟩
      rw [hH p fun z => np p z (owns_cells (i := j) (e := a) (by rw [List.getElem?_eq_getElem hj, hm]) p mc)]
      exact q1
    intro Γ'
    induction Γ' with
    | nil => intro σ' j _ z; simp at z
    | cons a rr ih =>
      intro σ' j k z zv nd
      rw [owns_cons] at nd
      have nd' := nodup_app.mp nd
      cases k with
      | cons k1 k2 =>
        cases j with
        | zero =>
          simp at z
          subst z
          simp at zv
          subst zv
          refine ⟨.cons hok (oth k2 nd'.2.2), ?_⟩
          show owns (e' :: rr) = owns (a :: rr)
          rw [owns_cons, owns_cons, hc]
        | succ j =>
          have z' : rr[j]? = some e := by simpa using z
          obtain ⟨u1, u2⟩ := ih k2 z' (by simpa using zv) nd'.2.1
          refine ⟨.cons (k1.growC Ex.refl fun p u mc q1 _ q2 => ⟨?_, q2⟩) u1, ?_⟩
          · rw [hH p fun w => nd'.2.2 p mc (owns_cells z' p w)]
            exact q1
          · show owns (a :: rr.set j e') = owns (a :: rr)
            rw [owns_cons, owns_cons, u2]
  obtain ⟨u1, u2⟩ := go h3 he hv h4
  exact ⟨_, h1, x, u1, by rw [u2]; exact h4⟩
/-- a list of one's own is changed -/
theorem EnvOk.mutOwn {i : Nat} {p : Addr} {ds es : List D} {ws : List V} (h : EnvOk K Hb Γ σ H) (e : Γ[i]? = some (.own p ds)) (r : RepAll K (hide H (owns Γ)) ws es) :
    EnvOk K Hb (Γ.set i (.own p es)) σ (upd H p (.lst ws)) := by
  obtain ⟨h1, h2, h3, h4⟩ := h.wide
  obtain ⟨o, q, rfl, n, vs, q2, r2⟩ := Paired.getE h3 e
  exact h.mutNew e q rfl (fun a m => upd_ne fun z => m (by rw [z]; exact List.mem_cons_self)) (Ex.mut h2 n (by rw [q2]; trivial)) ⟨rfl, n, ws, upd_same, r⟩
end
end L3

namespace L3
open PySem PySem.Spec PyProof.Rows L2

/-! ### what a piece of syntax does -/
structure SemEP (X : Cx) (e : Expr) (σ : L2.St) (H : Hp) (Q : VK) : Prop where
  run : ∀ pins s, Inv X pins σ H s → wpAny (model X.prog X.w) X.A (eval e X.env) (EP X pins σ Q) X.xe s
structure SemTP (X : Cx) (e : Expr) (σ : L2.St) (H : Hp) (Q : Bool → Hp → Prop) : Prop where
  run : ∀ pins s, Inv X pins σ H s → wpAny (model X.prog X.w) X.A (isTrue e X.env (eval e X.env)) (TP X pins σ Q) X.xe s
structure SemWP (X : Cx) (e : Expr) (σ : L2.St) (H : Hp) (Q : Bool → Hp → Prop) : Prop where
  run : ∀ wh pins s, Inv X pins σ H s → wpAny (model X.prog X.w) X.A (isTrue e X.env wh) (TP X pins σ Q) X.xe s
structure SemAP (X : Cx) (es : List Expr) (σ : L2.St) (H : Hp) (Q : List V → Hp → Prop) : Prop where
  run : ∀ pos pins s, Inv X pins σ H s → wpAny (model X.prog X.w) X.A (spliced (backTo pos (starEach es X.env))) (AP X pins σ Q) X.xe s
structure SemSsP (X : Cx) (sts : List Stmt) (D : Ends) (σ : L2.St) (H : Hp) : Prop where
  run : ∀ pins s, Inv X pins σ H s → wpAny (model X.prog X.w) X.A (execs sts X.env) (SP X pins D) X.xe s
structure SemSP (X : Cx) (st : Stmt) (D : Ends) (σ : L2.St) (H : Hp) : Prop where
  run : ∀ pins s, Inv X pins σ H s → wpAny (model X.prog X.w) X.A (exec st X.env) (SP X pins D) X.xe s
abbrev SemE (X : Cx) (e : Expr) : TE := fun σ H Q => SemEP X e σ H Q
abbrev SemT (X : Cx) (e : Expr) : TT := fun σ H Q => SemTP X e σ H Q
abbrev SemW (X : Cx) (e : Expr) : TT := fun σ H Q => SemWP X e σ H Q
abbrev SemA (X : Cx) (es : List Expr) : TA := fun σ H Q => SemAP X es σ H Q
abbrev SemSs (X : Cx) (sts : List Stmt) : TS := fun D σ H => SemSsP X sts D σ H
abbrev SemS (X : Cx) (st : Stmt) : TS := fun D σ H => SemSP X st D σ H
theorem semE (X : Cx) (e : Expr) : PE X e (SemE X e) := ⟨fun pins s _ _ _ I h => h.run pins s I⟩
theorem semT (X : Cx) (e : Expr) : PT X e (SemT X e) := ⟨fun pins s _ _ _ I h => h.run pins s I⟩
theorem semW (X : Cx) (e : Expr) : PW X e (SemW X e) := ⟨fun wh pins s _ _ _ I h => h.run wh pins s I⟩
theorem semA (X : Cx) (es : List Expr) : PA X es (SemA X es) := ⟨fun pos pins s _ _ _ I h => h.run pos pins s I⟩
theorem semSs (X : Cx) (sts : List Stmt) : PSs X sts (SemSs X sts) := ⟨fun pins s _ _ _ I h => h.run pins s I⟩
theorem semS (X : Cx) (st : Stmt) : PS X st (SemS X st) := ⟨fun pins s _ _ _ I h => h.run pins s I⟩
section
variable {X : Cx} {e : Expr} {es : List Expr} {σ : L2.St} {H : Hp}
theorem SemE.of {t : TE} {Q : VK} (h : PE X e t) (q : t σ H Q) : SemE X e σ H Q := ⟨fun pins s I => h.run pins s σ H Q I q⟩
theorem SemT.of {t : TT} {Q : Bool → Hp → Prop} (h : PT X e t) (q : t σ H Q) : SemT X e σ H Q := ⟨fun pins s I => h.run pins s σ H Q I q⟩
theorem SemW.of {t : TT} {Q : Bool → Hp → Prop} (h : PW X e t) (q : t σ H Q) : SemW X e σ H Q := ⟨fun wh pins s I => h.run wh pins s σ H Q I q⟩
theorem SemA.of {t : TA} {Q : List V → Hp → Prop} (h : PA X es t) (q : t σ H Q) : SemA X es σ H Q := ⟨fun pos pins s I => h.run pos pins s σ H Q I q⟩
theorem SemSs.of {sts : List Stmt} {t : TS} {D : Ends} (h : PSs X sts t) (q : t D σ H) : SemSs X sts D σ H := ⟨fun pins s I => h.run pins s σ H D I q⟩
theorem SemS.of {st : Stmt} {t : TS} {D : Ends} (h : PS X st t) (q : t D σ H) : SemS X st D σ H := ⟨fun pins s I => h.run pins s σ H D I q⟩
theorem SemE.mono {Q Q' : VK} (h : SemE X e σ H Q) (f : ∀ v H', Q v H' → Q' v H') : SemE X e σ H Q' := ⟨fun pins s I => thn (h.run pins s I) fun _ _ ⟨v, H', I', r, q⟩ => ⟨v, H', I', r, f _ _ q⟩⟩
theorem SemT.mono {Q Q' : Bool → Hp → Prop} (h : SemT X e σ H Q) (f : ∀ v H', Q v H' → Q' v H') : SemT X e σ H Q' := ⟨fun pins s I => thn (h.run pins s I) fun _ _ ⟨H', I', q⟩ => ⟨H', I', f _ _ q⟩⟩
theorem SemSs.mono {sts : List Stmt} {D D' : Ends} (h : SemSs X sts D σ H) (f1 : ∀ a b, D.nx a b → D'.nx a b) (f2 : ∀ a b, D.rt a b → D'.rt a b) (f3 : ∀ a b, D.bk a b → D'.bk a b) (f4 : ∀ a b, D.ct a b → D'.ct a b) : SemSs X sts D' σ H :=
  ⟨fun pins s I => thn (h.run pins s I) fun fl _ q => by
    cases fl with
    | next => obtain ⟨a, b, J, q⟩ := q; exact ⟨a, b, J, f1 a b q⟩
    | brk => obtain ⟨a, b, J, q⟩ := q; exact ⟨a, b, J, f3 a b q⟩
    | cont => obtain ⟨a, b, J, q⟩ := q; exact ⟨a, b, J, f4 a b q⟩
    | ret u => obtain ⟨v, a, b, J, r, q⟩ := q; exact ⟨v, a, b, J, r, f2 v b q⟩⟩
end

/-! ### data-level judgements -/
def FreshV (H : Hp) (v : V) : Prop := ∀ p, v = .ref p → H p = none
def isCont : D → Bool
  | .lst _ | .dct _ => true
  | _ => false
/-- a new list or dict, not to be found elsewhere -/
def FreshD (K : PySem.W.Frag) (H H' : Hp) (v : V) : D → Prop
  | .lst ds => ∃ p vs, v = .ref p ∧ H p = none ∧ H' p = some (.lst vs) ∧ RepAll K H' vs ds
  | .dct ds => ∃ p kvs, v = .ref p ∧ H p = none ∧ H' p = some (.dK kvs) ∧ RepKV K H' kvs ds
  | _ => True
theorem FreshD.flat {K : PySem.W.Frag} {H H' : Hp} {v : V} {d : D} (f : isCont d = false) : FreshD K H H' v d := by
  cases d <;> first | trivial | cases f
theorem FreshD.back {K : PySem.W.Frag} {H H1 H' : Hp} {v : V} {d : D} (e : Ex H H1) (f : FreshD K H1 H' v d) : FreshD K H H' v d := by
  cases d with
  | lst ds => obtain ⟨p, vs, h1, h2, h3, h4⟩ := f; exact ⟨p, vs, h1, e.free h2, h3, h4⟩
  | dct ds => obtain ⟨p, vs, h1, h2, h3, h4⟩ := f; exact ⟨p, vs, h1, e.free h2, h3, h4⟩
  | _ => trivial
theorem FreshD.on {K : PySem.W.Frag} {H H1 H' : Hp} {v : V} {d : D} (f : FreshD K H H' v d) (e : Ex H' H1) : FreshD K H H1 v d := by
  cases d with
  | lst ds => obtain ⟨p, vs, h1, h2, h3, h4⟩ := f; exact ⟨p, vs, h1, h2, e.lst h3, h4.ex e⟩
  | dct ds => obtain ⟨p, vs, h1, h2, h3, h4⟩ := f; exact ⟨p, vs, h1, h2, e.dK h3, h4.ex e⟩
  | _ => trivial
theorem freshL {K : PySem.W.Frag} {H H1 : Hp} {p : Addr} {vs : List V} {ds : List D} (h : H1 p = none) (e : Ex H H1) (r : RepAll K H1 vs ds) : FreshD K H (upd H1 p (.lst vs)) (.ref p) (.lst ds) :=
  ⟨p, vs, rfl, e.free h, upd_same, r.ex (Ex.new h)⟩
def EvN (X : Cx) (Hb : Hp) (e : Expr) (Γ : Slots) (fr : Bool) (S : D → Prop) : Prop := ∀ σ H, EnvOk X.K Hb Γ σ H → ∀ Q : VK, (∀ v H' d, S d → Ex H H' → Rep X.K H' v d → (fr = true → FreshD X.K H H' v d) → Q v H') → SemE X e σ H Q
abbrev Ev (X : Cx) (Hb : Hp) (e : Expr) (Γ : Slots) (fr : Bool) (d : D) : Prop := EvN X Hb e Γ fr (fun x => x = d)
def EvT (X : Cx) (Hb : Hp) (e : Expr) (Γ : Slots) (S : Bool → Prop) : Prop := ∀ σ H, EnvOk X.K Hb Γ σ H → ∀ Q : Bool → Hp → Prop, (∀ b H', S b → Ex H H' → Q b H') → SemT X e σ H Q
abbrev EvB (X : Cx) (Hb : Hp) (e : Expr) (Γ : Slots) (b : Bool) : Prop := EvT X Hb e Γ (fun x => x = b)
def EvW (X : Cx) (Hb : Hp) (e : Expr) (Γ : Slots) (S : Bool → Prop) : Prop := ∀ σ H, EnvOk X.K Hb Γ σ H → ∀ Q : Bool → Hp → Prop, (∀ b H', S b → Ex H H' → Q b H') → SemW X e σ H Q
def EvA (X : Cx) (Hb : Hp) (es : List Expr) (Γ : Slots) (S : List D → Prop) : Prop := ∀ σ H, EnvOk X.K Hb Γ σ H → ∀ Q : List V → Hp → Prop, (∀ vs H' ds, S ds → Ex H H' → RepAll X.K H' vs ds → Q vs H') → SemA X es σ H Q
abbrev EvAs (X : Cx) (Hb : Hp) (es : List Expr) (Γ : Slots) (ds : List D) : Prop := EvA X Hb es Γ (fun x => x = ds)
/-- a list, a tuple that stays while a loop goes over it -/
def EvI (X : Cx) (Hb : Hp) (e : Expr) (Γ : Slots) (S : List D → Prop) : Prop := ∀ σ H, EnvOk X.K Hb Γ σ H → ∀ Q : VK, (∀ a vs H' ds, S ds → Ex H H' → SqL X.K (hide H' (owns Γ)) a vs → RepAll X.K (hide H' (owns Γ)) vs ds → Q (.ref a) H') → SemE X e σ H Q
def Go (X : Cx) (Hb : Hp) (sts : List Stmt) (D : Ends) (Γ : Slots) : Prop := ∀ σ H, EnvOk X.K Hb Γ σ H → SemSs X sts D σ H
/-- what is handed back: d, all that stood stands, a new list or dict -/
def Rt (K : PySem.W.Frag) (Hb : Hp) (d : D) : VK := fun v H' => Ex Hb H' ∧ Rep K H' v d ∧ FreshD K Hb H' v d

section
variable {X : Cx} {Hb Hb' : Hp} {a b c e : Expr} {es : List Expr} {Γ : Slots} {pos p' : Pos} {d x y : D} {ds : List D} {S S' : D → Prop} {fr : Bool}
theorem EvN.imp (h : EvN X Hb e Γ fr S) (f : ∀ d, S d → S' d) : EvN X Hb e Γ fr S' := fun σ H en Q q => h σ H en Q fun v H' d s => q v H' d (f d s)
theorem EvN.weak (h : EvN X Hb e Γ true S) : EvN X Hb e Γ false S := fun σ H en Q q => h σ H en Q fun v H' d s ex r f => q v H' d s ex r fun z => nomatch z
theorem EvT.imp {S S' : Bool → Prop} (h : EvT X Hb e Γ S) (f : ∀ d, S d → S' d) : EvT X Hb e Γ S' := fun σ H en Q q => h σ H en Q fun b H' s => q b H' (f b s)
theorem ev_dat (i : Nat) {x : Str} (hG : Γ[i]? = some (.dat d) := by rfl) (hN : X.N[i]? = some x := by rfl) (hv : Vis X.env.scope x := by first | exact Or.inl rfl | exact Or.inr (Or.inl rfl) | exact Or.inr (Or.inr rfl)) (hd : (x == ("__debug__" : Str)) = false := by decide)
    (hcd : (x == ("__classdict__" : Str)) = false := by decide) : Ev X Hb (.Name x pos) Γ false d := fun σ H en Q q => by
  obtain ⟨v, hσ, r⟩ := en.dat hG
  exact SemE.of (pe_var hN hv hd hcd) ⟨v, hσ, q v H d rfl Ex.refl r fun z => nomatch z⟩
theorem ev_own (i : Nat) {p : Addr} {x : Str} (hG : Γ[i]? = some (.own p ds) := by rfl) (hN : X.N[i]? = some x := by rfl) (hv : Vis X.env.scope x := by first | exact Or.inl rfl | exact Or.inr (Or.inl rfl) | exact Or.inr (Or.inr rfl)) (hd : (x == ("__debug__" : Str)) = false := by decide)
    (hcd : (x == ("__classdict__" : Str)) = false := by decide) : Ev X Hb (.Name x pos) Γ false (.lst ds) := fun σ H en Q q => by
  obtain ⟨hσ, _, vs, hl, r⟩ := en.own hG
  exact SemE.of (pe_var hN hv hd hcd) ⟨_, hσ, q _ H _ rfl Ex.refl (.lst (SqL.of hl) r) fun z => nomatch z⟩
theorem ev_int {i : Int} {j} : Ev X Hb (.Constant (.int i) j pos) Γ true (.int i) := fun σ H en Q q => SemE.of pe_int (q _ H _ rfl Ex.refl (.int i) fun _ => trivial)
theorem ev_bl {i : Bool} {j} : Ev X Hb (.Constant (.bool i) j pos) Γ true (.bl i) := fun σ H en Q q => SemE.of pe_bl (q _ H _ rfl Ex.refl (.bl i) fun _ => trivial)
theorem ev_non {j} : Ev X Hb (.Constant .none j pos) Γ true .non := fun σ H en Q q => SemE.of pe_non (q _ H _ rfl Ex.refl .non fun _ => trivial)
theorem ev_str {i : Str} {j} : Ev X Hb (.Constant (.str i) j pos) Γ true (.str i) := fun σ H en Q q => SemE.of pe_str (q _ H _ rfl Ex.refl (.str i) fun _ => trivial)
/-- a module's constant that is no container -/
theorem ev_glob {x : Str} {v : V} {u : Value} (hm : X.mg x = some u) (r : RelV v u) (hr : ∀ H, Rep X.K H v d) (hg : Gl X x := by rfl) (hd : (x == ("__debug__" : Str)) = false := by decide) : Ev X Hb (.Name x pos) Γ false d := fun σ H en Q q =>
  SemE.of (pe_glob hg hm r hd) (q v H d rfl Ex.refl (hr H) fun z => nomatch z)

/-! two-place operations on ints -/
theorem evn_op {op : Operator} {C : Int → Int → Prop} {g : Int → Int → V} {h : Int → Int → D} {S1 S2 : Int → Prop} (ho : OpR X (binaryOp op) (rI C g)) (hg : ∀ i j H, Rep X.K H (g i j) (h i j)) (hf : ∀ i j, isCont (h i j) = false)
    (ha : EvN X Hb a Γ fr fun z => ∃ i, z = .int i ∧ S1 i) {fr' : Bool} (hb : EvN X Hb b Γ fr' fun z => ∃ i, z = .int i ∧ S2 i) (hc : ∀ i j, S1 i → S2 j → C i j ∧ S (h i j)) : EvN X Hb (.BinOp a op b pos) Γ true S := fun σ H en Q q =>
  SemE.of (pe_op ho (semE X a) (semE X b)) (ha σ H en _ fun v H1 d1 ⟨i, e1, s1⟩ x1 r1 _ => hb σ H1 (en.ex x1) _ fun w H2 d2 ⟨j, e2, s2⟩ x2 r2 _ => by
    subst e1 e2
    cases r1
    cases r2
    obtain ⟨k, s⟩ := hc i j s1 s2
    exact ⟨i, j, rfl, rfl, k, q _ H2 _ s (x1.trans x2) (hg i j H2) fun _ => FreshD.flat (hf i j)⟩)
theorem ev_op {op : Operator} {C : Int → Int → Prop} {g : Int → Int → V} {h : Int → Int → D} {i j : Int} (ho : OpR X (binaryOp op) (rI C g)) (hg : ∀ i j H, Rep X.K H (g i j) (h i j)) (hf : ∀ i j, isCont (h i j) = false)
    (ha : Ev X Hb a Γ fr (.int i)) {fr' : Bool} (hb : Ev X Hb b Γ fr' (.int j)) (hc : C i j) : Ev X Hb (.BinOp a op b pos) Γ true (h i j) :=
  evn_op (S1 := (· = i)) (S2 := (· = j)) ho hg hf (ha.imp fun _ z => ⟨i, z, rfl⟩) (hb.imp fun _ z => ⟨j, z, rfl⟩) fun i' j' e1 e2 => by subst e1 e2; exact ⟨hc, rfl⟩
theorem opI0' {f : Value → Value → Sem Value} {g : Int → Int → V} (h : OpR X f (rI0 g)) : OpR X f (rI (fun _ _ => True) g) := fun pins s σ H x y v u Q I r1 r2 ⟨i, j, e1, e2, _, q⟩ => h pins s σ H x y v u Q I r1 r2 ⟨i, j, e1, e2, q⟩
theorem ev_add {i j : Int} {fr' : Bool} (ha : Ev X Hb a Γ fr (.int i)) (hb : Ev X Hb b Γ fr' (.int j)) : Ev X Hb (.BinOp a .Add b pos) Γ true (.int (i + j)) := ev_op (h := fun i j => .int (i + j)) (opI0' op_add) (fun _ _ _ => .int _) (fun _ _ => rfl) ha hb trivial
theorem ev_sub {i j : Int} {fr' : Bool} (ha : Ev X Hb a Γ fr (.int i)) (hb : Ev X Hb b Γ fr' (.int j)) : Ev X Hb (.BinOp a .Sub b pos) Γ true (.int (i - j)) := ev_op (h := fun i j => .int (i - j)) (opI0' op_sub) (fun _ _ _ => .int _) (fun _ _ => rfl) ha hb trivial
theorem ev_mul {i j : Int} {fr' : Bool} (ha : Ev X Hb a Γ fr (.int i)) (hb : Ev X Hb b Γ fr' (.int j)) (hc : IntMulOk i j) : Ev X Hb (.BinOp a .Mult b pos) Γ true (.int (i * j)) :=
  ev_op (h := fun i j => .int (i * j)) (C := IntMulOk) (g := fun i j => .int (i * j)) (opI fun _ _ _ _ _ _ _ hc q => mul_int q hc) (fun _ _ _ => .int _) (fun _ _ => rfl) ha hb hc
/-- // and %, the divisor not 0 -/
def CDivX (i j : Int) : Prop := j ≠ 0 ∧ Builtin.divisionGoesByPylong i j = false
theorem op_fdivX : OpR X (binaryOp .FloorDiv) (rI CDivX fun i j => .int (i.fdiv j)) := opI fun _ _ _ _ _ _ _ hc q => floordiv_int hc.1 q (.inl hc.2)
theorem ev_fdiv {i j : Int} {fr' : Bool} (ha : Ev X Hb a Γ fr (.int i)) (hb : Ev X Hb b Γ fr' (.int j)) (hc : CDivX i j) : Ev X Hb (.BinOp a .FloorDiv b pos) Γ true (.int (i.fdiv j)) :=
  ev_op (h := fun i j => .int (i.fdiv j)) op_fdivX (fun _ _ _ => .int _) (fun _ _ => rfl) ha hb hc
theorem ev_mod {i j : Int} {fr' : Bool} (ha : Ev X Hb a Γ fr (.int i)) (hb : Ev X Hb b Γ fr' (.int j)) (hc : j ≠ 0) : Ev X Hb (.BinOp a .Mod b pos) Γ true (.int (i.fmod j)) :=
  ev_op (h := fun i j => .int (i.fmod j)) op_modN (fun _ _ _ => .int _) (fun _ _ => rfl) ha hb hc
/-- a power, its size within the line -/
theorem op_powX : OpR X (binaryOp .Pow) (rI (fun i j => 0 ≤ j ∧ (Builtin.Int.intBits i : Int) * j ≤ 2 ^ 27) fun i j => .int (i ^ j.toNat)) := opI fun _ _ _ _ _ _ _ hc q => pow_int hc.1 hc.2 q
theorem ev_pow {i j : Int} {fr' : Bool} (ha : Ev X Hb a Γ fr (.int i)) (hb : Ev X Hb b Γ fr' (.int j)) (h0 : 0 ≤ j) (h1 : (Builtin.Int.intBits i : Int) * j ≤ 2 ^ 27) : Ev X Hb (.BinOp a .Pow b pos) Γ true (.int (i ^ j.toNat)) :=
  ev_op (h := fun i j => .int (i ^ j.toNat)) op_powX (fun _ _ _ => .int _) (fun _ _ => rfl) ha hb ⟨h0, h1⟩
theorem ev_neg {i : Int} (ha : Ev X Hb a Γ fr (.int i)) : Ev X Hb (.UnaryOp .USub a pos) Γ true (.int (-i)) := fun σ H en Q q =>
  SemE.of (pe_un un_neg (semE X a)) (ha σ H en _ fun v H1 d1 e1 x1 r1 _ => by
    subst e1
    cases r1
    exact ⟨i, rfl, q _ H1 _ rfl x1 (.int _) fun _ => FreshD.flat rfl⟩)

/-! comparisons of ints -/
theorem ev_cmp {op : CmpOp} {g : Int → Int → Bool} {i j : Int} {fr' : Bool} (ho : OpR X (compareOp op) (rI0 fun i j => .bl (g i j))) (hm : behindInMarks op b = false) (ha : Ev X Hb a Γ fr (.int i)) (hb : Ev X Hb b Γ fr' (.int j)) :
    Ev X Hb (.Compare a [op] [b] pos) Γ true (.bl (g i j)) := fun σ H en Q q =>
  SemE.of (pe_cmpR ho (semE X a) (semE X b) hm) (ha σ H en _ fun v H1 d1 e1 x1 r1 _ => hb σ H1 (en.ex x1) _ fun w H2 d2 e2 x2 r2 _ => by
    subst e1 e2
    cases r1
    cases r2
    exact ⟨i, j, rfl, rfl, q _ H2 _ rfl (x1.trans x2) (.bl _) fun _ => FreshD.flat rfl⟩)
theorem evt_cmp {op : CmpOp} {g : Int → Int → Bool} {i j : Int} {fr' : Bool} (ho : OpR X (compareOp op) (rI0 fun i j => .bl (g i j))) (hm : behindInMarks op b = false) (ha : Ev X Hb a Γ fr (.int i)) (hb : Ev X Hb b Γ fr' (.int j)) :
    EvB X Hb (.Compare a [op] [b] pos) Γ (g i j) := fun σ H en Q q =>
  SemT.of (pt_cmpR ho (semE X a) (semE X b) hm) (ha σ H en _ fun v H1 d1 e1 x1 r1 _ => hb σ H1 (en.ex x1) _ fun w H2 d2 e2 x2 r2 _ => by
    subst e1 e2
    cases r1
    cases r2
    exact ⟨i, j, rfl, rfl, _, rfl, q _ H2 rfl (x1.trans x2)⟩)
theorem evt_lt {i j : Int} {fr' : Bool} (ha : Ev X Hb a Γ fr (.int i)) (hb : Ev X Hb b Γ fr' (.int j)) : EvB X Hb (.Compare a [.Lt] [b] pos) Γ (decide (i < j)) := evt_cmp op_lt (nomark _) ha hb
theorem evt_le {i j : Int} {fr' : Bool} (ha : Ev X Hb a Γ fr (.int i)) (hb : Ev X Hb b Γ fr' (.int j)) : EvB X Hb (.Compare a [.LtE] [b] pos) Γ (decide (i ≤ j)) := evt_cmp op_le (nomark _) ha hb
theorem evt_gt {i j : Int} {fr' : Bool} (ha : Ev X Hb a Γ fr (.int i)) (hb : Ev X Hb b Γ fr' (.int j)) : EvB X Hb (.Compare a [.Gt] [b] pos) Γ (decide (j < i)) := evt_cmp op_gt (nomark _) ha hb
theorem evt_ge {i j : Int} {fr' : Bool} (ha : Ev X Hb a Γ fr (.int i)) (hb : Ev X Hb b Γ fr' (.int j)) : EvB X Hb (.Compare a [.GtE] [b] pos) Γ (decide (j ≤ i)) := evt_cmp op_ge (nomark _) ha hb
theorem ev_lt {i j : Int} {fr' : Bool} (ha : Ev X Hb a Γ fr (.int i)) (hb : Ev X Hb b Γ fr' (.int j)) : Ev X Hb (.Compare a [.Lt] [b] pos) Γ true (.bl (decide (i < j))) := ev_cmp op_lt (nomark _) ha hb
theorem ev_le {i j : Int} {fr' : Bool} (ha : Ev X Hb a Γ fr (.int i)) (hb : Ev X Hb b Γ fr' (.int j)) : Ev X Hb (.Compare a [.LtE] [b] pos) Γ true (.bl (decide (i ≤ j))) := ev_cmp op_le (nomark _) ha hb
theorem ev_gt {i j : Int} {fr' : Bool} (ha : Ev X Hb a Γ fr (.int i)) (hb : Ev X Hb b Γ fr' (.int j)) : Ev X Hb (.Compare a [.Gt] [b] pos) Γ true (.bl (decide (j < i))) := ev_cmp op_gt (nomark _) ha hb
theorem ev_ge {i j : Int} {fr' : Bool} (ha : Ev X Hb a Γ fr (.int i)) (hb : Ev X Hb b Γ fr' (.int j)) : Ev X Hb (.Compare a [.GtE] [b] pos) Γ true (.bl (decide (j ≤ i))) := ev_cmp op_ge (nomark _) ha hb
theorem opEqI : OpR X (compareOp .Eq) (rI0 fun i j => .bl (decide (i = j))) := fun pins s σ H x y v u Q I r1 r2 ⟨i, j, e1, e2, q⟩ => op_eq pins s σ H x y v u Q I r1 r2 (by
  subst e1 e2
  exact ⟨rfl, by rw [show decide (V.int i = V.int j) = decide (i = j) from by simp]; exact q⟩)
theorem opNeI : OpR X (compareOp .NotEq) (rI0 fun i j => .bl (!decide (i = j))) := fun pins s σ H x y v u Q I r1 r2 ⟨i, j, e1, e2, q⟩ => op_ne pins s σ H x y v u Q I r1 r2 (by
  subst e1 e2
  exact ⟨rfl, by rw [show decide (V.int i = V.int j) = decide (i = j) from by simp]; exact q⟩)
theorem evt_eqI {i j : Int} {fr' : Bool} (ha : Ev X Hb a Γ fr (.int i)) (hb : Ev X Hb b Γ fr' (.int j)) : EvB X Hb (.Compare a [.Eq] [b] pos) Γ (decide (i = j)) := evt_cmp opEqI (nomark _) ha hb
theorem evt_neI {i j : Int} {fr' : Bool} (ha : Ev X Hb a Γ fr (.int i)) (hb : Ev X Hb b Γ fr' (.int j)) : EvB X Hb (.Compare a [.NotEq] [b] pos) Γ (!decide (i = j)) := evt_cmp opNeI (nomark _) ha hb
theorem ev_eqI {i j : Int} {fr' : Bool} (ha : Ev X Hb a Γ fr (.int i)) (hb : Ev X Hb b Γ fr' (.int j)) : Ev X Hb (.Compare a [.Eq] [b] pos) Γ true (.bl (decide (i = j))) := ev_cmp opEqI (nomark _) ha hb
theorem ev_neI {i j : Int} {fr' : Bool} (ha : Ev X Hb a Γ fr (.int i)) (hb : Ev X Hb b Γ fr' (.int j)) : Ev X Hb (.Compare a [.NotEq] [b] pos) Γ true (.bl (!decide (i = j))) := ev_cmp opNeI (nomark _) ha hb

/-! tests -/
theorem evt_val {S : Bool → Prop} (h : EvN X Hb e Γ fr fun z => ∃ k, z = .bl k ∧ S k) (he : ∀ whole, isTrue e X.env whole = (do let v ← whole; standAt e.pos; holding [v] (truthy v)) := by intro _; rfl) : EvT X Hb e Γ S := fun σ H en Q q =>
  SemT.of (pt_val (semE X e) he) (h σ H en _ fun v H1 d1 ⟨k, e1, s⟩ x1 r1 _ => by
    subst e1
    cases r1
    exact ⟨k, rfl, q _ _ s x1⟩)
theorem evt_valD {k : Bool} (h : Ev X Hb e Γ fr (.bl k)) (he : ∀ whole, isTrue e X.env whole = (do let v ← whole; standAt e.pos; holding [v] (truthy v)) := by intro _; rfl) : EvB X Hb e Γ k := evt_val (h.imp fun _ z => ⟨k, z, rfl⟩) he
theorem evt_not {S : Bool → Prop} (h : EvT X Hb e Γ fun b => S (!b)) : EvT X Hb (.UnaryOp .Not e pos) Γ S := fun σ H en Q q =>
  SemT.of (pt_not (semT X e)) (h σ H en _ fun b H1 s x1 => q _ _ s x1)
theorem evt_notD {k : Bool} (h : EvB X Hb e Γ k) : EvB X Hb (.UnaryOp .Not e pos) Γ (!k) := evt_not (h.imp fun _ z => by rw [z])
theorem evw_and1 {S : Bool → Prop} (h : EvT X Hb a Γ S) : EvW X Hb (.BoolOp .And [a] pos) Γ S := fun σ H en Q q => SemW.of (pw_and1 (semT X a)) (h σ H en _ q)
theorem evw_or1 {S : Bool → Prop} (h : EvT X Hb a Γ S) : EvW X Hb (.BoolOp .Or [a] pos) Γ S := fun σ H en Q q => SemW.of (pw_or1 (semT X a)) (h σ H en _ q)
theorem evw_and {S S1 : Bool → Prop} (h : EvT X Hb a Γ S1) (hb : S1 true → EvW X Hb (.BoolOp .And (b :: es) pos) Γ S) (hf : S1 false → S false) : EvW X Hb (.BoolOp .And (a :: b :: es) pos) Γ S := fun σ H en Q q =>
  SemW.of (pw_and (semT X a) (semW X _)) (h σ H en _ fun k H1 s x1 => by
    cases k with
    | true => exact hb s σ H1 (en.ex x1) Q fun b' H2 s2 x2 => q b' H2 s2 (x1.trans x2)
    | false => exact q _ _ (hf s) x1)
theorem evw_or {S S1 : Bool → Prop} (h : EvT X Hb a Γ S1) (hb : S1 false → EvW X Hb (.BoolOp .Or (b :: es) pos) Γ S) (hf : S1 true → S true) : EvW X Hb (.BoolOp .Or (a :: b :: es) pos) Γ S := fun σ H en Q q =>
  SemW.of (pw_or (semT X a) (semW X _)) (h σ H en _ fun k H1 s x1 => by
    cases k with
    | false => exact hb s σ H1 (en.ex x1) Q fun b' H2 s2 x2 => q b' H2 s2 (x1.trans x2)
    | true => exact q _ _ (hf s) x1)
theorem evw_andD {k k' : Bool} (h : EvB X Hb a Γ k) (hb : k = true → EvW X Hb (.BoolOp .And (b :: es) pos) Γ (· = k')) : EvW X Hb (.BoolOp .And (a :: b :: es) pos) Γ (· = (k && k')) :=
  evw_and h (fun z => by subst z; exact hb rfl) fun z => by subst z; rfl
theorem evw_orD {k k' : Bool} (h : EvB X Hb a Γ k) (hb : k = false → EvW X Hb (.BoolOp .Or (b :: es) pos) Γ (· = k')) : EvW X Hb (.BoolOp .Or (a :: b :: es) pos) Γ (· = (k || k')) :=
  evw_or h (fun z => by subst z; exact hb rfl) fun z => by subst z; rfl
theorem EvW.t {S : Bool → Prop} (h : EvW X Hb e Γ S) : EvT X Hb e Γ S := fun σ H en Q q => ⟨fun pins s I => (h σ H en Q q).run _ pins s I⟩
/-! and, or, not as values -/
theorem ev_one {op} (h : EvN X Hb a Γ fr S) : EvN X Hb (.BoolOp op [a] pos) Γ fr S := fun σ H en Q q => SemE.of (pe_one (semE X a)) (h σ H en Q q)
theorem evn_and {S1 : Bool → Prop} (ha : EvN X Hb a Γ fr fun z => ∃ k, z = .bl k ∧ S1 k) (hb : S1 true → EvN X Hb (.BoolOp .And (b :: es) pos) Γ true S) (hf : S1 false → S (.bl false)) : EvN X Hb (.BoolOp .And (a :: b :: es) pos) Γ true S := fun σ H en Q q =>
  SemE.of (pe_and (semE X a) (semE X _)) (ha σ H en _ fun v H1 d1 ⟨k, e1, s⟩ x1 r1 _ => by
    subst e1
    cases r1
    refine ⟨k, rfl, ?_⟩
    cases k with
    | true => exact hb s σ H1 (en.ex x1) Q fun v H2 d s2 x2 r f => q v H2 d s2 (x1.trans x2) r fun z => (f z).back x1
    | false => exact q _ _ _ (hf s) x1 (.bl false) fun _ => FreshD.flat rfl)
theorem evn_or {S1 : Bool → Prop} (ha : EvN X Hb a Γ fr fun z => ∃ k, z = .bl k ∧ S1 k) (hb : S1 false → EvN X Hb (.BoolOp .Or (b :: es) pos) Γ true S) (hf : S1 true → S (.bl true)) : EvN X Hb (.BoolOp .Or (a :: b :: es) pos) Γ true S := fun σ H en Q q =>
  SemE.of (pe_or (semE X a) (semE X _)) (ha σ H en _ fun v H1 d1 ⟨k, e1, s⟩ x1 r1 _ => by
    subst e1
    cases r1
    refine ⟨k, rfl, ?_⟩
    cases k with
    | false => exact hb s σ H1 (en.ex x1) Q fun v H2 d s2 x2 r f => q v H2 d s2 (x1.trans x2) r fun z => (f z).back x1
    | true => exact q _ _ _ (hf s) x1 (.bl true) fun _ => FreshD.flat rfl)
theorem ev_andD {k k' : Bool} (h : Ev X Hb a Γ fr (.bl k)) (hb : k = true → Ev X Hb (.BoolOp .And (b :: es) pos) Γ true (.bl k')) : Ev X Hb (.BoolOp .And (a :: b :: es) pos) Γ true (.bl (k && k')) :=
  evn_and (S1 := (· = k)) (h.imp fun _ z => ⟨k, z, rfl⟩) (fun z => by rw [← z] at hb ⊢; exact hb rfl) fun z => by rw [← z]; rfl
theorem ev_orD {k k' : Bool} (h : Ev X Hb a Γ fr (.bl k)) (hb : k = false → Ev X Hb (.BoolOp .Or (b :: es) pos) Γ true (.bl k')) : Ev X Hb (.BoolOp .Or (a :: b :: es) pos) Γ true (.bl (k || k')) :=
  evn_or (S1 := (· = k)) (h.imp fun _ z => ⟨k, z, rfl⟩) (fun z => by rw [← z] at hb ⊢; exact hb rfl) fun z => by rw [← z]; rfl
/-- a scalar's newness is nothing -/
theorem EvN.scal (h : EvN X Hb e Γ fr S) (hs : ∀ d, S d → isCont d = false) : EvN X Hb e Γ true S := fun σ H en Q q => h σ H en Q fun v H' d s ex r _ => q v H' d s ex r fun _ => FreshD.flat (hs d s)
theorem Ev.bl' {k : Bool} (h : Ev X Hb e Γ fr (.bl k)) : Ev X Hb e Γ true (.bl k) := h.scal fun _ z => by rw [z]; rfl
theorem ev_not {k : Bool} (h : Ev X Hb a Γ fr (.bl k)) : Ev X Hb (.UnaryOp .Not a pos) Γ true (.bl (!k)) := fun σ H en Q q =>
  SemE.of (pe_not (semE X a)) (h σ H en _ fun v H1 d1 e1 x1 r1 _ => by
    subst e1
    cases r1
    exact ⟨k, rfl, q _ _ _ rfl x1 (.bl _) fun _ => FreshD.flat rfl⟩)
theorem ev_if {k : Bool} (hc : EvB X Hb c Γ k) (ha : k = true → EvN X Hb a Γ fr S) (hb : k = false → EvN X Hb b Γ fr S) : EvN X Hb (.IfExp c a b pos) Γ fr S := fun σ H en Q q =>
  SemE.of (pe_ifExp (semT X c) (semE X a) (semE X b)) (hc σ H en _ fun z H1 e1 x1 => by
    subst e1
    cases z with
    | true => exact ha rfl σ H1 (en.ex x1) Q fun v H2 d s2 x2 r f => q v H2 d s2 (x1.trans x2) r fun z => (f z).back x1
    | false => exact hb rfl σ H1 (en.ex x1) Q fun v H2 d s2 x2 r f => q v H2 d s2 (x1.trans x2) r fun z => (f z).back x1)

/-! argument lists, displays -/
theorem eva_nil : EvAs X Hb [] Γ [] := fun σ H en Q q => SemA.of pa_nil (q [] H [] rfl Ex.refl .nil)
theorem eva_consN {S1 : D → Prop} {S2 S : List D → Prop} (ha : EvN X Hb e Γ fr S1) (hr : EvA X Hb es Γ S2) (hS : ∀ d ds, S1 d → S2 ds → S (d :: ds)) (hs : starEach (e :: es) X.env = (false, eval e X.env) :: starEach es X.env := by rfl) : EvA X Hb (e :: es) Γ S := fun σ H en Q q =>
  SemA.of (pa_cons (semE X e) (semA X es) hs) (ha σ H en _ fun v H1 d1 s1 x1 r1 _ => hr σ H1 (en.ex x1) _ fun vs H2 ds s2 x2 r2 => q _ H2 _ (hS _ _ s1 s2) (x1.trans x2) (.cons (r1.ex x2) r2))
theorem eva_cons (ha : Ev X Hb e Γ fr d) (hr : EvAs X Hb es Γ ds) (hs : starEach (e :: es) X.env = (false, eval e X.env) :: starEach es X.env := by rfl) : EvAs X Hb (e :: es) Γ (d :: ds) :=
  eva_consN ha hr (fun _ _ a b => by rw [a, b]) hs
theorem EvA.imp {S S' : List D → Prop} (h : EvA X Hb es Γ S) (f : ∀ d, S d → S' d) : EvA X Hb es Γ S' := fun σ H en Q q => h σ H en Q fun v H' d s => q v H' d (f d s)
theorem evn_tup {S : List D → Prop} {x1} (h : EvA X Hb es Γ S) (hl : es.length ≤ 1000) (hn : ∀ ds, S ds → ds.length = es.length) : EvN X Hb (.Tuple es x1 pos) Γ true (fun z => ∃ ds, z = .tup ds ∧ S ds) := fun σ H en Q q =>
  SemE.of (pe_tup (semA X es)) (h σ H en _ fun vs H1 ds s x1 r => ⟨by rw [r.length, hn ds s]; exact Nat.le_trans hl (by decide), fun p hp => q _ _ _ ⟨ds, rfl, s⟩ (x1.trans (Ex.new hp)) (.tup (SqT.of upd_same) (r.ex (Ex.new hp))) fun _ => FreshD.flat rfl⟩)
theorem ev_tup {x1} (h : EvAs X Hb es Γ ds) (hl : ds.length ≤ 1000 := by exact Nat.le_of_ble_eq_true rfl) : Ev X Hb (.Tuple es x1 pos) Γ true (.tup ds) := fun σ H en Q q =>
  SemE.of (pe_tup (semA X es)) (h σ H en _ fun vs H1 ds' s x1 r => by
    subst s
    exact ⟨by rw [r.length]; exact Nat.le_trans hl (by decide), fun p hp => q _ _ _ rfl (x1.trans (Ex.new hp)) (.tup (SqT.of upd_same) (r.ex (Ex.new hp))) fun _ => FreshD.flat rfl⟩)
theorem evn_lst {S : List D → Prop} (h : EvA X Hb es Γ S) (hl : ∀ ds, S ds → ds.length ≤ 1000) : EvN X Hb (.List es pos) Γ true (fun z => ∃ ds, z = .lst ds ∧ S ds) := fun σ H en Q q =>
  SemE.of (pe_lst (semA X es)) (h σ H en _ fun vs H1 ds s x1 r => ⟨by rw [r.length]; exact Nat.le_trans (hl ds s) (by decide), fun p hp => q _ _ _ ⟨ds, rfl, s⟩ (x1.trans (Ex.new hp)) (.lst (SqL.of upd_same) (r.ex (Ex.new hp))) fun _ => freshL hp x1 r⟩)
theorem ev_lst (h : EvAs X Hb es Γ ds) (hl : ds.length ≤ 1000 := by exact Nat.le_of_ble_eq_true rfl) : Ev X Hb (.List es pos) Γ true (.lst ds) := fun σ H en Q q =>
  SemE.of (pe_lst (semA X es)) (h σ H en _ fun vs H1 ds' s x1 r => by
    subst s
    exact ⟨by rw [r.length]; exact Nat.le_trans hl (by decide), fun p hp => q _ _ _ rfl (x1.trans (Ex.new hp)) (.lst (SqL.of upd_same) (r.ex (Ex.new hp))) fun _ => freshL hp x1 r⟩)

/-! items, slices -/
theorem atI_rep {H : Hp} {vs : List V} (r : RepAll X.K H vs ds) {i : Int} (h : atI ds i = some d) : ∃ v, atI vs i = some v ∧ Rep X.K H v d := by
  unfold atI at h ⊢
  rw [r.length]
  cases e : ixN ds.length i with
  | none => rw [e] at h; cases h
  | some j =>
    rw [e] at h
    exact r.get h
theorem evn_ixT {S1 : List D → Prop} {S2 : Int → Prop} {fr' : Bool} (ha : EvN X Hb a Γ fr fun z => ∃ ds, z = .tup ds ∧ S1 ds) (hb : EvN X Hb b Γ fr' fun z => ∃ i, z = .int i ∧ S2 i) (h : ∀ ds i, S1 ds → S2 i → ∃ d, atI ds i = some d ∧ S d) (hs : PlainIx b := by intro _ _; rfl) :
    EvN X Hb (.Subscript a b pos) Γ false S := fun σ H en Q q =>
  SemE.of (pe_ix ix_tup (semE X a) (semE X b) hs) (ha σ H en _ fun v H1 d1 ⟨ds, e1, s1⟩ x1 r1 _ => hb σ H1 (en.ex x1) _ fun w H2 d2 ⟨i, e2, s2⟩ x2 r2 _ => by
    subst e1 e2
    obtain ⟨d, hd, sd⟩ := h ds i s1 s2
    cases r1 with
    | tup hq ra =>
      cases r2
      obtain ⟨v, hv, rv⟩ := atI_rep ra hd
      exact ⟨_, _, i, v, rfl, rfl, SqT.ex x2 hq, hv, q v H2 d sd (x1.trans x2) (rv.ex x2) fun z => nomatch z⟩)
theorem ev_ixT {i : Int} {fr' : Bool} (ha : Ev X Hb a Γ fr (.tup ds)) (hb : Ev X Hb b Γ fr' (.int i)) (h : atI ds i = some d) (hs : PlainIx b := by intro _ _; rfl) : Ev X Hb (.Subscript a b pos) Γ false d :=
  evn_ixT (S1 := (· = ds)) (S2 := (· = i)) (ha.imp fun _ z => ⟨_, z, rfl⟩) (hb.imp fun _ z => ⟨_, z, rfl⟩) (fun _ _ e1 e2 => by subst e1 e2; exact ⟨d, h, rfl⟩) hs
theorem evn_ixL {S1 : List D → Prop} {S2 : Int → Prop} {fr' : Bool} (ha : EvN X Hb a Γ fr fun z => ∃ ds, z = .lst ds ∧ S1 ds) (hb : EvN X Hb b Γ fr' fun z => ∃ i, z = .int i ∧ S2 i) (h : ∀ ds i, S1 ds → S2 i → ∃ d, atI ds i = some d ∧ S d) (hs : PlainIx b := by intro _ _; rfl) :
    EvN X Hb (.Subscript a b pos) Γ false S := fun σ H en Q q =>
  SemE.of (pe_ix ix_list (semE X a) (semE X b) hs) (ha σ H en _ fun v H1 d1 ⟨ds, e1, s1⟩ x1 r1 _ => hb σ H1 (en.ex x1) _ fun w H2 d2 ⟨i, e2, s2⟩ x2 r2 _ => by
    subst e1 e2
    obtain ⟨d, hd, sd⟩ := h ds i s1 s2
    cases r1 with
    | lst hq ra =>
      cases r2
      obtain ⟨v, hv, rv⟩ := atI_rep ra hd
      exact ⟨_, _, i, v, rfl, rfl, SqL.ex x2 hq, hv, q v H2 d sd (x1.trans x2) (rv.ex x2) fun z => nomatch z⟩)
theorem ev_ixL {i : Int} {fr' : Bool} (ha : Ev X Hb a Γ fr (.lst ds)) (hb : Ev X Hb b Γ fr' (.int i)) (h : atI ds i = some d) (hs : PlainIx b := by intro _ _; rfl) : Ev X Hb (.Subscript a b pos) Γ false d :=
  evn_ixL (S1 := (· = ds)) (S2 := (· = i)) (ha.imp fun _ z => ⟨_, z, rfl⟩) (hb.imp fun _ z => ⟨_, z, rfl⟩) (fun _ _ e1 e2 => by subst e1 e2; exact ⟨d, h, rfl⟩) hs
/-- a part of a slice -/
def EvO (X : Cx) (Hb : Hp) (o : Option Expr) (Γ : Slots) (S : Option Int → Prop) : Prop := ∃ t, PO X o t ∧ ∀ σ H, EnvOk X.K Hb Γ σ H → ∀ Q : Option Int → Hp → Prop, (∀ k H', S k → Ex H H' → Q k H') → t σ H Q
theorem evo_none : EvO X Hb none Γ (· = none) := ⟨_, po_none, fun σ H en Q q => q none H rfl Ex.refl⟩
theorem evo_some {S : Int → Prop} (h : EvN X Hb e Γ fr fun z => ∃ i, z = .int i ∧ S i) : EvO X Hb (some e) Γ (fun o => ∃ i, o = some i ∧ S i) := ⟨_, po_some (semE X e), fun σ H en Q q => h σ H en _ fun v H1 d1 ⟨i, e1, s⟩ x1 r1 _ => by
  subst e1
  cases r1
  exact ⟨i, rfl, q _ _ ⟨i, rfl, s⟩ x1⟩⟩
theorem evo_D {i : Int} (h : Ev X Hb e Γ fr (.int i)) : EvO X Hb (some e) Γ (· = some i) := by
  obtain ⟨t, p, f⟩ := evo_some (S := (· = i)) (h.imp fun _ z => ⟨i, z, rfl⟩)
  exact ⟨t, p, fun σ H en Q q => f σ H en Q fun k H' ⟨j, e1, e2⟩ => q k H' (by rw [e1, e2])⟩
def dcut (xs : List D) (lo hi : Option Int) : List D := (xs.drop (HT.sIx xs.length 0 lo)).take (HT.sIx xs.length xs.length hi - HT.sIx xs.length 0 lo)
theorem RepAll.cut {H : Hp} {vs : List V} (r : RepAll X.K H vs ds) (lo hi : Option Int) : RepAll X.K H (cutV vs lo hi) (dcut ds lo hi) := by
  unfold cutV dcut
  rw [r.length]
  exact (r.drop _).take _
theorem evn_slL {lo hi : Option Expr} {p2 : Pos} {S1 : List D → Prop} {S2 S3 : Option Int → Prop} (ha : EvN X Hb a Γ fr fun z => ∃ ds, z = .lst ds ∧ S1 ds) (hl : EvO X Hb lo Γ S2) (hu : EvO X Hb hi Γ S3) (hS : ∀ ds o o', S1 ds → S2 o → S3 o' → S (.lst (dcut ds o o'))) :
    EvN X Hb (.Subscript a (.Slice lo hi none p2) pos) Γ true S := fun σ H en Q q => by
  obtain ⟨t1, p1, f1⟩ := hl
  obtain ⟨t2, p2, f2⟩ := hu
  refine SemE.of (pe_slice sl_list (semE X a) p1 p2) (ha σ H en _ fun v H1 d1 ⟨ds, e1, s1⟩ x1 r1 _ => f1 σ H1 (en.ex x1) _ fun o H2 s2 x2 => f2 σ H2 (en.ex (x1.trans x2)) _ fun o' H3 s3 x3 => ?_)
  subst e1
  cases r1 with
  | lst hq ra => exact ⟨_, _, rfl, SqL.ex (x2.trans x3) hq, fun p hp => q _ _ _ (hS ds o o' s1 s2 s3) (((x1.trans x2).trans x3).trans (Ex.new hp)) (.lst (SqL.of upd_same) ((ra.ex ((x2.trans x3).trans (Ex.new hp))).cut o o')) fun _ => freshL hp ((x1.trans x2).trans x3) ((ra.ex (x2.trans x3)).cut o o')⟩
theorem ev_slL {lo hi : Option Expr} {p2 : Pos} {o o' : Option Int} (ha : Ev X Hb a Γ fr (.lst ds)) (hl : EvO X Hb lo Γ (· = o)) (hu : EvO X Hb hi Γ (· = o')) : Ev X Hb (.Subscript a (.Slice lo hi none p2) pos) Γ true (.lst (dcut ds o o')) :=
  evn_slL (S1 := (· = ds)) (ha.imp fun _ z => ⟨_, z, rfl⟩) hl hu fun _ _ _ e1 e2 e3 => by rw [e1, e2, e3]
theorem dcut_whole {lo hi : Option Int} (h : HT.sIx ds.length 0 lo = 0 ∧ HT.sIx ds.length ds.length hi = ds.length) : dcut ds lo hi = ds := by
  unfold dcut
  rw [h.1, h.2]
  simp
theorem evn_slT {lo hi : Option Expr} {p2 : Pos} {S1 : List D → Prop} {S2 S3 : Option Int → Prop} (ha : EvN X Hb a Γ fr fun z => ∃ ds, z = .tup ds ∧ S1 ds) (hl : EvO X Hb lo Γ S2) (hu : EvO X Hb hi Γ S3) (hS : ∀ ds o o', S1 ds → S2 o → S3 o' → S (.tup (dcut ds o o'))) :
    EvN X Hb (.Subscript a (.Slice lo hi none p2) pos) Γ true (fun z => S z ∧ ∃ ds, z = .tup ds) := fun σ H en Q q => by
  obtain ⟨t1, p1, f1⟩ := hl
  obtain ⟨t2, p2, f2⟩ := hu
  refine SemE.of (pe_slice sl_tupA (semE X a) p1 p2) (ha σ H en _ fun v H1 d1 ⟨ds, e1, s1⟩ x1 r1 _ => f1 σ H1 (en.ex x1) _ fun o H2 s2 x2 => f2 σ H2 (en.ex (x1.trans x2)) _ fun o' H3 s3 x3 => ?_)
  subst e1
  have s := hS ds o o' s1 s2 s3
  have xx := (x1.trans x2).trans x3
  cases r1 with
  | tup hq ra =>
    refine ⟨_, _, rfl, SqT.ex (x2.trans x3) hq, fun hw => ?_, fun hw p hp => ?_⟩
    · refine q _ _ _ ⟨s, _, rfl⟩ xx ?_ fun _ => FreshD.flat rfl
      rw [ra.length] at hw
      rw [dcut_whole hw]
      exact .tup (SqT.ex (x2.trans x3) hq) (ra.ex (x2.trans x3))
    · exact q _ _ _ ⟨s, _, rfl⟩ (xx.trans (Ex.new hp)) (.tup (SqT.of upd_same) ((ra.ex ((x2.trans x3).trans (Ex.new hp))).cut o o')) fun _ => FreshD.flat rfl
theorem ev_slT {lo hi : Option Expr} {p2 : Pos} {o o' : Option Int} (ha : Ev X Hb a Γ fr (.tup ds)) (hl : EvO X Hb lo Γ (· = o)) (hu : EvO X Hb hi Γ (· = o')) : Ev X Hb (.Subscript a (.Slice lo hi none p2) pos) Γ true (.tup (dcut ds o o')) :=
  (evn_slT (S1 := (· = ds)) (S := (· = .tup (dcut ds o o'))) (ha.imp fun _ z => ⟨_, z, rfl⟩) hl hu fun _ _ _ e1 e2 e3 => by rw [e1, e2, e3]).imp fun _ z => z.1
/-- t + u -/
theorem evn_catT {S1 S2 : List D → Prop} {fr' : Bool} (ha : EvN X Hb a Γ fr fun z => ∃ ds, z = .tup ds ∧ S1 ds) (hb : EvN X Hb b Γ fr' fun z => ∃ ds, z = .tup ds ∧ S2 ds) (hS : ∀ x y, S1 x → S2 y → x.length + y.length ≤ 100000 ∧ S (.tup (x ++ y))) :
    EvN X Hb (.BinOp a .Add b pos) Γ true (fun z => S z ∧ isCont z = false) := fun σ H en Q q =>
  SemE.of (pe_op op_catA (semE X a) (semE X b)) (ha σ H en _ fun v H1 d1 ⟨xs, e1, s1⟩ x1 r1 _ => hb σ H1 (en.ex x1) _ fun w H2 d2 ⟨ys, e2, s2⟩ x2 r2 _ => by
    subst e1 e2
    obtain ⟨hl, s⟩ := hS xs ys s1 s2
    have xx := x1.trans x2
    cases r1 with
    | tup ha ra =>
      cases r2 with
      | tup hb rb =>
        refine ⟨_, _, _, _, rfl, rfl, SqT.ex x2 ha, hb, by rw [ra.length, rb.length]; exact Nat.le_trans hl (by decide), fun e => ?_, fun _ e => ?_, fun _ _ p hp => ?_⟩
        · subst e
          cases ra
          exact q _ _ _ ⟨s, rfl⟩ xx (.tup hb rb) fun _ => FreshD.flat rfl
        · subst e
          cases rb
          refine q _ _ _ ⟨s, rfl⟩ xx ?_ fun _ => FreshD.flat rfl
          rw [List.append_nil]
          exact .tup (SqT.ex x2 ha) (ra.ex x2)
        · exact q _ _ _ ⟨s, rfl⟩ (xx.trans (Ex.new hp)) (.tup (SqT.of upd_same) ((ra.ex (x2.trans (Ex.new hp))).append (rb.ex (Ex.new hp)))) fun _ => FreshD.flat rfl)
theorem ev_catT {xs ys : List D} {fr' : Bool} (ha : Ev X Hb a Γ fr (.tup xs)) (hb : Ev X Hb b Γ fr' (.tup ys)) (hl : xs.length + ys.length ≤ 100000) : Ev X Hb (.BinOp a .Add b pos) Γ true (.tup (xs ++ ys)) :=
  (evn_catT (S1 := (· = xs)) (S2 := (· = ys)) (S := (· = .tup (xs ++ ys))) (ha.imp fun _ z => ⟨_, z, rfl⟩) (hb.imp fun _ z => ⟨_, z, rfl⟩) fun x y e1 e2 => by subst e1 e2; exact ⟨hl, rfl⟩).imp fun _ z => z.1

/-! ### defs -/
abbrev Pr := List D → (D → Prop) → Prop
/-- the promise: of arguments ds the answer is one of S, where P ds S -/
def spN (K : PySem.W.Frag) (P : Pr) : Sp := fun vs H Q _ => TbOk K H ∧ ∃ ds S, RepAll K H vs ds ∧ P ds S ∧ ∀ v H' d, S d → Ex H H' → Rep K H' v d → FreshD K H H' v d → Q v H'
/-- the answer is just one -/
def det (R : List D → D → Prop) : Pr := fun ds S => ∃ d, R ds d ∧ S = (· = d)
structure FnP (P : Program) (w : World) (K : PySem.W.Frag) (mg : Str → Option Value) (base : Heap) (x : Str) (k : Nat) (Q : Pr) : Prop where
  ex : ∃ (f : Addr) (fd : FuncData) (ps : List Str), FnOk P w K mg base CX0 k f fd ps (spN K Q) ∧ mg x = some (.ref f) ∧ PySem.W.keepIn K (.ref f) = true ∧ Binds K fd ps [] ∧ ∃ (oc : Value) (od : Option Addr) (osl : Array (Option Value)), K.lookup f = some ⟨oc, od, .func fd, osl⟩
theorem evn_call {x : Str} {pn : Pos} {k k' : Nat} {P : Pr} {SA : List D → Prop} (F : FnP X.prog X.w X.K X.mg X.base x k P) (hr : Room k' X.A) (hA : EvA X Hb (e :: es) Γ SA) (hP : ∀ ds, SA ds → ∃ S0, P ds S0 ∧ ∀ d, S0 d → S d)
    (hk : k ≤ k' := by decide) (hg : Gl X x := by rfl) (hdb : (x == ("__debug__" : Str)) = false := by decide) (he : starEach (e :: es) X.env = (false, eval e X.env) :: starEach es X.env := by rfl) (hpl : (backTo pos (starEach es X.env)).any (·.1) = false := by rfl) :
    EvN X Hb (.Call (.Name x pn) (e :: es) [] pos) Γ true S := fun σ H en Q q => by
  obtain ⟨f, fd, ps, G, hm, hkp, hb, _⟩ := F.ex
  refine SemE.of (pe_call G (hr.mono hk) hg hm hkp hb .nil pass0 (semA X (e :: es)) hdb he hpl) (hA σ H en _ fun vs H1 ds s x1 r => ?_)
  obtain ⟨S0, hS0, hS⟩ := hP ds s
  show spN _ _ (vs ++ []) H1 Q E0
  rw [List.append_nil]
  exact ⟨en.tb.ex (en.base.trans x1), ds, S0, r, hS0, fun v H' d s0 x2 r2 f2 => q v H' d (hS d s0) (x1.trans x2) r2 fun _ => f2.back x1⟩
theorem ev_call {x : Str} {pn : Pos} {k k' : Nat} {R : List D → D → Prop} (F : FnP X.prog X.w X.K X.mg X.base x k (det R)) (hr : Room k' X.A) (hA : EvAs X Hb (e :: es) Γ ds) (hR : R ds d)
    (hk : k ≤ k' := by decide) (hg : Gl X x := by rfl) (hdb : (x == ("__debug__" : Str)) = false := by decide) (he : starEach (e :: es) X.env = (false, eval e X.env) :: starEach es X.env := by rfl) (hpl : (backTo pos (starEach es X.env)).any (·.1) = false := by rfl) :
    Ev X Hb (.Call (.Name x pn) (e :: es) [] pos) Γ true d := evn_call F hr hA (fun ds' e => ⟨(· = d), ⟨d, by rw [e]; exact hR, rfl⟩, fun _ z => z⟩) hk hg hdb he hpl
/-- a built-in by its name -/
theorem evn_B {id : String} {x : Str} {pn : Pos} {r : List V → Hp → VK → Prop} {SA : List D → Prop} (hc : CallR X (.builtin id) r) (hm : X.mg x = none) (hA : EvA X Hb (e :: es) Γ SA)
    (h : ∀ vs H ds Q, SA ds → RepAll X.K H vs ds → (∀ v H' d, S d → Ex H H' → Rep X.K H' v d → FreshD X.K H H' v d → Q v H') → r vs H Q) (hv : bootBuiltins x = some (.builtin id) := by decide +kernel) (hg : Gl X x := by rfl)
    (hn : x ≠ "__name__" := by decide) (hdb : (x == ("__debug__" : Str)) = false := by decide) (he : starEach (e :: es) X.env = (false, eval e X.env) :: starEach es X.env := by rfl) (hpl : (backTo pos (starEach es X.env)).any (·.1) = false := by rfl) :
    EvN X Hb (.Call (.Name x pn) (e :: es) [] pos) Γ true S := fun σ H en Q q =>
  SemE.of (pe_callB hc hg hm hv (semA X (e :: es)) hn hdb he hpl) (hA σ H en _ fun vs H1 ds s x1 r => h vs H1 ds Q s r fun v H' d sd x2 r2 f => q v H' d sd (x1.trans x2) r2 fun _ => f.back x1)
theorem evn_Ty {T : String} {x : Str} {pn : Pos} {r : List V → Hp → VK → Prop} {SA : List D → Prop} (hc : CallR X (.type T) r) (hm : X.mg x = none) (hA : EvA X Hb (e :: es) Γ SA)
    (h : ∀ vs H ds Q, SA ds → RepAll X.K H vs ds → (∀ v H' d, S d → Ex H H' → Rep X.K H' v d → FreshD X.K H H' v d → Q v H') → r vs H Q) (hv : bootBuiltins x = some (.type T) := by decide +kernel) (hg : Gl X x := by rfl)
    (hn : x ≠ "__name__" := by decide) (hdb : (x == ("__debug__" : Str)) = false := by decide) (he : starEach (e :: es) X.env = (false, eval e X.env) :: starEach es X.env := by rfl) (hpl : (backTo pos (starEach es X.env)).any (·.1) = false := by rfl) :
    EvN X Hb (.Call (.Name x pn) (e :: es) [] pos) Γ true S := fun σ H en Q q =>
  SemE.of (pe_callTy hc hg hm hv (semA X (e :: es)) hn hdb he hpl) (hA σ H en _ fun vs H1 ds s x1 r => h vs H1 ds Q s r fun v H' d sd x2 r2 f => q v H' d sd (x1.trans x2) r2 fun _ => f.back x1)
section
variable {hm : X.mg "x" = none}
/-- len of a list, a tuple -/
theorem ev_len {pn : Pos} (hm : X.mg "len" = none) (hA : EvAs X Hb [a] Γ [x]) (hx : x = .lst ds ∨ x = .tup ds) (hg : Gl X "len" := by rfl) (he : starEach (a :: []) X.env = (false, eval a X.env) :: starEach [] X.env := by rfl) (hpl : (backTo pos (starEach [] X.env)).any (·.1) = false := by rfl) :
    Ev X Hb (.Call (.Name "len" pn) [a] [] pos) Γ true (.int ds.length) :=
  evn_B call_len_seq hm hA (fun vs H ds' Q s r k => by
    subst s
    rcases hx with e | e <;> subst e
    · cases r with
      | cons r1 r2 =>
        cases r2
        cases r1 with
        | lst hq ra => exact ⟨_, _, rfl, .inl hq, by rw [ra.length]; exact k _ _ _ rfl Ex.refl (.int _) (FreshD.flat rfl)⟩
    · cases r with
      | cons r1 r2 =>
        cases r2
        cases r1 with
        | tup hq ra => exact ⟨_, _, rfl, .inr hq, by rw [ra.length]; exact k _ _ _ rfl Ex.refl (.int _) (FreshD.flat rfl)⟩) PySem.boot_len hg (by decide) (by decide) he hpl
theorem RepAll.int1 {H : Hp} {vs : List V} {i : Int} (r : RepAll X.K H vs [.int i]) : vs = [.int i] := by
  cases r with
  | cons r1 r2 => cases r2; cases r1; rfl
theorem RepAll.int2 {H : Hp} {vs : List V} {i j : Int} (r : RepAll X.K H vs [.int i, .int j]) : vs = [.int i, .int j] := by
  cases r with
  | cons r1 r2 =>
    cases r1
    rw [r2.int1]
theorem RepAll.lst1 {H : Hp} {vs : List V} (r : RepAll X.K H vs [.lst ds]) : ∃ a ws, vs = [.ref a] ∧ SqL X.K H a ws ∧ RepAll X.K H ws ds := by
  cases r with
  | cons r1 r2 =>
    cases r2
    cases r1 with
    | lst hq ra => exact ⟨_, _, rfl, hq, ra⟩
theorem ev_max2 {pn : Pos} {i j : Int} (hc : X.calm = true) (hm : X.mg "max" = none) (hA : EvAs X Hb [a, b] Γ [.int i, .int j]) (hg : Gl X "max" := by rfl) (he : starEach (a :: [b]) X.env = (false, eval a X.env) :: starEach [b] X.env := by rfl) (hpl : (backTo pos (starEach [b] X.env)).any (·.1) = false := by rfl) :
    Ev X Hb (.Call (.Name "max" pn) [a, b] [] pos) Γ true (.int (max i j)) :=
  evn_B (call_max2 hc) hm hA (fun vs H ds' Q s r k => by
    subst s
    refine ⟨i, j, r.int2, ?_⟩
    rw [show (if j > i then j else i) = max i j from by split <;> omega]
    exact k _ _ _ rfl Ex.refl (.int _) (FreshD.flat rfl)) (by decide +kernel) hg (by decide) (by decide) he hpl
theorem ev_min2 {pn : Pos} {i j : Int} (hc : X.calm = true) (hm : X.mg "min" = none) (hA : EvAs X Hb [a, b] Γ [.int i, .int j]) (hg : Gl X "min" := by rfl) (he : starEach (a :: [b]) X.env = (false, eval a X.env) :: starEach [b] X.env := by rfl) (hpl : (backTo pos (starEach [b] X.env)).any (·.1) = false := by rfl) :
    Ev X Hb (.Call (.Name "min" pn) [a, b] [] pos) Γ true (.int (min i j)) :=
  evn_B (call_min2 hc) hm hA (fun vs H ds' Q s r k => by
    subst s
    refine ⟨i, j, r.int2, ?_⟩
    rw [show (if j < i then j else i) = min i j from by split <;> omega]
    exact k _ _ _ rfl Ex.refl (.int _) (FreshD.flat rfl)) (by decide +kernel) hg (by decide) (by decide) he hpl
theorem ev_abs {pn : Pos} {i : Int} (hm : X.mg "abs" = none) (hA : EvAs X Hb [a] Γ [.int i]) (hg : Gl X "abs" := by rfl) (he : starEach (a :: []) X.env = (false, eval a X.env) :: starEach [] X.env := by rfl) (hpl : (backTo pos (starEach [] X.env)).any (·.1) = false := by rfl) :
    Ev X Hb (.Call (.Name "abs" pn) [a] [] pos) Γ true (.int (i.natAbs : Int)) :=
  evn_B call_abs hm hA (fun vs H ds' Q s r k => by
    subst s
    refine ⟨i, r.int1, ?_⟩
    rw [show (if i < 0 then -i else i) = (i.natAbs : Int) from by split <;> omega]
    exact k _ _ _ rfl Ex.refl (.int _) (FreshD.flat rfl)) (by decide +kernel) hg (by decide) (by decide) he hpl
theorem ev_toInt {pn : Pos} {i : Int} (hm : X.mg "int" = none) (hA : EvAs X Hb [a] Γ [.int i]) (hg : Gl X "int" := by rfl) (he : starEach (a :: []) X.env = (false, eval a X.env) :: starEach [] X.env := by rfl) (hpl : (backTo pos (starEach [] X.env)).any (·.1) = false := by rfl) :
    Ev X Hb (.Call (.Name "int" pn) [a] [] pos) Γ true (.int i) :=
  evn_Ty call_int1 hm hA (fun vs H ds' Q s r k => by
    subst s
    exact .inl ⟨i, r.int1, k _ _ _ rfl Ex.refl (.int _) (FreshD.flat rfl)⟩) (by decide +kernel) hg (by decide) (by decide) he hpl
theorem ev_sumL {pn : Pos} {ns : List Int} (hc : X.calm = true) (hm : X.mg "sum" = none) (hA : EvAs X Hb [a] Γ [.lst (ns.map .int)]) (hg : Gl X "sum" := by rfl) (he : starEach (a :: []) X.env = (false, eval a X.env) :: starEach [] X.env := by rfl) (hpl : (backTo pos (starEach [] X.env)).any (·.1) = false := by rfl) :
    Ev X Hb (.Call (.Name "sum" pn) [a] [] pos) Γ true (.int ns.sum) :=
  evn_B (cr_sum hc) hm hA (fun vs H ds' Q s r k => by
    subst s
    obtain ⟨p, ws, e, hq, ra⟩ := r.lst1
    rw [ra.ints] at hq
    exact ⟨p, ns, e, hq, k _ _ _ rfl Ex.refl (.int _) (FreshD.flat rfl)⟩) (by decide +kernel) hg (by decide) (by decide) he hpl
theorem ev_maxL {pn : Pos} {ns : List Int} {m : Int} (hc : X.calm = true) (hm : X.mg "max" = none) (hA : EvAs X Hb [a] Γ [.lst (ns.map .int)]) (h1 : m ∈ ns) (h2 : ∀ y ∈ ns, y ≤ m) (hg : Gl X "max" := by rfl) (he : starEach (a :: []) X.env = (false, eval a X.env) :: starEach [] X.env := by rfl) (hpl : (backTo pos (starEach [] X.env)).any (·.1) = false := by rfl) :
    Ev X Hb (.Call (.Name "max" pn) [a] [] pos) Γ true (.int m) :=
  evn_B (cr_max hc) hm hA (fun vs H ds' Q s r k => by
    subst s
    obtain ⟨p, ws, e, hq, ra⟩ := r.lst1
    rw [ra.ints] at hq
    refine ⟨p, ns, e, hq, List.length_pos_of_mem h1, fun m' h3 h4 => ?_⟩
    have e1 : m' = m := Int.le_antisymm (h2 m' h3) (h4 m h1)
    rw [e1]
    exact k _ _ _ rfl Ex.refl (.int _) (FreshD.flat rfl)) (by decide +kernel) hg (by decide) (by decide) he hpl
theorem ev_minL {pn : Pos} {ns : List Int} {m : Int} (hc : X.calm = true) (hm : X.mg "min" = none) (hA : EvAs X Hb [a] Γ [.lst (ns.map .int)]) (h1 : m ∈ ns) (h2 : ∀ y ∈ ns, m ≤ y) (hg : Gl X "min" := by rfl) (he : starEach (a :: []) X.env = (false, eval a X.env) :: starEach [] X.env := by rfl) (hpl : (backTo pos (starEach [] X.env)).any (·.1) = false := by rfl) :
    Ev X Hb (.Call (.Name "min" pn) [a] [] pos) Γ true (.int m) :=
  evn_B (cr_min hc) hm hA (fun vs H ds' Q s r k => by
    subst s
    obtain ⟨p, ws, e, hq, ra⟩ := r.lst1
    rw [ra.ints] at hq
    refine ⟨p, ns, e, hq, List.length_pos_of_mem h1, fun m' h3 h4 => ?_⟩
    have e1 : m' = m := Int.le_antisymm (h4 m h1) (h2 m' h3)
    rw [e1]
    exact k _ _ _ rfl Ex.refl (.int _) (FreshD.flat rfl)) (by decide +kernel) hg (by decide) (by decide) he hpl
theorem ev_all {pn : Pos} {ns : List Bool} (hc : X.calm = true) (hm : X.mg "all" = none) (hA : EvAs X Hb [a] Γ [.lst (ns.map .bl)]) (hg : Gl X "all" := by rfl) (he : starEach (a :: []) X.env = (false, eval a X.env) :: starEach [] X.env := by rfl) (hpl : (backTo pos (starEach [] X.env)).any (·.1) = false := by rfl) :
    Ev X Hb (.Call (.Name "all" pn) [a] [] pos) Γ true (.bl (ns.all id)) :=
  evn_B (cr_all hc) hm hA (fun vs H ds' Q s r k => by
    subst s
    obtain ⟨p, ws, e, hq, ra⟩ := r.lst1
    rw [ra.bls] at hq
    exact ⟨p, ns, e, hq, k _ _ _ rfl Ex.refl (.bl _) (FreshD.flat rfl)⟩) (by decide +kernel) hg (by decide) (by decide) he hpl
theorem ev_any {pn : Pos} {ns : List Bool} (hc : X.calm = true) (hm : X.mg "any" = none) (hA : EvAs X Hb [a] Γ [.lst (ns.map .bl)]) (hg : Gl X "any" := by rfl) (he : starEach (a :: []) X.env = (false, eval a X.env) :: starEach [] X.env := by rfl) (hpl : (backTo pos (starEach [] X.env)).any (·.1) = false := by rfl) :
    Ev X Hb (.Call (.Name "any" pn) [a] [] pos) Γ true (.bl (ns.any id)) :=
  evn_B (cr_any hc) hm hA (fun vs H ds' Q s r k => by
    subst s
    obtain ⟨p, ws, e, hq, ra⟩ := r.lst1
    rw [ra.bls] at hq
    exact ⟨p, ns, e, hq, k _ _ _ rfl Ex.refl (.bl _) (FreshD.flat rfl)⟩) (by decide +kernel) hg (by decide) (by decide) he hpl
/-- list(xs), list(t) -/
theorem ev_list {pn : Pos} (hm : X.mg "list" = none) (hA : EvAs X Hb [a] Γ [x]) (hx : x = .lst ds ∨ x = .tup ds) (hg : Gl X "list" := by rfl) (he : starEach (a :: []) X.env = (false, eval a X.env) :: starEach [] X.env := by rfl) (hpl : (backTo pos (starEach [] X.env)).any (·.1) = false := by rfl) :
    Ev X Hb (.Call (.Name "list" pn) [a] [] pos) Γ true (.lst ds) :=
  evn_Ty call_list_of hm hA (fun vs H ds' Q s r k => by
    subst s
    cases r with
    | cons r1 r2 =>
      cases r2
      rcases hx with e | e <;> subst e
      · cases r1 with
        | lst hq ra => exact ⟨_, _, rfl, .inl hq, fun l hl => k _ _ _ rfl (Ex.new hl) (.lst (SqL.of upd_same) (ra.ex (Ex.new hl))) (freshL hl Ex.refl ra)⟩
      · cases r1 with
        | tup hq ra => exact ⟨_, _, rfl, .inr hq, fun l hl => k _ _ _ rfl (Ex.new hl) (.lst (SqL.of upd_same) (ra.ex (Ex.new hl))) (freshL hl Ex.refl ra)⟩) (by decide +kernel) hg (by decide) (by decide) he hpl
/-- tuple(xs) -/
theorem ev_tuple {pn : Pos} (hm : X.mg "tuple" = none) (hA : EvAs X Hb [a] Γ [.lst ds]) (hg : Gl X "tuple" := by rfl) (he : starEach (a :: []) X.env = (false, eval a X.env) :: starEach [] X.env := by rfl) (hpl : (backTo pos (starEach [] X.env)).any (·.1) = false := by rfl) :
    Ev X Hb (.Call (.Name "tuple" pn) [a] [] pos) Γ true (.tup ds) :=
  evn_Ty call_tuple_of hm hA (fun vs H ds' Q s r k => by
    subst s
    obtain ⟨p, ws, e, hq, ra⟩ := r.lst1
    exact ⟨p, ws, e, .inl ⟨hq, fun l hl => k _ _ _ rfl (Ex.new hl) (.tup (SqT.of upd_same) (ra.ex (Ex.new hl))) (FreshD.flat rfl)⟩⟩) (by decide +kernel) hg (by decide) (by decide) he hpl
end
end
end L3

namespace L3
open PySem PySem.Spec PyProof.Rows L2
section
variable {X : Cx} {Hb Hb' : Hp} {a b c e : Expr} {es : List Expr} {Γ : Slots} {pos p' : Pos} {d x y : D} {ds : List D} {S S' : D → Prop} {fr : Bool} {D0 : Ends} {rest sts : List Stmt} {st : Stmt}
theorem SemSs.cons {t : TS} {σ : L2.St} {H : Hp} (h : PS X st t) (q : t { D0 with nx := fun σ' H' => SemSs X rest D0 σ' H' } σ H) : SemSs X (st :: rest) D0 σ H :=
  SemSs.of (pss_cons h (semSs X rest)) q
theorem go_nil (h : ∀ σ H, EnvOk X.K Hb Γ σ H → D0.nx σ H) : Go X Hb [] D0 Γ := fun σ H en => SemSs.of pss_nil (h σ H en)
theorem go_weak {Γ' : Slots} (h : ∀ σ H, EnvOk X.K Hb Γ σ H → EnvOk X.K Hb Γ' σ H) (g : Go X Hb sts D0 Γ') : Go X Hb sts D0 Γ := fun σ H en => g σ H (h σ H en)
theorem go_forget (i : Nat) (g : Go X Hb sts D0 (Γ.set i .any)) : Go X Hb sts D0 Γ := go_weak (fun _ _ h => h.forget) g
/-- return e -/
theorem go_retN (h : EvN X Hb e Γ fr S) (hd : ∀ v H' d, S d → Ex Hb H' → Rep X.K H' v d → (fr = true → FreshD X.K Hb H' v d) → D0.rt v H') : Go X Hb (.Return (some e) pos :: rest) D0 Γ := fun σ H en =>
  SemSs.cons (ps_ret (semE X e)) (h σ H en _ fun v H' d s x r f => hd v H' d s (en.base.trans x) r fun z => (f z).back en.base)
theorem go_ret (h : Ev X Hb e Γ fr d) (hf : isCont d = false ∨ fr = true) (hd : ∀ v H', Rt X.K Hb d v H' → D0.rt v H') : Go X Hb (.Return (some e) pos :: rest) D0 Γ :=
  go_retN h fun v H' d' s x r f => by
    subst s
    refine hd v H' ⟨x, r, ?_⟩
    rcases hf with z | z
    · exact FreshD.flat z
    · exact f z
/-- return xs, xs a list of one's own -/
theorem go_retOwn (i : Nat) {p : Addr} {xn : Str} (hd : ∀ v H', Rt X.K Hb (.lst ds) v H' → D0.rt v H') (hG : Γ[i]? = some (.own p ds) := by rfl) (hN : X.N[i]? = some xn := by rfl) (hv : Vis X.env.scope xn := by first | exact Or.inl rfl | exact Or.inr (Or.inl rfl) | exact Or.inr (Or.inr rfl)) (hdb : (xn == ("__debug__" : Str)) = false := by decide)
    (hcd : (xn == ("__classdict__" : Str)) = false := by decide) : Go X Hb (.Return (some (.Name xn p')) pos :: rest) D0 Γ := fun σ H en => by
  obtain ⟨hσ, hb, vs, hl, r⟩ := en.own hG
  exact SemSs.cons (ps_ret (pe_var hN hv hdb hcd)) ⟨_, hσ, hd _ _ ⟨en.base, .lst (SqL.of hl) r, p, vs, rfl, hb, hl, r⟩⟩
theorem go_retNone (hd : ∀ v H', Rt X.K Hb .non v H' → D0.rt v H') : Go X Hb (.Return none pos :: rest) D0 Γ := fun σ H en =>
  SemSs.cons ps_retN (hd _ _ ⟨en.base, .non, FreshD.flat rfl⟩)
/-- an expression whose value is dropped -/
theorem go_expr (h : EvN X Hb e Γ fr S) (g : ∀ d, S d → Go X Hb rest D0 Γ) (hs : swapsWith e none pos.line X.env = pure false := by rfl) : Go X Hb (.Expr e pos :: rest) D0 Γ := fun σ H en =>
  SemSs.cons (ps_expr (semE X e) hs) (h σ H en _ fun v H' d s x r f => g d s σ H' (en.ex x))
/-- x = e -/
theorem go_setN (i : Nat) {xn : Str} (h : EvN X Hb e Γ fr S) (hs : ∀ d, S d → Sto Γ d) (g : ∀ d, S d → Go X Hb rest D0 (Γ.set i (.dat d))) (nd : X.N.Nodup) (hi : X.N[i]? = some xn := by rfl) (hx : Loc X.env.scope xn := by first | exact Or.inl rfl | exact Or.inr rfl)
    (hsw : swapsWith e (some (.Name xn p')) pos.line X.env = pure false := by rfl) (hf : X.fn xn = true ∨ X.env.scope.names.lookup xn = some .local := by first | exact .inl rfl | exact .inr rfl) : Go X Hb (.Assign [.Name xn p'] e pos :: rest) D0 Γ := fun σ H en =>
  SemSs.cons (ps_set nd hi hx (semE X e) hsw hf) (h σ H en _ fun v H' d s x r f => g d s _ H' ((en.ex x).setDat r (hs d s)))
theorem go_set (i : Nat) {xn : Str} (h : Ev X Hb e Γ fr d) (hs : Sto Γ d) (g : Go X Hb rest D0 (Γ.set i (.dat d))) (nd : X.N.Nodup) (hi : X.N[i]? = some xn := by rfl) (hx : Loc X.env.scope xn := by first | exact Or.inl rfl | exact Or.inr rfl)
    (hsw : swapsWith e (some (.Name xn p')) pos.line X.env = pure false := by rfl) (hf : X.fn xn = true ∨ X.env.scope.names.lookup xn = some .local := by first | exact .inl rfl | exact .inr rfl) : Go X Hb (.Assign [.Name xn p'] e pos :: rest) D0 Γ :=
  go_setN i h (fun _ z => by rw [z]; exact hs) (fun _ z => by rw [z]; exact g) nd hi hx hsw hf
/-- x = e, a new list, to be changed -/
theorem go_setOwnN (i : Nat) {xn : Str} {SL : List D → Prop} (h : EvN X Hb e Γ true fun z => ∃ ds, z = .lst ds ∧ SL ds) (hfl : ∀ ds, SL ds → D.flatAll ds = true) (g : ∀ p ds, SL ds → Go X Hb rest D0 (Γ.set i (.own p ds))) (nd : X.N.Nodup) (hi : X.N[i]? = some xn := by rfl)
    (hx : Loc X.env.scope xn := by first | exact Or.inl rfl | exact Or.inr rfl) (hsw : swapsWith e (some (.Name xn p')) pos.line X.env = pure false := by rfl) (hf : X.fn xn = true ∨ X.env.scope.names.lookup xn = some .local := by first | exact .inl rfl | exact .inr rfl) :
    Go X Hb (.Assign [.Name xn p'] e pos :: rest) D0 Γ := fun σ H en =>
  SemSs.cons (ps_set nd hi hx (semE X e) hsw hf) (h σ H en _ fun v H' d ⟨ds, e1, s⟩ x r f => by
    subst e1
    obtain ⟨p, vs, rfl, hp, hl, ra⟩ := f rfl
    exact g p ds s _ H' (en.setOwn hp x hl ra (hfl ds s)))
/-! ### if, while, for -/
theorem go_ifN {as bs : List Stmt} {S : Bool → Prop} (h : EvT X Hb c Γ S) (ha : S true → Go X Hb as { D0 with nx := fun σ H => SemSs X rest D0 σ H } Γ) (hb : S false → Go X Hb bs { D0 with nx := fun σ H => SemSs X rest D0 σ H } Γ) : Go X Hb (.If c as bs pos :: rest) D0 Γ := fun σ H en =>
  SemSs.cons (ps_if (semT X c) (semSs X as) (semSs X bs)) (h σ H en _ fun k H' s x => by
    cases k with
    | true => exact ha s σ H' (en.ex x)
    | false => exact hb s σ H' (en.ex x))
theorem go_if {as bs : List Stmt} {k : Bool} (h : EvB X Hb c Γ k) (ha : k = true → Go X Hb as { D0 with nx := fun σ H => SemSs X rest D0 σ H } Γ) (hb : k = false → Go X Hb bs { D0 with nx := fun σ H => SemSs X rest D0 σ H } Γ) : Go X Hb (.If c as bs pos :: rest) D0 Γ :=
  go_ifN h (fun z => ha z.symm) fun z => hb z.symm
/-- the end of a branch: what stands behind the if -/
theorem go_join (g : Go X Hb rest D0 Γ) : Go X Hb [] { D0 with nx := fun σ H => SemSs X rest D0 σ H } Γ := go_nil fun σ H en => g σ H en
theorem go_joinF (f : Slots → Slots) (hf : ∀ σ H, EnvOk X.K Hb Γ σ H → EnvOk X.K Hb (f Γ) σ H) (g : Go X Hb rest D0 (f Γ)) : Go X Hb [] { D0 with nx := fun σ H => SemSs X rest D0 σ H } Γ := go_nil fun σ H en => g σ H (hf σ H en)
theorem go_break (h : ∀ σ H, EnvOk X.K Hb Γ σ H → D0.bk σ H) : Go X Hb (.Break pos :: rest) D0 Γ := fun σ H en => SemSs.cons ps_break (h σ H en)
theorem go_continue (h : ∀ σ H, EnvOk X.K Hb Γ σ H → D0.ct σ H) : Go X Hb (.Continue pos :: rest) D0 Γ := fun σ H en => SemSs.cons ps_continue (h σ H en)
theorem go_pass (g : Go X Hb rest D0 Γ) : Go X Hb (.Pass pos :: rest) D0 Γ := fun σ H en => SemSs.cons ps_pass (g σ H en)
theorem EnvOk.wb {K : PySem.W.Frag} {σ : L2.St} {H : Hp} (e : ExK K Hb Hb') (h : EnvOk K Hb' Γ σ H) : EnvOk K Hb Γ σ H := let ⟨Hz, h1, h2⟩ := h; ⟨Hz, e.trans h1.toEx, h2⟩
/-- I m Γ: what the slots may be, m what falls -/
theorem go_while {body : List Stmt} (I : Nat → Slots → Prop) (h0 : ∃ m, I m Γ)
    (hs : ∀ m Γ', I m Γ' → ∃ S : Bool → Prop, EvT X Hb c Γ' S ∧ (S true → Go X Hb body { D0 with nx := fun σ H => ∃ m' Γ'', m' < m ∧ I m' Γ'' ∧ EnvOk X.K Hb Γ'' σ H, ct := fun σ H => ∃ m' Γ'', m' < m ∧ I m' Γ'' ∧ EnvOk X.K Hb Γ'' σ H, bk := fun σ H => SemSs X rest D0 σ H } Γ') ∧ (S false → Go X Hb rest D0 Γ'))
    (hp : PassesOwn (model X.prog X.w) X.A X.env X.xe) : Go X Hb (.While c body [] pos :: rest) D0 Γ := fun σ H en => by
  refine SemSs.cons (ps_while hp (semT X c) (semSs X body)) ?_
  obtain ⟨m, h0⟩ := h0
  refine ⟨fun m σ H => ∃ Γ', I m Γ' ∧ EnvOk X.K Hb Γ' σ H, ⟨m, Γ, h0, en⟩, ?_⟩
  rintro m σ H ⟨Γ', hI, en⟩
  obtain ⟨S, ht, h1, h2⟩ := hs m Γ' hI
  refine ht σ H en _ fun k H' s x => ?_
  cases k with
  | true =>
    exact ⟨fun σ H => ∃ m' Γ'', m' < m ∧ I m' Γ'' ∧ EnvOk X.K Hb Γ'' σ H, fun σ' H' ⟨m', Γ'', a, b, c⟩ => ⟨m', a, Γ'', b, c⟩, h1 s σ H' (en.ex x)⟩
  | false => exact h2 s σ H' (en.ex x)
/-- the end of a while's turn -/
theorem go_turn {I : Nat → Slots → Prop} {m m' : Nat} {Γ' : Slots} {D1 : Ends} (hD : ∀ σ H, (∃ m' Γ'', m' < m ∧ I m' Γ'' ∧ EnvOk X.K Hb Γ'' σ H) → D1.nx σ H) (hI : I m' Γ') (hm : m' < m) (hw : ∀ σ H, EnvOk X.K Hb Γ σ H → EnvOk X.K Hb Γ' σ H) : Go X Hb [] D1 Γ :=
  go_nil fun σ H en => hD σ H ⟨m', Γ', hm, hI, hw σ H en⟩

/-! what a loop goes over -/
theorem evi_dat (i : Nat) {xn : Str} (hG : Γ[i]? = some (.dat (.lst ds)) := by rfl) (hN : X.N[i]? = some xn := by rfl) (hv : Vis X.env.scope xn := by first | exact Or.inl rfl | exact Or.inr (Or.inl rfl) | exact Or.inr (Or.inr rfl)) (hd : (xn == ("__debug__" : Str)) = false := by decide)
    (hcd : (xn == ("__classdict__" : Str)) = false := by decide) : EvI X Hb (.Name xn pos) Γ (· = ds) := fun σ H en Q q => by
  obtain ⟨h1, h2, h3, h4⟩ := en.wide
  obtain ⟨o, hσ, v, rfl, r⟩ := Paired.getE h3 hG
  cases r with
  | lst hq ra => exact SemE.of (pe_var hN hv hd hcd) ⟨_, hσ, q _ _ H _ rfl Ex.refl hq ra⟩
theorem evi_free (h : EvN X Hb e Γ fr fun z => ∃ ds, z = .lst ds ∧ S' (.lst ds)) (ho : owns Γ = []) : EvI X Hb e Γ (fun ds => S' (.lst ds)) := fun σ H en Q q =>
  h σ H en _ fun v H' d ⟨ds, e1, s⟩ x r _ => by
    subst e1
    have z : hide H' (owns Γ) = H' := by
      funext a
      rw [ho]
      exact hide_out (by simp)
    cases r with
    | lst hq ra => exact q _ _ H' ds s x (by rw [z]; exact hq) (by rw [z]; exact ra)
theorem evi_new (h : EvN X Hb e Γ true fun z => ∃ ds, z = .lst ds ∧ S' (.lst ds)) (hf : ∀ ds, S' (.lst ds) → D.flatAll ds = true) : EvI X Hb e Γ (fun ds => S' (.lst ds)) := fun σ H en Q q =>
  h σ H en _ fun v H' d ⟨ds, e1, s⟩ x r f => by
    subst e1
    obtain ⟨p, vs, rfl, hp, hl, ra⟩ := f rfl
    have hpo : p ∉ owns Γ := fun z => by
      obtain ⟨Hz, _, _, q3, _⟩ := en
      obtain ⟨_, q, _⟩ := owns_lsts q3 p z
      rw [hp] at q; cases q
    obtain ⟨_, _, k3, _⟩ := (en.ex x).wide
    exact q _ vs H' ds s x (.inl (.inl (by rw [hide_out hpo]; exact hl))) (ra.hide (owns_lsts k3) (hf ds s))
theorem evi_freeD (h : Ev X Hb e Γ fr (.lst ds)) (ho : owns Γ = []) : EvI X Hb e Γ (· = ds) := fun σ H en Q q =>
  evi_free (S' := (· = .lst ds)) (h.imp fun _ z => ⟨ds, z, rfl⟩) ho σ H en Q fun a vs H' ds' s => q a vs H' ds' (by cases s; rfl)
theorem evi_newD (h : Ev X Hb e Γ true (.lst ds)) (hf : D.flatAll ds = true) : EvI X Hb e Γ (· = ds) := fun σ H en Q q =>
  evi_new (S' := (· = .lst ds)) (h.imp fun _ z => ⟨ds, z, rfl⟩) (fun ds' z => by cases z; exact hf) σ H en Q fun a vs H' ds' s => q a vs H' ds' (by cases s; rfl)
/-- the state between two turns -/
abbrev Btw (X : Cx) (Hb : Hp) (I : Slots → Prop) : L2.St → Hp → Prop := fun σ H => ∃ Γ', I Γ' ∧ EnvOk X.K Hb Γ' σ H
theorem go_btw {I : Slots → Prop} {Γ' : Slots} {D1 : Ends} (hI : I Γ') (hw : ∀ σ H, EnvOk X.K Hb Γ σ H → EnvOk X.K Hb Γ' σ H) (hD : ∀ σ H, Btw X Hb I σ H → D1.nx σ H) : Go X Hb [] D1 Γ := go_nil fun σ H en => hD σ H ⟨Γ', hI, hw σ H en⟩
/-- for x in a list -/
theorem go_forN {body : List Stmt} (ix : Nat) {xn : Str} {S1 : List D → Prop} (I : List D → Nat → Slots → Prop) (hit : EvI X Hb e Γ S1) (h0 : ∀ ds, S1 ds → I ds 0 Γ) (hst : ∀ ds i x Γ', S1 ds → ds[i]? = some x → I ds i Γ' → Sto Γ' x)
    (hs : ∀ Hb', Ex Hb Hb' → ∀ ds i x Γ', S1 ds → ds[i]? = some x → I ds i Γ' → Go X Hb' body { D0 with nx := Btw X Hb' (I ds (i + 1)), ct := Btw X Hb' (I ds (i + 1)), bk := fun σ H => SemSs X rest D0 σ H } (Γ'.set ix (.dat x)))
    (hd : ∀ ds Γ', S1 ds → I ds ds.length Γ' → Go X Hb rest D0 Γ') (hp : PassesOwn (model X.prog X.w) X.A X.env X.xe) (hc : X.calm = true) (nd : X.N.Nodup) (hi : X.N[ix]? = some xn := by rfl) (hx : Loc X.env.scope xn := by first | exact Or.inl rfl | exact Or.inr rfl)
    (hfs : ∀ x, foldedSetIterable e X.env x = pure x := by intro _; rfl) (hf : X.fn xn = true ∨ X.env.scope.names.lookup xn = some .local := by first | exact .inl rfl | exact .inr rfl) :
    Go X Hb (.For (.Name xn p') e body [] pos :: rest) D0 Γ := fun σ H en => by
  refine SemSs.cons (ps_for hp hc (pi_list (semE X e)) (pg_name nd hi hx hf) (semSs X body) hfs) ?_
  refine hit σ H en _ fun a vs H' ds s x hq ra => ?_
  have en' := en.ex x
  have eb : Ex Hb (hide H' (owns Γ)) := en'.wide.1.toEx
  refine ⟨a, rfl, ⟨_, SqL.ex hide_ex hq⟩, for_list (K := X.K) (a := a) (xs := vs) (fun i σ H => Btw X (hide H' (owns Γ)) (I ds i) σ H) ⟨Γ, h0 ds s, ⟨_, en'.wide.1.self, en'.wide.2⟩⟩ (fun i σ H _ ⟨Γ', _, en2⟩ => SqL.ex en2.base hq) ?_ ?_⟩
  · rintro i v σ2 H2 hv ⟨Γ', hI, en2⟩
    obtain ⟨x, hx', rx⟩ := ra.get' hv
    exact hs _ eb ds i x Γ' s hx' hI _ H2 (en2.setDat (rx.ex en2.base) (hst ds i x Γ' s hx' hI))
  · rintro σ2 H2 ⟨Γ', hI, en2⟩
    rw [ra.length] at hI
    exact hd ds Γ' s hI _ H2 (en2.wb en'.wide.1)
theorem go_for {body : List Stmt} (ix : Nat) {xn : Str} (I : Nat → Slots → Prop) (hit : EvI X Hb e Γ (· = ds)) (h0 : I 0 Γ) (hst : ∀ i x Γ', ds[i]? = some x → I i Γ' → Sto Γ' x)
    (hs : ∀ Hb', Ex Hb Hb' → ∀ i x Γ', ds[i]? = some x → I i Γ' → Go X Hb' body { D0 with nx := Btw X Hb' (I (i + 1)), ct := Btw X Hb' (I (i + 1)), bk := fun σ H => SemSs X rest D0 σ H } (Γ'.set ix (.dat x)))
    (hd : ∀ Γ', I ds.length Γ' → Go X Hb rest D0 Γ') (hp : PassesOwn (model X.prog X.w) X.A X.env X.xe) (hc : X.calm = true) (nd : X.N.Nodup) (hi : X.N[ix]? = some xn := by rfl) (hx : Loc X.env.scope xn := by first | exact Or.inl rfl | exact Or.inr rfl)
    (hfs : ∀ x, foldedSetIterable e X.env x = pure x := by intro _; rfl) (hf : X.fn xn = true ∨ X.env.scope.names.lookup xn = some .local := by first | exact .inl rfl | exact .inr rfl) :
    Go X Hb (.For (.Name xn p') e body [] pos :: rest) D0 Γ :=
  go_forN ix (fun _ i => I i) hit (fun _ _ => h0) (fun _ i x Γ' s hx hI => hst i x Γ' (by rw [← s]; exact hx) hI) (fun Hb' eb _ i x Γ' s hx hI => hs Hb' eb i x Γ' (by rw [← s]; exact hx) hI) (fun ds' Γ' s hI => hd Γ' (by rw [← s]; exact hI)) hp hc nd hi hx hfs hf
/-- for x in range(n), range(a, b) -/
def EvR (X : Cx) (Hb : Hp) (e : Expr) (Γ : Slots) (S : Int → Nat → Prop) : Prop := ∃ wi, (∀ tg, PI X tg e wi) ∧ ∀ σ H, EnvOk X.K Hb Γ σ H → ∀ R : It → Hp → Prop, (∀ lo n H', S lo n → Ex H H' → R (Itr lo n) H') → wi σ H R
theorem evr_1N {pn : Pos} {S1 : Int → Prop} (h : EvA X Hb [a] Γ fun z => ∃ i, z = [.int i] ∧ S1 i) (hb : ∀ i, S1 i → -(2 ^ 62) ≤ i ∧ i < 2 ^ 62) (hm : X.mg "range" = none) (hg : Gl X "range" := by rfl) (hs : starEach [a] X.env = [(false, eval a X.env)] := by rfl) :
    EvR X Hb (.Call (.Name "range" pn) [a] [] pos) Γ (fun lo n => lo = 0 ∧ ∃ i, S1 i ∧ n = i.toNat) :=
  ⟨_, fun tg => pi_range1 hg hm (semA X [a]) hs, fun σ H en R q => h σ H en _ fun vs H' ds ⟨i, e1, s⟩ x r => by
    subst e1
    exact ⟨i, r.int1, (hb i s).1, (hb i s).2, q 0 _ H' ⟨rfl, i, s, rfl⟩ x⟩⟩
theorem evr_1 {pn : Pos} {i : Int} (h : EvAs X Hb [a] Γ [.int i]) (hb : -(2 ^ 62) ≤ i ∧ i < 2 ^ 62) (hm : X.mg "range" = none) (hg : Gl X "range" := by rfl) (hs : starEach [a] X.env = [(false, eval a X.env)] := by rfl) :
    EvR X Hb (.Call (.Name "range" pn) [a] [] pos) Γ (fun lo n => lo = 0 ∧ n = i.toNat) :=
  ⟨_, fun tg => pi_range1 hg hm (semA X [a]) hs, fun σ H en R q => h σ H en _ fun vs H' ds e1 x r => by
    subst e1
    exact ⟨i, r.int1, hb.1, hb.2, q 0 _ H' ⟨rfl, rfl⟩ x⟩⟩
theorem evr_2 {pn : Pos} {i j : Int} (h : EvAs X Hb [a, b] Γ [.int i, .int j]) (hb : -(2 ^ 62) ≤ i ∧ i < 2 ^ 62 ∧ -(2 ^ 62) ≤ j ∧ j < 2 ^ 62) (hm : X.mg "range" = none) (hg : Gl X "range" := by rfl) (hs : starEach [a, b] X.env = [(false, eval a X.env), (false, eval b X.env)] := by rfl) (hs2 : starEach [b] X.env = [(false, eval b X.env)] := by rfl) :
    EvR X Hb (.Call (.Name "range" pn) [a, b] [] pos) Γ (fun lo n => lo = i ∧ n = (j - i).toNat) :=
  ⟨_, fun tg => pi_range2 hg hm (semA X [a, b]) hs hs2, fun σ H en R q => h σ H en _ fun vs H' ds e1 x r => by
    subst e1
    exact ⟨i, j, r.int2, hb, q i _ H' ⟨rfl, rfl⟩ x⟩⟩
theorem go_forR {body : List Stmt} (ix : Nat) {xn : Str} {S1 : Int → Nat → Prop} (I : Int → Nat → Nat → Slots → Prop) (hit : EvR X Hb e Γ S1) (h0 : ∀ lo n, S1 lo n → I lo n 0 Γ)
    (hs : ∀ lo n i Γ', S1 lo n → i < n → I lo n i Γ' → Go X Hb body { D0 with nx := Btw X Hb (I lo n (i + 1)), ct := Btw X Hb (I lo n (i + 1)), bk := fun σ H => SemSs X rest D0 σ H } (Γ'.set ix (.dat (.int (lo + i)))))
    (hd : ∀ lo n Γ', S1 lo n → I lo n n Γ' → Go X Hb rest D0 Γ') (hp : PassesOwn (model X.prog X.w) X.A X.env X.xe) (hc : X.calm = true) (nd : X.N.Nodup) (hi : X.N[ix]? = some xn := by rfl) (hx : Loc X.env.scope xn := by first | exact Or.inl rfl | exact Or.inr rfl)
    (hfs : ∀ x, foldedSetIterable e X.env x = pure x := by intro _; rfl) (hf : X.fn xn = true ∨ X.env.scope.names.lookup xn = some .local := by first | exact .inl rfl | exact .inr rfl) :
    Go X Hb (.For (.Name xn p') e body [] pos :: rest) D0 Γ := fun σ H en => by
  obtain ⟨wi, hpi, hw⟩ := hit
  refine SemSs.cons (ps_for hp hc (hpi _) (pg_name nd hi hx hf) (semSs X body) hfs) ?_
  refine hw σ H en _ fun lo n H' s x => ?_
  refine for_range (lo := lo) (n := n) (fun i σ H => Btw X Hb (I lo n i) σ H) ⟨Γ, h0 lo n s, en.ex x⟩ ?_ ?_
  · rintro i σ2 H2 hin ⟨Γ', hI, en2⟩
    exact hs lo n i Γ' s hin hI _ H2 (en2.setDat (.int _) (.inl rfl))
  · rintro σ2 H2 ⟨Γ', hI, en2⟩
    exact hd lo n Γ' s hI _ H2 en2
end
end L3

namespace L3
open PySem PySem.Spec PyProof.Rows L2
section
variable {X : Cx} {Hb Hb' : Hp} {a b c e : Expr} {es : List Expr} {Γ : Slots} {pos p' apos cpos : Pos} {d x y : D} {ds : List D} {S S' : D → Prop} {fr : Bool} {D0 : Ends} {rest sts : List Stmt} {st : Stmt}
theorem EnvOk.ownW {K : PySem.W.Frag} {σ : L2.St} {H : Hp} {i : Nat} {p : Addr} (h : EnvOk K Hb Γ σ H) (e : Γ[i]? = some (.own p ds)) : σ[i]? = some (some (.ref p)) ∧ ∃ vs, H p = some (.lst vs) ∧ RepAll K (hide H (owns Γ)) vs ds ∧ Lsts H (owns Γ) := by
  obtain ⟨h1, h2, h3, h4⟩ := h.wide
  obtain ⟨o, q, rfl, n, vs, q2, r2⟩ := Paired.getE h3 e
  exact ⟨q, vs, q2, r2, owns_lsts h3⟩
/-- xs.append(e), xs a list of one's own -/
theorem go_appendN (i : Nat) {p : Addr} {xn : Str} (h : EvN X Hb e Γ fr S) (hG : Γ[i]? = some (.own p ds) := by rfl) (hf : ∀ d, S d → d.flat = true) (hl : ds.length ≤ 100000) (g : ∀ d, S d → Go X Hb rest D0 (Γ.set i (.own p (ds ++ [d])))) (hN : X.N[i]? = some xn := by rfl)
    (hv : Vis X.env.scope xn := by first | exact Or.inl rfl | exact Or.inr (Or.inl rfl) | exact Or.inr (Or.inr rfl)) (hdb : (xn == ("__debug__" : Str)) = false := by decide) (hcd : (xn == ("__classdict__" : Str)) = false := by decide)
    (hbase : attributeBase (.Name xn p') "append" X.env (eval (.Name xn p') X.env) = eval (.Name xn p') X.env := by rfl)
    (hfew : ((backTo cpos (starEach (e :: []) X.env)).all (fun x => !x.1) && (backToKw cpos (keywordEach [] X.env)).all (fun x => x.1.isSome) && decide ((e :: []).length + ([] : List Keyword).length + (if ([] : List Keyword).isEmpty then 0 else 1) < 30)) = true := by rfl)
    (hline : (apos.endLine == cpos.line) = true := by rfl) (hs : starEach (e :: []) X.env = (false, eval e X.env) :: starEach [] X.env := by rfl) (hplain : (backTo cpos (starEach [] X.env)).any (·.1) = false := by rfl)
    (hsw : swapsWith (.Call (.Attribute (.Name xn p') "append" apos) [e] [] cpos) none pos.line X.env = pure false := by rfl) :
    Go X Hb (.Expr (.Call (.Attribute (.Name xn p') "append" apos) [e] [] cpos) pos :: rest) D0 Γ := fun σ H en => by
  obtain ⟨hσ, vs, hl1, _, _⟩ := en.ownW hG
  refine SemSs.cons (ps_expr (pe_bm PySem.F.plainAttrs_list PySem.F.slot_list_append PySem.F.type_list_append mt_append (pe_var hN hv hdb hcd) (pa_cons (semE X e) pa_nil hs) hbase hfew hline hs hplain) hsw) ?_
  refine ⟨_, hσ, .inl ⟨rfl, _, SqL.of hl1⟩, h σ H en _ fun v H' d s x r _ => ?_⟩
  have en' := en.ex x
  obtain ⟨_, ws, hl2, rw, ls⟩ := en'.ownW hG
  refine ⟨p, ws, v, rfl, rfl, hl2, by rw [rw.length]; exact Nat.lt_of_le_of_lt hl (by decide), ?_⟩
  exact g d s σ _ (en'.mutOwn hG (rw.append (.cons (r.hide ls (hf d s)) .nil)))
theorem go_append (i : Nat) {p : Addr} {xn : Str} (h : Ev X Hb e Γ fr d) (hG : Γ[i]? = some (.own p ds) := by rfl) (hf : d.flat = true) (hl : ds.length ≤ 100000) (g : Go X Hb rest D0 (Γ.set i (.own p (ds ++ [d])))) (hN : X.N[i]? = some xn := by rfl)
    (hv : Vis X.env.scope xn := by first | exact Or.inl rfl | exact Or.inr (Or.inl rfl) | exact Or.inr (Or.inr rfl)) (hdb : (xn == ("__debug__" : Str)) = false := by decide) (hcd : (xn == ("__classdict__" : Str)) = false := by decide)
    (hbase : attributeBase (.Name xn p') "append" X.env (eval (.Name xn p') X.env) = eval (.Name xn p') X.env := by rfl)
    (hfew : ((backTo cpos (starEach (e :: []) X.env)).all (fun x => !x.1) && (backToKw cpos (keywordEach [] X.env)).all (fun x => x.1.isSome) && decide ((e :: []).length + ([] : List Keyword).length + (if ([] : List Keyword).isEmpty then 0 else 1) < 30)) = true := by rfl)
    (hline : (apos.endLine == cpos.line) = true := by rfl) (hs : starEach (e :: []) X.env = (false, eval e X.env) :: starEach [] X.env := by rfl) (hplain : (backTo cpos (starEach [] X.env)).any (·.1) = false := by rfl)
    (hsw : swapsWith (.Call (.Attribute (.Name xn p') "append" apos) [e] [] cpos) none pos.line X.env = pure false := by rfl) :
    Go X Hb (.Expr (.Call (.Attribute (.Name xn p') "append" apos) [e] [] cpos) pos :: rest) D0 Γ :=
  go_appendN i h hG (fun _ z => by rw [z]; exact hf) hl (fun _ z => by rw [z]; exact g) hN hv hdb hcd hbase hfew hline hs hplain hsw
/-- x op= e, ints -/
theorem go_aug (i : Nat) {xn : Str} {op : Operator} {C : Int → Int → Prop} {gg : Int → Int → Int} {k j : Int} (ho : OpR X (inplaceOp op) (rI C fun i j => .int (gg i j))) (h : Ev X Hb e Γ fr (.int j)) (hc : C k j) (g : Go X Hb rest D0 (Γ.set i (.dat (.int (gg k j))))) (nd : X.N.Nodup) (hG : Γ[i]? = some (.dat (.int k)) := by rfl)
    (hi : X.N[i]? = some xn := by rfl) (hx : Loc X.env.scope xn := by first | exact Or.inl rfl | exact Or.inr rfl) (hf : X.fn xn = true ∨ X.env.scope.names.lookup xn = some .local := by first | exact .inl rfl | exact .inr rfl) :
    Go X Hb (.AugAssign (.Name xn p') op e pos :: rest) D0 Γ := fun σ H en => by
  obtain ⟨v, hσ, r0⟩ := en.dat hG
  refine SemSs.cons (ps_aug (ti := rI C fun i j => .int (gg i j)) nd hi hx (semE X e) (fun pins s σ H x y v u Q I r1 r2 q => ho pins s σ H x y v u Q I r1 r2 q) hf) ?_
  refine ⟨v, hσ, h σ H en _ fun w H' d s x r _ => ?_⟩
  subst s
  cases r0
  cases r
  exact ⟨k, j, rfl, rfl, hc, g _ H' ((en.ex x).setDat (.int _) (.inl rfl))⟩
theorem iopI0' {f : Value → Value → Sem Value} {g : Int → Int → V} (h : OpR X f (rI0 g)) : OpR X f (rI (fun _ _ => True) g) := fun pins s σ H x y v u Q I r1 r2 ⟨i, j, e1, e2, _, q⟩ => h pins s σ H x y v u Q I r1 r2 ⟨i, j, e1, e2, q⟩
/-- a, b = e1, e2 -/
theorem go_parN (i j : Nat) {xn yn : Str} {px py pt : Pos} {kt k2 : Nat} {pt2 : Pos} {S2 : D → D → Prop} (h : EvA X Hb [a, b] Γ fun z => ∃ d1 d2, z = [d1, d2] ∧ S2 d1 d2) (hs1 : ∀ d1 d2, S2 d1 d2 → Sto Γ d1 ∧ Sto (Γ.set i (.dat d1)) d2)
    (g : ∀ d1 d2, S2 d1 d2 → Go X Hb rest D0 ((Γ.set i (.dat d1)).set j (.dat d2))) (hc : X.calm = true) (nd : X.N.Nodup) (hw : swappedStores [.Tuple [.Name xn px, .Name yn py] kt pt] (.Tuple [a, b] k2 pt2) X.env = pure (some [xn, yn]))
    (hi : X.N[i]? = some xn := by rfl) (hj : X.N[j]? = some yn := by rfl) (hij : i ≠ j := by decide) (hx : X.env.scope.names.lookup xn = some .local := by rfl) (hy : X.env.scope.names.lookup yn = some .local := by rfl)
    (hsw : swapsWithSole [.Tuple [.Name xn px, .Name yn py] kt pt] (.Tuple [a, b] k2 pt2) pos.line X.env = pure false := by rfl) :
    Go X Hb (.Assign [.Tuple [.Name xn px, .Name yn py] kt pt] (.Tuple [a, b] k2 pt2) pos :: rest) D0 Γ := fun σ H en => by
  refine SemSs.cons (ps_par hc nd hi hj hij hx hy (semA X [a, b]) hw hsw) ?_
  refine h σ H en _ fun vs H' ds ⟨d1, d2, e1, s⟩ x r => ?_
  subst e1
  cases r with
  | cons r1 r2 =>
    cases r2 with
    | cons r2 r3 =>
      cases r3
      exact ⟨_, _, rfl, g d1 d2 s _ H' (((en.ex x).setDat r1 (hs1 d1 d2 s).1).setDat r2 (hs1 d1 d2 s).2)⟩
theorem go_par (i j : Nat) {xn yn : Str} {px py pt : Pos} {kt k2 : Nat} {pt2 : Pos} {d1 d2 : D} (h : EvAs X Hb [a, b] Γ [d1, d2]) (hs1 : Sto Γ d1) (hs2 : Sto (Γ.set i (.dat d1)) d2)
    (g : Go X Hb rest D0 ((Γ.set i (.dat d1)).set j (.dat d2))) (hc : X.calm = true) (nd : X.N.Nodup) (hw : swappedStores [.Tuple [.Name xn px, .Name yn py] kt pt] (.Tuple [a, b] k2 pt2) X.env = pure (some [xn, yn]))
    (hi : X.N[i]? = some xn := by rfl) (hj : X.N[j]? = some yn := by rfl) (hij : i ≠ j := by decide) (hx : X.env.scope.names.lookup xn = some .local := by rfl) (hy : X.env.scope.names.lookup yn = some .local := by rfl)
    (hsw : swapsWithSole [.Tuple [.Name xn px, .Name yn py] kt pt] (.Tuple [a, b] k2 pt2) pos.line X.env = pure false := by rfl) :
    Go X Hb (.Assign [.Tuple [.Name xn px, .Name yn py] kt pt] (.Tuple [a, b] k2 pt2) pos :: rest) D0 Γ :=
  go_parN i j (S2 := fun u v => u = d1 ∧ v = d2) (h.imp fun _ z => ⟨d1, d2, z, rfl, rfl⟩) (fun _ _ ⟨e1, e2⟩ => by rw [e1, e2]; exact ⟨hs1, hs2⟩) (fun _ _ ⟨e1, e2⟩ => by rw [e1, e2]; exact g) hc nd hw hi hj hij hx hy hsw
/-- targets: a name; several names of a tuple -/
def TgOk (X : Cx) (Hb : Hp) (tg : Expr) (f : D → Slots → Slots → Prop) : Prop := ∃ g, PG X tg g ∧ ∀ d Γ Γ' σ H v, f d Γ Γ' → EnvOk X.K Hb Γ σ H → Rep X.K H v d → ∀ Q : L2.St → Hp → Prop, (∀ σ', EnvOk X.K Hb Γ' σ' H → Q σ' H) → g v σ H Q
def TgsOk (X : Cx) (Hb : Hp) (tgs : List Expr) (f : List D → Slots → Slots → Prop) : Prop := ∃ g, PGs X tgs g ∧ ∀ ds Γ Γ' σ H vs, f ds Γ Γ' → EnvOk X.K Hb Γ σ H → RepAll X.K H vs ds → ∀ Q : L2.St → Hp → Prop, (∀ σ', EnvOk X.K Hb Γ' σ' H → Q σ' H) → g vs σ H Q
theorem tg_name (i : Nat) {xn : Str} (nd : X.N.Nodup) (hi : X.N[i]? = some xn := by rfl) (hx : Loc X.env.scope xn := by first | exact Or.inl rfl | exact Or.inr rfl) (hf : X.fn xn = true ∨ X.env.scope.names.lookup xn = some .local := by first | exact .inl rfl | exact .inr rfl) :
    TgOk X Hb (.Name xn pos) (fun d Γ Γ' => Sto Γ d ∧ Γ' = Γ.set i (.dat d)) := ⟨_, pg_name nd hi hx hf, fun d Γ Γ' σ H v ⟨h1, h2⟩ en r Q q => by
  subst h2
  exact q _ (en.setDat r h1)⟩
theorem tgs_nil : TgsOk X Hb [] (fun ds Γ Γ' => ds = [] ∧ Γ' = Γ) := ⟨_, pgs_nil, fun ds Γ Γ' σ H vs ⟨h1, h2⟩ en r Q q => by
  subst h1 h2
  cases r
  exact ⟨rfl, q σ en⟩⟩
theorem tgs_cons {tg : Expr} {tgs : List Expr} {f : D → Slots → Slots → Prop} {fs : List D → Slots → Slots → Prop} (h1 : TgOk X Hb tg f) (h2 : TgsOk X Hb tgs fs) (hs : (assignEach (tg :: tgs) X.env).map (·.2) = assign tg X.env :: (assignEach tgs X.env).map (·.2) := by rfl) :
    TgsOk X Hb (tg :: tgs) (fun ds Γ Γ' => ∃ d dr Γ1, ds = d :: dr ∧ f d Γ Γ1 ∧ fs dr Γ1 Γ') := by
  obtain ⟨g1, p1, k1⟩ := h1
  obtain ⟨g2, p2, k2⟩ := h2
  refine ⟨_, pgs_cons p1 p2 hs, fun ds Γ Γ' σ H vs ⟨d, dr, Γ1, e, a1, a2⟩ en r Q q => ?_⟩
  subst e
  cases r with
  | cons r1 r2 =>
    refine ⟨_, _, rfl, k1 d Γ Γ1 σ H _ a1 en r1 _ fun σ' en' => ?_⟩
    exact k2 dr Γ1 Γ' σ' H _ a2 en' r2 Q q
theorem tg_tup {tgs : List Expr} {kk : Nat} {fs : List D → Slots → Slots → Prop} {n : Nat} (hc : X.calm = true) (h : TgsOk X Hb tgs fs) (hn : (assignEach tgs X.env).length = n := by rfl) (hst : (assignEach tgs X.env).findIdx? (·.1) = none := by rfl) :
    TgOk X Hb (.Tuple tgs kk pos) (fun d Γ Γ' => ∃ ds, d = .tup ds ∧ ds.length = n ∧ fs ds Γ Γ') := by
  obtain ⟨g, p, k⟩ := h
  refine ⟨_, pg_tup hc p hn hst, fun d Γ Γ' σ H v ⟨ds, e, hl, a⟩ en r Q q => ?_⟩
  subst e
  cases r with
  | tup hq ra => exact ⟨_, _, rfl, hq, by rw [ra.length, hl], k ds Γ Γ' σ H _ a en ra Q q⟩
/-- target = e -/
theorem go_asg {tg : Expr} {f : D → Slots → Slots → Prop} (h : EvN X Hb e Γ fr S) (ht : TgOk X Hb tg f) (hf : ∀ d, S d → ∃ Γ', f d Γ Γ' ∧ Go X Hb rest D0 Γ') (hs : swapsWithSole [tg] e pos.line X.env = pure false := by rfl) (hw : swappedStores [tg] e X.env = pure none := by rfl)
    (h1 : (assignEach [tg] X.env).map (·.2) = [assign tg X.env] := by rfl) : Go X Hb (.Assign [tg] e pos :: rest) D0 Γ := fun σ H en => by
  obtain ⟨g, p, k⟩ := ht
  refine SemSs.cons (ps_asg (semE X e) p hs hw h1) ?_
  refine h σ H en _ fun v H' d s x r _ => ?_
  obtain ⟨Γ', a, go⟩ := hf d s
  exact k d Γ Γ' σ H' v a (en.ex x) r _ fun σ' en' => go σ' H' en'
end

/-! ### a def of the text -/
section
variable {P : Program} {w : World} {K : PySem.W.Frag} {mg : Str → Option Value} {base : Heap}
/-- where a def's body stands -/
abbrev bodyCx (P : Program) (w : World) (K : PySem.W.Frag) (mg : Str → Option Value) (base : Heap) (N : List Str) (qual : Str) (sc : Scope) (f : Addr) (cdv : Value) (A : Around) (outer : List Env) (s : Shared) (H : Hp) (E : XK) : Cx := (cxOf CX0 P w K mg base N qual sc f cdv A outer s H E).nox
def slots0 (N : List Str) (ds : List D) : Slots := ds.map .dat ++ List.replicate (N.length - ds.length) .any
theorem paired_any {Hz H : Hp} : ∀ n : Nat, Paired (EntOk K Hz H) (List.replicate n .any) (List.replicate n none)
  | 0 => .nil
  | n + 1 => .cons trivial (paired_any n)
theorem paired_start {H : Hp} (n : Nat) : ∀ {vs : List V} {ds : List D}, RepAll K H vs ds → Paired (EntOk K H H) (ds.map .dat ++ List.replicate n .any) (vs.map some ++ List.replicate n none)
  | _, _, .nil => paired_any n
  | _, _, .cons h r => .cons ⟨_, rfl, h⟩ (paired_start n r)
theorem owns_start (n : Nat) : ∀ ds : List D, owns (ds.map .dat ++ List.replicate n .any) = []
  | d :: ds => owns_start n ds
  | [] => by
    induction n with
    | zero => rfl
    | succ n ih => exact ih
theorem env_start {N : List Str} {H : Hp} {vs : List V} {ds : List D} (r : RepAll K H vs ds) (tb : TbOk K H) : EnvOk K H (slots0 N ds) (L2.start N vs) H := by
  refine ⟨H, ⟨Ex.refl, tb⟩, Ex.refl, ?_, ?_⟩
  · unfold slots0 L2.start
    rw [r.length]
    exact paired_start _ r
  · unfold slots0
    rw [owns_start]
    exact List.nodup_nil
/-- THE RULE for a def: nothing is raised, the answer is one of S -/
theorem fnP_of {x qual : Str} {st : Stmt} {f : Addr} {fd : FuncData} {N ps : List Str} {k : Nat} {Q : Pr} (F : Fun K x qual st f fd) (Sc : FnScope N ps (defScope st)) (hm : mg x = some (.ref f)) (hb : Binds K fd ps []) (har : ∀ ds S, Q ds S → ds.length = ps.length)
    (hbody : ∀ (cdv : Value) (A : Around) (outer : List Env) (s : Shared) (H : Hp) (E : XK), Room k (A.deeper (envOfC qual (defScope st) s.heap.objs.size f cdv)) → ∀ ds S, Q ds S →
      Go (bodyCx P w K mg base N qual (defScope st) f cdv A outer s H E) H (defBody st) { nx := fun _ H' => S .non ∧ Ex H H', rt := fun v H' => ∃ d, S d ∧ Rt K H d v H' } (slots0 N ds)) : FnP P w K mg base x (k + 1) Q := by
  refine ⟨f, fd, ps, F.ok Sc (fun vs H Q' E h => ?_) (fun cdv A outer s H vs Q' E hr h => ?_), hm, F.kp, hb, by obtain ⟨oc, od, kV, doc, pm, an, cdv, ct, osl, efd, lk, hcd⟩ := F.ex; exact ⟨oc, od, osl, lk⟩⟩
  · obtain ⟨_, ds, S, r, q, _⟩ := h
    rw [r.length]
    exact har ds S q
  · obtain ⟨tb, ds, S, r, q, hk⟩ := h
    refine ⟨_, semSs _ _, ?_⟩
    have go := hbody cdv A outer s H E hr ds S q _ _ (env_start (N := N) r tb)
    exact go.mono (fun σ' H' ⟨sd, x⟩ => hk .non H' .non sd x .non trivial) (fun v H' ⟨d, sd, x, rp, f⟩ => hk v H' d sd x rp f) (fun _ _ h => h) fun _ _ h => h
end
end L3

namespace L3
open PySem PySem.Spec PyProof.Rows L2
section
variable {X : Cx} {Hb Hb' : Hp} {a b c e : Expr} {es : List Expr} {Γ : Slots} {pos p' apos cpos : Pos} {d x y : D} {ds : List D} {S S' : D → Prop} {fr : Bool} {D0 : Ends} {rest sts : List Stmt} {st : Stmt}
/-- the end of a turn: the slots are as Γ' says -/
theorem go_end {Γ' : Slots} (h : ∀ σ H, EnvOk X.K Hb Γ σ H → EnvOk X.K Hb Γ' σ H) (hD : ∀ σ H, EnvOk X.K Hb Γ' σ H → D0.nx σ H := by exact fun _ _ h => h) : Go X Hb [] D0 Γ := go_nil fun σ H en => hD σ H (h σ H en)
theorem go_endF (i : Nat) {Γ' : Slots} (h : Γ.set i .any = Γ') (hD : ∀ σ H, EnvOk X.K Hb Γ' σ H → D0.nx σ H := by exact fun _ _ h => h) : Go X Hb [] D0 Γ := go_nil fun σ H en => hD σ H (by rw [← h]; exact en.forget)
/-- for x in a list: the slots by a state that each item turns -/
theorem go_fold {α β : Type} {body : List Stmt} (ix : Nat) {xn : Str} (f : α → D) (xs : List α) (G : β → Slots) (step : β → α → β) (s0 : β) (hit : EvI X Hb e Γ (· = xs.map f)) (h0 : Γ = G s0) (hst : ∀ s a, a ∈ xs → Sto (G s) (f a))
    (hs : ∀ Hb', Ex Hb Hb' → ∀ pre a post, xs = pre ++ a :: post → Go X Hb' body { D0 with nx := fun σ H => EnvOk X.K Hb' (G (step (pre.foldl step s0) a)) σ H, ct := fun σ H => EnvOk X.K Hb' (G (step (pre.foldl step s0) a)) σ H, bk := fun σ H => SemSs X rest D0 σ H } ((G (pre.foldl step s0)).set ix (.dat (f a))))
    (hd : Go X Hb rest D0 (G (xs.foldl step s0))) (hp : PassesOwn (model X.prog X.w) X.A X.env X.xe) (hc : X.calm = true) (nd : X.N.Nodup) (hi : X.N[ix]? = some xn := by rfl) (hx : Loc X.env.scope xn := by first | exact Or.inl rfl | exact Or.inr rfl)
    (hfs : ∀ x, foldedSetIterable e X.env x = pure x := by intro _; rfl) (hf : X.fn xn = true ∨ X.env.scope.names.lookup xn = some .local := by first | exact .inl rfl | exact .inr rfl) :
    Go X Hb (.For (.Name xn p') e body [] pos :: rest) D0 Γ := by
  have get : ∀ {i : Nat} {x : D}, (xs.map f)[i]? = some x → ∃ a, xs[i]? = some a ∧ x = f a := fun {i x} h => by
    rw [List.getElem?_map] at h
    cases q : xs[i]? with
    | none => rw [q] at h; cases h
    | some a => rw [q] at h; cases h; exact ⟨a, rfl, rfl⟩
  refine go_for ix (fun i Γ' => Γ' = G ((xs.take i).foldl step s0)) hit (by rw [h0]; rfl) (fun i x Γ' hx' hI => ?_) (fun Hb' eb i x Γ' hx' hI => ?_) (fun Γ' hI => ?_) hp hc nd hi hx hfs hf
  · obtain ⟨a, ha, rfl⟩ := get hx'
    rw [hI]
    exact hst _ a (List.mem_of_getElem? ha)
  · obtain ⟨a, ha, rfl⟩ := get hx'
    subst hI
    obtain ⟨hl, hv⟩ := List.getElem?_eq_some_iff.mp ha
    have e1 : xs = xs.take i ++ a :: xs.drop (i + 1) := by
      rw [← hv, List.getElem_cons_drop, List.take_append_drop]
    have e2 : xs.take (i + 1) = xs.take i ++ [a] := by rw [List.take_add_one, ha]; rfl
    have k := hs Hb' eb (xs.take i) a (xs.drop (i + 1)) e1
    intro σ H en
    have go : ∀ σ' H', EnvOk X.K Hb' (G (step ((xs.take i).foldl step s0) a)) σ' H' → Btw X Hb' (fun Γ' => Γ' = G ((xs.take (i + 1)).foldl step s0)) σ' H' := fun σ' H' en' => ⟨_, rfl, by
      rw [e2, List.foldl_append]
      exact en'⟩
    exact (k σ H en).mono go (fun _ _ h => h) (fun _ _ h => h) go
  · rw [hI, List.length_map, List.take_length]
    exact hd
end
end L3

namespace L3
open PySem PySem.Spec PyProof.Rows L2
section
variable {P : Program} {w : World} {K : PySem.W.Frag} {mg : Str → Option Value} {base : Heap}
/-- a promise kept where no repr is under way -/
structure FnG (P : Program) (w : World) (K : PySem.W.Frag) (mg : Str → Option Value) (base : Heap) (k : Nat) (f : Addr) (fd : FuncData) (ps : List Str) (sp : Sp) : Prop where
  ar : ∀ vs H Q E, sp vs H Q E → vs.length = ps.length
  go : ∀ A outer s H args us vs Q, A.guards = some [] → Room k A → Env0 P w K mg base A outer s H → BindsTo s fd args (ps.zip us) → Vals vs us → sp vs H Q E0 →
    codeAny (model P w) A (.call (.ref f) args) (CR CX0 outer P w H s Q E0) s
theorem deeper_guards {A : Around} {env : Env} (h : A.guards = some []) : (A.deeper env).guards = some [] := h
theorem fnG_of {x qual : Str} {st : Stmt} {f : Addr} {fd : FuncData} {N ps : List Str} {k : Nat} {sp : Sp} (F : Fun K x qual st f fd) (Sc : FnScope N ps (defScope st)) (ar : ∀ vs H Q E, sp vs H Q E → vs.length = ps.length)
    (hbody : ∀ cdv A outer s H vs Q, (A.deeper (envOfC qual (defScope st) s.heap.objs.size f cdv)).guards = some [] → Room k (A.deeper (envOfC qual (defScope st) s.heap.objs.size f cdv)) → sp vs H Q E0 →
      SemSs (bodyCx P w K mg base N qual (defScope st) f cdv A outer s H E0) (defBody st) { nx := fun _ H' => Q .non H', rt := Q } (L2.start N vs) H) : FnG P w K mg base (k + 1) f fd ps sp := by
  obtain ⟨oc, od, kV, doc, pm, an, cdv, ct, osl, efd, lk, hcd⟩ := F.ex
  subst efd
  refine ⟨ar, fun A outer s H args us vs Q hgd hr e0 hb r hsp => ?_⟩
  have kin := e0.mod.kin.keeps fun b o e => (e0.bs b o e).1
  have nolim := e0.mod.nolimit.keeps fun b o e => (e0.bs b o e).1
  have kinds : ∀ y ∈ ps.zip us, (defScope st).names.lookup y.1 = some .local ∨ ((defScope st).names.lookup y.1 = some .cell ∧ ((cellsFrom (s.heap.objs.size + 1) (defScope st).names []).lookup y.1).isSome = true) := by
    rintro ⟨n, v⟩ hy
    refine (Sc.par n (List.of_mem_zip hy).1).imp id fun q => ⟨q, ?_⟩
    exact PySem.W.cellsFrom_some _ _ _ (.inl q)
  refine codeAny_call_function hr.depth (kin f _ lk) rfl Sc.co Sc.gen rfl (PySem.W.codeRec_of kin hcd) (hb _ _ _ _ ?_)
  refine wpAny_newFunctionEnv_cells Sc.kind kinds fun env ee s1 ic => ?_
  subst ee
  refine ⟨nolim.keeps ic.toInCall.keep, codeAny_func ?_⟩
  have body := hbody cdv A outer s H vs Q (deeper_guards hgd) (hr.deeper _) hsp
  have I0 := inv_start (CX := CX0) (E := E0) Sc hr.hd e0 (ar _ _ _ _ hsp) r ic
  have fin : ∀ {σ' : L2.St} {H' : Hp} {v : V} {u : Value} {s' : Shared}, Inv (bodyCx P w K mg base N qual (defScope st) f cdv A outer s H E0) [] σ' H' s' → RelV v u → Q v H' → CE outer P w H s Q u s' :=
    fun J rv q => ⟨_, _, J.os, J.bare, J.base, J.hok, rv, q⟩
  refine wpAny_mono (body.run [] s1 (I0.wish _)) (fun fl s' hs => ?_) fun e s' hs => (show False from hs).elim
  cases fl with
  | next => obtain ⟨σ', H', J, q⟩ := hs; exact fin (v := V.non) (u := Value.none) J rfl q
  | ret u => obtain ⟨v, σ', H', J, rv, q⟩ := hs; exact fin J rv q
  | brk => obtain ⟨_, _, _, q⟩ := hs; exact q.elim
  | cont => obtain ⟨_, _, _, q⟩ := hs; exact q.elim
/-- the table of the def with the lambda, where it is known: empty at first -/
def TabAt (K : PySem.W.Frag) (h : Heap) : Prop := ∀ c P, PySem.W.tabIn K "sorted_fractions" = some (c, P) → (PySem.W.CodeHd h c P ∧ h.get? P = some (PySem.W.tabObj #[])) ∧ K.lookup P = none
def TabBs (K : PySem.W.Frag) (base : Heap) (mg : Str → Option Value) : Prop := ∀ c P, PySem.W.tabIn K "sorted_fractions" = some (c, P) → LamX.TabB base mg c P
theorem lawG {k : Nat} {fa a : Addr} {fd : FuncData} {x : Str} {sp : Sp} {mb : Str → Option Value} {s₁ : Shared} {vs : List Value} {ns : List Int} (kin : K.In s₁.heap) (glob : s₁.heap.Ns mainGlobals mg) (bl : s₁.heap.Ns builtinsNs mb) (blb : ∀ y : Str, y ≠ "__name__" → mb y = bootBuiltins y) (lim : s₁.heap.NoLimit) (nogen : s₁.gens = #[])
    (hmod : ∃ (bm : Addr) (ob : Obj), mg "__builtins__" = some (.ref bm) ∧ bm ≠ builtinsNs ∧ s₁.heap.get? bm = some ob ∧ ob.cls = .type "module" ∧ ob.dict = some builtinsNs ∧ ob.data = .plain) (tabs : TabAt K s₁.heap)
    (obj : s₁.heap.get? a = some { cls := .type "list", data := .seq vs.toArray }) (hints : IntsAre vs ns) (few : ns.length ≤ sizeLine) (hr : Room k callerA) (F : ∀ base : Heap, K.In base → base.Ns mainGlobals mg → TabBs K base mg → FnG P w K mg base k fa fd [x] sp)
    (bind : ∀ (s : Shared) (u : Value), BindsTo s fd ⟨[u], []⟩ [(x, u)]) (hsp : ∀ H : Hp, TbOk K H → SqL K H a (ns.map V.int) → sp [.ref a] H (fun v _ => v = .bl true) E0) :
    codeAny (model P w) callerA (.call (.ref fa) ⟨[.ref a], []⟩) (fun r s' => r = .ok (.ret (.bool true)) ∧ OldK s₁.heap s'.heap ∧ s'.os = s₁.os ∧ AllBare s'.gens) s₁ := by
  have vals := vals_of_ints hints
  -- Ht: what is tracked: the script at a, and the table
  have main : ∀ Ht : Hp, (∀ b u, Ht b = some u → (b = a ∧ u = .frz { cls := .type "list", data := .seq vs.toArray } (.lst (ns.map V.int)) ∧ K.lookup a = none) ∨ ∃ c, PySem.W.tabIn K "sorted_fractions" = some (c, b) ∧ u = .tbl #[]) → (∀ c P, PySem.W.tabIn K "sorted_fractions" = some (c, P) → Ht P = some (.tbl #[])) → SqL K Ht a (ns.map V.int) →
      codeAny (model P w) callerA (.call (.ref fa) ⟨[.ref a], []⟩) (fun r s' => r = .ok (.ret (.bool true)) ∧ OldK s₁.heap s'.heap ∧ s'.os = s₁.os ∧ AllBare s'.gens) s₁ := by
    intro Ht only tbl sq
    have hok : HOk P w Ht s₁.heap := fun b u e => by
      rcases only b u e with ⟨e1, e2, _⟩ | ⟨c, hc, e2⟩
      · subst e1 e2
        exact ⟨obj, by rw [List.length_map]; exact few, vs, _, vals, obj⟩
      · subst e2
        exact (tabs c b hc).1.2
    have stays : ∀ {b o}, s₁.heap.get? b = some o → Ht b = none → (hidT s₁.heap Ht).get? b = some o := hidT_get
    have untr : ∀ {b o}, s₁.heap.get? b = some o → (∀ xs n, o.data ≠ .seq xs n) → o.data ≠ .fields #[] → Ht b = none := fun {b o} e n1 n2 => by
      cases q : Ht b with
      | none => rfl
      | some u =>
        rcases only b u q with ⟨e1, _, _⟩ | ⟨c, hc, _⟩
        · rw [e1, obj] at e
          cases e
          exact absurd rfl (n1 _ _)
        · rw [(tabs c b hc).1.2] at e
          cases e
          exact absurd rfl n2
    have nsIn : ∀ {b m}, s₁.heap.Ns b m → (hidT s₁.heap Ht).Ns b m := fun {b m} hns => by
      obtain ⟨o, ens, ep, e, dd, rr⟩ := hns
      exact ⟨o, ens, ep, stays e (untr e (fun xs n z => by rw [dd] at z; cases z) fun z => by rw [dd] at z; cases z), dd, rr⟩
    have kinH : K.In (hidT s₁.heap Ht) := fun b o e => stays (kin b o e) (by
      cases q : Ht b with
      | none => rfl
      | some u =>
        rcases only b u q with ⟨e1, _, e3⟩ | ⟨c, hc, _⟩
        · rw [e1, e3] at e
          cases e
        · rw [(tabs c b hc).2] at e
          cases e)
    obtain ⟨mc, lim1, lim2⟩ := lim
    have tB : TabBs K (hidT s₁.heap Ht) mg := fun c P hc => by
      obtain ⟨⟨hd, hT⟩, _⟩ := tabs c P hc
      refine ⟨?_, ?_, fun z => ?_⟩
      · obtain ⟨o, us, f1, f2, f3, f4, f5, f6, f7, e1, r1, r2, r3, rr⟩ := hd
        refine ⟨o, us, f1, f2, f3, f4, f5, f6, f7, stays e1 (untr e1 (fun xs n z => by rw [r2] at z; cases z) fun z => ?_), r1, r2, r3, rr⟩
        rw [r2] at z
        cases z
        simp at r3
      · obtain ⟨bm, ob, b1, b2, b3, b4, b5, b6⟩ := hmod
        refine ⟨bm, ob, b1, b2, fun z => ?_, fun z => ?_, stays b3 (untr b3 (fun xs n z => by rw [b6] at z; cases z) fun z => by rw [b6] at z; cases z), b4, b5, b6⟩
        · obtain ⟨o, es, ep, e, dd, _⟩ := glob
          rw [z, e] at b3
          cases b3
          rw [dd] at b6
          cases b6
        · rw [z, hT] at b3
          cases b3
          cases b6
      · obtain ⟨o, es, ep, e, dd, _⟩ := glob
        rw [z, hT] at e
        cases e
        cases dd
    have e0 : Env0 P w K mg (hidT s₁.heap Ht) callerA [] s₁ Ht := { frames := rfl, mod := ⟨kinH, nsIn glob, ⟨mb, nsIn bl, blb⟩, mc, nsIn lim1, lim2⟩, bs := fun b o e => of_hidT e, bsz := Nat.le_of_eq (hidT_size _ _), funs := trivial, frf := nofun, hok := hok, bare := .of_eq nogen }
    have tb : TbOk K Ht := fun c P hc => LamX.TabS.nil (tbl c P hc)
    refine codeAny_mono ((F _ kinH (nsIn glob) tB).go callerA [] s₁ Ht ⟨[.ref a], []⟩ [.ref a] [.ref a] _ rfl hr e0 (bind s₁ _) (.cons rfl .nil) (hsp Ht tb sq)) fun r s' h => ?_
    cases r with
    | error e => exact (show False from h).elim
    | ok fl =>
      cases fl with
      | ret u =>
        obtain ⟨v, H', os, bare, un, hok', rv, q⟩ := h
        have ev : v = .bl true := q
        rw [ev] at rv
        have eu : u = Value.bool true := rv
        have grown : ∀ c b, PySem.W.tabIn K "sorted_fractions" = some (c, b) → ∃ more : Array Value, s'.heap.get? b = some { cls := .none, data := .fields more } := fun c b hc => by
          obtain ⟨more, z⟩ := un.tbls b #[] (tbl c b hc)
          exact ⟨_, hok' b _ z⟩
        have either : ∀ b o, s₁.heap.get? b = some o → s'.heap.get? b = some o ∨ ∃ c, PySem.W.tabIn K "sorted_fractions" = some (c, b) := fun b o e => by
          cases q2 : Ht b with
          | none => exact .inl (un.keep b o e q2 nofun nofun)
          | some y =>
            rcases only b y q2 with ⟨_, ey, _⟩ | ⟨c, hc, _⟩
            · rw [ey] at q2
              have t1 := (hok b _ q2).1
              have t2 := (hok' b _ (un.frzs b _ _ q2)).1
              exact .inl (by rw [t2, ← t1, e])
            · exact .inr ⟨c, hc⟩
        refine ⟨by rw [eu], ⟨fun b o e => ?_, fun b o e => ?_⟩, os, bare⟩
        · rcases either b o e with z | ⟨c, hc⟩
          · exact .inl z
          · obtain ⟨⟨hd, hT⟩, _⟩ := tabs c b hc
            obtain ⟨more, hm⟩ := grown c b hc
            rw [hT] at e
            cases e
            exact .inr (.inl ⟨(hd.tab hT).isCodeTable, rfl, #[], more, rfl, by rw [Array.empty_append]; exact hm⟩)
        · rcases either b o e with z | ⟨c, hc⟩
          · exact ⟨o, z⟩
          · obtain ⟨more, hm⟩ := grown c b hc
            exact ⟨_, hm⟩
      | next => exact (show False from h).elim
      | brk => exact (show False from h).elim
      | cont => exact (show False from h).elim
  have neT : ∀ c, PySem.W.tabIn K "sorted_fractions" ≠ some (c, a) := fun c hc => by
    have := (tabs c a hc).1.2
    rw [obj] at this
    cases this
  have dec : ∀ b, Decidable (∃ c, PySem.W.tabIn K "sorted_fractions" = some (c, b)) := fun _ => Classical.propDecidable _
  cases lk : K.lookup a with
  | none =>
    refine main (fun b => if b = a then some (.frz { cls := .type "list", data := .seq vs.toArray } (.lst (ns.map V.int))) else @ite _ (∃ c, PySem.W.tabIn K "sorted_fractions" = some (c, b)) (dec b) (some (.tbl #[])) none) (fun b u e => ?_) (fun c P hc => ?_) (.inl (.inr ⟨_, if_pos rfl⟩))
    · by_cases eb : b = a
      · exact .inl ⟨eb, (Option.some.inj ((if_pos eb).symm.trans e)).symm, lk⟩
      · have e2 := (if_neg eb).symm.trans e
        by_cases et : ∃ c, PySem.W.tabIn K "sorted_fractions" = some (c, b)
        · rw [if_pos et] at e2
          obtain ⟨c, hc⟩ := et
          exact .inr ⟨c, hc, (Option.some.inj e2).symm⟩
        · rw [if_neg et] at e2
          cases e2
    · show (if P = a then _ else _) = _
      rw [if_neg fun z => neT c (by rw [← z]; exact hc), if_pos ⟨c, hc⟩]
  | some o =>
    have e := kin a o lk
    rw [obj] at e
    have eo : ({ cls := .type "list", data := .seq vs.toArray } : Obj) = o := Option.some.inj e
    refine main (fun b => @ite _ (∃ c, PySem.W.tabIn K "sorted_fractions" = some (c, b)) (dec b) (some (.tbl #[])) none) (fun b u e => ?_) (fun c P hc => ?_) (.inr ⟨o, vs.toArray, 0, lk, ?_, ?_, ?_, ?_, vals⟩)
    · by_cases et : ∃ c, PySem.W.tabIn K "sorted_fractions" = some (c, b)
      · rw [if_pos et] at e
        obtain ⟨c, hc⟩ := et
        exact .inr ⟨c, hc, (Option.some.inj e).symm⟩
      · rw [if_neg et] at e
        cases e
    · exact if_pos ⟨c, hc⟩
    · rw [← eo]
    · rw [← eo]
    · rw [← eo]
    · rw [List.size_toArray, hints.length]; exact few
end
end L3

namespace L3
open PySem PySem.Spec PyProof.Rows L2
def keyP : Key → PyData
  | .inl i => .int i
  | .inr x => .str x
mutual
/-- the data of the model -/
def D.py : D → PyData
  | .non => .none
  | .bl b => .bool b
  | .int i => .int i
  | .str x => .str x
  | .lst xs => .list (D.pyAll xs)
  | .tup xs => .tuple (D.pyAll xs)
  | .dct kvs => .dict (D.pyKV kvs)
  | .ext _ => .none
def D.pyAll : List D → List PyData
  | [] => []
  | x :: xs => D.py x :: D.pyAll xs
def D.pyKV : List (Key × D) → List (PyData × PyData)
  | [] => []
  | (k, d) :: r => (keyP k, D.py d) :: D.pyKV r
end
mutual
/-- nothing opaque -/
def D.ok : D → Bool
  | .ext _ => false
  | .lst xs | .tup xs => D.okAll xs
  | .dct kvs => D.okKV kvs
  | _ => true
def D.okAll : List D → Bool
  | [] => true
  | x :: xs => D.ok x && D.okAll xs
def D.okKV : List (Key × D) → Bool
  | [] => true
  | (_, d) :: r => D.ok d && D.okKV r
end
mutual
def D.noLst : D → Bool
  | .lst _ => false
  | .tup xs => D.noLstAll xs
  | .dct kvs => D.noLstKV kvs
  | _ => true
def D.noLstAll : List D → Bool
  | [] => true
  | x :: xs => D.noLst x && D.noLstAll xs
def D.noLstKV : List (Key × D) → Bool
  | [] => true
  | (_, d) :: r => D.noLst d && D.noLstKV r
end
section
variable {X : Cx} {pins : List (Addr × Obj)} {σ : L2.St} {H : Hp} {s : Shared}
theorem key_reads : ∀ {k : Key} {u : Value}, keyIs k u = true → Reads s.heap u (keyP k) []
  | k, u, h => by
    rcases keyIs_shape h with ⟨i, t, rfl, rfl⟩ | ⟨x, t, rfl, rfl⟩
    · exact .int i t
    · exact .str x t
theorem pairs_keys {knd : KeyKind X.prog X.w Key} (hk : ∀ k v, knd.is k v = keyIs k v) : ∀ {es : List DictEntry} {vs : List (Key × Value)}, Pairs knd es vs → ReadsAll s.heap (es.map (·.key)) (vs.map fun p => keyP p.1) []
  | _, _, .nil => .nil
  | _, _, .cons h _ r => by
    have h1 := key_reads (s := s) (by rw [← hk]; exact h)
    have := ReadsAll.cons h1 (pairs_keys hk r)
    exact this
theorem pairs_vals {knd : KeyKind X.prog X.w Key} : ∀ {es : List DictEntry} {vs : List (Key × Value)}, Pairs knd es vs → es.map (·.val) = vs.map (·.2)
  | _, _, .nil => rfl
  | _, _, .cons _ h r => by
    rw [List.map_cons, List.map_cons, h, pairs_vals r]
mutual
theorem Rep.reads (I : Inv X pins σ H s) : ∀ (d : D) (v : V) (u : Value), Rep X.K H v d → d.ok = true → RelV v u → ∃ as, Reads s.heap u d.py as ∧ (d.noLst = true → ∀ a ∈ as, (a == sysModules) = false)
  | .non, _, _, h, _, r => by
    cases h; cases r
    exact ⟨[], by rw [D.py]; exact .none, fun _ _ m => nomatch m⟩
  | .bl b, _, _, h, _, r => by
    cases h; cases r
    exact ⟨[], by rw [D.py]; exact .bool b, fun _ _ m => nomatch m⟩
  | .int i, _, _, h, _, r => by
    cases h
    obtain ⟨t, e⟩ := r
    subst e
    exact ⟨[], by rw [D.py]; exact .int i t, fun _ _ m => nomatch m⟩
  | .str x, _, _, h, _, r => by
    cases h
    obtain ⟨t, e⟩ := r
    subst e
    exact ⟨[], by rw [D.py]; exact .str x t, fun _ _ m => nomatch m⟩
  | .lst ds, _, _, h, hok, r => by
    cases h with
    | lst hs ha =>
      cases r
      obtain ⟨its, rv, ⟨o, n, ho, hc, _, hd⟩, _⟩ := I.list hs
      obtain ⟨as, hr, _⟩ := Rep.readsAll I ds _ its ha (by simpa [D.ok] using hok) rv
      exact ⟨_, by rw [D.py]; exact .list ho hc hd hr, fun z => by simp [D.noLst] at z⟩
  | .tup ds, _, _, h, hok, r => by
    cases h with
    | tup hs ha =>
      cases r
      obtain ⟨its, rv, ⟨o, ho, hc, n, hd⟩, _⟩ := I.tuple hs
      obtain ⟨as, hr, k⟩ := Rep.readsAll I ds _ its ha (by simpa [D.ok] using hok) rv
      exact ⟨_, by rw [D.py]; exact .tuple ho hc hd hr, fun z => k (by simpa [D.noLst] using z)⟩
  | .dct ds, _, _, h, hok, r => by
    cases h with
    | dct hs ha =>
      cases r
      obtain ⟨_, hsys, vs, kv, o, es, ep, ho, ex, hd, _, pr, _⟩ := hs.ok I.hok
      obtain ⟨as, hr, k⟩ := Rep.readsKV I ds _ vs ha (by simpa [D.ok] using hok) kv
      have e1 : ReadsAll s.heap (es.toList.map (·.key)) ((D.pyKV ds).map (·.1)) [] := by
        have q := pairs_keys (X := X) (s := s) (mixKind_is X.prog X.w) pr
        rw [hr.2] at q
        exact q
      have e2 : ReadsAll s.heap (es.toList.map (·.val)) ((D.pyKV ds).map (·.2)) as := by
        rw [pairs_vals pr]
        exact hr.1
      refine ⟨_, by rw [D.py]; exact .dict ho ex.1 hd e1 e2, fun z a m => ?_⟩
      rcases List.mem_append.mp m with m | m
      · rcases List.mem_cons.mp m with m | m
        · rw [m]; exact hsys
        · exact nomatch m
      · exact k (by simpa [D.noLst] using z) a m
  | .ext _, _, _, _, hok, _ => by simp [D.ok] at hok
theorem Rep.readsAll (I : Inv X pins σ H s) : ∀ (ds : List D) (vs : List V) (us : List Value), RepAll X.K H vs ds → D.okAll ds = true → Vals vs us → ∃ as, ReadsAll s.heap us (D.pyAll ds) as ∧ (D.noLstAll ds = true → ∀ a ∈ as, (a == sysModules) = false)
  | [], _, _, h, _, r => by
    cases h; cases r
    exact ⟨[], by rw [D.pyAll]; exact .nil, fun _ _ m => nomatch m⟩
  | d :: ds, _, _, h, hok, r => by
    cases h with
    | cons h1 h2 =>
      cases r with
      | cons r1 r2 =>
        obtain ⟨o1, o2⟩ := Bool.and_eq_true_iff.mp (show (d.ok && D.okAll ds) = true from hok)
        obtain ⟨as, q1, k1⟩ := Rep.reads I d _ _ h1 o1 r1
        obtain ⟨bs, q2, k2⟩ := Rep.readsAll I ds _ _ h2 o2 r2
        refine ⟨_, by rw [D.pyAll]; exact .cons q1 q2, fun z a m => ?_⟩
        obtain ⟨z1, z2⟩ := Bool.and_eq_true_iff.mp (show (d.noLst && D.noLstAll ds) = true from z)
        exact (List.mem_append.mp m).elim (k1 z1 a) (k2 z2 a)
theorem Rep.readsKV (I : Inv X pins σ H s) : ∀ (ds : List (Key × D)) (kvs : List (Key × V)) (vs : List (Key × Value)), RepKV X.K H kvs ds → D.okKV ds = true → KV kvs vs →
    ∃ as, (ReadsAll s.heap (vs.map (·.2)) ((D.pyKV ds).map (·.2)) as ∧ (vs.map fun p => keyP p.1) = (D.pyKV ds).map (·.1)) ∧ (D.noLstKV ds = true → ∀ a ∈ as, (a == sysModules) = false)
  | [], _, _, h, _, r => by
    cases h; cases r
    exact ⟨[], ⟨by rw [D.pyKV]; exact .nil, by rw [D.pyKV]; rfl⟩, fun _ _ m => nomatch m⟩
  | (k, d) :: ds, _, _, h, hok, r => by
    cases h with
    | cons h1 h2 =>
      cases r with
      | cons r1 r2 =>
        rename_i q vs
        obtain ⟨qk, qv⟩ := q
        have e1 : k = qk := r1.1
        obtain ⟨o1, o2⟩ := Bool.and_eq_true_iff.mp (show (d.ok && D.okKV ds) = true from hok)
        obtain ⟨as, q1, k1⟩ := Rep.reads I d _ _ h1 o1 r1.2
        obtain ⟨bs, ⟨q2, q3⟩, k2⟩ := Rep.readsKV I ds _ _ h2 o2 r2
        refine ⟨as ++ bs, ⟨by rw [D.pyKV]; exact .cons q1 q2, by rw [D.pyKV, List.map_cons, List.map_cons, q3, e1]⟩, fun z a m => ?_⟩
        obtain ⟨z1, z2⟩ := Bool.and_eq_true_iff.mp (show (d.noLst && D.noLstKV ds) = true from z)
        exact (List.mem_append.mp m).elim (k1 z1 a) (k2 z2 a)
end
end
/-! ### what may be shown, and how long its text is -/
mutual
def D.noDct : D → Bool
  | .dct _ => false
  | .lst xs | .tup xs => D.noDctAll xs
  | _ => true
def D.noDctAll : List D → Bool
  | [] => true
  | x :: xs => D.noDct x && D.noDctAll xs
end
mutual
theorem noDct_py : ∀ d : D, d.noDct = true → d.py.hasDict = false
  | .non, _ | .bl _, _ | .int _, _ | .str _, _ | .ext _, _ => by simp [D.py, PyData.hasDict]
  | .lst ds, h | .tup ds, h => by
    simp only [D.py, PyData.hasDict]
    exact noDct_pyAll ds (by simpa [D.noDct] using h)
  | .dct _, h => by simp [D.noDct] at h
theorem noDct_pyAll : ∀ ds : List D, D.noDctAll ds = true → PyData.hasDictAll (D.pyAll ds) = false
  | [], _ => by simp [D.pyAll, PyData.hasDictAll]
  | d :: ds, h => by
    obtain ⟨h1, h2⟩ := Bool.and_eq_true_iff.mp (show (d.noDct && D.noDctAll ds) = true from h)
    rw [D.pyAll, PyData.hasDictAll, noDct_py d h1, noDct_pyAll ds h2]
    rfl
end
/-- d may be shown: its nesting at most n, its text at most c signs -/
structure Sh (n c : Nat) (d : D) : Prop where
  ok : d.ok = true
  kind : d.noDct = true ∨ d.noLst = true
  can : d.py.showable = true
  deep : d.py.depth ≤ n
  len : d.py.shown.length ≤ c
def reprD (d : D) : Str := d.py.shown
theorem Sh.mono {n c n' c' : Nat} {d : D} (h : Sh n c d) (hn : n ≤ n') (hc : c ≤ c') : Sh n' c' d := ⟨h.ok, h.kind, h.can, Nat.le_trans h.deep hn, Nat.le_trans h.len hc⟩
theorem sh_non : Sh 0 4 .non := ⟨rfl, .inl rfl, rfl, Nat.le_refl _, by show ("None" : Str).length ≤ 4; decide +kernel⟩
theorem sh_bl (b : Bool) : Sh 0 5 (.bl b) := ⟨rfl, .inl rfl, rfl, Nat.le_refl _, by cases b <;> decide +kernel⟩
theorem log2_small {n k : Nat} (hk : 0 < k) (h : n < 2 ^ k) : n.log2 < k := by
  by_cases z : n = 0
  · rw [z]; exact hk
  · exact (Nat.log2_lt z).mpr h
theorem sh_int {i : Int} {k : Nat} (h : i.natAbs < 2 ^ k) (h0 : 0 < k) (hk : k ≤ 1920) : Sh 0 (k + 1) (.int i) := by
  have hl := log2_small h0 h
  refine ⟨rfl, .inl rfl, by show decide (i.natAbs.log2 < 1920) = true; exact decide_eq_true (Nat.lt_of_lt_of_le hl hk), Nat.le_refl _, ?_⟩
  have e : (Str.ofString (toString i)).length ≤ k + 1 := by rw [PySem.ofString_length]; exact int_text_length_le h0 hl
  exact e
theorem allPy {p : PyData → Bool} {pa : List PyData → Bool} (h0 : pa [] = true) (h1 : ∀ x xs, pa (x :: xs) = (p x && pa xs)) : ∀ ds : List D, (∀ d ∈ ds, p d.py = true) → pa (D.pyAll ds) = true
  | [], _ => by rw [D.pyAll, h0]
  | d :: ds, h => by rw [D.pyAll, h1, h d List.mem_cons_self, allPy h0 h1 ds fun x m => h x (List.mem_cons_of_mem _ m)]; rfl
theorem allD {p : D → Bool} {pa : List D → Bool} (h0 : pa [] = true) (h1 : ∀ x xs, pa (x :: xs) = (p x && pa xs)) : ∀ ds : List D, (∀ d ∈ ds, p d = true) → pa ds = true
  | [], _ => h0
  | d :: ds, h => by rw [h1, h d List.mem_cons_self, allD h0 h1 ds fun x m => h x (List.mem_cons_of_mem _ m)]; rfl
theorem deepAll {n : Nat} : ∀ ds : List D, (∀ d ∈ ds, d.py.depth ≤ n) → PyData.depthAll (D.pyAll ds) ≤ n
  | [], _ => by rw [D.pyAll, PyData.depthAll]; exact Nat.zero_le _
  | d :: ds, h => by
    rw [D.pyAll, PyData.depthAll]
    exact Nat.max_le.mpr ⟨h d List.mem_cons_self, deepAll ds fun x m => h x (List.mem_cons_of_mem _ m)⟩
theorem lenAll {c : Nat} : ∀ ds : List D, (∀ d ∈ ds, d.py.shown.length ≤ c) → ((PyData.shownAll (D.pyAll ds)).map (·.length)).sum ≤ c * ds.length ∧ (PyData.shownAll (D.pyAll ds)).length = ds.length
  | [], _ => by rw [D.pyAll, PyData.shownAll]; exact ⟨Nat.zero_le _, rfl⟩
  | d :: ds, h => by
    obtain ⟨h1, h2⟩ := lenAll ds fun x m => h x (List.mem_cons_of_mem _ m)
    have h3 := h d List.mem_cons_self
    rw [D.pyAll, PyData.shownAll, List.map_cons, List.sum_cons, List.length_cons, List.length_cons, h2, Nat.mul_succ]
    exact ⟨by omega, rfl⟩
theorem sh_lst {n c : Nat} {ds : List D} (h : ∀ d ∈ ds, Sh n c d) (hk : D.noDctAll ds = true) : Sh (n + 1) ((c + 2) * ds.length + 3) (.lst ds) := by
  refine ⟨by rw [D.ok]; exact allD (pa := D.okAll) rfl (fun _ _ => rfl) ds fun d m => (h d m).ok, .inl (by rw [D.noDct]; exact hk), ?_, ?_, ?_⟩
  · rw [D.py, PyData.showable]; exact allPy (pa := PyData.showableAll) rfl (fun _ _ => rfl) ds fun d m => (h d m).can
  · rw [D.py, PyData.depth]; exact Nat.succ_le_succ (deepAll ds fun d m => (h d m).deep)
  · rw [D.py, PyData.shown]
    obtain ⟨h1, h2⟩ := lenAll ds fun d m => (h d m).len
    refine Nat.le_trans (listText_len_le _) ?_
    rw [h2, Nat.add_mul]
    omega
theorem sh_tup {n c : Nat} {ds : List D} (h : ∀ d ∈ ds, Sh n c d) (hk : D.noDctAll ds = true ∨ D.noLstAll ds = true) : Sh (n + 1) ((c + 2) * ds.length + 3) (.tup ds) := by
  refine ⟨by rw [D.ok]; exact allD (pa := D.okAll) rfl (fun _ _ => rfl) ds fun d m => (h d m).ok, hk.imp (fun z => by rw [D.noDct]; exact z) fun z => by rw [D.noLst]; exact z, ?_, ?_, ?_⟩
  · rw [D.py, PyData.showable]; exact allPy (pa := PyData.showableAll) rfl (fun _ _ => rfl) ds fun d m => (h d m).can
  · rw [D.py, PyData.depth]; exact Nat.succ_le_succ (deepAll ds fun d m => (h d m).deep)
  · rw [D.py, PyData.shown]
    obtain ⟨h1, h2⟩ := lenAll ds fun d m => (h d m).len
    refine Nat.le_trans (tupleText_len_le _) ?_
    rw [h2, Nat.add_mul]
    omega
section
variable {X : Cx} {Hb Hb' : Hp} {a b c e : Expr} {es : List Expr} {Γ : Slots} {pos p' apos cpos : Pos} {d x y : D} {ds : List D} {S S' : D → Prop} {fr : Bool} {D0 : Ends} {rest sts : List Stmt} {st : Stmt}
/-- repr of data -/
theorem call_reprD (hg : X.A.guards = some []) (hu : X.A.units + 64 < cLine) : CallR X (.builtin "repr") (fun xs H Q => ∃ v d, xs = [v] ∧ Rep X.K H v d ∧ Sh 40 10000000 d ∧ Q (.str (reprD d)) H) := by
  intro pins s σ H xs us Q I r h
  obtain ⟨v, d, rfl, rp, sh, q⟩ := h
  obtain ⟨u, rfl, ru⟩ := vals1 r
  obtain ⟨as, rd, hn⟩ := Rep.reads I d v u rp sh.ok ru
  have hlen : d.py.shown.length ≤ sizeLine := Nat.le_trans sh.len (by decide)
  have hsm : d.py.hasDict = true → sysModules ∉ as := fun z m => by
    rcases sh.kind with k | k
    · rw [noDct_py d k] at z; cases z
    · have := hn k sysModules m
      simp at this
  have fin : ∀ {u2 : Tok} {tk : Tok} {h' : Heap}, (∀ b o, s.heap.get? b = some o → h'.get? b = some o) → EP X pins σ Q (.str d.py.shown u2) { s with heap := h', toks := tk } := fun {u2 tk h'} k => ⟨.str (reprD d), H, I.kept k, ⟨_, rfl⟩, q⟩
  have tok : ∀ {x : Str} {u2 : Tok} {s' : Shared}, s' = { s with toks := s'.toks } → x = d.py.shown → EP X pins σ Q (.str x u2) s' := fun {x u2 s'} e1 e2 => by
    rw [e1, e2]
    exact fin (h' := s.heap) fun _ _ z => z
  cases ru' : v with
  | ref a =>
    subst ru'
    cases (show u = Value.ref a from ru)
    refine PySem.repr_of_reads' rd sh.can hsm hg (by have := sh.deep; omega) (fun _ _ z => z) (fun h' u2 tk k => fin k) hlen
  | non =>
    subst ru'
    cases ru
    cases rp
    exact PySem.P.repr_of_none (tok rfl rfl)
  | bl k =>
    subst ru'
    cases ru
    cases rp
    exact PySem.P.repr_of_bool (tok rfl (by cases k <;> rfl))
  | int i =>
    subst ru'
    obtain ⟨t, rfl⟩ := ru
    cases rp
    exact PySem.P.repr_of_int (by have := sh.can; exact of_decide_eq_true this) (tok rfl rfl)
  | str z =>
    subst ru'
    obtain ⟨t, rfl⟩ := ru
    cases rp
    exact PySem.P.repr_of_str (tok rfl rfl) hlen
  | byt _ => subst ru'; cases rp
  | flt _ => subst ru'; cases rp
  | ty _ => subst ru'; cases rp
theorem evn_repr {pn : Pos} {S1 : D → Prop} (hg : X.A.guards = some []) {k : Nat} (hr : Room k X.A) (hm : X.mg "repr" = none) (h : EvN X Hb a Γ fr S1) (hs : ∀ d, S1 d → Sh 40 10000000 d) (hgl : Gl X "repr" := by rfl) (he : starEach (a :: []) X.env = (false, eval a X.env) :: starEach [] X.env := by rfl) (hpl : (backTo pos (starEach [] X.env)).any (·.1) = false := by rfl) :
    EvN X Hb (.Call (.Name "repr" pn) [a] [] pos) Γ true (fun z => ∃ d, z = .str (reprD d) ∧ S1 d) :=
  evn_B (call_reprD hg hr.units) hm (eva_consN (S := fun z => ∃ d, z = [d] ∧ S1 d) h eva_nil (fun d ds s1 e => ⟨d, by rw [e], s1⟩) he) (fun vs H ds Q ⟨d, e1, s⟩ r k => by
    subst e1
    cases r with
    | cons r1 r2 =>
      cases r2
      exact ⟨_, d, rfl, r1, hs d s, k _ _ _ ⟨d, rfl, s⟩ Ex.refl (.str _) (FreshD.flat rfl)⟩) boot_repr hgl (by decide) (by decide) he hpl
theorem ev_repr {pn : Pos} (hg : X.A.guards = some []) {k : Nat} (hr : Room k X.A) (hm : X.mg "repr" = none) (h : Ev X Hb a Γ fr d) (hs : Sh 40 10000000 d) (hgl : Gl X "repr" := by rfl) (he : starEach (a :: []) X.env = (false, eval a X.env) :: starEach [] X.env := by rfl) (hpl : (backTo pos (starEach [] X.env)).any (·.1) = false := by rfl) :
    Ev X Hb (.Call (.Name "repr" pn) [a] [] pos) Γ true (.str (reprD d)) :=
  (evn_repr hg hr hm h (fun _ z => by rw [z]; exact hs) hgl he hpl).imp fun _ ⟨d', e, z⟩ => by rw [e, z]
/-- texts compared -/
theorem opNeS : OpR X (compareOp .NotEq) (fun x y H Q => ∃ i j, x = .str i ∧ y = .str j ∧ Q (.bl (!decide (i = j))) H) := fun pins s σ H x y v u Q I r1 r2 ⟨i, j, e1, e2, q⟩ => op_ne pins s σ H x y v u Q I r1 r2 (by
  subst e1 e2
  exact ⟨rfl, by rw [show decide (V.str i = V.str j) = decide (i = j) from by simp]; exact q⟩)
theorem opEqS : OpR X (compareOp .Eq) (fun x y H Q => ∃ i j, x = .str i ∧ y = .str j ∧ Q (.bl (decide (i = j))) H) := fun pins s σ H x y v u Q I r1 r2 ⟨i, j, e1, e2, q⟩ => op_eq pins s σ H x y v u Q I r1 r2 (by
  subst e1 e2
  exact ⟨rfl, by rw [show decide (V.str i = V.str j) = decide (i = j) from by simp]; exact q⟩)
theorem evt_neS {i j : Str} {fr' : Bool} (ha : Ev X Hb a Γ fr (.str i)) (hb : Ev X Hb b Γ fr' (.str j)) : EvB X Hb (.Compare a [.NotEq] [b] pos) Γ (!decide (i = j)) := fun σ H en Q q =>
  SemT.of (pt_cmpR opNeS (semE X a) (semE X b) (nomark _)) (ha σ H en _ fun v H1 d1 e1 x1 r1 _ => hb σ H1 (en.ex x1) _ fun w H2 d2 e2 x2 r2 _ => by
    subst e1 e2
    cases r1
    cases r2
    exact ⟨i, j, rfl, rfl, _, rfl, q _ H2 rfl (x1.trans x2)⟩)
theorem evt_eqS {i j : Str} {fr' : Bool} (ha : Ev X Hb a Γ fr (.str i)) (hb : Ev X Hb b Γ fr' (.str j)) : EvB X Hb (.Compare a [.Eq] [b] pos) Γ (decide (i = j)) := fun σ H en Q q =>
  SemT.of (pt_cmpR opEqS (semE X a) (semE X b) (nomark _)) (ha σ H en _ fun v H1 d1 e1 x1 r1 _ => hb σ H1 (en.ex x1) _ fun w H2 d2 e2 x2 r2 _ => by
    subst e1 e2
    cases r1
    cases r2
    exact ⟨i, j, rfl, rfl, _, rfl, q _ H2 rfl (x1.trans x2)⟩)
/-- data compared -/
theorem pyNoDct_shaped : ∀ d : D, d.noDct = true → d.ok = true → True := fun _ _ _ => trivial
theorem op_eqR (hu : X.A.units + 64 < cLine) : OpR X (compareOp .Eq) (fun x y H Q => ∃ d e, Rep X.K H x d ∧ Rep X.K H y e ∧ d.ok = true ∧ e.ok = true ∧ SeqAt.shaped d.py = true ∧ SeqAt.shaped e.py = true ∧ Q (.bl (PyData.eqv d.py e.py)) H) := by
  intro pins s σ H x y v u Q I rx ry h
  obtain ⟨d, e, hd, he, o1, o2, sd, se, q⟩ := h
  obtain ⟨as, r1, _⟩ := Rep.reads I d x v hd o1 rx
  obtain ⟨bs, r2, _⟩ := Rep.reads I e y u he o2 ry
  exact SeqAt.compareEq_shaped r1 r2 sd se hu ⟨.bl _, H, I, rfl, q⟩
theorem op_neR (hu : X.A.units + 64 < cLine) : OpR X (compareOp .NotEq) (fun x y H Q => ∃ d e, Rep X.K H x d ∧ Rep X.K H y e ∧ d.ok = true ∧ e.ok = true ∧ SeqAt.shaped d.py = true ∧ SeqAt.shaped e.py = true ∧ Q (.bl (!PyData.eqv d.py e.py)) H) := by
  intro pins s σ H x y v u Q I rx ry h
  obtain ⟨d, e, hd, he, o1, o2, sd, se, q⟩ := h
  obtain ⟨as, r1, _⟩ := Rep.reads I d x v hd o1 rx
  obtain ⟨bs, r2, _⟩ := Rep.reads I e y u he o2 ry
  exact SeqAt.compareNe_shaped r1 r2 sd se hu ⟨.bl _, H, I, rfl, q⟩
end
end L3

namespace L3
open PySem PySem.Spec PyProof.Rows L2
/-! ### a source of draws: a list of two ints, of which only bounds are known -/
/-- the bits that an int of a script may have, and some more -/
def bigB : Nat := 1100000
/-- what the k-th int of a source may be -/
def DrawB (k : Int) (i : Int) : Prop := 0 ≤ i ∧ ((k = 0 ∧ i.natAbs < 2 ^ bigB) ∨ (k = 1 ∧ i < 2147483648))
def DrawAt (a : Addr) : Heap → Prop := fun h => ∃ (d s : Int) (t u : Tok) (n : Nat), h.get? a = some { cls := .type "list", data := .seq [Value.int d t, Value.int s u].toArray n } ∧ DrawB 0 d ∧ DrawB 1 s
abbrev dDraw : D := .ext DrawAt
section
variable {X : Cx} {pins : List (Addr × Obj)} {σ : L2.St} {H : Hp} {s : Shared} {a : Addr}
theorem draw_open (I : Inv X pins σ H s) (h : H a = some (.ext (DrawAt a))) : ∃ d z, DrawB 0 d ∧ DrawB 1 z ∧ Inv X pins σ (upd H a (.lst [.int d, .int z])) s := by
  obtain ⟨⟨d, z, t, u, n, e, b0, b1⟩, _, _⟩ := I.hok a _ h
  refine ⟨d, z, b0, b1, I.write (t' := s.toks) (h' := s.heap) (by rw [h]; trivial) (.inl rfl) (fun _ _ _ q => q) ⟨_, e⟩ ⟨by show 2 ≤ sizeLine; decide, _, n, .cons ⟨t, rfl⟩ (.cons ⟨u, rfl⟩ .nil), e⟩⟩
theorem draw_close {d z : Int} (I : Inv X pins σ H s) (h : H a = some (.lst [.int d, .int z])) (b0 : DrawB 0 d) (b1 : DrawB 1 z) : Inv X pins σ (upd H a (.ext (DrawAt a))) s := by
  obtain ⟨_, its, n, r, e⟩ := I.hok a _ h
  obtain ⟨u1, u2, rfl, ⟨t1, r1⟩, ⟨t2, r2⟩⟩ : ∃ u1 u2, its = [u1, u2] ∧ RelV (.int d) u1 ∧ RelV (.int z) u2 := by
    cases r with
    | cons p q =>
      cases q with
      | cons p' q' => cases q'; exact ⟨_, _, rfl, p, p'⟩
  subst r1 r2
  refine I.write (t' := s.toks) (h' := s.heap) (by rw [h]; trivial) (.inl rfl) (fun _ _ _ q => q) ⟨_, e⟩ ⟨⟨d, z, t1, t2, n, e, b0, b1⟩, ⟨_, e⟩, fun h1 h2 p k => ?_⟩
  obtain ⟨d', z', t', u', n', e', k0, k1⟩ := p
  exact ⟨d', z', t', u', n', k _ e', k0, k1⟩
theorem upd_back {o : HO} (h : H a = some o) {u : HO} : upd (upd H a u) a o = H := by
  funext b
  by_cases e : b = a
  · rw [e, upd_same, h]
  · rw [upd_ne e, upd_ne e]
theorem ix_draw : IxR X (fun x y H Q => ∃ a k, x = .ref a ∧ y = .int k ∧ (k = 0 ∨ k = 1) ∧ H a = some (.ext (DrawAt a)) ∧ ∀ w, DrawB k w → Q (.int w) H) := by
  intro value slice pins s σ H x y v u Q I rx ry h hsub
  obtain ⟨a, k, rfl, rfl, hk, ha, q⟩ := h
  obtain ⟨d, z, b0, b1, I2⟩ := draw_open I ha
  refine thn (ix_list value slice pins s σ _ _ _ v u (fun (v : V) (H' : Hp) => H' = upd H a (.lst [.int d, .int z]) ∧ v = if k = 0 then .int d else .int z) I2 rx ry ⟨a, [.int d, .int z], k, if k = 0 then .int d else .int z, rfl, rfl, SqL.of upd_same, ?_, rfl, rfl⟩ hsub) fun r s1 ⟨w, H', I3, rw', e1, e2⟩ => ?_
  · rcases hk with e | e <;> subst e <;> rfl
  · subst e1
    have I4 := draw_close I3 upd_same b0 b1
    rw [upd_back ha] at I4
    rcases hk with e | e
    · subst e
      exact ⟨_, H, I4, by rw [e2] at rw'; exact rw', q d b0⟩
    · subst e
      exact ⟨_, H, I4, by rw [e2] at rw'; exact rw', q z b1⟩
theorem set_draw : PSet X (fun o i v H Q => ∃ a k w, o = .ref a ∧ i = .int k ∧ (k = 0 ∨ k = 1) ∧ v = .int w ∧ DrawB k w ∧ H a = some (.ext (DrawAt a)) ∧ Q H) := by
  intro pins s σ H o i v ov iv u Q I ro ri rv h
  obtain ⟨a, k, w, rfl, rfl, hk, rfl, bw, ha, q⟩ := h
  obtain ⟨d, z, b0, b1, I2⟩ := draw_open I ha
  refine thn (set_list pins s σ _ _ _ _ ov iv u (fun H' => H' = upd (upd H a (.lst [.int d, .int z])) a (.lst ([V.int d, V.int z].set k.toNat (.int w)))) I2 ro ri rv ⟨a, [.int d, .int z], k, k.toNat, rfl, rfl, upd_same, ?_, rfl⟩) fun r s1 ⟨H', I3, e1⟩ => ?_
  · rcases hk with e | e <;> subst e <;> rfl
  · subst e1
    refine ⟨H, ?_, q⟩
    rcases hk with e | e
    · subst e
      have I4 := draw_close (d := w) (z := z) I3 upd_same bw b1
      rw [upd_upd, upd_back ha] at I4
      exact I4
    · subst e
      have I4 := draw_close (d := d) (z := w) I3 upd_same b0 bw
      rw [upd_upd, upd_back ha] at I4
      exact I4
end
section
variable {X : Cx} {Hb Hb' : Hp} {a b c e : Expr} {es : List Expr} {Γ : Slots} {pos p' apos cpos : Pos} {d x y : D} {ds : List D} {S S' : D → Prop} {fr : Bool} {D0 : Ends} {rest sts : List Stmt} {st : Stmt}
theorem evn_drawIx {k : Int} {fr' : Bool} (ha : Ev X Hb a Γ fr dDraw) (hb : Ev X Hb b Γ fr' (.int k)) (hk : k = 0 ∨ k = 1) (hs : PlainIx b := by intro _ _; rfl) : EvN X Hb (.Subscript a b pos) Γ true (fun z => ∃ w, z = .int w ∧ DrawB k w) := fun σ H en Q q =>
  SemE.of (pe_ix ix_draw (semE X a) (semE X b) hs) (ha σ H en _ fun v H1 d1 e1 x1 r1 _ => hb σ H1 (en.ex x1) _ fun w H2 d2 e2 x2 r2 _ => by
    subst e1 e2
    cases r1 with
    | ext hx =>
      cases r2
      exact ⟨_, k, rfl, rfl, hk, x2.ext hx, fun w bw => q _ H2 _ ⟨w, rfl, bw⟩ (x1.trans x2) (.int _) fun _ => trivial⟩)
/-- s[k] = e -/
theorem go_drawSet {ix : Expr} {p3 : Pos} {k : Int} {fr' fr'' : Bool} (he : EvN X Hb e Γ fr fun z => ∃ w, z = .int w ∧ DrawB k w) (ha : Ev X Hb a Γ fr' dDraw) (hb : Ev X Hb ix Γ fr'' (.int k)) (hk : k = 0 ∨ k = 1) (g : Go X Hb rest D0 Γ)
    (hs : swapsWithSole [.Subscript a ix p3] e pos.line X.env = pure false := by rfl) (hw : swappedStores [.Subscript a ix p3] e X.env = pure none := by rfl) (h1 : (assignEach [.Subscript a ix p3] X.env).map (·.2) = [assign (.Subscript a ix p3) X.env] := by rfl)
    (hsub : ∀ v, assign (.Subscript a ix p3) X.env v = (do
      let ov ← holding [v] (eval a X.env)
      let iv ← holding [v, ov] (eval ix X.env)
      standAt p3
      holding [v, ov, iv] (setItem ov iv v)
      release [v, ov, iv] []) := by intro _; rfl) : Go X Hb (.Assign [.Subscript a ix p3] e pos :: rest) D0 Γ := fun σ H en =>
  SemSs.cons (ps_asg (semE X e) (pg_sub (semE X a) (semE X ix) set_draw hsub) hs hw h1) (he σ H en _ fun v H1 d1 ⟨w, e1, bw⟩ x1 r1 _ => ha σ H1 (en.ex x1) _ fun o H2 d2 e2 x2 r2 _ => hb σ H2 (en.ex (x1.trans x2)) _ fun i H3 d3 e3 x3 r3 _ => by
    subst e1 e2 e3
    cases r1
    cases r3
    cases r2 with
    | ext hx => exact ⟨_, k, w, rfl, rfl, hk, rfl, bw, x3.ext hx, g σ H3 (en.ex ((x1.trans x2).trans x3))⟩)
/-- return [d, s]: a new source -/
theorem go_retDraw {p3 : Pos} {S1 : Int → Prop} {S2 : Int → Prop} (h : EvA X Hb [a, b] Γ fun z => ∃ i j, z = [.int i, .int j] ∧ DrawB 0 i ∧ DrawB 1 j) (hd : ∀ v H', Rt X.K Hb dDraw v H' → D0.rt v H') : Go X Hb (.Return (some (.List [a, b] p3)) pos :: rest) D0 Γ := fun σ H en => by
  refine SemSs.cons (ps_ret (semE X _)) ⟨fun pins s I => ?_⟩
  have k := h σ H en (fun vs H1 => vs.length ≤ sizeLine ∧ ∀ p, H1 p = none → (fun (v : V) (H2 : Hp) => ∃ (p : Addr) (i j : Int) (H1 : Hp), v = V.ref p ∧ H1 p = none ∧ Ex H H1 ∧ H2 = upd H1 p (.lst [.int i, .int j]) ∧ DrawB 0 i ∧ DrawB 1 j) (V.ref p) (upd H1 p (.lst vs))) fun vs H1 ds ⟨i, j, e1, b0, b1⟩ x r => by
    subst e1
    rw [r.int2]
    exact ⟨by show 2 ≤ sizeLine; decide, fun p hp => ⟨p, i, j, H1, rfl, hp, x, rfl, b0, b1⟩⟩
  have k2 := (pe_lst (pos := p3) (semA X [a, b])).run pins s σ H (fun (v : V) (H2 : Hp) => ∃ (p : Addr) (i j : Int) (H1 : Hp), v = V.ref p ∧ H1 p = none ∧ Ex H H1 ∧ H2 = upd H1 p (.lst [.int i, .int j]) ∧ DrawB 0 i ∧ DrawB 1 j) I k
  refine thn k2 fun u s1 hh => ?_
  obtain ⟨v, H2, I2, rv, p, i, j, H1, ev, hp, x, e2, b0, b1⟩ := hh
  subst e2 ev
  have I3 := draw_close I2 upd_same b0 b1
  rw [upd_upd] at I3
  exact ⟨_, _, I3, rv, hd _ _ ⟨en.base.trans (x.trans (Ex.new hp)), .ext upd_same, trivial⟩⟩
end
theorem intBits_natAbs {i : Int} {k : Nat} (h : Builtin.Int.intBits i ≤ k) : i.natAbs < 2 ^ k := by
  unfold Builtin.Int.intBits at h
  split at h
  · rename_i z
    have : i = 0 := by simpa using z
    rw [this]
    exact Nat.two_pow_pos k
  · exact Nat.lt_of_lt_of_le Nat.lt_log2_self (Nat.pow_le_pow_right (by decide) h)
end L3

namespace L3
open PySem PySem.Spec PyProof.Rows L2
/-! ### comprehensions -/
def wipeG (Γ : Slots) : List Nat → Slots
  | [] => Γ
  | v :: vs => (wipeG Γ vs).set v .any
theorem wipe_env {K : PySem.W.Frag} {Hb H : Hp} {Γ : Slots} {σ : L2.St} (h : EnvOk K Hb Γ σ H) : ∀ vs : List Nat, EnvOk K Hb (wipeG Γ vs) (wipe σ vs) H
  | [] => h
  | v :: vs => (wipe_env h vs).setAny
/-- where a comprehension's inside stands -/
abbrev inCx (X : Cx) (scope : Scope) (s : Shared) (H : Hp) (C : Addr) (cl : List (Str × Addr)) (fp : List Addr) : Cx := X.blk s H scope (compEnvC scope cl C X.env) fp
def AllIn (X : Cx) (scope : Scope) (f : Cx → Prop) : Prop := ∀ (s : Shared) (H : Hp) (C : Addr) (cl : List (Str × Addr)) (fp : List Addr), f (inCx X scope s H C cl fp)
def tIn (X : Cx) (scope : Scope) (e : Expr) : TE := fun σ H Q => AllIn X scope fun Y => SemE Y e σ H Q
def tInT (X : Cx) (scope : Scope) (e : Expr) : TT := fun σ H Q => AllIn X scope fun Y => SemT Y e σ H Q
theorem Rep.hide1 {K : PySem.W.Frag} {H : Hp} {p : Addr} {vs : List V} {v : V} {d : D} (hp : H p = some (.lst vs)) (r : Rep K H v d) (f : d.flat = true) : Rep K (L3.hide H [p]) v d :=
  r.hide (fun q hq => by rw [List.mem_singleton.mp hq]; exact ⟨.lst vs, hp, (trivial : Mu (.lst vs))⟩) f
theorem hide1_upd {H : Hp} {p : Addr} {o : HO} : hide (upd H p o) [p] = hide H [p] := by
  funext a
  by_cases e : a = p
  · rw [hide_in (by rw [e]; simp), hide_in (by rw [e]; simp)]
  · rw [hide_out (by simpa using e), hide_out (by simpa using e), upd_ne e]
theorem hide1_ex {H H' : Hp} {p : Addr} {xs : List V} (e : Ex H H') (h : H' p = some (.lst xs)) : Ex (hide H [p]) (hide H' [p]) := e.hides fun q m => ⟨.lst xs, by rw [List.mem_singleton.mp m]; exact h, (trivial : Mu (.lst xs))⟩
theorem Paired.snoc {α β : Type} {F : α → β → Prop} {a : α} {b : β} (h : F a b) : ∀ {l₁ : List α} {l₂ : List β}, Paired F l₁ l₂ → Paired F (l₁ ++ [a]) (l₂ ++ [b])
  | _, _, .nil => .cons h .nil
  | _, _, .cons q r => .cons q (Paired.snoc h r)
/-- a comprehension: what its list may be -/
def LcEv (X : Cx) (Hb : Hp) (elt tg iter : Expr) (ifs : List Expr) (scope : Scope) (own : List (Str × Nat)) (Γ : Slots) (S : D → Prop) : Prop :=
  X.calm = true ∧ X.N.Nodup ∧ BlkOk X.N X.env.scope scope own ∧ (∀ x, foldedSetIterable iter X.env x = pure x) ∧ ∃ (wi : TI) (g : TG) (tt : TT) (te : TE), PI X tg iter wi ∧ (AllIn X scope fun Y => PG Y tg g) ∧ (AllIn X scope fun Y => PTs Y ifs tt) ∧ (AllIn X scope fun Y => PE Y elt te) ∧
    ∀ σ H, EnvOk X.K Hb Γ σ H → ∀ Q : VK, (∀ v H' d, S d → Ex H H' → Rep X.K H' v d → FreshD X.K H H' v d → Q v H') → tLc wi g tt te (own.map (·.2)) σ H Q
/-- the new list of a comprehension: what has been made so far -/
def SoFar (K : PySem.W.Frag) (H1 : Hp) (L : Addr) (R : List D → Prop) (H : Hp) : Prop := Ex H1 H ∧ ∃ acc ys, H L = some (.lst acc) ∧ RepAll K (hide H [L]) acc ys ∧ R ys
theorem soFar_start {K : PySem.W.Frag} {H1 : Hp} {L : Addr} {R : List D → Prop} (hL : H1 L = none) (h : R []) : SoFar K H1 L R (upd H1 L (.lst [])) := ⟨Ex.new hL, [], [], upd_same, .nil, h⟩
theorem soFar_more {K : PySem.W.Frag} {H1 H H' : Hp} {L : Addr} {R R' : List D → Prop} {v : V} {d : D} (hL : H1 L = none) (h : SoFar K H1 L R H) (x : Ex H H') (r : Rep K H' v d) (f : d.flat = true) (hl : ∀ ys, R ys → ys.length < 100000) (hR : ∀ ys, R ys → R' (ys ++ [d])) :
    ∃ acc, H' L = some (.lst acc) ∧ acc.length < sizeLine ∧ SoFar K H1 L R' (upd H' L (.lst (acc ++ [v]))) := by
  obtain ⟨e, acc, ys, h1, h2, h3⟩ := h
  have h4 := x.lst h1
  refine ⟨acc, h4, by rw [h2.length]; exact Nat.lt_of_lt_of_le (hl ys h3) (by decide), Ex.mut (e.trans x) hL (by rw [h4]; trivial), acc ++ [v], ys ++ [d], upd_same, ?_, hR ys h3⟩
  rw [hide1_upd]
  exact (h2.ex (hide1_ex x h4)).append (.cons (r.hide1 h4 f) .nil)
section
variable {X : Cx} {Hb Hb' : Hp} {a b c e elt iter : Expr} {es ifs : List Expr} {Γ : Slots} {pos p' apos cpos : Pos} {d x y : D} {ds : List D} {S S' : D → Prop} {fr : Bool} {scope : Scope} {own : List (Str × Nat)}
theorem soFar_done {K : PySem.W.Frag} {H H1 H2 : Hp} {L : Addr} {R : List D → Prop} (hL : H1 L = none) (x : Ex H H1) (h : SoFar K H1 L R H2) : ∃ ys, R ys ∧ Ex H H2 ∧ Rep K H2 (.ref L) (.lst ys) ∧ FreshD K H H2 (.ref L) (.lst ys) := by
  obtain ⟨e, acc, ys, h1, h2, h3⟩ := h
  have r := h2.ex hide_ex
  exact ⟨ys, h3, x.trans e, .lst (SqL.of h1) r, L, acc, rfl, x.free hL, h1, r⟩
/-- [elt for x in xs if t] -/
theorem lcvIf {α : Type} (ix : Nat) (f : α → D) (t : α → Bool) (SE : α → D → Prop) (xs : List α) {xn : Str} {tst : Expr} (hit : EvI X Hb iter Γ (· = xs.map f)) (hst : ∀ a ∈ xs, Sto (wipeG Γ (own.map (·.2))) (f a))
    (ht : ∀ a ∈ xs, AllIn X scope fun Y => EvB Y Hb tst ((wipeG Γ (own.map (·.2))).set ix (.dat (f a))) (t a))
    (he : ∀ a ∈ xs, t a = true → AllIn X scope fun Y => EvN Y Hb elt ((wipeG Γ (own.map (·.2))).set ix (.dat (f a))) fr (SE a)) (hfl : ∀ a d, SE a d → d.flat = true) (hlen : xs.length < 100000)
    (hc : X.calm = true) (nd : X.N.Nodup) (ok : BlkOk X.N X.env.scope scope own) (hi : X.N[ix]? = some xn := by rfl) (hw : ∀ (σ : L2.St) (v : Option V), wipe ((wipe σ (own.map (·.2))).set ix v) (own.map (·.2)) = wipe σ (own.map (·.2)))
    (hg : AllIn X scope fun Y => PG Y (.Name xn p') (gName ix)) (hs : ∀ x, foldedSetIterable iter X.env x = pure x := by intro _; rfl) :
    LcEv X Hb elt (.Name xn p') iter [tst] scope own Γ (fun z => ∃ ys, z = .lst ys ∧ Paired SE (xs.filter t) ys) := by
  refine ⟨hc, nd, ok, hs, _, _, _, tIn X scope elt, (pi_list (semE X iter)), hg, (fun s H C cl fp => pts_one (t := tInT X scope tst) ⟨fun pins s' σ H' Q I h => (h s H C cl fp).run pins s' I⟩), fun s H C cl fp => ⟨fun pins s' σ H' Q I h => (h s H C cl fp).run pins s' I⟩, fun σ H en Q q => ?_⟩
  refine hit σ H en _ fun a vs H1 ds e1 x hq ra => ?_
  subst e1
  have en1 := en.ex x
  refine ⟨a, rfl, ⟨_, SqL.ex hide_ex hq⟩, fun L hL => lc_list (K := X.K) (a := a) (xs := vs) (fun i H => SoFar X.K H1 L (fun ys => Paired SE ((xs.take i).filter t) ys) H) (soFar_start hL .nil) (fun i H2 _ h => SqL.ex h.1 (SqL.ex hide_ex hq)) ?_ ?_⟩
  · intro i v H2 hv sf
    obtain ⟨dx, hd, rv⟩ := ra.get' hv
    rw [List.getElem?_map] at hd
    obtain ⟨ax, hax, rfl⟩ : ∃ ax, xs[i]? = some ax ∧ dx = f ax := by
      cases z : xs[i]? with
      | none => rw [z] at hd; cases hd
      | some ax => rw [z] at hd; cases hd; exact ⟨ax, rfl, rfl⟩
    have hm := List.mem_of_getElem? hax
    have et : xs.take (i + 1) = xs.take i ++ [ax] := by rw [List.take_add_one, hax]; rfl
    have rv2 : Rep X.K H2 v (f ax) := (rv.ex hide_ex).ex sf.1
    have en2 : EnvOk X.K Hb ((wipeG Γ (own.map (·.2))).set ix (.dat (f ax))) ((wipe σ (own.map (·.2))).set ix (some v)) H2 := (wipe_env (en1.ex sf.1) _).setDat rv2 (hst ax hm)
    refine ⟨hw σ (some v), fun s0 H0 C cl fp => ht ax hm s0 H0 C cl fp _ H2 en2 _ fun k H3 ek x3 => ?_⟩
    have sf3 : SoFar X.K H1 L (fun ys => Paired SE ((xs.take i).filter t) ys) H3 := by
      obtain ⟨e, acc, ys, h1, h2, h3⟩ := sf
      exact ⟨e.trans x3, acc, ys, x3.lst h1, h2.ex (hide1_ex x3 (x3.lst h1)), h3⟩
    subst ek
    cases hta : t ax with
    | false =>
      refine if_neg (by simp) |>.mpr ?_
      rw [et, List.filter_append, List.filter_cons, hta]
      simpa using sf3
    | true =>
      refine (if_pos rfl).mpr ?_
      intro s0 H0 C cl fp
      refine he ax hm hta s0 H0 C cl fp _ H3 (en2.ex x3) _ fun w H4 dw sw x4 rw4 _ => ?_
      refine soFar_more hL sf3 x4 rw4 (hfl ax dw sw) (fun ys h => ?_) fun ys h => ?_
      · rw [← Paired.length h]
        refine Nat.lt_of_le_of_lt (List.length_filter_le _ _) ?_
        rw [List.length_take]
        omega
      · rw [et, List.filter_append, List.filter_cons, hta]
        exact Paired.snoc sw h
  · intro H2 sf
    rw [ra.length, List.length_map, List.take_length] at sf
    obtain ⟨ys, h1, h2, h3, h4⟩ := soFar_done hL x sf
    exact q _ _ _ ⟨ys, rfl, h1⟩ h2 h3 h4
theorem yes_of {σ : L2.St} {H : Hp} {Q : Bool → Hp → Prop} (h : Q true H) : tYes σ H Q := h
/-- [elt for x in xs] -/
theorem lcv {α : Type} (ix : Nat) (f : α → D) (SE : α → D → Prop) (xs : List α) {xn : Str} (hit : EvI X Hb iter Γ (· = xs.map f)) (hst : ∀ a ∈ xs, Sto (wipeG Γ (own.map (·.2))) (f a))
    (he : ∀ a ∈ xs, AllIn X scope fun Y => EvN Y Hb elt ((wipeG Γ (own.map (·.2))).set ix (.dat (f a))) fr (SE a)) (hfl : ∀ a d, SE a d → d.flat = true) (hlen : xs.length < 100000)
    (hc : X.calm = true) (nd : X.N.Nodup) (ok : BlkOk X.N X.env.scope scope own) (hi : X.N[ix]? = some xn := by rfl) (hw : ∀ (σ : L2.St) (v : Option V), wipe ((wipe σ (own.map (·.2))).set ix v) (own.map (·.2)) = wipe σ (own.map (·.2)))
    (hg : AllIn X scope fun Y => PG Y (.Name xn p') (gName ix)) (hs : ∀ x, foldedSetIterable iter X.env x = pure x := by intro _; rfl) :
    LcEv X Hb elt (.Name xn p') iter [] scope own Γ (fun z => ∃ ys, z = .lst ys ∧ Paired SE xs ys) := by
  refine ⟨hc, nd, ok, hs, _, _, _, tIn X scope elt, (pi_list (semE X iter)), hg, (fun s H C cl fp => pts_nil), fun s H C cl fp => ⟨fun pins s' σ H' Q I h => (h s H C cl fp).run pins s' I⟩, fun σ H en Q q => ?_⟩
  refine hit σ H en _ fun a vs H1 ds e1 x hq ra => ?_
  subst e1
  have en1 := en.ex x
  refine ⟨a, rfl, ⟨_, SqL.ex hide_ex hq⟩, fun L hL => lc_list (K := X.K) (a := a) (xs := vs) (fun i H => SoFar X.K H1 L (fun ys => Paired SE (xs.take i) ys) H) (soFar_start hL .nil) (fun i H2 _ h => SqL.ex h.1 (SqL.ex hide_ex hq)) ?_ ?_⟩
  · intro i v H2 hv sf
    obtain ⟨dx, hd, rv⟩ := ra.get' hv
    rw [List.getElem?_map] at hd
    obtain ⟨ax, hax, rfl⟩ : ∃ ax, xs[i]? = some ax ∧ dx = f ax := by
      cases z : xs[i]? with
      | none => rw [z] at hd; cases hd
      | some ax => rw [z] at hd; cases hd; exact ⟨ax, rfl, rfl⟩
    have hm := List.mem_of_getElem? hax
    have et : xs.take (i + 1) = xs.take i ++ [ax] := by rw [List.take_add_one, hax]; rfl
    have rv2 : Rep X.K H2 v (f ax) := (rv.ex hide_ex).ex sf.1
    have en2 : EnvOk X.K Hb ((wipeG Γ (own.map (·.2))).set ix (.dat (f ax))) ((wipe σ (own.map (·.2))).set ix (some v)) H2 := (wipe_env (en1.ex sf.1) _).setDat rv2 (hst ax hm)
    refine ⟨hw σ (some v), ?_⟩
    refine yes_of (L2.iteT ?_)
    intro s0 H0 C cl fp
    refine he ax hm s0 H0 C cl fp _ H2 en2 _ fun w H4 dw sw x4 rw4 _ => ?_
    refine soFar_more hL sf x4 rw4 (hfl ax dw sw) (fun ys h => ?_) fun ys h => ?_
    · rw [← Paired.length h, List.length_take]
      omega
    · rw [et]
      exact Paired.snoc sw h
  · intro H2 sf
    rw [ra.length, List.length_map, List.take_length] at sf
    obtain ⟨ys, h1, h2, h3, h4⟩ := soFar_done hL x sf
    exact q _ _ _ ⟨ys, rfl, h1⟩ h2 h3 h4
/-- [elt for i in range(..)] -/
theorem lcvR (ix : Nat) (SE : Int → D → Prop) {SR : Int → Nat → Prop} {xn : Str} (hit : EvR X Hb iter Γ SR)
    (he : ∀ (lo : Int) (n i : Nat), SR lo n → i < n → AllIn X scope fun Y => EvN Y Hb elt ((wipeG Γ (own.map (·.2))).set ix (.dat (.int (lo + i)))) fr (SE (lo + i))) (hfl : ∀ a d, SE a d → d.flat = true) (hlen : ∀ lo n, SR lo n → n < 100000)
    (hc : X.calm = true) (nd : X.N.Nodup) (ok : BlkOk X.N X.env.scope scope own) (hi : X.N[ix]? = some xn := by rfl) (hw : ∀ (σ : L2.St) (v : Option V), wipe ((wipe σ (own.map (·.2))).set ix v) (own.map (·.2)) = wipe σ (own.map (·.2)))
    (hg : AllIn X scope fun Y => PG Y (.Name xn p') (gName ix)) (hs : ∀ x, foldedSetIterable iter X.env x = pure x := by intro _; rfl) :
    LcEv X Hb elt (.Name xn p') iter [] scope own Γ (fun z => ∃ lo n ys, SR lo n ∧ z = .lst ys ∧ Paired (fun (i : Nat) d => SE (lo + i) d) (List.range n) ys) := by
  obtain ⟨wi, hpi, hwi⟩ := hit
  refine ⟨hc, nd, ok, hs, _, _, _, tIn X scope elt, (hpi _), hg, (fun s H C cl fp => pts_nil), fun s H C cl fp => ⟨fun pins s' σ H' Q I h => (h s H C cl fp).run pins s' I⟩, fun σ H en Q q => ?_⟩
  refine hwi σ H en _ fun lo n H1 sr x => ?_
  have en1 := en.ex x
  have hn := hlen lo n sr
  refine fun L hL => lc_range (lo := lo) (n := n) (fun i H => SoFar X.K H1 L (fun ys => Paired (fun (i : Nat) d => SE (lo + i) d) (List.range i) ys) H) (soFar_start hL .nil) ?_ ?_
  · intro i H2 hin sf
    have et : List.range (i + 1) = List.range i ++ [i] := List.range_succ
    have en2 : EnvOk X.K Hb ((wipeG Γ (own.map (·.2))).set ix (.dat (.int (lo + i)))) ((wipe σ (own.map (·.2))).set ix (some (.int (lo + i)))) H2 := (wipe_env (en1.ex sf.1) _).setDat (.int _) (.inl rfl)
    refine ⟨hw σ _, ?_⟩
    refine yes_of (L2.iteT ?_)
    intro s0 H0 C cl fp
    refine he lo n i sr hin s0 H0 C cl fp _ H2 en2 _ fun w H4 dw sw x4 rw4 _ => ?_
    refine soFar_more hL sf x4 rw4 (hfl _ dw sw) (fun ys h => ?_) fun ys h => ?_
    · rw [← Paired.length h, List.length_range]
      omega
    · rw [et]
      exact Paired.snoc (F := fun (i : Nat) d => SE (lo + i) d) sw h
  · intro H2 sf
    obtain ⟨ys, h1, h2, h3, h4⟩ := soFar_done hL x sf
    exact q _ _ _ ⟨lo, n, ys, sr, rfl, h1⟩ h2 h3 h4
theorem lcvRIf (ix : Nat) (t : Int → Bool) (SE : Int → D → Prop) {SR : Int → Nat → Prop} {xn : Str} {tst : Expr} (hit : EvR X Hb iter Γ SR)
    (ht : ∀ (lo : Int) (n i : Nat), SR lo n → i < n → AllIn X scope fun Y => EvB Y Hb tst ((wipeG Γ (own.map (·.2))).set ix (.dat (.int (lo + i)))) (t (lo + i)))
    (he : ∀ (lo : Int) (n i : Nat), SR lo n → i < n → t (lo + i) = true → AllIn X scope fun Y => EvN Y Hb elt ((wipeG Γ (own.map (·.2))).set ix (.dat (.int (lo + i)))) fr (SE (lo + i))) (hfl : ∀ a d, SE a d → d.flat = true) (hlen : ∀ lo n, SR lo n → n < 100000)
    (hc : X.calm = true) (nd : X.N.Nodup) (ok : BlkOk X.N X.env.scope scope own) (hi : X.N[ix]? = some xn := by rfl) (hw : ∀ (σ : L2.St) (v : Option V), wipe ((wipe σ (own.map (·.2))).set ix v) (own.map (·.2)) = wipe σ (own.map (·.2)))
    (hg : AllIn X scope fun Y => PG Y (.Name xn p') (gName ix)) (hs : ∀ x, foldedSetIterable iter X.env x = pure x := by intro _; rfl) :
    LcEv X Hb elt (.Name xn p') iter [tst] scope own Γ (fun z => ∃ lo n ys, SR lo n ∧ z = .lst ys ∧ Paired (fun (i : Nat) d => SE (lo + i) d) ((List.range n).filter fun (i : Nat) => t (lo + i)) ys) := by
  obtain ⟨wi, hpi, hwi⟩ := hit
  refine ⟨hc, nd, ok, hs, _, _, _, tIn X scope elt, (hpi _), hg, (fun s H C cl fp => pts_one (t := tInT X scope tst) ⟨fun pins s' σ H' Q I h => (h s H C cl fp).run pins s' I⟩), fun s H C cl fp => ⟨fun pins s' σ H' Q I h => (h s H C cl fp).run pins s' I⟩, fun σ H en Q q => ?_⟩
  refine hwi σ H en _ fun lo n H1 sr x => ?_
  have en1 := en.ex x
  have hn := hlen lo n sr
  refine fun L hL => lc_range (lo := lo) (n := n) (fun i H => SoFar X.K H1 L (fun ys => Paired (fun (i : Nat) d => SE (lo + i) d) ((List.range i).filter fun (i : Nat) => t (lo + i)) ys) H) (soFar_start hL .nil) ?_ ?_
  · intro i H2 hin sf
    have et : List.range (i + 1) = List.range i ++ [i] := List.range_succ
    have en2 : EnvOk X.K Hb ((wipeG Γ (own.map (·.2))).set ix (.dat (.int (lo + i)))) ((wipe σ (own.map (·.2))).set ix (some (.int (lo + i)))) H2 := (wipe_env (en1.ex sf.1) _).setDat (.int _) (.inl rfl)
    refine ⟨hw σ _, fun s0 H0 C cl fp => ht lo n i sr hin s0 H0 C cl fp _ H2 en2 _ fun k H3 ek x3 => ?_⟩
    have sf3 : SoFar X.K H1 L (fun ys => Paired (fun (i : Nat) d => SE (lo + i) d) ((List.range i).filter fun (i : Nat) => t (lo + i)) ys) H3 := by
      obtain ⟨e, acc, ys, h1, h2, h3⟩ := sf
      exact ⟨e.trans x3, acc, ys, x3.lst h1, h2.ex (hide1_ex x3 (x3.lst h1)), h3⟩
    subst ek
    cases hta : t (lo + i) with
    | false =>
      refine if_neg (by simp) |>.mpr ?_
      rw [et, List.filter_append, List.filter_cons, hta]
      simpa using sf3
    | true =>
      refine (if_pos rfl).mpr ?_
      intro s0 H0 C cl fp
      refine he lo n i sr hin hta s0 H0 C cl fp _ H3 (en2.ex x3) _ fun w H4 dw sw x4 rw4 _ => ?_
      refine soFar_more hL sf3 x4 rw4 (hfl _ dw sw) (fun ys h => ?_) fun ys h => ?_
      · rw [← Paired.length h]
        refine Nat.lt_of_le_of_lt (List.length_filter_le _ _) ?_
        rw [List.length_range]
        omega
      · rw [et, List.filter_append, List.filter_cons, hta]
        exact Paired.snoc (F := fun (i : Nat) d => SE (lo + i) d) sw h
  · intro H2 sf
    obtain ⟨ys, h1, h2, h3, h4⟩ := soFar_done hL x sf
    exact q _ _ _ ⟨lo, n, ys, sr, rfl, h1⟩ h2 h3 h4
theorem LcEv.ev {tg : Expr} (h : LcEv X Hb elt tg iter ifs scope own Γ S) : EvN X Hb (.ListComp elt [⟨tg, iter, ifs, 0⟩] scope pos) Γ true S := fun σ H en Q q => by
  obtain ⟨hc, nd, ok, hs, wi, g, tt, te, h1, h2, h3, h4, h5⟩ := h
  exact SemE.of (pe_lc hc nd h1 ok h2 h3 h4 hs) (h5 σ H en Q fun v H' d s x r f => q v H' d s x r fun _ => f)
theorem LcEv.imp {tg : Expr} (h : LcEv X Hb elt tg iter ifs scope own Γ S) (f : ∀ d, S d → S' d) : LcEv X Hb elt tg iter ifs scope own Γ S' := by
  obtain ⟨hc, nd, ok, hs, wi, g, tt, te, h1, h2, h3, h4, h5⟩ := h
  exact ⟨hc, nd, ok, hs, wi, g, tt, te, h1, h2, h3, h4, fun σ H en Q q => h5 σ H en Q fun v H' d s x r fd => q v H' d (f d s) x r fd⟩
/-- y = [..], y a plain local -/
theorem go_setLc {tg : Expr} (i : Nat) {yn : Str} {py spos : Pos} {D0 : Ends} {rest : List Stmt} (h : LcEv X Hb elt tg iter ifs scope own Γ S) (hsto : ∀ d, S d → Sto Γ d) (go : ∀ d, S d → Go X Hb rest D0 (Γ.set i (.dat d))) (hsw : swapsWith (.ListComp elt [⟨tg, iter, ifs, 0⟩] scope pos) (some (.Name yn py)) spos.line X.env = pure true)
    (hy : X.N[i]? = some yn := by rfl) (hyl : X.env.scope.names.lookup yn = some .local := by rfl) : Go X Hb (.Assign [.Name yn py] (.ListComp elt [⟨tg, iter, ifs, 0⟩] scope pos) spos :: rest) D0 Γ := fun σ H en => by
  obtain ⟨hc, nd, ok, hs, wi, g, tt, te, h1, h2, h3, h4, h5⟩ := h
  exact SemSs.cons (ps_setLc hc nd hy hyl hsw h1 ok h2 h3 h4 hs) (h5 σ H en _ fun v H' d s x r _ => go d s _ H' ((en.ex x).setDat r (hsto d s)))
theorem go_setLcOwn {tg : Expr} (i : Nat) {yn : Str} {py spos : Pos} {D0 : Ends} {rest : List Stmt} {SL : List D → Prop} (h : LcEv X Hb elt tg iter ifs scope own Γ fun z => ∃ ds, z = .lst ds ∧ SL ds) (hfl : ∀ ds, SL ds → D.flatAll ds = true) (go : ∀ p ds, SL ds → Go X Hb rest D0 (Γ.set i (.own p ds)))
    (hsw : swapsWith (.ListComp elt [⟨tg, iter, ifs, 0⟩] scope pos) (some (.Name yn py)) spos.line X.env = pure true) (hy : X.N[i]? = some yn := by rfl) (hyl : X.env.scope.names.lookup yn = some .local := by rfl) : Go X Hb (.Assign [.Name yn py] (.ListComp elt [⟨tg, iter, ifs, 0⟩] scope pos) spos :: rest) D0 Γ := fun σ H en => by
  obtain ⟨hc, nd, ok, hs, wi, g, tt, te, h1, h2, h3, h4, h5⟩ := h
  refine SemSs.cons (ps_setLc hc nd hy hyl hsw h1 ok h2 h3 h4 hs) (h5 σ H en _ fun v H' d ⟨ds, e1, s⟩ x r f => ?_)
  subst e1
  obtain ⟨p, vs, rfl, hp, hl, ra⟩ := f
  exact go p ds s _ H' (en.setOwn hp x hl ra (hfl ds s))
theorem paired_det {α : Type} {g : α → D} : ∀ {l : List α} {ys : List D}, Paired (fun a d => d = g a) l ys → ys = l.map g
  | _, _, .nil => rfl
  | _, _, .cons h r => by rw [h, paired_det r]; rfl
theorem paired_all {α : Type} {F : α → D → Prop} {P : D → Prop} (h : ∀ a d, F a d → P d) : ∀ {l : List α} {ys : List D}, Paired F l ys → ∀ y ∈ ys, P y
  | _, _, .nil => fun _ m => nomatch m
  | _, _, .cons q r => fun y m => by
    rcases List.mem_cons.mp m with e | m
    · rw [e]; exact h _ _ q
    · exact paired_all h r y m
/-- texts of ints: a list drawn -/
theorem ints_of {P : Int → Prop} : ∀ {ys : List D}, (∀ y ∈ ys, ∃ i, y = .int i ∧ P i) → ∃ ns : List Int, ys = ns.map .int ∧ ∀ i ∈ ns, P i
  | [], _ => ⟨[], rfl, fun _ m => nomatch m⟩
  | y :: ys, h => by
    obtain ⟨i, rfl, hi⟩ := h y List.mem_cons_self
    obtain ⟨ns, rfl, hn⟩ := ints_of (ys := ys) fun z m => h z (List.mem_cons_of_mem _ m)
    exact ⟨i :: ns, rfl, fun j m => by rcases List.mem_cons.mp m with e | m; exact e ▸ hi; exact hn j m⟩
end
end L3

namespace L3
open PySem PySem.Spec PyProof.Rows L2
section
variable {X : Cx} {Hb Hb' : Hp} {a b c e : Expr} {es : List Expr} {Γ : Slots} {pos p' apos cpos : Pos} {d x y : D} {ds : List D} {S S' : D → Prop} {fr fr' : Bool} {D0 : Ends} {rest sts : List Stmt} {st : Stmt}
/-- an int of which S holds -/
abbrev EvI1 (X : Cx) (Hb : Hp) (e : Expr) (Γ : Slots) (fr : Bool) (S : Int → Prop) : Prop := EvN X Hb e Γ fr fun z => ∃ i, z = .int i ∧ S i
theorem EvN.int1 {i : Int} (h : Ev X Hb e Γ fr (.int i)) : EvI1 X Hb e Γ fr (· = i) := h.imp fun _ z => ⟨i, z, rfl⟩
theorem EvN.int1' {i : Int} {S : Int → Prop} (h : Ev X Hb e Γ fr (.int i)) (hs : S i) : EvI1 X Hb e Γ fr S := h.imp fun _ z => ⟨i, z, hs⟩
theorem EvN.mono1 {S S' : Int → Prop} (h : EvI1 X Hb e Γ fr S) (f : ∀ i, S i → S' i) : EvI1 X Hb e Γ fr S' := h.imp fun _ ⟨i, e, s⟩ => ⟨i, e, f i s⟩
section
variable {S1 S2 S3 : Int → Prop}
theorem evi_add (ha : EvI1 X Hb a Γ fr S1) (hb : EvI1 X Hb b Γ fr' S2) (h : ∀ i j, S1 i → S2 j → S3 (i + j)) : EvI1 X Hb (.BinOp a .Add b pos) Γ true S3 :=
  evn_op (h := fun i j => .int (i + j)) (opI0' op_add) (fun _ _ _ => .int _) (fun _ _ => rfl) ha hb fun i j s1 s2 => ⟨trivial, _, rfl, h i j s1 s2⟩
theorem evi_sub (ha : EvI1 X Hb a Γ fr S1) (hb : EvI1 X Hb b Γ fr' S2) (h : ∀ i j, S1 i → S2 j → S3 (i - j)) : EvI1 X Hb (.BinOp a .Sub b pos) Γ true S3 :=
  evn_op (h := fun i j => .int (i - j)) (opI0' op_sub) (fun _ _ _ => .int _) (fun _ _ => rfl) ha hb fun i j s1 s2 => ⟨trivial, _, rfl, h i j s1 s2⟩
theorem evi_mul (ha : EvI1 X Hb a Γ fr S1) (hb : EvI1 X Hb b Γ fr' S2) (h : ∀ i j, S1 i → S2 j → IntMulOk i j ∧ S3 (i * j)) : EvI1 X Hb (.BinOp a .Mult b pos) Γ true S3 :=
  evn_op (h := fun i j => .int (i * j)) (C := IntMulOk) (g := fun i j => .int (i * j)) (opI fun _ _ _ _ _ _ _ hc q => mul_int q hc) (fun _ _ _ => .int _) (fun _ _ => rfl) ha hb fun i j s1 s2 => ⟨(h i j s1 s2).1, _, rfl, (h i j s1 s2).2⟩
theorem evi_fdiv (ha : EvI1 X Hb a Γ fr S1) (hb : EvI1 X Hb b Γ fr' S2) (h : ∀ i j, S1 i → S2 j → CDivX i j ∧ S3 (i.fdiv j)) : EvI1 X Hb (.BinOp a .FloorDiv b pos) Γ true S3 :=
  evn_op (h := fun i j => .int (i.fdiv j)) op_fdivX (fun _ _ _ => .int _) (fun _ _ => rfl) ha hb fun i j s1 s2 => ⟨(h i j s1 s2).1, _, rfl, (h i j s1 s2).2⟩
theorem evi_mod (ha : EvI1 X Hb a Γ fr S1) (hb : EvI1 X Hb b Γ fr' S2) (h : ∀ i j, S1 i → S2 j → j ≠ 0 ∧ S3 (i.fmod j)) : EvI1 X Hb (.BinOp a .Mod b pos) Γ true S3 :=
  evn_op (h := fun i j => .int (i.fmod j)) op_modN (fun _ _ _ => .int _) (fun _ _ => rfl) ha hb fun i j s1 s2 => ⟨(h i j s1 s2).1, _, rfl, (h i j s1 s2).2⟩
theorem evi_pow (ha : EvI1 X Hb a Γ fr S1) (hb : EvI1 X Hb b Γ fr' S2) (h : ∀ i j, S1 i → S2 j → (0 ≤ j ∧ (Builtin.Int.intBits i : Int) * j ≤ 2 ^ 27) ∧ S3 (i ^ j.toNat)) : EvI1 X Hb (.BinOp a .Pow b pos) Γ true S3 :=
  evn_op (h := fun i j => .int (i ^ j.toNat)) op_powX (fun _ _ _ => .int _) (fun _ _ => rfl) ha hb fun i j s1 s2 => ⟨(h i j s1 s2).1, _, rfl, (h i j s1 s2).2⟩
theorem evi_toInt {pn : Pos} (hm : X.mg "int" = none) (h : EvI1 X Hb a Γ fr S1) (hg : Gl X "int" := by rfl) (he : starEach (a :: []) X.env = (false, eval a X.env) :: starEach [] X.env := by rfl) (hpl : (backTo pos (starEach [] X.env)).any (·.1) = false := by rfl) :
    EvI1 X Hb (.Call (.Name "int" pn) [a] [] pos) Γ true S1 :=
  evn_Ty call_int1 hm (eva_consN (S := fun z => ∃ i, z = [.int i] ∧ S1 i) h eva_nil (fun d ds ⟨i, e1, s⟩ e => ⟨i, by rw [e, e1], s⟩) he) (fun vs H ds' Q ⟨i, e1, s⟩ r k => by
    subst e1
    exact .inl ⟨i, r.int1, k _ _ _ ⟨i, rfl, s⟩ Ex.refl (.int _) (FreshD.flat rfl)⟩) (by decide +kernel) hg (by decide) (by decide) he hpl
/-- a comparison of ints of which bounds are known: both ways -/
theorem evt_cmpN {op : CmpOp} {g : Int → Int → Bool} {SB : Bool → Prop} (ho : OpR X (compareOp op) (rI0 fun i j => .bl (g i j))) (hm : behindInMarks op b = false) (ha : EvI1 X Hb a Γ fr S1) (hb : EvI1 X Hb b Γ fr' S2) (h : ∀ i j, S1 i → S2 j → SB (g i j)) :
    EvT X Hb (.Compare a [op] [b] pos) Γ SB := fun σ H en Q q =>
  SemT.of (pt_cmpR ho (semE X a) (semE X b) hm) (ha σ H en _ fun v H1 d1 ⟨i, e1, s1⟩ x1 r1 _ => hb σ H1 (en.ex x1) _ fun w H2 d2 ⟨j, e2, s2⟩ x2 r2 _ => by
    subst e1 e2
    cases r1
    cases r2
    exact ⟨i, j, rfl, rfl, _, rfl, q _ H2 (h i j s1 s2) (x1.trans x2)⟩)
end
theorem eva_consS {S1 : D → Prop} {S2 : List D → Prop} (ha : EvN X Hb e Γ fr S1) (hr : EvA X Hb es Γ S2) (hs : starEach (e :: es) X.env = (false, eval e X.env) :: starEach es X.env := by rfl) : EvA X Hb (e :: es) Γ (fun z => ∃ d ds, z = d :: ds ∧ S1 d ∧ S2 ds) :=
  eva_consN ha hr (fun d ds a b => ⟨d, ds, rfl, a, b⟩) hs
theorem evn_lstS {SA : List D → Prop} (h : EvA X Hb es Γ SA) (hl : ∀ ds, SA ds → ds.length ≤ 1000) : EvN X Hb (.List es pos) Γ true (fun z => ∃ ds, z = .lst ds ∧ SA ds) := evn_lst h hl
/-- the size of an int's square and more -/
theorem natAbs_add_lt {x y : Int} {n : Nat} (hx : x.natAbs < 2 ^ n) (hy : y.natAbs < 2 ^ n) : (x + y).natAbs < 2 ^ (n + 1) := by
  have := Int.natAbs_add_le x y
  rw [Nat.pow_succ]
  omega
theorem mulOk_bits {i j : Int} {a b : Nat} (hi : i.natAbs < 2 ^ a) (hj : j.natAbs < 2 ^ b) (h : a + b ≤ 134217728) : IntMulOk i j :=
  mulOk_of_bits (intBits_le hi) (intBits_le hj) h
theorem natAbs_mul_lt {x y : Int} {n m : Nat} (hx : x.natAbs < 2 ^ n) (hy : y.natAbs < 2 ^ m) : (x * y).natAbs < 2 ^ (n + m) := wide_lt hx hy
theorem natAbs_mono {x : Int} {n m : Nat} (h : n ≤ m) (hx : x.natAbs < 2 ^ n) : x.natAbs < 2 ^ m := Nat.lt_of_lt_of_le hx (Nat.pow_le_pow_right (by decide) h)
/-- a divisor of at most 9000 bits -/
theorem divX {i j : Int} {n : Nat} (h0 : j ≠ 0) (h : j.natAbs < 2 ^ n) (hn : n ≤ 9000) (h1 : 0 < n) : CDivX i j := ⟨h0, PyProof.noPylong_of_log2 (Nat.lt_of_lt_of_le (log2_small h1 h) hn)⟩
theorem fdiv_natAbs {i j : Int} (hi : 0 ≤ i) (hj : 0 < j) : 0 ≤ i.fdiv j ∧ (i.fdiv j).natAbs ≤ i.natAbs := by
  rw [Int.fdiv_eq_ediv_of_nonneg i (Int.le_of_lt hj)]
  have h0 := Int.ediv_nonneg hi (Int.le_of_lt hj)
  have h1 := Int.ediv_le_self j hi
  exact ⟨h0, by omega⟩
theorem fmod_range {i j : Int} (hj : 0 < j) : 0 ≤ i.fmod j ∧ i.fmod j < j := by
  rw [Int.fmod_eq_emod_of_nonneg i (Int.le_of_lt hj)]
  exact ⟨Int.emod_nonneg i (by omega), Int.emod_lt_of_pos i hj⟩
end
end L3

namespace L3
open PySem PySem.Spec PyProof.Rows L2
/-- a script's ints -/
def ScriptB (ns : List Int) : Prop := ∀ n ∈ ns, n.natAbs < 2 ^ (bigB - 1)
/-- a law's promise: True comes out -/
def spLaw (K : PySem.W.Frag) : Sp := fun vs H Q _ => TbOk K H ∧ ∃ (a : Addr) (ns : List Int), vs = [.ref a] ∧ SqL K H a (ns.map V.int) ∧ ns.length ≤ 63 ∧ ScriptB ns ∧ ∀ H', Q (.bl true) H'
/-- where the law ends well -/
abbrev lawEnds : Ends := { nx := fun _ _ => False, rt := fun v _ => v = .bl true }
section
variable {P : Program} {w : World} {K : PySem.W.Frag} {mg : Str → Option Value} {base : Heap}
theorem fnG_law {st : Stmt} {f : Addr} {fd : FuncData} {N : List Str} {x : Str} {k : Nat} (F : Fun K "law" "law" st f fd) (Sc : FnScope N [x] (defScope st))
    (hbody : ∀ cdv A outer s H, (A.deeper (envOfC "law" (defScope st) s.heap.objs.size f cdv)).guards = some [] → Room k (A.deeper (envOfC "law" (defScope st) s.heap.objs.size f cdv)) → ∀ ns : List Int, ns.length ≤ 63 → ScriptB ns →
      Go (bodyCx P w K mg base N "law" (defScope st) f cdv A outer s H E0) H (defBody st) lawEnds (slots0 N [.lst (ns.map .int)])) : FnG P w K mg base (k + 1) f fd [x] (spLaw K) := by
  refine fnG_of F Sc (fun vs H Q E h => ?_) (fun cdv A outer s H vs Q hg hr h => ?_)
  · obtain ⟨_, a, ns, e, _⟩ := h
    rw [e]; rfl
  · obtain ⟨tb, a, ns, e, hq, hl, hb, hk⟩ := h
    subst e
    have go := hbody cdv A outer s H hg hr ns hl hb _ _ (env_start (N := N) (.cons (.lst hq (repAll_ints ns)) .nil) tb)
    exact go.mono (fun _ _ h => h.elim) (fun v H' q => by rw [show v = .bl true from q]; exact hk H') (fun _ _ h => h) fun _ _ h => h
/-- the def with the lambda, by the parts of K; or there is none -/
theorem tabAt_none {K : PySem.W.Frag} {h : Heap} (hn : PySem.W.nsIn K mainGlobals "sorted_fractions" = some none ∨ PySem.W.nsIn K mainGlobals "sorted_fractions" = none) : TabAt K h := fun c P hc => by
  unfold PySem.W.tabIn at hc
  rcases hn with e | e <;> rw [e] at hc <;> cases hc
theorem tabAt_some {q : Program} {loose : List Str} {mean : ExcName → Option Value} {mb : Str → Option Value} {K : PySem.W.Frag} {h : Heap} (T : Top q loose mean mg mb h) (kin : K.In h) {f cc PP : Addr} {oc o2 : Value} {od d2 : Option Addr} {fd : FuncData} {sl s2 : Array (Option Value)} {vs : Array Value}
    (hn : PySem.W.nsIn K mainGlobals "sorted_fractions" = some (some (.ref f))) (hf : K.lookup f = some ⟨oc, od, .func fd, sl⟩) (hcd : fd.code = .ref cc) (hc : K.lookup cc = some ⟨o2, d2, .fields vs, s2⟩) (hv : vs[11]? = some (.ref PP)) (hP : K.lookup PP = none) (hrec : ((recsOf q).any fun e => e.name == ("sorted_fractions" : Str)) = true) : TabAt K h := fun c P ht => by
  have e0 : PySem.W.tabIn K "sorted_fractions" = some (cc, PP) := by
    unfold PySem.W.tabIn
    simp only [hn, hf, hcd, hc, hv]
  rw [e0] at ht
  cases ht
  obtain ⟨d, hd⟩ : ∃ d, (recsOf q).find? (fun e => e.name == ("sorted_fractions" : Str)) = some d := by
    cases z : (recsOf q).find? (fun e => e.name == ("sorted_fractions" : Str)) with
    | some d => exact ⟨d, rfl⟩
    | none =>
      obtain ⟨d, hm, hq⟩ := List.any_eq_true.mp hrec
      exact absurd hq (List.find?_eq_none.mp z d hm)
  exact ⟨PySem.W.tab_of T kin hd e0, hP⟩
theorem walkLaw {l : PySem.W.OpenLaw} {k : Nat} {q : Program} {loose : List Str} {XP : (Str → Option Value) → Heap → Prop} {YP : World → Heap → Prop} {dr : DefRec} {KK : Params → PySem.W.Frag} {x : Str} (most : l.most = some 63) (nodef : dr.params.defaults = []) (hr : Room k callerA)
    (hY : ∀ w h, YP w h → (KK w.params).In h)
    (tabs : ∀ (w : World) (loose : List Str) (mean : ExcName → Option Value) (mg mb : Str → Option Value) (h : Heap), (KK w.params).In h → Top q loose mean mg mb h → TabAt (KK w.params) h)
    (F : ∀ w mg fa h, (KK w.params).In h → h.Ns mainGlobals mg → mg dr.name = some (.ref fa) → ∃ fd : FuncData, (∀ s u, BindsTo s fd ⟨[u], []⟩ [(x, u)]) ∧ ∀ base : Heap, (KK w.params).In base → base.Ns mainGlobals mg → TabBs (KK w.params) base mg → FnG l.prog w (KK w.params) mg base k fa fd [x] (spLaw (KK w.params))) :
    PySem.W.WalkO q loose XP YP l.row.toRowW dr [] (fun f vs => PySem.call f vs) := by
  refine Att.attach_callB most nodef fun w s₀ s₁ mg mb fa o pm cd doc a vs ns G Y _ _ _ hmg obj hints len bits nogen => ?_
  obtain ⟨fd, bind, FF⟩ := F w mg fa _ (hY w _ Y) G.T.g hmg
  refine lawG (hY w _ Y) G.T.g G.T.b G.T.builtins G.T.nolimit nogen G.T.bmain (tabs w _ _ mg mb _ (hY w _ Y) G.T) obj hints (Nat.le_trans len (by decide)) hr FF bind fun H tb hS => ⟨tb, a, ns, rfl, hS, len, fun n hn => ?_, fun _ => rfl⟩
  have hb := intBits_natAbs (bits n hn)
  exact natAbs_mono (by show 1048576 ≤ bigB - 1; decide) hb
end
end L3

namespace L3
open PySem PySem.Spec PyProof.Rows L2
section
variable {X : Cx} {Hb Hb' : Hp} {a b c e : Expr} {es : List Expr} {Γ : Slots} {pos p' apos cpos : Pos} {d x y : D} {ds : List D} {S S' : D → Prop} {fr fr' : Bool} {D0 : Ends} {rest sts : List Stmt} {st : Stmt}
def isNon : D → Bool
  | .non => true
  | _ => false
theorem Rep.isNon {K : PySem.W.Frag} {H : Hp} {v : V} (r : Rep K H v d) : decide (v = .non) = L3.isNon d := by
  cases r <;> rfl
/-- x is None, x is not None -/
theorem ev_isN {j : Nat} {p2 : Pos} (ha : Ev X Hb a Γ fr d) : Ev X Hb (.Compare a [.Is] [.Constant .none j p2] pos) Γ true (.bl (isNon d)) := fun σ H en Q q =>
  SemE.of (pe_cmpR op_isN (semE X a) pe_non (nomark _)) (ha σ H en _ fun v H1 d1 e1 x1 r1 _ => by
    subst e1
    refine ⟨rfl, ?_⟩
    rw [r1.isNon]
    exact q _ H1 _ rfl x1 (.bl _) fun _ => trivial)
theorem ev_notN {j : Nat} {p2 : Pos} (ha : Ev X Hb a Γ fr d) : Ev X Hb (.Compare a [.IsNot] [.Constant .none j p2] pos) Γ true (.bl (!isNon d)) := fun σ H en Q q =>
  SemE.of (pe_cmpR op_notN (semE X a) pe_non (nomark _)) (ha σ H en _ fun v H1 d1 e1 x1 r1 _ => by
    subst e1
    refine ⟨rfl, ?_⟩
    rw [r1.isNon]
    exact q _ H1 _ rfl x1 (.bl _) fun _ => trivial)
theorem evt_isN {j : Nat} {p2 : Pos} (ha : Ev X Hb a Γ fr d) : EvB X Hb (.Compare a [.Is] [.Constant .none j p2] pos) Γ (isNon d) := fun σ H en Q q =>
  SemT.of (pt_cmpR op_isN (semE X a) pe_non (nomark _)) (ha σ H en _ fun v H1 d1 e1 x1 r1 _ => by
    subst e1
    refine ⟨rfl, ?_⟩
    rw [r1.isNon]
    exact ⟨_, rfl, q _ H1 rfl x1⟩)
theorem evt_notN {j : Nat} {p2 : Pos} (ha : Ev X Hb a Γ fr d) : EvB X Hb (.Compare a [.IsNot] [.Constant .none j p2] pos) Γ (!isNon d) := fun σ H en Q q =>
  SemT.of (pt_cmpR op_notN (semE X a) pe_non (nomark _)) (ha σ H en _ fun v H1 d1 e1 x1 r1 _ => by
    subst e1
    refine ⟨rfl, ?_⟩
    rw [r1.isNon]
    exact ⟨_, rfl, q _ H1 rfl x1⟩)
/-- bools compared -/
theorem evt_neB {i j : Bool} (ha : Ev X Hb a Γ fr (.bl i)) (hb : Ev X Hb b Γ fr' (.bl j)) : EvB X Hb (.Compare a [.NotEq] [b] pos) Γ (!decide (i = j)) := fun σ H en Q q =>
  SemT.of (pt_cmpR op_ne (semE X a) (semE X b) (nomark _)) (ha σ H en _ fun v H1 d1 e1 x1 r1 _ => hb σ H1 (en.ex x1) _ fun w H2 d2 e2 x2 r2 _ => by
    subst e1 e2
    cases r1
    cases r2
    refine ⟨rfl, ?_⟩
    rw [show decide (V.bl i = V.bl j) = decide (i = j) from by simp]
    exact ⟨_, rfl, q _ H2 rfl (x1.trans x2)⟩)
theorem evt_eqB {i j : Bool} (ha : Ev X Hb a Γ fr (.bl i)) (hb : Ev X Hb b Γ fr' (.bl j)) : EvB X Hb (.Compare a [.Eq] [b] pos) Γ (decide (i = j)) := fun σ H en Q q =>
  SemT.of (pt_cmpR op_eq (semE X a) (semE X b) (nomark _)) (ha σ H en _ fun v H1 d1 e1 x1 r1 _ => hb σ H1 (en.ex x1) _ fun w H2 d2 e2 x2 r2 _ => by
    subst e1 e2
    cases r1
    cases r2
    refine ⟨rfl, ?_⟩
    rw [show decide (V.bl i = V.bl j) = decide (i = j) from by simp]
    exact ⟨_, rfl, q _ H2 rfl (x1.trans x2)⟩)
/-- data compared, no dict within -/
theorem evt_neD {k : Nat} {d1 d2 : D} (hr : Room k X.A) (ha : Ev X Hb a Γ fr d1) (hb : Ev X Hb b Γ fr' d2) (o1 : d1.ok = true) (o2 : d2.ok = true) (s1 : SeqAt.shaped d1.py = true) (s2 : SeqAt.shaped d2.py = true) : EvB X Hb (.Compare a [.NotEq] [b] pos) Γ (!PyData.eqv d1.py d2.py) := fun σ H en Q q =>
  SemT.of (pt_cmpR (op_neR hr.units) (semE X a) (semE X b) (nomark _)) (ha σ H en _ fun v H1 e1 z1 x1 r1 _ => hb σ H1 (en.ex x1) _ fun w H2 e2 z2 x2 r2 _ => by
    subst z1 z2
    exact ⟨_, _, r1.ex x2, r2, o1, o2, s1, s2, _, rfl, q _ H2 rfl (x1.trans x2)⟩)
theorem evt_eqD {k : Nat} {d1 d2 : D} (hr : Room k X.A) (ha : Ev X Hb a Γ fr d1) (hb : Ev X Hb b Γ fr' d2) (o1 : d1.ok = true) (o2 : d2.ok = true) (s1 : SeqAt.shaped d1.py = true) (s2 : SeqAt.shaped d2.py = true) : EvB X Hb (.Compare a [.Eq] [b] pos) Γ (PyData.eqv d1.py d2.py) := fun σ H en Q q =>
  SemT.of (pt_cmpR (op_eqR hr.units) (semE X a) (semE X b) (nomark _)) (ha σ H en _ fun v H1 e1 z1 x1 r1 _ => hb σ H1 (en.ex x1) _ fun w H2 e2 z2 x2 r2 _ => by
    subst z1 z2
    exact ⟨_, _, r1.ex x2, r2, o1, o2, s1, s2, _, rfl, q _ H2 rfl (x1.trans x2)⟩)
theorem ev_neD {k : Nat} {d1 d2 : D} (hr : Room k X.A) (ha : Ev X Hb a Γ fr d1) (hb : Ev X Hb b Γ fr' d2) (o1 : d1.ok = true) (o2 : d2.ok = true) (s1 : SeqAt.shaped d1.py = true) (s2 : SeqAt.shaped d2.py = true) : Ev X Hb (.Compare a [.NotEq] [b] pos) Γ true (.bl (!PyData.eqv d1.py d2.py)) := fun σ H en Q q =>
  SemE.of (pe_cmpR (op_neR hr.units) (semE X a) (semE X b) (nomark _)) (ha σ H en _ fun v H1 e1 z1 x1 r1 _ => hb σ H1 (en.ex x1) _ fun w H2 e2 z2 x2 r2 _ => by
    subst z1 z2
    exact ⟨_, _, r1.ex x2, r2, o1, o2, s1, s2, q _ H2 _ rfl (x1.trans x2) (.bl _) fun _ => trivial⟩)
theorem ev_eqD {k : Nat} {d1 d2 : D} (hr : Room k X.A) (ha : Ev X Hb a Γ fr d1) (hb : Ev X Hb b Γ fr' d2) (o1 : d1.ok = true) (o2 : d2.ok = true) (s1 : SeqAt.shaped d1.py = true) (s2 : SeqAt.shaped d2.py = true) : Ev X Hb (.Compare a [.Eq] [b] pos) Γ true (.bl (PyData.eqv d1.py d2.py)) := fun σ H en Q q =>
  SemE.of (pe_cmpR (op_eqR hr.units) (semE X a) (semE X b) (nomark _)) (ha σ H en _ fun v H1 e1 z1 x1 r1 _ => hb σ H1 (en.ex x1) _ fun w H2 e2 z2 x2 r2 _ => by
    subst z1 z2
    exact ⟨_, _, r1.ex x2, r2, o1, o2, s1, s2, q _ H2 _ rfl (x1.trans x2) (.bl _) fun _ => trivial⟩)
/-- a <= b <= c, ints -/
theorem evt_chain {op op' : CmpOp} {g g' : Int → Int → Bool} {i j k : Int} {fr'' : Bool} (ho : OpR X (compareOp op) (rI0 fun i j => .bl (g i j))) (ho' : OpR X (compareOp op') (rI0 fun i j => .bl (g' i j))) (ha : Ev X Hb a Γ fr (.int i)) (hb : Ev X Hb b Γ fr' (.int j)) (hc : Ev X Hb c Γ fr'' (.int k))
    (hm : lastMarks [op, op'] [b, c] = false := by with_unfolding_all rfl) : EvB X Hb (.Compare a [op, op'] [b, c] pos) Γ (g i j && g' j k) := fun σ H en Q q =>
  SemT.of (pt_chain ho ho' (semE X a) (semE X b) (semE X c) hm) (ha σ H en _ fun v H1 e1 z1 x1 r1 _ => hb σ H1 (en.ex x1) _ fun w H2 e2 z2 x2 r2 _ => by
    subst z1 z2
    cases r1
    cases r2
    refine ⟨i, j, rfl, rfl, g i j, rfl, ?_⟩
    cases hg : g i j with
    | true =>
      refine iteT ?_
      refine hc σ H2 (en.ex (x1.trans x2)) _ fun u H3 e3 z3 x3 r3 _ => ?_
      subst z3
      cases r3
      exact ⟨j, k, rfl, rfl, _, rfl, q _ H3 (by rw [hg]; rfl) ((x1.trans x2).trans x3)⟩
    | false =>
      refine iteF ?_
      exact ⟨_, rfl, q _ H2 (by rw [hg]; rfl) (x1.trans x2)⟩)
/-! isinstance of a built-in class -/
/-- the type's name of data -/
def tyD : D → String
  | .non => "NoneType"
  | .bl _ => "bool"
  | .int _ => "int"
  | .str _ => "str"
  | .lst _ => "list"
  | .tup _ => "tuple"
  | .dct _ => "dict"
  | .ext _ => ""
theorem Rep.ty {K : PySem.W.Frag} {H : Hp} {v : V} (r : Rep K H v d) (ho : d.ok = true) : TyX K H v (.type (tyD d)) := by
  cases r with
  | non => exact .base .non
  | bl b => exact .base (.bl b)
  | int i => exact .base (.int i)
  | str x => exact .base (.str x)
  | lst hq _ =>
    rcases hq with (h | ⟨o, h⟩) | ⟨o, its, n, h, hc, _⟩
    · exact .base (.lst h)
    · exact .base (.frz h)
    · exact .kList h hc
  | tup hq _ =>
    rcases hq with (h | ⟨o, h⟩) | ⟨o, its, n, h, hc, _⟩
    · exact .base (.tup h)
    · exact .fTuple h
    · exact .kTuple h hc
  | dct hq _ =>
    rcases hq with h | ⟨o, h⟩
    · exact .base (.dK h)
    · exact .fDict h
  | ext _ => simp [D.ok] at ho
theorem evn_isI {S1 : D → Prop} {SB : Bool → Prop} {T x : Str} {Ts : String} {pn p2 : Pos} (hm : X.mg "isinstance" = none) (hm2 : X.mg x = none) (ha : EvN X Hb a Γ fr S1) (h : ∀ d, S1 d → d.ok = true ∧ ∃ k, kitB (tyD d) Ts = some k ∧ SB k) (hv : bootBuiltins x = some (.type Ts) := by decide +kernel)
    (hg : Gl X "isinstance" := by rfl) (hg2 : Gl X x := by rfl) (hn : x ≠ "__name__" := by decide) (hd : (x == ("__debug__" : Str)) = false := by decide) (he : starEach (a :: [.Name x p2]) X.env = (false, eval a X.env) :: starEach [.Name x p2] X.env := by rfl) (he2 : starEach ([.Name x p2]) X.env = (false, eval (.Name x p2) X.env) :: starEach [] X.env := by rfl) (hpl : (backTo pos (starEach [.Name x p2] X.env)).any (·.1) = false := by rfl) :
    EvN X Hb (.Call (.Name "isinstance" pn) [a, .Name x p2] [] pos) Γ true (fun z => ∃ k, z = .bl k ∧ SB k) := fun σ H en Q q =>
  SemE.of (pe_callB call_isi hg hm (by decide +kernel) (pa_cons (semE X a) (pa_cons (pe_bltn (v := .ty Ts) hg2 hm2 hv rfl hn hd) pa_nil he2) he) (by decide) (by decide) he hpl) (ha σ H en _ fun v H1 d1 s x1 r1 _ => by
    obtain ⟨ho, k, hk, sb⟩ := h d1 s
    exact ⟨v, .ty Ts, .type (tyD d1), .type Ts, k, rfl, .ty Ts, r1.ty ho, kit_ty hk, q _ H1 _ ⟨k, rfl, sb⟩ x1 (.bl k) fun _ => trivial⟩)
theorem ev_isI {x : Str} {Ts : String} {k : Bool} {pn p2 : Pos} (hm : X.mg "isinstance" = none) (hm2 : X.mg x = none) (ha : Ev X Hb a Γ fr d) (ho : d.ok = true) (hk : kitB (tyD d) Ts = some k) (hv : bootBuiltins x = some (.type Ts) := by decide +kernel)
    (hg : Gl X "isinstance" := by rfl) (hg2 : Gl X x := by rfl) (hn : x ≠ "__name__" := by decide) (hd : (x == ("__debug__" : Str)) = false := by decide) (he : starEach (a :: [.Name x p2]) X.env = (false, eval a X.env) :: starEach [.Name x p2] X.env := by rfl) (he2 : starEach ([.Name x p2]) X.env = (false, eval (.Name x p2) X.env) :: starEach [] X.env := by rfl) (hpl : (backTo pos (starEach [.Name x p2] X.env)).any (·.1) = false := by rfl) :
    Ev X Hb (.Call (.Name "isinstance" pn) [a, .Name x p2] [] pos) Γ true (.bl k) :=
  (evn_isI (SB := (· = k)) (T := x) hm hm2 ha (fun d' e => by rw [e]; exact ⟨ho, k, hk, rfl⟩) hv hg hg2 hn hd he he2 hpl).imp fun _ ⟨k', e1, e2⟩ => by rw [e1, e2]
theorem kit_tt : kitB "tuple" "tuple" = some true := by decide +kernel
theorem kit_nt : kitB "NoneType" "tuple" = some false := by decide +kernel
theorem kit_lt : kitB "list" "tuple" = some false := by decide +kernel
theorem kit_it : kitB "int" "tuple" = some false := by decide +kernel
theorem kit_bt : kitB "bool" "tuple" = some false := by decide +kernel
theorem kit_st : kitB "str" "tuple" = some false := by decide +kernel
theorem kit_dt : kitB "dict" "tuple" = some false := by decide +kernel
theorem kit_ii : kitB "int" "int" = some true := by decide +kernel
theorem kit_bi : kitB "bool" "int" = some true := by decide +kernel
theorem kit_ni : kitB "NoneType" "int" = some false := by decide +kernel
theorem kit_si : kitB "str" "int" = some false := by decide +kernel
theorem kit_li : kitB "list" "int" = some false := by decide +kernel
theorem kit_ti : kitB "tuple" "int" = some false := by decide +kernel
theorem kit_di : kitB "dict" "int" = some false := by decide +kernel
theorem kit_ib : kitB "int" "bool" = some false := by decide +kernel
theorem kit_bb : kitB "bool" "bool" = some true := by decide +kernel
theorem kit_nb : kitB "NoneType" "bool" = some false := by decide +kernel
theorem kit_sb : kitB "str" "bool" = some false := by decide +kernel
theorem kit_lb : kitB "list" "bool" = some false := by decide +kernel
theorem kit_tb : kitB "tuple" "bool" = some false := by decide +kernel
theorem kit_db : kitB "dict" "bool" = some false := by decide +kernel
end
end L3

namespace L3
open PySem PySem.Spec PyProof.Rows L2
/-- some slots alone are still told -/
def keepG : List Bool → Slots → Slots
  | _, [] => []
  | [], _ :: r => .any :: keepG [] r
  | true :: ks, e :: r => e :: keepG ks r
  | false :: ks, _ :: r => .any :: keepG ks r
theorem keep_paired {K : PySem.W.Frag} {Hz H : Hp} : ∀ {ks : List Bool} {Γ : Slots} {σ : L2.St}, Paired (EntOk K Hz H) Γ σ → Paired (EntOk K Hz H) (keepG ks Γ) σ
  | _, _, _, .nil => by cases ‹List Bool› <;> exact .nil
  | [], _, _, .cons _ r => .cons trivial (keep_paired r)
  | true :: _, _, _, .cons h r => .cons h (keep_paired r)
  | false :: _, _, _, .cons _ r => .cons trivial (keep_paired r)
theorem keep_owns : ∀ {ks : List Bool} {Γ : Slots}, (owns (keepG ks Γ)).Sublist (owns Γ)
  | ks, [] => by cases ks <;> exact List.Sublist.refl _
  | [], e :: r => by
    rw [owns_cons]
    exact List.sublist_append_of_sublist_right (keep_owns (ks := []) (Γ := r))
  | true :: ks, e :: r => by
    show (owns (e :: keepG ks r)).Sublist _
    rw [owns_cons, owns_cons]
    exact List.Sublist.append (List.Sublist.refl _) keep_owns
  | false :: ks, e :: r => by
    rw [owns_cons]
    exact List.sublist_append_of_sublist_right (keep_owns (ks := ks) (Γ := r))
theorem EnvOk.keep {K : PySem.W.Frag} {Hb H : Hp} {Γ : Slots} {σ : L2.St} (ks : List Bool) (h : EnvOk K Hb Γ σ H) : EnvOk K Hb (keepG ks Γ) σ H := by
  obtain ⟨Hz, h1, h2, h3, h4⟩ := h
  exact ⟨Hz, h1, h2, keep_paired h3, List.Nodup.sublist keep_owns h4⟩
section
variable {X : Cx} {Hb Hb' : Hp} {a b c e : Expr} {es : List Expr} {Γ : Slots} {pos p' apos cpos : Pos} {d x y : D} {ds : List D} {S S' : D → Prop} {fr fr' : Bool} {D0 : Ends} {rest sts : List Stmt} {st : Stmt}
/-- the end of a turn: some slots are kept -/
theorem go_endK (ks : List Bool) {Γ' : Slots} (h : keepG ks Γ = Γ') (hD : ∀ σ H, EnvOk X.K Hb Γ' σ H → D0.nx σ H := by exact fun _ _ h => h) : Go X Hb [] D0 Γ := go_nil fun σ H en => hD σ H (by rw [← h]; exact en.keep ks)
theorem go_keep (ks : List Bool) {Γ' : Slots} (h : keepG ks Γ = Γ') (g : Go X Hb sts D0 Γ') : Go X Hb sts D0 Γ := go_weak (fun _ _ en => by rw [← h]; exact en.keep ks) g
/-- for i in range(..), nothing carried from turn to turn -/
theorem go_rep {body : List Stmt} (ix : Nat) {xn : Str} {SR : Int → Nat → Prop} (ks : List Bool) {Γ0 : Slots} (h0 : keepG ks Γ = Γ0) (hit : EvR X Hb e Γ SR)
    (hs : ∀ (lo : Int) (n i : Nat), SR lo n → i < n → Go X Hb body { D0 with nx := fun σ H => EnvOk X.K Hb Γ0 σ H, ct := fun σ H => EnvOk X.K Hb Γ0 σ H, bk := fun σ H => SemSs X rest D0 σ H } (Γ0.set ix (.dat (.int (lo + i)))))
    (hd : Go X Hb rest D0 Γ0) (hp : PassesOwn (model X.prog X.w) X.A X.env X.xe) (hc : X.calm = true) (nd : X.N.Nodup) (hi : X.N[ix]? = some xn := by rfl) (hx : Loc X.env.scope xn := by first | exact Or.inl rfl | exact Or.inr rfl)
    (hfs : ∀ x, foldedSetIterable e X.env x = pure x := by intro _; rfl) (hf : X.fn xn = true ∨ X.env.scope.names.lookup xn = some .local := by first | exact .inl rfl | exact .inr rfl) :
    Go X Hb (.For (.Name xn p') e body [] pos :: rest) D0 Γ := by
  intro σ H en
  have en0 : EnvOk X.K Hb Γ0 σ H := by rw [← h0]; exact en.keep ks
  obtain ⟨wi, hpi, hw⟩ := hit
  refine SemSs.cons (ps_for hp hc (hpi _) (pg_name nd hi hx hf) (semSs X body) hfs) ?_
  refine hw σ H en _ fun lo n H' s x => ?_
  refine for_range (lo := lo) (n := n) (fun i σ H => EnvOk X.K Hb Γ0 σ H) (en0.ex x) ?_ ?_
  · intro i σ2 H2 hin en2
    exact hs lo n i s hin _ H2 (en2.setDat (.int _) (.inl rfl))
  · intro σ2 H2 en2
    exact hd _ H2 en2
/-- for i in range(..), the slots by the turn -/
theorem go_forG {body : List Stmt} (ix : Nat) {xn : Str} {lo : Int} {n : Nat} (G : Nat → Slots) (ks : List Bool) (h0 : keepG ks Γ = G 0) (hit : EvR X Hb e Γ (fun lo' n' => lo' = lo ∧ n' = n))
    (hs : ∀ i : Nat, i < n → Go X Hb body { D0 with nx := fun σ H => EnvOk X.K Hb (G (i + 1)) σ H, ct := fun σ H => EnvOk X.K Hb (G (i + 1)) σ H, bk := fun σ H => SemSs X rest D0 σ H } ((G i).set ix (.dat (.int (lo + i)))))
    (hd : Go X Hb rest D0 (G n)) (hp : PassesOwn (model X.prog X.w) X.A X.env X.xe) (hc : X.calm = true) (nd : X.N.Nodup) (hi : X.N[ix]? = some xn := by rfl) (hx : Loc X.env.scope xn := by first | exact Or.inl rfl | exact Or.inr rfl)
    (hfs : ∀ x, foldedSetIterable e X.env x = pure x := by intro _; rfl) (hf : X.fn xn = true ∨ X.env.scope.names.lookup xn = some .local := by first | exact .inl rfl | exact .inr rfl) :
    Go X Hb (.For (.Name xn p') e body [] pos :: rest) D0 Γ := by
  intro σ H en
  have en0 : EnvOk X.K Hb (G 0) σ H := by rw [← h0]; exact en.keep ks
  obtain ⟨wi, hpi, hw⟩ := hit
  refine SemSs.cons (ps_for hp hc (hpi _) (pg_name nd hi hx hf) (semSs X body) hfs) ?_
  refine hw σ H en _ fun lo' n' H' ⟨e1, e2⟩ x => ?_
  subst e1 e2
  refine for_range (lo := lo') (n := n') (fun i σ H => EnvOk X.K Hb (G i) σ H) (en0.ex x) ?_ ?_
  · intro i σ2 H2 hin en2
    exact hs i hin _ H2 (en2.setDat (.int _) (.inl rfl))
  · intro σ2 H2 en2
    exact hd _ H2 en2
/-- for x in a list, nothing carried -/
theorem go_repL {body : List Stmt} (ix : Nat) {xn : Str} {S1 : List D → Prop} (ks : List Bool) {Γ0 : Slots} (h0 : keepG ks Γ = Γ0) (hit : EvI X Hb e Γ S1) (hst : ∀ ds x, S1 ds → x ∈ ds → Sto Γ0 x)
    (hs : ∀ Hb', Ex Hb Hb' → ∀ ds x, S1 ds → x ∈ ds → Go X Hb' body { D0 with nx := fun σ H => EnvOk X.K Hb' Γ0 σ H, ct := fun σ H => EnvOk X.K Hb' Γ0 σ H, bk := fun σ H => SemSs X rest D0 σ H } (Γ0.set ix (.dat x)))
    (hd : Go X Hb rest D0 Γ0) (hp : PassesOwn (model X.prog X.w) X.A X.env X.xe) (hc : X.calm = true) (nd : X.N.Nodup) (hi : X.N[ix]? = some xn := by rfl) (hx : Loc X.env.scope xn := by first | exact Or.inl rfl | exact Or.inr rfl)
    (hfs : ∀ x, foldedSetIterable e X.env x = pure x := by intro _; rfl) (hf : X.fn xn = true ∨ X.env.scope.names.lookup xn = some .local := by first | exact .inl rfl | exact .inr rfl) :
    Go X Hb (.For (.Name xn p') e body [] pos :: rest) D0 Γ := fun σ H en => by
  refine SemSs.cons (ps_for hp hc (pi_list (semE X e)) (pg_name nd hi hx hf) (semSs X body) hfs) ?_
  refine hit σ H en _ fun a vs H' ds s x hq ra => ?_
  have en' := en.ex x
  have eb : Ex Hb (hide H' (owns Γ)) := en'.wide.1.toEx
  have en1 : EnvOk X.K (hide H' (owns Γ)) Γ0 σ H' := by
    rw [← h0]
    exact EnvOk.keep ks ⟨_, en'.wide.1.self, en'.wide.2⟩
  refine ⟨a, rfl, ⟨_, SqL.ex hide_ex hq⟩, for_list (K := X.K) (a := a) (xs := vs) (fun i σ H => EnvOk X.K (hide H' (owns Γ)) Γ0 σ H) en1 (fun i σ2 H2 _ en2 => SqL.ex en2.base hq) ?_ ?_⟩
  · intro i v σ2 H2 hv en2
    obtain ⟨x, hx', rx⟩ := ra.get' hv
    have hm := List.mem_of_getElem? hx'
    exact hs _ eb ds x s hm _ H2 (en2.setDat (rx.ex en2.base) (hst ds x s hm))
  · intro σ2 H2 en2
    exact hd _ H2 (en2.wb en'.wide.1)
end
end L3

namespace L3
open PySem PySem.Spec PyProof.Rows L2
theorem EvR.imp {X : Cx} {Hb : Hp} {e : Expr} {Γ : Slots} {SR SR' : Int → Nat → Prop} (h : EvR X Hb e Γ SR) (hs : ∀ lo n, SR lo n → SR' lo n) : EvR X Hb e Γ SR' :=
  let ⟨wi, h1, h2⟩ := h
  ⟨wi, h1, fun σ H en R q => h2 σ H en R fun lo n H' s x => q lo n H' (hs lo n s) x⟩
section
variable {X : Cx} {Hb Hb' : Hp} {a b c e : Expr} {es : List Expr} {Γ : Slots} {pos p' apos cpos : Pos} {d x y : D} {ds : List D} {S S' : D → Prop} {fr fr' : Bool} {D0 : Ends} {rest sts : List Stmt} {st : Stmt}
/-- return True -/
theorem go_retT {j : Nat} {p2 : Pos} (h : ∀ H', D0.rt (.bl true) H') : Go X Hb (.Return (some (.Constant (.bool true) j p2)) pos :: rest) D0 Γ := go_ret ev_bl (.inl rfl) fun v H' ⟨_, r, _⟩ => by cases r; exact h H'
end
end L3

namespace L3
open PySem PySem.Spec PyProof.Rows L2
section
variable {X : Cx} {Hb Hb' : Hp} {a b c e : Expr} {es : List Expr} {Γ : Slots} {pos p' apos cpos : Pos} {d x y : D} {ds : List D} {S S' : D → Prop} {fr fr' : Bool} {D0 : Ends} {rest sts : List Stmt} {st : Stmt}
/-- x is True -/
theorem ev_isB {i k : Bool} (ha : Ev X Hb a Γ fr (.bl i)) (hb : Ev X Hb b Γ fr' (.bl k)) : Ev X Hb (.Compare a [.Is] [b] pos) Γ true (.bl (decide (i = k))) := fun σ H en Q q =>
  SemE.of (pe_cmpR op_is_bl (semE X a) (semE X b) (nomark _)) (ha σ H en _ fun v H1 d1 e1 x1 r1 _ => hb σ H1 (en.ex x1) _ fun w H2 d2 e2 x2 r2 _ => by
    subst e1 e2
    cases r1
    cases r2
    exact ⟨i, k, rfl, rfl, q _ H2 _ rfl (x1.trans x2) (.bl _) fun _ => FreshD.flat rfl⟩)
theorem ev_notB {i k : Bool} (ha : Ev X Hb a Γ fr (.bl i)) (hb : Ev X Hb b Γ fr' (.bl k)) : Ev X Hb (.Compare a [.IsNot] [b] pos) Γ true (.bl (!decide (i = k))) := fun σ H en Q q =>
  SemE.of (pe_cmpR op_isnot_bl (semE X a) (semE X b) (nomark _)) (ha σ H en _ fun v H1 d1 e1 x1 r1 _ => hb σ H1 (en.ex x1) _ fun w H2 d2 e2 x2 r2 _ => by
    subst e1 e2
    cases r1
    cases r2
    exact ⟨i, k, rfl, rfl, q _ H2 _ rfl (x1.trans x2) (.bl _) fun _ => FreshD.flat rfl⟩)
theorem evt_isB {i k : Bool} (ha : Ev X Hb a Γ fr (.bl i)) (hb : Ev X Hb b Γ fr' (.bl k)) : EvB X Hb (.Compare a [.Is] [b] pos) Γ (decide (i = k)) := fun σ H en Q q =>
  SemT.of (pt_cmpR op_is_bl (semE X a) (semE X b) (nomark _)) (ha σ H en _ fun v H1 d1 e1 x1 r1 _ => hb σ H1 (en.ex x1) _ fun w H2 d2 e2 x2 r2 _ => by
    subst e1 e2
    cases r1
    cases r2
    exact ⟨i, k, rfl, rfl, _, rfl, q _ H2 rfl (x1.trans x2)⟩)
theorem evt_notB {i k : Bool} (ha : Ev X Hb a Γ fr (.bl i)) (hb : Ev X Hb b Γ fr' (.bl k)) : EvB X Hb (.Compare a [.IsNot] [b] pos) Γ (!decide (i = k)) := fun σ H en Q q =>
  SemT.of (pt_cmpR op_isnot_bl (semE X a) (semE X b) (nomark _)) (ha σ H en _ fun v H1 d1 e1 x1 r1 _ => hb σ H1 (en.ex x1) _ fun w H2 d2 e2 x2 r2 _ => by
    subst e1 e2
    cases r1
    cases r2
    exact ⟨i, k, rfl, rfl, _, rfl, q _ H2 rfl (x1.trans x2)⟩)
end
end L3

namespace L3
open PySem PySem.Spec PyProof.Rows L2
/-! ### targets: a name, a tuple of targets -/
inductive Tg where
  | nm (i : Nat)
  | tp (ts : List Tg)
mutual
def Tg.g (K : PySem.W.Frag) : Tg → TG
  | .nm i => gName i
  | .tp ts => gTup K ts.length (Tg.gs K ts)
def Tg.gs (K : PySem.W.Frag) : List Tg → TGs
  | [] => gNil
  | t :: ts => gCons (Tg.g K t) (Tg.gs K ts)
end
mutual
def Tg.slots : Tg → List Nat
  | .nm i => [i]
  | .tp ts => Tg.slotsAll ts
def Tg.slotsAll : List Tg → List Nat
  | [] => []
  | t :: ts => Tg.slots t ++ Tg.slotsAll ts
end
mutual
def Put : Tg → D → Slots → Slots → Prop
  | .nm i, d, Γ, Γ' => Sto Γ d ∧ Γ' = Γ.set i (.dat d)
  | .tp ts, d, Γ, Γ' => ∃ ds, d = .tup ds ∧ Puts ts ds Γ Γ'
def Puts : List Tg → List D → Slots → Slots → Prop
  | [], ds, Γ, Γ' => ds = [] ∧ Γ' = Γ
  | t :: ts, ds, Γ, Γ' => ∃ d dr Γ1, ds = d :: dr ∧ Put t d Γ Γ1 ∧ Puts ts dr Γ1 Γ'
end
theorem Puts.length : ∀ {ts : List Tg} {ds : List D} {Γ Γ' : Slots}, Puts ts ds Γ Γ' → ds.length = ts.length
  | [], _, _, _, h => by rw [h.1]; rfl
  | t :: ts, ds, Γ, Γ', h => by
    obtain ⟨d, dr, Γ1, e, _, h2⟩ := h
    rw [e, List.length_cons, List.length_cons, Puts.length h2]
theorem set_wipe {i : Nat} {v : Option V} : ∀ {own : List Nat} {σ : L2.St}, i ∈ own → wipe (σ.set i v) own = wipe σ own
  | j :: own, σ, h => by
    unfold wipe
    by_cases e : i ∈ own
    · rw [set_wipe e]
    · have hij : i = j := by rcases List.mem_cons.mp h with h | h; exact h; exact absurd h e
      subst hij
      have key : ∀ (own : List Nat) (σ : L2.St), i ∉ own → wipe (σ.set i v) own = (wipe σ own).set i v := by
        intro own
        induction own with
        | nil => intro σ _; rfl
        | cons k own ih =>
          intro σ hk
          unfold wipe
          rw [ih σ fun z => hk (List.mem_cons_of_mem _ z), List.set_comm _ _ fun z => hk (by rw [z]; exact List.mem_cons_self)]
      rw [key own σ e, List.set_set]
theorem wipe_wipe : ∀ (own : List Nat) (σ : L2.St), wipe (wipe σ own) own = wipe σ own := by
  have key : ∀ (vs own : List Nat) (σ : L2.St), (∀ i ∈ vs, i ∈ own) → wipe (wipe σ vs) own = wipe σ own := by
    intro vs
    induction vs with
    | nil => intro own σ _; rfl
    | cons v vs ih =>
      intro own σ h
      show wipe ((wipe σ vs).set v none) own = _
      rw [set_wipe (h v List.mem_cons_self), ih own σ fun i m => h i (List.mem_cons_of_mem _ m)]
  exact fun own σ => key own own σ fun _ h => h
mutual
theorem put_ok {K : PySem.W.Frag} {Hb H : Hp} {own : List Nat} : ∀ {t : Tg} {d : D} {Γ Γ' : Slots} {σ : L2.St} {v : V}, Put t d Γ Γ' → (∀ i ∈ t.slots, i ∈ own) → EnvOk K Hb Γ σ H → Rep K H v d → ∀ Q : L2.St → Hp → Prop, (∀ σ', EnvOk K Hb Γ' σ' H → wipe σ' own = wipe σ own → Q σ' H) → t.g K v σ H Q
  | .nm i, d, Γ, Γ', σ, v, ⟨h1, h2⟩, ho, en, r, Q, q => by
    subst h2
    exact q _ (en.setDat r h1) (set_wipe (ho i List.mem_cons_self))
  | .tp ts, d, Γ, Γ', σ, v, ⟨ds, e, h⟩, ho, en, r, Q, q => by
    subst e
    cases r with
    | tup hq ra => exact ⟨_, _, rfl, hq, by rw [ra.length]; exact Puts.length h, puts_ok h ho en ra Q q⟩
theorem puts_ok {K : PySem.W.Frag} {Hb H : Hp} {own : List Nat} : ∀ {ts : List Tg} {ds : List D} {Γ Γ' : Slots} {σ : L2.St} {vs : List V}, Puts ts ds Γ Γ' → (∀ i ∈ Tg.slotsAll ts, i ∈ own) → EnvOk K Hb Γ σ H → RepAll K H vs ds → ∀ Q : L2.St → Hp → Prop, (∀ σ', EnvOk K Hb Γ' σ' H → wipe σ' own = wipe σ own → Q σ' H) → Tg.gs K ts vs σ H Q
  | [], ds, Γ, Γ', σ, vs, ⟨e1, e2⟩, _, en, r, Q, q => by
    subst e1 e2
    cases r
    exact ⟨rfl, q σ en rfl⟩
  | t :: ts, ds, Γ, Γ', σ, vs, ⟨d, dr, Γ1, e, h1, h2⟩, ho, en, r, Q, q => by
    subst e
    cases r with
    | cons r1 r2 => exact ⟨_, _, rfl, put_ok h1 (fun i m => ho i (List.mem_append_left _ m)) en r1 _ fun σ' en' w' => puts_ok h2 (fun i m => ho i (List.mem_append_right _ m)) en' r2 Q fun σ'' en'' w'' => q σ'' en'' (w''.trans w')⟩
end
/-- two names -/
theorem pg_two {X : Cx} {i j k : Nat} {x y : Str} {p1 p2 p3 : Pos} (hc : X.calm = true) (h1 : PG X (.Name x p1) (gName i)) (h2 : PG X (.Name y p2) (gName j)) : PG X (.Tuple [.Name x p1, .Name y p2] k p3) (Tg.g X.K (.tp [.nm i, .nm j])) :=
  pg_tup hc (pgs_cons h1 (pgs_cons h2 pgs_nil))
theorem pg_three {X : Cx} {i j l k : Nat} {x y z : Str} {p1 p2 p3 p4 : Pos} (hc : X.calm = true) (h1 : PG X (.Name x p1) (gName i)) (h2 : PG X (.Name y p2) (gName j)) (h3 : PG X (.Name z p3) (gName l)) : PG X (.Tuple [.Name x p1, .Name y p2, .Name z p3] k p4) (Tg.g X.K (.tp [.nm i, .nm j, .nm l])) :=
  pg_tup hc (pgs_cons h1 (pgs_cons h2 (pgs_cons h3 pgs_nil)))
/-! ### what a loop goes over, of any kind -/
def Jt (K : PySem.W.Frag) (Hz : Hp) (J : It) (ds : List D) : Prop :=
  ∃ (G : Hp → Prop) (Y : Nat → Hp → V → Hp → Prop), Walk J ds.length G Y ∧ (∀ H2, Ex Hz H2 → G H2) ∧ ∀ i H2 v H3, i < ds.length → Ex Hz H2 → Y i H2 v H3 → Ex H2 H3 ∧ ∃ d, ds[i]? = some d ∧ Rep K H3 v d
def EvJ (X : Cx) (Hb : Hp) (tg e : Expr) (Γ : Slots) (S : List D → Prop) : Prop :=
  ∃ wi : TI, PI X tg e wi ∧ ∀ σ H, EnvOk X.K Hb Γ σ H → ∀ R : It → Hp → Prop, (∀ J H' ds, S ds → Ex H H' → Jt X.K (hide H' (owns Γ)) J ds → R J H') → wi σ H R
/-- a tuple that stays -/
def EvIT (X : Cx) (Hb : Hp) (e : Expr) (Γ : Slots) (S : List D → Prop) : Prop := ∀ σ H, EnvOk X.K Hb Γ σ H → ∀ Q : VK, (∀ a vs H' ds, S ds → Ex H H' → SqT X.K (hide H' (owns Γ)) a vs → RepAll X.K (hide H' (owns Γ)) vs ds → Q (.ref a) H') → SemE X e σ H Q
section
variable {X : Cx} {Hb Hb' : Hp} {a b c e tg : Expr} {es : List Expr} {Γ : Slots} {pos p' apos cpos : Pos} {d x y : D} {ds : List D} {S S' : D → Prop} {fr fr' : Bool} {D0 : Ends} {rest sts : List Stmt} {st : Stmt}
theorem EvJ.imp {S1 S2 : List D → Prop} (h : EvJ X Hb tg e Γ S1) (f : ∀ ds, S1 ds → S2 ds) : EvJ X Hb tg e Γ S2 := let ⟨wi, h1, h2⟩ := h; ⟨wi, h1, fun σ H en R q => h2 σ H en R fun J H' ds s x j => q J H' ds (f ds s) x j⟩
theorem jt_list {K : PySem.W.Frag} {Hz : Hp} {p : Addr} {vs : List V} (hq : SqL K Hz p vs) (ra : RepAll K Hz vs ds) : Jt K Hz (Itl K p) ds := by
  refine ⟨_, _, ra.length ▸ walk_list (xs := vs), fun H2 e => SqL.ex e hq, fun i H2 v H3 hi e y => ?_⟩
  obtain ⟨rfl, hv⟩ := y
  obtain ⟨d, hd, r⟩ := ra.get' hv
  exact ⟨Ex.refl, d, hd, r.ex e⟩
theorem jt_tup {K : PySem.W.Frag} {Hz : Hp} {p : Addr} {vs : List V} (hq : SqT K Hz p vs) (ra : RepAll K Hz vs ds) : Jt K Hz (Itt K p) ds := by
  refine ⟨_, _, ra.length ▸ walk_tup (xs := vs), fun H2 e => SqT.ex e hq, fun i H2 v H3 hi e y => ?_⟩
  obtain ⟨rfl, hv⟩ := y
  obtain ⟨d, hd, r⟩ := ra.get' hv
  exact ⟨Ex.refl, d, hd, r.ex e⟩
theorem jt_range {K : PySem.W.Frag} {Hz : Hp} (lo : Int) (n : Nat) : Jt K Hz (Itr lo n) ((List.range n).map fun (i : Nat) => D.int (lo + i)) := by
  refine ⟨fun _ => True, YFn fun i => .int (lo + i), ?_, fun _ _ => trivial, fun i H2 v H3 hi e y => ?_⟩
  · rw [List.length_map, List.length_range]; exact walk_range
  · obtain ⟨rfl, rfl⟩ := y
    rw [List.length_map, List.length_range] at hi
    exact ⟨Ex.refl, _, by rw [List.getElem?_map, List.getElem?_range hi]; rfl, .int _⟩
theorem jt_enum {K : PySem.W.Frag} {Hz : Hp} {p : Addr} {vs : List V} (hq : SqL K Hz p vs) (ra : RepAll K Hz vs ds) : Jt K Hz (Ite K p) (ds.mapIdx fun i d => D.tup [.int (i : Nat), d]) := by
  refine ⟨_, _, by rw [List.length_mapIdx]; exact ra.length ▸ walk_enum (xs := vs), fun H2 e => SqL.ex e hq, fun i H2 v H3 hi e y => ?_⟩
  obtain ⟨T, x, y, rfl, hT, rfl, hx, hy⟩ := y
  cases hx
  obtain ⟨d, hd, r⟩ := ra.get' hy
  refine ⟨Ex.new hT, .tup [.int (i : Nat), d], by rw [List.getElem?_mapIdx, hd]; rfl, .tup (SqT.of upd_same) (.cons (.int _) (.cons ((r.ex e).ex (Ex.new hT)) .nil))⟩
theorem jt_zip {K : PySem.W.Frag} {Hz : Hp} {p q : Addr} {vs ws : List V} {es : List D} (hq : SqL K Hz p vs) (ra : RepAll K Hz vs ds) (hq2 : SqL K Hz q ws) (ra2 : RepAll K Hz ws es) : Jt K Hz (Itz K p q) (List.zipWith (fun a b => D.tup [a, b]) ds es) := by
  refine ⟨_, _, walk_zip (xs := vs) (ys := ws) (by rw [List.length_zipWith, ra.length, ra2.length]), fun H2 e => ⟨SqL.ex e hq, SqL.ex e hq2⟩, fun i H2 v H3 hi e y => ?_⟩
  obtain ⟨T, x, y, rfl, hT, rfl, hx, hy⟩ := y
  obtain ⟨d, hd, r⟩ := ra.get' hx
  obtain ⟨d2, hd2, r2⟩ := ra2.get' hy
  refine ⟨Ex.new hT, .tup [d, d2], by rw [List.getElem?_zipWith, hd, hd2], .tup (SqT.of upd_same) (.cons ((r.ex e).ex (Ex.new hT)) (.cons ((r2.ex e).ex (Ex.new hT)) .nil))⟩
theorem evj_i {S1 : List D → Prop} (h : EvI X Hb e Γ S1) : EvJ X Hb tg e Γ S1 := ⟨_, pi_list (semE X e), fun σ H en R q => h σ H en _ fun a vs H' ds s x hq ra => ⟨a, rfl, ⟨_, SqL.ex hide_ex hq⟩, q _ H' ds s x (jt_list hq ra)⟩⟩
theorem evj_t {S1 : List D → Prop} (h : EvIT X Hb e Γ S1) : EvJ X Hb tg e Γ S1 := ⟨_, pi_tup (semE X e), fun σ H en R q => h σ H en _ fun a vs H' ds s x hq ra => ⟨a, rfl, ⟨_, SqT.ex hide_ex hq⟩, q _ H' ds s x (jt_tup hq ra)⟩⟩
theorem evj_r {lo : Int} {n : Nat} (h : EvR X Hb e Γ fun lo' n' => lo' = lo ∧ n' = n) : EvJ X Hb tg e Γ (· = (List.range n).map fun (i : Nat) => D.int (lo + i)) :=
  let ⟨wi, h1, h2⟩ := h
  ⟨wi, h1 _, fun σ H en R q => h2 σ H en R fun lo' n' H' ⟨e1, e2⟩ x => by subst e1 e2; exact q _ H' _ rfl x (jt_range _ _)⟩
theorem evj_enum {S1 : List D → Prop} {pn : Pos} {elts : List Expr} {kk : Nat} {tpos : Pos} (hm : X.mg "enumerate" = none) (h : EvI X Hb e Γ S1) (hg : Gl X "enumerate" := by rfl) (hs : starEach [e] X.env = [(false, eval e X.env)] := by rfl) :
    EvJ X Hb (.Tuple elts kk tpos) (.Call (.Name "enumerate" pn) [e] [] pos) Γ (fun z => ∃ ds, z = ds.mapIdx (fun i d => D.tup [.int (i : Nat), d]) ∧ S1 ds) :=
  ⟨_, pi_enum hg hm (pa_cons (semE X e) pa_nil hs) hs, fun σ H en R q => h σ H en _ fun a vs H' ds s x hq ra => ⟨a, vs, rfl, SqL.ex hide_ex hq, q _ H' _ ⟨ds, rfl, s⟩ x (jt_enum hq ra)⟩⟩
theorem evj_zip {S1 S2 : List D → Prop} {pn : Pos} {elts : List Expr} {kk : Nat} {tpos : Pos} (hm : X.mg "zip" = none) (h : EvI X Hb a Γ S1) (h2 : EvI X Hb b Γ S2) (hg : Gl X "zip" := by rfl) (hs : starEach [a, b] X.env = (false, eval a X.env) :: starEach [b] X.env := by rfl) (hs2 : starEach [b] X.env = [(false, eval b X.env)] := by rfl) (hpl : (backTo pos (starEach [b] X.env)).any (·.1) = false := by rfl) :
    EvJ X Hb (.Tuple elts kk tpos) (.Call (.Name "zip" pn) [a, b] [] pos) Γ (fun z => ∃ ds es, z = List.zipWith (fun a b => D.tup [a, b]) ds es ∧ S1 ds ∧ S2 es) :=
  ⟨_, pi_zip hg hm (pa_cons (semE X a) (pa_cons (semE X b) pa_nil hs2) hs) hs hpl, fun σ H en R q => h σ H en _ fun a vs H' ds s x hq ra => h2 σ H' (en.ex x) _ fun b ws H2 es s2 x2 hq2 ra2 => by
    have xh : Ex (hide H' (owns Γ)) (hide H2 (owns Γ)) := x2.hides (owns_lsts ((en.ex x).ex x2).wide.2.2.1)
    exact ⟨a, b, vs, ws, rfl, SqL.ex x2 (SqL.ex hide_ex hq), SqL.ex hide_ex hq2, q _ H2 _ ⟨ds, es, rfl, s, s2⟩ (x.trans x2) (jt_zip (SqL.ex xh hq) (ra.ex xh) hq2 ra2)⟩⟩
theorem evit_dat (i : Nat) {xn : Str} (hG : Γ[i]? = some (.dat (.tup ds)) := by rfl) (hN : X.N[i]? = some xn := by rfl) (hv : Vis X.env.scope xn := by first | exact Or.inl rfl | exact Or.inr (Or.inl rfl) | exact Or.inr (Or.inr rfl)) (hd : (xn == ("__debug__" : Str)) = false := by decide)
    (hcd : (xn == ("__classdict__" : Str)) = false := by decide) : EvIT X Hb (.Name xn pos) Γ (· = ds) := fun σ H en Q q => by
  obtain ⟨h1, h2, h3, h4⟩ := en.wide
  obtain ⟨o, hσ, v, rfl, r⟩ := Paired.getE h3 hG
  cases r with
  | tup hq ra => exact SemE.of (pe_var hN hv hd hcd) ⟨_, hσ, q _ _ H _ rfl Ex.refl hq ra⟩
theorem evit_free {S1 : List D → Prop} (h : EvN X Hb e Γ fr fun z => ∃ ds, z = .tup ds ∧ S1 ds) (ho : owns Γ = []) : EvIT X Hb e Γ S1 := fun σ H en Q q =>
  h σ H en _ fun v H' d ⟨ds, e1, s⟩ x r _ => by
    subst e1
    have z : hide H' (owns Γ) = H' := by
      funext a
      rw [ho]
      exact hide_out (by simp)
    cases r with
    | tup hq ra => exact q _ _ H' ds s x (by rw [z]; exact hq) (by rw [z]; exact ra)
theorem evit_flat {S1 : List D → Prop} (h : EvN X Hb e Γ fr fun z => ∃ ds, z = .tup ds ∧ S1 ds) (hf : ∀ ds, S1 ds → D.flatAll ds = true) : EvIT X Hb e Γ S1 := fun σ H en Q q =>
  h σ H en _ fun v H' d ⟨ds, e1, s⟩ x r _ => by
    subst e1
    obtain ⟨_, _, k3, _⟩ := (en.ex x).wide
    cases r with
    | tup hq ra => exact q _ _ H' ds s x (SqT.hide (owns_lsts k3) hq) (ra.hide (owns_lsts k3) (hf ds s))
/-! ### loops over them -/
theorem go_forJ {body : List Stmt} (t : Tg) {S1 : List D → Prop} (I : List D → Nat → Slots → Prop) (hit : EvJ X Hb tg e Γ S1) (h0 : ∀ ds, S1 ds → I ds 0 Γ)
    (hs : ∀ Hb', Ex Hb Hb' → ∀ ds i x Γ', S1 ds → ds[i]? = some x → I ds i Γ' → ∃ Γ2, Put t x Γ' Γ2 ∧ Go X Hb' body { D0 with nx := Btw X Hb' (I ds (i + 1)), ct := Btw X Hb' (I ds (i + 1)), bk := fun σ H => SemSs X rest D0 σ H } Γ2)
    (hd : ∀ ds Γ', S1 ds → I ds ds.length Γ' → Go X Hb rest D0 Γ') (hp : PassesOwn (model X.prog X.w) X.A X.env X.xe) (hc : X.calm = true) (hg : PG X tg (t.g X.K))
    (hfs : ∀ x, foldedSetIterable e X.env x = pure x := by intro _; rfl) :
    Go X Hb (.For tg e body [] pos :: rest) D0 Γ := fun σ H en => by
  obtain ⟨wi, hpi, hw⟩ := hit
  refine SemSs.cons (ps_for hp hc hpi hg (semSs X body) hfs) ?_
  refine hw σ H en _ fun J H' ds s x ⟨G, Y, w, hG, hY⟩ => ?_
  have en' := en.ex x
  have eb : Ex Hb (hide H' (owns Γ)) := en'.wide.1.toEx
  refine for_it w (fun i σ H => Btw X (hide H' (owns Γ)) (I ds i) σ H) ⟨Γ, h0 ds s, ⟨_, en'.wide.1.self, en'.wide.2⟩⟩ (fun i σ H _ ⟨Γ', _, en2⟩ => hG _ en2.base) ?_ ?_
  · rintro i v σ2 H2 H3 hi ⟨Γ', hI, en2⟩ y
    obtain ⟨x3, d, hd, r⟩ := hY i H2 v H3 hi en2.base y
    obtain ⟨Γ2, hput, go⟩ := hs _ eb ds i d Γ' s hd hI
    exact put_ok (own := t.slots) hput (fun _ m => m) (en2.ex x3) r _ fun σ' en' _ => go σ' H3 en'
  · rintro σ2 H2 ⟨Γ', hI, en2⟩
    exact hd ds Γ' s hI _ H2 (en2.wb en'.wide.1)
/-- a state, by the things before -/
theorem go_foldJ {α β : Type} {body : List Stmt} (t : Tg) (f : α → D) (xs : List α) (G : β → Slots) (step : β → α → β) (s0 : β) (hit : EvJ X Hb tg e Γ (· = xs.map f)) (h0 : Γ = G s0) (Γe : β → α → Slots) (hput : ∀ s a, a ∈ xs → Put t (f a) (G s) (Γe s a))
    (hs : ∀ Hb', Ex Hb Hb' → ∀ pre a post, xs = pre ++ a :: post → Go X Hb' body { D0 with nx := fun σ H => EnvOk X.K Hb' (G (step (pre.foldl step s0) a)) σ H, ct := fun σ H => EnvOk X.K Hb' (G (step (pre.foldl step s0) a)) σ H, bk := fun σ H => SemSs X rest D0 σ H } (Γe (pre.foldl step s0) a))
    (hd : Go X Hb rest D0 (G (xs.foldl step s0))) (hp : PassesOwn (model X.prog X.w) X.A X.env X.xe) (hc : X.calm = true) (hg : PG X tg (t.g X.K))
    (hfs : ∀ x, foldedSetIterable e X.env x = pure x := by intro _; rfl) : Go X Hb (.For tg e body [] pos :: rest) D0 Γ := by
  refine go_forJ t (fun ds i Γ' => Γ' = G ((xs.take i).foldl step s0)) hit (fun _ _ => h0) (fun Hb' eb ds i x Γ' s hx hI => ?_) (fun ds Γ' s hI => ?_) hp hc hg hfs
  · subst s hI
    rw [List.getElem?_map] at hx
    obtain ⟨a, ha, rfl⟩ : ∃ a, xs[i]? = some a ∧ x = f a := by
      cases z : xs[i]? with
      | none => rw [z] at hx; cases hx
      | some a => rw [z] at hx; cases hx; exact ⟨a, rfl, rfl⟩
    refine ⟨_, hput _ a (List.mem_of_getElem? ha), ?_⟩
    have e1 : xs = xs.take i ++ a :: xs.drop (i + 1) := by
      have hi := (List.getElem?_eq_some_iff.mp ha).1
      conv => lhs; rw [← List.take_append_drop i xs]
      rw [List.drop_eq_getElem_cons hi, (List.getElem?_eq_some_iff.mp ha).2]
    have e2 : (xs.take (i + 1)).foldl step s0 = step ((xs.take i).foldl step s0) a := by
      rw [List.take_add_one, ha, List.foldl_append]; rfl
    exact fun σ H en => (hs Hb' eb _ a _ e1 σ H en).mono (fun σ H h => ⟨_, rfl, by rw [e2]; exact h⟩) (fun _ _ h => h) (fun _ _ h => h) fun σ H h => ⟨_, rfl, by rw [e2]; exact h⟩
  · subst s hI
    rw [List.length_map, List.take_length]
    exact hd
/-- nothing carried -/
theorem go_repJ {body : List Stmt} (t : Tg) {S1 : List D → Prop} (ks : List Bool) {Γ0 : Slots} (h0 : keepG ks Γ = Γ0) (hit : EvJ X Hb tg e Γ S1)
    (hs : ∀ Hb', Ex Hb Hb' → ∀ (ds : List D) (i : Nat) (x : D), S1 ds → ds[i]? = some x → ∃ Γ2, Put t x Γ0 Γ2 ∧ Go X Hb' body { D0 with nx := fun σ H => EnvOk X.K Hb' Γ0 σ H, ct := fun σ H => EnvOk X.K Hb' Γ0 σ H, bk := fun σ H => SemSs X rest D0 σ H } Γ2)
    (hd : Go X Hb rest D0 Γ0) (hp : PassesOwn (model X.prog X.w) X.A X.env X.xe) (hc : X.calm = true) (hg : PG X tg (t.g X.K))
    (hfs : ∀ x, foldedSetIterable e X.env x = pure x := by intro _; rfl) : Go X Hb (.For tg e body [] pos :: rest) D0 Γ := fun σ H en => by
  obtain ⟨wi, hpi, hw⟩ := hit
  refine SemSs.cons (ps_for hp hc hpi hg (semSs X body) hfs) ?_
  refine hw σ H en _ fun J H' ds s x ⟨G, Y, w, hG, hY⟩ => ?_
  have en' := en.ex x
  have eb : Ex Hb (hide H' (owns Γ)) := en'.wide.1.toEx
  have en1 : EnvOk X.K (hide H' (owns Γ)) Γ0 σ H' := by
    rw [← h0]
    exact EnvOk.keep ks ⟨_, en'.wide.1.self, en'.wide.2⟩
  refine for_it w (fun i σ H => EnvOk X.K (hide H' (owns Γ)) Γ0 σ H) en1 (fun i σ H _ en2 => hG _ en2.base) ?_ ?_
  · intro i v σ2 H2 H3 hi en2 y
    obtain ⟨x3, d, hd, r⟩ := hY i H2 v H3 hi en2.base y
    obtain ⟨Γ2, hput, go⟩ := hs _ eb ds i d s hd
    exact put_ok (own := t.slots) hput (fun _ m => m) (en2.ex x3) r _ fun σ' en' _ => go σ' H3 en'
  · intro σ2 H2 en2
    exact hd _ H2 (en2.wb en'.wide.1)
end
/-! ### comprehensions over them -/
section
variable {X : Cx} {Hb Hb' : Hp} {a b c e elt iter tg : Expr} {es ifs : List Expr} {Γ : Slots} {pos p' apos cpos : Pos} {d x y : D} {ds : List D} {S S' : D → Prop} {fr : Bool} {scope : Scope} {own : List (Str × Nat)}
/-- [elt for t in xs] -/
theorem lcJ {α : Type} (t : Tg) (f : α → D) (SE : α → D → Prop) (xs : List α) (Γe : α → Slots) (hit : EvJ X Hb tg iter Γ (· = xs.map f)) (hput : ∀ a ∈ xs, Put t (f a) (wipeG Γ (own.map (·.2))) (Γe a))
    (he : ∀ a ∈ xs, AllIn X scope fun Y => EvN Y Hb elt (Γe a) fr (SE a)) (hfl : ∀ a d, SE a d → d.flat = true) (hlen : xs.length < 100000)
    (hc : X.calm = true) (nd : X.N.Nodup) (ok : BlkOk X.N X.env.scope scope own) (hown : ∀ i ∈ t.slots, i ∈ own.map (·.2))
    (hg : AllIn X scope fun Y => PG Y tg (t.g X.K)) (hs : ∀ x, foldedSetIterable iter X.env x = pure x := by intro _; rfl) :
    LcEv X Hb elt tg iter [] scope own Γ (fun z => ∃ ys, z = .lst ys ∧ Paired SE xs ys) := by
  obtain ⟨wi, hpi, hw⟩ := hit
  refine ⟨hc, nd, ok, hs, _, _, _, tIn X scope elt, hpi, hg, (fun s H C cl fp => pts_nil), fun s H C cl fp => ⟨fun pins s' σ H' Q I h => (h s H C cl fp).run pins s' I⟩, fun σ H en Q q => ?_⟩
  refine hw σ H en _ fun J H1 ds e1 x ⟨G, Y, w, hG, hY⟩ => ?_
  subst e1
  have en1 := en.ex x
  rw [List.length_map] at w hY
  refine fun L hL => lc_it w (fun i H => SoFar X.K H1 L (fun ys => Paired SE (xs.take i) ys) H) (soFar_start hL .nil) (fun i H2 _ h => hG _ (hide_ex.trans h.1)) ?_ ?_
  · intro i v H2 H3 hi sf y
    obtain ⟨x3, dx, hd, rv⟩ := hY i H2 v H3 hi (hide_ex.trans sf.1) y
    rw [List.getElem?_map] at hd
    obtain ⟨ax, hax, rfl⟩ : ∃ ax, xs[i]? = some ax ∧ dx = f ax := by
      cases z : xs[i]? with
      | none => rw [z] at hd; cases hd
      | some ax => rw [z] at hd; cases hd; exact ⟨ax, rfl, rfl⟩
    have hm := List.mem_of_getElem? hax
    have et : xs.take (i + 1) = xs.take i ++ [ax] := by rw [List.take_add_one, hax]; rfl
    have sf3 : SoFar X.K H1 L (fun ys => Paired SE (xs.take i) ys) H3 := by
      obtain ⟨e, acc, ys, h1, h2, h3⟩ := sf
      exact ⟨e.trans x3, acc, ys, x3.lst h1, h2.ex (hide1_ex x3 (x3.lst h1)), h3⟩
    refine put_ok (own := own.map (·.2)) (hput ax hm) hown (wipe_env (en1.ex sf3.1) _) rv _ fun σ' en2 hwp => ?_
    refine ⟨hwp.trans (wipe_wipe _ _) ▸ by rw [hwp, wipe_wipe], ?_⟩
    refine yes_of (L2.iteT ?_)
    intro s0 H0 C cl fp
    refine he ax hm s0 H0 C cl fp _ H3 en2 _ fun w H4 dw sw x4 rw4 _ => ?_
    refine soFar_more hL sf3 x4 rw4 (hfl ax dw sw) (fun ys h => ?_) fun ys h => ?_
    · rw [← Paired.length h, List.length_take]
      omega
    · rw [et]
      exact Paired.snoc sw h
  · intro H2 sf
    rw [List.take_length] at sf
    obtain ⟨ys, h1, h2, h3, h4⟩ := soFar_done hL x sf
    exact q _ _ _ ⟨ys, rfl, h1⟩ h2 h3 h4
/-- [elt for t in xs if test] -/
theorem lcJIf {α : Type} {tst : Expr} (t : Tg) (f : α → D) (p : α → Bool) (SE : α → D → Prop) (xs : List α) (Γe : α → Slots) (hit : EvJ X Hb tg iter Γ (· = xs.map f)) (hput : ∀ a ∈ xs, Put t (f a) (wipeG Γ (own.map (·.2))) (Γe a))
    (ht : ∀ a ∈ xs, AllIn X scope fun Y => EvB Y Hb tst (Γe a) (p a))
    (he : ∀ a ∈ xs, p a = true → AllIn X scope fun Y => EvN Y Hb elt (Γe a) fr (SE a)) (hfl : ∀ a d, SE a d → d.flat = true) (hlen : xs.length < 100000)
    (hc : X.calm = true) (nd : X.N.Nodup) (ok : BlkOk X.N X.env.scope scope own) (hown : ∀ i ∈ t.slots, i ∈ own.map (·.2))
    (hg : AllIn X scope fun Y => PG Y tg (t.g X.K)) (hs : ∀ x, foldedSetIterable iter X.env x = pure x := by intro _; rfl) :
    LcEv X Hb elt tg iter [tst] scope own Γ (fun z => ∃ ys, z = .lst ys ∧ Paired SE (xs.filter p) ys) := by
  obtain ⟨wi, hpi, hw⟩ := hit
  refine ⟨hc, nd, ok, hs, _, _, _, tIn X scope elt, hpi, hg, (fun s H C cl fp => pts_one (t := tInT X scope tst) ⟨fun pins s' σ H' Q I h => (h s H C cl fp).run pins s' I⟩), fun s H C cl fp => ⟨fun pins s' σ H' Q I h => (h s H C cl fp).run pins s' I⟩, fun σ H en Q q => ?_⟩
  refine hw σ H en _ fun J H1 ds e1 x ⟨G, Y, w, hG, hY⟩ => ?_
  subst e1
  have en1 := en.ex x
  rw [List.length_map] at w hY
  refine fun L hL => lc_it w (fun i H => SoFar X.K H1 L (fun ys => Paired SE ((xs.take i).filter p) ys) H) (soFar_start hL .nil) (fun i H2 _ h => hG _ (hide_ex.trans h.1)) ?_ ?_
  · intro i v H2 H3 hi sf y
    obtain ⟨x3, dx, hd, rv⟩ := hY i H2 v H3 hi (hide_ex.trans sf.1) y
    rw [List.getElem?_map] at hd
    obtain ⟨ax, hax, rfl⟩ : ∃ ax, xs[i]? = some ax ∧ dx = f ax := by
      cases z : xs[i]? with
      | none => rw [z] at hd; cases hd
      | some ax => rw [z] at hd; cases hd; exact ⟨ax, rfl, rfl⟩
    have hm := List.mem_of_getElem? hax
    have et : xs.take (i + 1) = xs.take i ++ [ax] := by rw [List.take_add_one, hax]; rfl
    have sf3 : SoFar X.K H1 L (fun ys => Paired SE ((xs.take i).filter p) ys) H3 := by
      obtain ⟨e, acc, ys, h1, h2, h3⟩ := sf
      exact ⟨e.trans x3, acc, ys, x3.lst h1, h2.ex (hide1_ex x3 (x3.lst h1)), h3⟩
    refine put_ok (own := own.map (·.2)) (hput ax hm) hown (wipe_env (en1.ex sf3.1) _) rv _ fun σ' en2 hwp => ?_
    refine ⟨hwp.trans (wipe_wipe _ _) ▸ by rw [hwp, wipe_wipe], fun s0 H0 C cl fp => ht ax hm s0 H0 C cl fp _ H3 en2 _ fun k H4 ek x4 => ?_⟩
    have sf4 : SoFar X.K H1 L (fun ys => Paired SE ((xs.take i).filter p) ys) H4 := by
      obtain ⟨e, acc, ys, h1, h2, h3⟩ := sf3
      exact ⟨e.trans x4, acc, ys, x4.lst h1, h2.ex (hide1_ex x4 (x4.lst h1)), h3⟩
    subst ek
    cases hta : p ax with
    | false =>
      refine if_neg (by simp) |>.mpr ?_
      rw [et, List.filter_append, List.filter_cons, hta]
      simpa using sf4
    | true =>
      refine (if_pos rfl).mpr ?_
      intro s0 H0 C cl fp
      refine he ax hm hta s0 H0 C cl fp _ H4 (en2.ex x4) _ fun w H5 dw sw x5 rw5 _ => ?_
      refine soFar_more hL sf4 x5 rw5 (hfl ax dw sw) (fun ys h => ?_) fun ys h => ?_
      · rw [← Paired.length h]
        refine Nat.lt_of_le_of_lt (List.length_filter_le _ _) ?_
        rw [List.length_take]
        omega
      · rw [et, List.filter_append, List.filter_cons, hta]
        exact Paired.snoc sw h
  · intro H2 sf
    rw [List.take_length] at sf
    obtain ⟨ys, h1, h2, h3, h4⟩ := soFar_done hL x sf
    exact q _ _ _ ⟨ys, rfl, h1⟩ h2 h3 h4
end
end L3

namespace L3
open PySem PySem.Spec PyProof.Rows L2
/-- list + list, of any lists that are read -/
def rCatP (K : PySem.W.Frag) : R2 := fun x y H Q => ∃ l b xs zs, x = .ref l ∧ y = .ref b ∧ SqL K H l xs ∧ SqL K H b zs ∧ xs.length + zs.length ≤ sizeLine ∧ ∀ p, H p = none → Q (.ref p) (upd H p (.lst (xs ++ zs)))
theorem op_catP {X : Cx} : OpR X (binaryOp .Add) (rCatP X.K) := by
  intro pins s σ H x y v u Q I rx ry h
  obtain ⟨l, b, xs, zs, rfl, rfl, hl, hb, hz, q⟩ := h
  cases rx
  cases ry
  obtain ⟨its, r, ⟨⟨cls, dd, data, sl⟩, n, ho, hc, hd, he⟩, _⟩ := I.list hl
  obtain ⟨its2, r2, ⟨⟨cls2, dd2, data2, sl2⟩, n2, ho2, hc2, hd2, he2⟩, _⟩ := I.list hb
  simp only at hc hd he hc2 hd2 he2
  subst hc he hc2 he2
  have ea : its.toArray ++ its2.toArray = (its ++ its2).toArray := by simp
  refine concat_meets ⟨_, ho, rfl⟩ ⟨_, ho2, rfl⟩ noFill_list_add seq_list_add PySem.F.slot_list_add PySem.F.entry_list_add (PySem.F.args_list_add_2 _ _) (list_addW l b its.toArray its2.toArray n n2 dd dd2 sl sl2 (by rw [List.size_toArray, List.size_toArray, ← r.length, ← r2.length]; exact hz)) ⟨ho, ho2, ?_⟩
  rw [ea]
  exact ⟨.ref _, _, I.lnew (t' := s.toks) (r.append r2) (by rw [List.length_append]; omega), rfl, q _ I.fresh⟩
section
variable {X : Cx} {Hb Hb' : Hp} {a b c e : Expr} {es : List Expr} {Γ : Slots} {pos p' apos cpos : Pos} {d x y : D} {ds : List D} {S S' : D → Prop} {fr fr' : Bool} {D0 : Ends} {rest sts : List Stmt} {st : Stmt}
theorem evn_catL {S1 S2 : List D → Prop} (ha : EvN X Hb a Γ fr fun z => ∃ ds, z = .lst ds ∧ S1 ds) (hb : EvN X Hb b Γ fr' fun z => ∃ ds, z = .lst ds ∧ S2 ds) (hS : ∀ x y, S1 x → S2 y → x.length + y.length ≤ 100000 ∧ S (.lst (x ++ y))) :
    EvN X Hb (.BinOp a .Add b pos) Γ true S := fun σ H en Q q =>
  SemE.of (pe_op op_catP (semE X a) (semE X b)) (ha σ H en _ fun v H1 d1 ⟨xs, e1, s1⟩ x1 r1 _ => hb σ H1 (en.ex x1) _ fun w H2 d2 ⟨ys, e2, s2⟩ x2 r2 _ => by
    subst e1 e2
    obtain ⟨hl, s⟩ := hS xs ys s1 s2
    have xx := x1.trans x2
    cases r1 with
    | lst ha ra =>
      cases r2 with
      | lst hb rb =>
        refine ⟨_, _, _, _, rfl, rfl, SqL.ex x2 ha, hb, by rw [ra.length, rb.length]; exact Nat.le_trans hl (by decide), fun p hp => ?_⟩
        have r3 := (ra.ex x2).append rb
        exact q _ _ _ s (xx.trans (Ex.new hp)) (.lst (SqL.of upd_same) (r3.ex (Ex.new hp))) fun _ => freshL hp xx r3)
theorem ev_catL {xs ys : List D} (ha : Ev X Hb a Γ fr (.lst xs)) (hb : Ev X Hb b Γ fr' (.lst ys)) (hl : xs.length + ys.length ≤ 100000) : Ev X Hb (.BinOp a .Add b pos) Γ true (.lst (xs ++ ys)) :=
  evn_catL (S1 := (· = xs)) (S2 := (· = ys)) (ha.imp fun _ z => ⟨_, z, rfl⟩) (hb.imp fun _ z => ⟨_, z, rfl⟩) fun x y e1 e2 => by subst e1 e2; exact ⟨hl, rfl⟩
/-- a new list, so many times -/
theorem evn_repL {S1 : List D → Prop} {S2 : Int → Prop} (ha : EvN X Hb a Γ true fun z => ∃ ds, z = .lst ds ∧ S1 ds) (hb : EvI1 X Hb b Γ fr' S2) (hS : ∀ x k, S1 x → S2 k → k < 1000 ∧ -1000 ≤ k ∧ x.length * k.toNat ≤ 100000 ∧ S (.lst (List.replicate k.toNat x).flatten)) :
    EvN X Hb (.BinOp a .Mult b pos) Γ true S := fun σ H en Q q =>
  SemE.of (pe_op op_rep (semE X a) (semE X b)) (ha σ H en _ fun v H1 d1 ⟨xs, e1, s1⟩ x1 r1 f1 => hb σ H1 (en.ex x1) _ fun w H2 d2 ⟨k, e2, s2⟩ x2 r2 _ => by
    subst e1 e2
    obtain ⟨p, vs, rfl, hp, hl, ra⟩ := f1 rfl
    obtain ⟨h1, h0, hl2, s⟩ := hS xs k s1 s2
    have xx := x1.trans x2
    cases r2
    refine ⟨p, k, vs, rfl, rfl, x2.lst hl, by omega, by omega, by rw [ra.length]; exact Nat.le_trans hl2 (by decide), fun q' hq' => ?_⟩
    have r3 : ∀ n, RepAll X.K H2 (List.replicate n vs).flatten (List.replicate n xs).flatten := fun n => by
      induction n with
      | zero => exact .nil
      | succ n ih => rw [List.replicate_succ, List.replicate_succ, List.flatten_cons, List.flatten_cons]; exact (ra.ex x2).append ih
    exact q _ _ _ s (xx.trans (Ex.new hq')) (.lst (SqL.of upd_same) ((r3 _).ex (Ex.new hq'))) fun _ => freshL hq' xx (r3 _))
/-- {} -/
theorem ev_dct0 : Ev X Hb (.Dict [] [] pos) Γ true (.dct []) := fun σ H en Q q =>
  SemE.of pe_dnewK fun p hp => q _ _ _ rfl (Ex.new hp) (.dct (.inl upd_same) .nil) fun _ => ⟨p, [], rfl, hp, upd_same, .nil⟩
/-- xs.insert(i, e), xs a list of one's own -/
theorem go_insertN (i : Nat) {p : Addr} {xn : Str} {S1 : Int → Prop} (ha : EvI1 X Hb a Γ fr S1) (h : EvN X Hb b Γ fr' S) (hG : Γ[i]? = some (.own p ds) := by rfl) (hi0 : ∀ k, S1 k → 0 ≤ k ∧ k ≤ ds.length) (hf : ∀ d, S d → d.flat = true) (hl : ds.length ≤ 100000) (g : ∀ k d, S1 k → S d → Go X Hb rest D0 (Γ.set i (.own p (ds.take k.toNat ++ [d] ++ ds.drop k.toNat)))) (hN : X.N[i]? = some xn := by rfl)
    (hv : Vis X.env.scope xn := by first | exact Or.inl rfl | exact Or.inr (Or.inl rfl) | exact Or.inr (Or.inr rfl)) (hdb : (xn == ("__debug__" : Str)) = false := by decide) (hcd : (xn == ("__classdict__" : Str)) = false := by decide)
    (hbase : attributeBase (.Name xn p') "insert" X.env (eval (.Name xn p') X.env) = eval (.Name xn p') X.env := by rfl)
    (hfew : ((backTo cpos (starEach (a :: [b]) X.env)).all (fun x => !x.1) && (backToKw cpos (keywordEach [] X.env)).all (fun x => x.1.isSome) && decide ((a :: [b]).length + ([] : List Keyword).length + (if ([] : List Keyword).isEmpty then 0 else 1) < 30)) = true := by rfl)
    (hline : (apos.endLine == cpos.line) = true := by rfl) (hs : starEach (a :: [b]) X.env = (false, eval a X.env) :: starEach [b] X.env := by rfl) (hs2 : starEach (b :: []) X.env = (false, eval b X.env) :: starEach [] X.env := by rfl) (hplain : (backTo cpos (starEach [b] X.env)).any (·.1) = false := by rfl)
    (hsw : swapsWith (.Call (.Attribute (.Name xn p') "insert" apos) [a, b] [] cpos) none pos.line X.env = pure false := by rfl) :
    Go X Hb (.Expr (.Call (.Attribute (.Name xn p') "insert" apos) [a, b] [] cpos) pos :: rest) D0 Γ := fun σ H en => by
  obtain ⟨hσ, vs, hl1, _, _⟩ := en.ownW hG
  refine SemSs.cons (ps_expr (pe_bm PySem.F.plainAttrs_list PySem.F.slot_list_insert PySem.F.type_list_insert mt_insert (pe_var hN hv hdb hcd) (pa_cons (semE X a) (pa_cons (semE X b) pa_nil hs2) hs) hbase hfew hline hs hplain) hsw) ?_
  refine ⟨_, hσ, .inl ⟨rfl, _, SqL.of hl1⟩, ha σ H en _ fun v1 H1 d1 ⟨k, e1, s1⟩ x1 r1 _ => h σ H1 (en.ex x1) _ fun v H' d s x r _ => ?_⟩
  subst e1
  cases r1
  have en' := (en.ex x1).ex x
  obtain ⟨_, ws, hl2, rw, ls⟩ := en'.ownW hG
  obtain ⟨k0, k1⟩ := hi0 k s1
  refine ⟨p, ws, k, v, rfl, rfl, hl2, by rw [rw.length]; exact Nat.lt_of_le_of_lt hl (by decide), k0, by omega, ?_⟩
  exact g k d s1 s σ _ (en'.mutOwn hG (((rw.take _).append (.cons (r.hide ls (hf d s)) .nil)).append (rw.drop _)))
/-- a list of one's own that is changed no more -/
theorem EnvOk.freeze {K : PySem.W.Frag} {σ : L2.St} {H : Hp} {i : Nat} {p : Addr} (h : EnvOk K Hb Γ σ H) (e : Γ[i]? = some (.own p ds)) : EnvOk K Hb (Γ.set i (.dat (.lst ds))) σ H := by
  obtain ⟨h1, h2, h3, h4⟩ := h.wide
  obtain ⟨o, q, rfl, n, vs, q2, r2⟩ := Paired.getE h3 e
  have hno : p ∉ owns (Γ.set i .any) := by
    have key : ∀ {Γ : Slots} {i : Nat}, Γ[i]? = some (.own p ds) → (owns Γ).Nodup → p ∉ owns (Γ.set i .any) := by
      intro Γ
      induction Γ with
      | nil => intro i e; simp at e
      | cons x r ih =>
        intro i e nd
        cases i with
        | zero =>
          simp at e
          subst e
          exact (List.nodup_cons.mp nd).1
        | succ i =>
          have e' : r[i]? = some (.own p ds) := by simpa using e
          cases x with
          | any => exact ih e' nd
          | dat d => exact ih e' nd
          | own q' fs =>
            have nd' := List.nodup_cons.mp nd
            intro m
            rcases List.mem_cons.mp m with z | z
            · exact nd'.1 (z ▸ owns_of e')
            · exact ih e' nd'.2 z
          | res qs v φ =>
            have nd' := nodup_app.mp (show (qs ++ owns r).Nodup from nd)
            intro m
            rcases List.mem_append.mp m with z | z
            · exact nd'.2.2 p z (owns_of e')
            · exact ih e' nd'.2.1 z
    exact key e h4
  have en1 : EnvOk K Hb (Γ.set i .any) σ H := h.forget
  obtain ⟨g1, g2, g3, g4⟩ := en1.wide
  have ez : Ex (hide H (owns Γ)) (hide H (owns (Γ.set i .any))) := Ex.of fun a u ea => by
    have hm : a ∉ owns (Γ.set i .any) := fun z => by
      have := (owns_set_cells (Γ := Γ) (i := i) (e := .any) rfl).subset z
      rw [hide_in this] at ea; cases ea
    rw [hide_out hm]
    by_cases m : a ∈ owns Γ
    · rw [hide_in m] at ea; cases ea
    · rw [hide_out m] at ea; exact ea
  have hp' : (hide H (owns (Γ.set i .any))) p = some (.lst vs) := by rw [hide_out hno]; exact q2
  have hs : (Γ.set i .any).set i (.dat (.lst ds)) = Γ.set i (.dat (.lst ds)) := List.set_set ..
  have hσ : σ.set i (some (.ref p)) = σ := by
    obtain ⟨hi, he⟩ := List.getElem?_eq_some_iff.mp q
    rw [← he]
    exact List.set_getElem_self hi
  have := Paired.setE (show EntOk K (hide H (owns (Γ.set i .any))) H (.dat (.lst ds)) (some (.ref p)) from ⟨_, rfl, .lst (SqL.of hp') (r2.ex ez)⟩) i g3
  rw [hs, hσ] at this
  refine ⟨_, g1, g2, this, ?_⟩
  rw [← hs]
  exact List.Nodup.sublist (owns_set_cells rfl) g4
theorem go_freeze (i : Nat) {p : Addr} (g : Go X Hb rest D0 (Γ.set i (.dat (.lst ds)))) (hG : Γ[i]? = some (.own p ds) := by rfl) : Go X Hb rest D0 Γ := go_weak (fun _ _ h => h.freeze hG) g
end
/-! ### defs whose answer need not be new -/
def spL (K : PySem.W.Frag) (P : Pr) : Sp := fun vs H Q _ => TbOk K H ∧ ∃ ds S, RepAll K H vs ds ∧ P ds S ∧ ∀ v H' d, S d → Ex H H' → Rep K H' v d → Q v H'
structure FnL (P : Program) (w : World) (K : PySem.W.Frag) (mg : Str → Option Value) (base : Heap) (x : Str) (k : Nat) (Q : Pr) : Prop where
  ex : ∃ (f : Addr) (fd : FuncData) (ps : List Str), FnOk P w K mg base CX0 k f fd ps (spL K Q) ∧ mg x = some (.ref f) ∧ PySem.W.keepIn K (.ref f) = true ∧ Binds K fd ps [] ∧ ∃ (oc : Value) (od : Option Addr) (osl : Array (Option Value)), K.lookup f = some ⟨oc, od, .func fd, osl⟩
section
variable {X : Cx} {Hb Hb' : Hp} {a b c e : Expr} {es : List Expr} {Γ : Slots} {pos p' apos cpos : Pos} {d x y : D} {ds : List D} {S S' : D → Prop} {fr fr' : Bool}
theorem evn_callL {x : Str} {pn : Pos} {k k' : Nat} {P : Pr} {SA : List D → Prop} (F : FnL X.prog X.w X.K X.mg X.base x k P) (hr : Room k' X.A) (hA : EvA X Hb (e :: es) Γ SA) (hP : ∀ ds, SA ds → ∃ S0, P ds S0 ∧ ∀ d, S0 d → S d)
    (hk : k ≤ k' := by decide) (hg : Gl X x := by rfl) (hdb : (x == ("__debug__" : Str)) = false := by decide) (he : starEach (e :: es) X.env = (false, eval e X.env) :: starEach es X.env := by rfl) (hpl : (backTo pos (starEach es X.env)).any (·.1) = false := by rfl) :
    EvN X Hb (.Call (.Name x pn) (e :: es) [] pos) Γ false S := fun σ H en Q q => by
  obtain ⟨f, fd, ps, G, hm, hkp, hb, _⟩ := F.ex
  refine SemE.of (pe_call G (hr.mono hk) hg hm hkp hb .nil pass0 (semA X (e :: es)) hdb he hpl) (hA σ H en _ fun vs H1 ds s x1 r => ?_)
  obtain ⟨S0, hS0, hS⟩ := hP ds s
  show spL _ _ (vs ++ []) H1 Q E0
  rw [List.append_nil]
  exact ⟨en.tb.ex (en.base.trans x1), ds, S0, r, hS0, fun v H' d s0 x2 r2 => q v H' d (hS d s0) (x1.trans x2) r2 fun z => nomatch z⟩
end
section
variable {P : Program} {w : World} {K : PySem.W.Frag} {mg : Str → Option Value} {base : Heap}
theorem fnL_of {x qual : Str} {st : Stmt} {f : Addr} {fd : FuncData} {N ps : List Str} {k : Nat} {Q : Pr} (F : Fun K x qual st f fd) (Sc : FnScope N ps (defScope st)) (hm : mg x = some (.ref f)) (hb : Binds K fd ps []) (har : ∀ ds S, Q ds S → ds.length = ps.length)
    (hbody : ∀ (cdv : Value) (A : Around) (outer : List Env) (s : Shared) (H : Hp) (E : XK), Room k (A.deeper (envOfC qual (defScope st) s.heap.objs.size f cdv)) → ∀ ds S, Q ds S →
      Go (bodyCx P w K mg base N qual (defScope st) f cdv A outer s H E) H (defBody st) { nx := fun _ H' => S .non ∧ Ex H H', rt := fun v H' => ∃ d, S d ∧ Ex H H' ∧ Rep K H' v d } (slots0 N ds)) : FnL P w K mg base x (k + 1) Q := by
  refine ⟨f, fd, ps, F.ok Sc (fun vs H Q' E h => ?_) (fun cdv A outer s H vs Q' E hr h => ?_), hm, F.kp, hb, by obtain ⟨oc, od, kV, doc, pm, an, cdv, ct, osl, efd, lk, hcd⟩ := F.ex; exact ⟨oc, od, osl, lk⟩⟩
  · obtain ⟨_, ds, S, r, q, _⟩ := h
    rw [r.length]
    exact har ds S q
  · obtain ⟨tb, ds, S, r, q, hk⟩ := h
    refine ⟨_, semSs _ _, ?_⟩
    have go := hbody cdv A outer s H E hr ds S q _ _ (env_start (N := N) r tb)
    exact go.mono (fun σ' H' ⟨sd, x⟩ => hk .non H' .non sd x .non) (fun v H' ⟨d, sd, x, rp⟩ => hk v H' d sd x rp) (fun _ _ h => h) fun _ _ h => h
end
end L3

namespace L3
open PySem PySem.Spec PyProof.Rows L2
section
variable {X : Cx} {Hb Hb' : Hp} {a b c e elt iter tg : Expr} {es ifs : List Expr} {Γ : Slots} {pos p' apos cpos : Pos} {d x y : D} {ds : List D} {S S' : D → Prop} {fr fr' : Bool} {D0 : Ends} {rest sts : List Stmt} {st : Stmt} {scope : Scope} {own : List (Str × Nat)}
theorem evn_tuple {pn : Pos} {S1 : List D → Prop} (hm : X.mg "tuple" = none) (h : EvN X Hb a Γ fr fun z => ∃ ds, z = .lst ds ∧ S1 ds) (hg : Gl X "tuple" := by rfl) (he : starEach (a :: []) X.env = (false, eval a X.env) :: starEach [] X.env := by rfl) (hpl : (backTo pos (starEach [] X.env)).any (·.1) = false := by rfl) :
    EvN X Hb (.Call (.Name "tuple" pn) [a] [] pos) Γ true (fun z => ∃ ds, z = .tup ds ∧ S1 ds) :=
  evn_Ty call_tuple_of hm (eva_consN (S := fun z => ∃ ds, z = [.lst ds] ∧ S1 ds) h eva_nil (fun d ds ⟨xs, e1, s⟩ e2 => ⟨xs, by rw [e1, e2], s⟩) he) (fun vs H ds' Q ⟨ds, e1, s⟩ r k => by
    subst e1
    obtain ⟨p, ws, e, hq, ra⟩ := r.lst1
    exact ⟨p, ws, e, .inl ⟨hq, fun l hl => k _ _ _ ⟨ds, rfl, s⟩ (Ex.new hl) (.tup (SqT.of upd_same) (ra.ex (Ex.new hl))) (FreshD.flat rfl)⟩⟩) (by decide +kernel) hg (by decide) (by decide) he hpl
theorem eva_one {S1 : D → Prop} {S : List D → Prop} (h : EvN X Hb a Γ fr S1) (hS : ∀ d, S1 d → S [d]) (he : starEach (a :: []) X.env = (false, eval a X.env) :: starEach [] X.env := by rfl) : EvA X Hb [a] Γ S :=
  eva_consN (S := S) h eva_nil (fun d ds s1 e => by rw [e]; exact hS d s1) he
/-- what a filter goes over: the things stand already -/
def JtS (K : PySem.W.Frag) (Hz : Hp) (J : It) (ds : List D) : Prop :=
  ∃ (G : Hp → Prop) (Y : Nat → Hp → V → Hp → Prop), Walk J ds.length G Y ∧ (∀ H2, Ex Hz H2 → G H2) ∧ ∀ i H2 v H3, i < ds.length → Ex Hz H2 → Y i H2 v H3 → H3 = H2 ∧ ∃ d, ds[i]? = some d ∧ Rep K Hz v d
def EvJS (X : Cx) (Hb : Hp) (tg e : Expr) (Γ : Slots) (S : List D → Prop) : Prop :=
  ∃ wi : TI, PI X tg e wi ∧ ∀ σ H, EnvOk X.K Hb Γ σ H → ∀ R : It → Hp → Prop, (∀ J H' ds, S ds → Ex H H' → JtS X.K (hide H' (owns Γ)) J ds → R J H') → wi σ H R
theorem jts_list {K : PySem.W.Frag} {Hz : Hp} {p : Addr} {vs : List V} (hq : SqL K Hz p vs) (ra : RepAll K Hz vs ds) : JtS K Hz (Itl K p) ds := by
  refine ⟨_, _, ra.length ▸ walk_list (xs := vs), fun H2 e => SqL.ex e hq, fun i H2 v H3 hi e y => ?_⟩
  obtain ⟨rfl, hv⟩ := y
  obtain ⟨d, hd, r⟩ := ra.get' hv
  exact ⟨rfl, d, hd, r⟩
theorem jts_tup {K : PySem.W.Frag} {Hz : Hp} {p : Addr} {vs : List V} (hq : SqT K Hz p vs) (ra : RepAll K Hz vs ds) : JtS K Hz (Itt K p) ds := by
  refine ⟨_, _, ra.length ▸ walk_tup (xs := vs), fun H2 e => SqT.ex e hq, fun i H2 v H3 hi e y => ?_⟩
  obtain ⟨rfl, hv⟩ := y
  obtain ⟨d, hd, r⟩ := ra.get' hv
  exact ⟨rfl, d, hd, r⟩
theorem evjs_i {S1 : List D → Prop} (h : EvI X Hb e Γ S1) : EvJS X Hb tg e Γ S1 := ⟨_, pi_list (semE X e), fun σ H en R q => h σ H en _ fun a vs H' ds s x hq ra => ⟨a, rfl, ⟨_, SqL.ex hide_ex hq⟩, q _ H' ds s x (jts_list hq ra)⟩⟩
theorem evjs_t {S1 : List D → Prop} (h : EvIT X Hb e Γ S1) : EvJS X Hb tg e Γ S1 := ⟨_, pi_tup (semE X e), fun σ H en R q => h σ H en _ fun a vs H' ds s x hq ra => ⟨a, rfl, ⟨_, SqT.ex hide_ex hq⟩, q _ H' ds s x (jts_tup hq ra)⟩⟩
theorem EnvOk.len {K : PySem.W.Frag} {σ : L2.St} {H : Hp} (h : EnvOk K Hb Γ σ H) : Γ.length = σ.length := let ⟨_, _, _, h3, _⟩ := h; Paired.length h3
theorem wipeG_len : ∀ (Γ : Slots) (vs : List Nat), (wipeG Γ vs).length = Γ.length
  | _, [] => rfl
  | Γ, v :: vs => by unfold wipeG; rw [List.length_set, wipeG_len]
theorem soFar_moreOld {K : PySem.W.Frag} {H1 H : Hp} {L : Addr} {R R' : List D → Prop} {v : V} {d : D} (hL : H1 L = none) (h : SoFar K H1 L R H) (r : Rep K H1 v d) (hl : ∀ ys, R ys → ys.length < 100000) (hR : ∀ ys, R ys → R' (ys ++ [d])) :
    ∃ acc, H L = some (.lst acc) ∧ acc.length < sizeLine ∧ SoFar K H1 L R' (upd H L (.lst (acc ++ [v]))) := by
  obtain ⟨e, acc, ys, h1, h2, h3⟩ := h
  refine ⟨acc, h1, by rw [h2.length]; exact Nat.lt_of_le_of_lt (Nat.le_of_lt (hl ys h3)) (by decide), Ex.mut e hL (by rw [h1]; trivial), acc ++ [v], ys ++ [d], upd_same, ?_, hR ys h3⟩
  rw [hide1_upd]
  have x1 : Ex H1 (hide H [L]) := ex_hide e (fun p m => ⟨.lst acc, by rw [List.mem_singleton.mp m]; exact h1, (trivial : Mu (.lst acc))⟩) fun p m => by rw [List.mem_singleton.mp m]; exact hL
  exact h2.append (.cons (r.ex x1) .nil)
/-- [x for x in xs if test] -/
theorem lcF {α : Type} {tst : Expr} {xn : Str} {q1 q2 : Pos} (ix : Nat) (f : α → D) (p : α → Bool) (xs : List α) (hit : EvJS X Hb (.Name xn q1) iter Γ (· = xs.map f)) (hst : ∀ a ∈ xs, Sto (wipeG Γ (own.map (·.2))) (f a))
    (ht : ∀ a ∈ xs, AllIn X scope fun Y => EvB Y Hb tst ((wipeG Γ (own.map (·.2))).set ix (.dat (f a))) (p a)) (hlen : xs.length < 100000) (hΓ : ix < Γ.length)
    (hc : X.calm = true) (nd : X.N.Nodup) (ok : BlkOk X.N X.env.scope scope own) (hown : ix ∈ own.map (·.2))
    (hg : AllIn X scope fun Y => PG Y (.Name xn q1) (gName ix)) (hv : AllIn X scope fun Y => PE Y (.Name xn q2) (tVar ix)) (hs : ∀ x, foldedSetIterable iter X.env x = pure x := by intro _; rfl) :
    LcEv X Hb (.Name xn q2) (.Name xn q1) iter [tst] scope own Γ (fun z => z = .lst ((xs.filter p).map f)) := by
  obtain ⟨wi, hpi, hw⟩ := hit
  refine ⟨hc, nd, ok, hs, _, _, _, tVar ix, hpi, hg, (fun s H C cl fp => pts_one (t := tInT X scope tst) ⟨fun pins s' σ H' Q I h => (h s H C cl fp).run pins s' I⟩), hv, fun σ H en Q q => ?_⟩
  refine hw σ H en _ fun J H1 ds e1 x ⟨G, Y, w, hG, hY⟩ => ?_
  subst e1
  have en1 := en.ex x
  rw [List.length_map] at w hY
  refine fun L hL => lc_it w (fun i H => SoFar X.K H1 L (fun ys => ys = ((xs.take i).filter p).map f) H) (soFar_start hL rfl) (fun i H2 _ h => hG _ (hide_ex.trans h.1)) ?_ ?_
  · intro i v H2 H3 hi sf y
    obtain ⟨rfl, dx, hd, rv⟩ := hY i H2 v H3 hi (hide_ex.trans sf.1) y
    rw [List.getElem?_map] at hd
    obtain ⟨ax, hax, rfl⟩ : ∃ ax, xs[i]? = some ax ∧ dx = f ax := by
      cases z : xs[i]? with
      | none => rw [z] at hd; cases hd
      | some ax => rw [z] at hd; cases hd; exact ⟨ax, rfl, rfl⟩
    have hm := List.mem_of_getElem? hax
    have et : xs.take (i + 1) = xs.take i ++ [ax] := by rw [List.take_add_one, hax]; rfl
    have rv1 : Rep X.K H1 v (f ax) := rv.ex hide_ex
    have en2 : EnvOk X.K Hb ((wipeG Γ (own.map (·.2))).set ix (.dat (f ax))) ((wipe σ (own.map (·.2))).set ix (some v)) H3 := (wipe_env (en1.ex sf.1) _).setDat (rv1.ex sf.1) (hst ax hm)
    refine ⟨by rw [set_wipe hown, wipe_wipe], fun s0 H0 C cl fp => ht ax hm s0 H0 C cl fp _ H3 en2 _ fun k H4 ek x4 => ?_⟩
    have sf4 : SoFar X.K H1 L (fun ys => ys = ((xs.take i).filter p).map f) H4 := by
      obtain ⟨e, acc, ys, h1, h2, h3⟩ := sf
      exact ⟨e.trans x4, acc, ys, x4.lst h1, h2.ex (hide1_ex x4 (x4.lst h1)), h3⟩
    subst ek
    cases hta : p ax with
    | false =>
      refine if_neg (by simp) |>.mpr ?_
      rw [et, List.filter_append, List.filter_cons, hta]
      simpa using sf4
    | true =>
      refine (if_pos rfl).mpr ?_
      have hlσ : ix < (wipe σ (own.map (·.2))).length := by rw [wipe_length, ← en.len]; exact hΓ
      refine ⟨v, by rw [List.getElem?_set_self hlσ], ?_⟩
      refine soFar_moreOld hL sf4 rv1 (fun ys h => ?_) fun ys h => ?_
      · rw [h, List.length_map]
        refine Nat.lt_of_le_of_lt (List.length_filter_le _ _) ?_
        rw [List.length_take]
        omega
      · rw [et, List.filter_append, List.filter_cons, hta, h, List.map_append]
        rfl
  · intro H2 sf
    rw [List.take_length] at sf
    obtain ⟨ys, h1, h2, h3, h4⟩ := soFar_done hL x sf
    exact q _ _ _ (by rw [h1]) h2 h3 h4
end
end L3

namespace L3
open PySem PySem.Spec PyProof.Rows L2
theorem alln {P : D → Prop} : ∀ x ∈ ([] : List D), P x := fun _ m => nomatch m
theorem allc {P : D → Prop} {a : D} {l : List D} (h : P a) (r : ∀ x ∈ l, P x) : ∀ x ∈ a :: l, P x := fun x m => by
  rcases List.mem_cons.mp m with e | e
  · rw [e]; exact h
  · exact r x e
section
variable {X : Cx} {Hb Hb' : Hp} {a b c e elt iter tg : Expr} {es ifs : List Expr} {Γ : Slots} {pos p' apos cpos : Pos} {d x y : D} {ds : List D} {S S' : D → Prop} {fr fr' : Bool} {D0 : Ends} {rest sts : List Stmt} {st : Stmt} {scope : Scope} {own : List (Str × Nat)}
theorem EvW.imp {S S' : Bool → Prop} (h : EvW X Hb e Γ S) (f : ∀ k, S k → S' k) : EvW X Hb e Γ S' := fun σ H en Q q => h σ H en Q fun b H' s x => q b H' (f b s) x
/-- {1: 2} -/
theorem ev_dct1 {i j : Int} (ha : Ev X Hb a Γ fr (.int i)) (hb : Ev X Hb b Γ fr' (.int j)) : Ev X Hb (.Dict [some a] [b] pos) Γ true (.dct [(.inl i, .int j)]) := fun σ H en Q q =>
  SemE.of (pe_disp (pps_cons (semE X a) (semE X b) pps_nil) rfl rfl (by simp) (by simp)) fun p hp => ha σ _ (en.ex (Ex.new hp)) _ fun v H1 d1 e1 x1 r1 _ => hb σ H1 ((en.ex (Ex.new hp)).ex x1) _ fun w H2 d2 e2 x2 r2 _ => by
    subst e1 e2
    cases r1
    cases r2
    have e3 : H2 p = some (.dK []) := x2.dK (x1.dK upd_same)
    have xx : Ex H (upd H2 p (.dK [(.inl i, .int j)])) := Ex.mut ((Ex.new hp).trans (x1.trans x2)) hp (by rw [e3]; trivial)
    exact ⟨e3, [(.inl i, .int j)], rfl, by simp, q _ _ _ rfl xx (.dct (.inl upd_same) (.cons (.int j) .nil)) fun _ => ⟨p, _, rfl, hp, upd_same, .cons (.int j) .nil⟩⟩
/-- x, y = a, b, where one of them is a cell -/
theorem go_parC (i j : Nat) {xn yn : Str} {px py pt : Pos} {kt k2 : Nat} {pt2 : Pos} {S2 : D → D → Prop} (h : EvA X Hb [a, b] Γ fun z => ∃ d1 d2, z = [d1, d2] ∧ S2 d1 d2) (hs1 : ∀ d1 d2, S2 d1 d2 → Sto Γ d1 ∧ Sto (Γ.set i (.dat d1)) d2)
    (g : ∀ d1 d2, S2 d1 d2 → Go X Hb rest D0 ((Γ.set i (.dat d1)).set j (.dat d2))) (hc : X.calm = true) (nd : X.N.Nodup) (hw : swappedStores [.Tuple [.Name xn px, .Name yn py] kt pt] (.Tuple [a, b] k2 pt2) X.env = pure none := by rfl)
    (hi : X.N[i]? = some xn := by rfl) (hj : X.N[j]? = some yn := by rfl) (hx : Loc X.env.scope xn := by first | exact Or.inl rfl | exact Or.inr rfl) (hy : Loc X.env.scope yn := by first | exact Or.inl rfl | exact Or.inr rfl)
    (hf : X.fn xn = true ∨ X.env.scope.names.lookup xn = some .local := by first | exact .inl rfl | exact .inr rfl) (hf2 : X.fn yn = true ∨ X.env.scope.names.lookup yn = some .local := by first | exact .inl rfl | exact .inr rfl)
    (hn : (assignEach [.Name xn px, .Name yn py] X.env).length = 2 := by rfl) (hst : (assignEach [.Name xn px, .Name yn py] X.env).findIdx? (·.1) = none := by rfl)
    (hz1 : (assignEach (.Name xn px :: [.Name yn py]) X.env).map (·.2) = assign (.Name xn px) X.env :: (assignEach [.Name yn py] X.env).map (·.2) := by rfl) (hz2 : (assignEach (.Name yn py :: []) X.env).map (·.2) = assign (.Name yn py) X.env :: (assignEach [] X.env).map (·.2) := by rfl)
    (hsw : swapsWithSole [.Tuple [.Name xn px, .Name yn py] kt pt] (.Tuple [a, b] k2 pt2) pos.line X.env = pure false := by rfl) (h1 : (assignEach [.Tuple [.Name xn px, .Name yn py] kt pt] X.env).map (·.2) = [assign (.Tuple [.Name xn px, .Name yn py] kt pt) X.env] := by rfl) :
    Go X Hb (.Assign [.Tuple [.Name xn px, .Name yn py] kt pt] (.Tuple [a, b] k2 pt2) pos :: rest) D0 Γ :=
  go_asg (evn_tup h (by simp) fun ds ⟨d1, d2, e, _⟩ => by rw [e]; rfl) (tg_tup hc (tgs_cons (tg_name i nd hi hx hf) (tgs_cons (tg_name j nd hj hy hf2) tgs_nil hz2) hz1) hn hst) (fun d ⟨ds, e, d1, d2, e2, s⟩ => by
    subst e e2
    exact ⟨_, ⟨_, rfl, rfl, _, _, _, rfl, ⟨(hs1 d1 d2 s).1, rfl⟩, _, _, _, rfl, ⟨(hs1 d1 d2 s).2, rfl⟩, rfl, rfl⟩, g d1 d2 s⟩) hsw hw h1
end
end L3

namespace L3
open PySem PySem.Spec PyProof.Rows L2
/-! ### compared with the empty list, the empty tuple -/
def rEq0 (K : PySem.W.Frag) (f : Bool → Bool) : R2 := fun x y H Q => ∃ a b xs, x = .ref a ∧ y = .ref b ∧ ((SqL K H a xs ∧ SqL K H b []) ∨ (SqT K H a xs ∧ SqT K H b [])) ∧ Q (.bl (f xs.isEmpty)) H
theorem PlainL.isList {h : Heap} {a : Addr} {its : Array Value} (p : PlainL h a its) : h.IsList a its := by
  obtain ⟨o, n, ho, hc, _, hd⟩ := p
  exact ⟨o, ho, hc, n, hd⟩
section
variable {X : Cx}
theorem op_eq0 (hu : X.A.units + 64 < cLine) : OpR X (compareOp .Eq) (rEq0 X.K id) := by
  intro pins s σ H x y v u Q I rx ry h
  obtain ⟨a, b, xs, rfl, rfl, h, q⟩ := h
  cases rx
  cases ry
  rcases h with ⟨ha, hb⟩ | ⟨ha, hb⟩
  · obtain ⟨its, r, p, _⟩ := I.list ha
    obtain ⟨its2, r2, p2, _⟩ := I.list hb
    cases r2
    cases xs with
    | nil =>
      cases r
      exact PySem.SeqAt.eq_listAt (e := fun _ => true) p.isList p2.isList rfl (by omega) (fun j h1 => absurd h1 (Nat.not_lt_zero _)) ⟨.bl true, H, I, rfl, q⟩
    | cons z zs =>
      cases r with
      | cons r1 r2 => exact PySem.SeqAt.eq_list_lengthsAt p.isList p2.isList (by simp) (by omega) ⟨.bl false, H, I, rfl, q⟩
  · obtain ⟨its, r, p, _⟩ := I.tuple ha
    obtain ⟨its2, r2, p2, _⟩ := I.tuple hb
    cases r2
    refine PySem.SeqAt.eq_tupleAt (e := fun _ => true) p p2 (by omega) (fun j _ h1 => absurd h1 (Nat.not_lt_zero _)) ⟨.bl xs.isEmpty, H, I, ?_, q⟩
    cases r with
    | nil => rfl
    | cons r1 r2 => show Value.bool _ = Value.bool false; simp
theorem op_ne0 (hu : X.A.units + 64 < cLine) : OpR X (compareOp .NotEq) (rEq0 X.K (!·)) := by
  intro pins s σ H x y v u Q I rx ry h
  obtain ⟨a, b, xs, rfl, rfl, h, q⟩ := h
  cases rx
  cases ry
  rcases h with ⟨ha, hb⟩ | ⟨ha, hb⟩
  · obtain ⟨its, r, p, _⟩ := I.list ha
    obtain ⟨its2, r2, p2, _⟩ := I.list hb
    cases r2
    cases xs with
    | nil =>
      cases r
      exact PySem.SeqAt.RcNeAt.lists (e := fun _ => true) p.isList p2.isList rfl (by omega) (fun j h1 => absurd h1 (Nat.not_lt_zero _)) _ _ _ _ ⟨.bl false, H, I, rfl, q⟩
    | cons z zs =>
      cases r with
      | cons r1 r2 => exact PySem.SeqAt.RcNeAt.lists_lengths p.isList p2.isList (by simp) (by omega) _ _ _ _ ⟨.bl true, H, I, rfl, q⟩
  · obtain ⟨its, r, p, _⟩ := I.tuple ha
    obtain ⟨its2, r2, p2, _⟩ := I.tuple hb
    cases r2
    refine PySem.SeqAt.RcNeAt.tuples (e := fun _ => true) p p2 (by omega) (fun j _ h1 => absurd h1 (Nat.not_lt_zero _)) _ _ _ _ ⟨.bl (!xs.isEmpty), H, I, ?_, q⟩
    cases r with
    | nil => rfl
    | cons r1 r2 => show Value.bool _ = Value.bool true; simp
end
section
variable {X : Cx} {Hb Hb' : Hp} {a b c e : Expr} {es : List Expr} {Γ : Slots} {pos p' apos cpos : Pos} {d x y : D} {ds : List D} {S S' : D → Prop} {fr fr' : Bool}
theorem sq_of {K : PySem.W.Frag} {H H' : Hp} {v w : V} {d e : D} (hd : (d = .lst ds ∧ e = .lst []) ∨ (d = .tup ds ∧ e = .tup [])) (x : Ex H H') (r : Rep K H v d) (r2 : Rep K H' w e) : ∃ a b xs, v = .ref a ∧ w = .ref b ∧ ((SqL K H' a xs ∧ SqL K H' b []) ∨ (SqT K H' a xs ∧ SqT K H' b [])) ∧ xs.isEmpty = ds.isEmpty := by
  rcases hd with ⟨rfl, rfl⟩ | ⟨rfl, rfl⟩
  · cases r with
    | lst h ra =>
      cases r2 with
      | lst h2 ra2 =>
        cases ra2
        exact ⟨_, _, _, rfl, rfl, .inl ⟨SqL.ex x h, h2⟩, by cases ra <;> rfl⟩
  · cases r with
    | tup h ra =>
      cases r2 with
      | tup h2 ra2 =>
        cases ra2
        exact ⟨_, _, _, rfl, rfl, .inr ⟨SqT.ex x h, h2⟩, by cases ra <;> rfl⟩
theorem evt_eq0 {k : Nat} {d e : D} (hr : Room k X.A) (hd : (d = .lst ds ∧ e = .lst []) ∨ (d = .tup ds ∧ e = .tup [])) (ha : Ev X Hb a Γ fr d) (hb : Ev X Hb b Γ fr' e) : EvB X Hb (.Compare a [.Eq] [b] pos) Γ ds.isEmpty := fun σ H en Q q =>
  SemT.of (pt_cmpR (op_eq0 hr.units) (semE X a) (semE X b) (nomark _)) (ha σ H en _ fun v H1 d1 e1 x1 r1 _ => hb σ H1 (en.ex x1) _ fun w H2 d2 e2 x2 r2 _ => by
    subst e1 e2
    obtain ⟨a, b, xs, q1, q2, q3, q4⟩ := sq_of hd x2 r1 r2
    exact ⟨a, b, xs, q1, q2, q3, _, rfl, q _ H2 q4 (x1.trans x2)⟩)
theorem evt_ne0 {k : Nat} {d e : D} (hr : Room k X.A) (hd : (d = .lst ds ∧ e = .lst []) ∨ (d = .tup ds ∧ e = .tup [])) (ha : Ev X Hb a Γ fr d) (hb : Ev X Hb b Γ fr' e) : EvB X Hb (.Compare a [.NotEq] [b] pos) Γ (!ds.isEmpty) := fun σ H en Q q =>
  SemT.of (pt_cmpR (op_ne0 hr.units) (semE X a) (semE X b) (nomark _)) (ha σ H en _ fun v H1 d1 e1 x1 r1 _ => hb σ H1 (en.ex x1) _ fun w H2 d2 e2 x2 r2 _ => by
    subst e1 e2
    obtain ⟨a, b, xs, q1, q2, q3, q4⟩ := sq_of hd x2 r1 r2
    exact ⟨a, b, xs, q1, q2, q3, _, rfl, q _ H2 (by rw [q4]) (x1.trans x2)⟩)
theorem ev_eq0 {k : Nat} {d e : D} (hr : Room k X.A) (hd : (d = .lst ds ∧ e = .lst []) ∨ (d = .tup ds ∧ e = .tup [])) (ha : Ev X Hb a Γ fr d) (hb : Ev X Hb b Γ fr' e) : Ev X Hb (.Compare a [.Eq] [b] pos) Γ true (.bl ds.isEmpty) := fun σ H en Q q =>
  SemE.of (pe_cmpR (op_eq0 hr.units) (semE X a) (semE X b) (nomark _)) (ha σ H en _ fun v H1 d1 e1 x1 r1 _ => hb σ H1 (en.ex x1) _ fun w H2 d2 e2 x2 r2 _ => by
    subst e1 e2
    obtain ⟨a, b, xs, q1, q2, q3, q4⟩ := sq_of hd x2 r1 r2
    exact ⟨a, b, xs, q1, q2, q3, q _ H2 _ (by rw [q4]; rfl) (x1.trans x2) (.bl _) fun _ => FreshD.flat rfl⟩)
theorem ev_ne0 {k : Nat} {d e : D} (hr : Room k X.A) (hd : (d = .lst ds ∧ e = .lst []) ∨ (d = .tup ds ∧ e = .tup [])) (ha : Ev X Hb a Γ fr d) (hb : Ev X Hb b Γ fr' e) : Ev X Hb (.Compare a [.NotEq] [b] pos) Γ true (.bl (!ds.isEmpty)) := fun σ H en Q q =>
  SemE.of (pe_cmpR (op_ne0 hr.units) (semE X a) (semE X b) (nomark _)) (ha σ H en _ fun v H1 d1 e1 x1 r1 _ => hb σ H1 (en.ex x1) _ fun w H2 d2 e2 x2 r2 _ => by
    subst e1 e2
    obtain ⟨a, b, xs, q1, q2, q3, q4⟩ := sq_of hd x2 r1 r2
    exact ⟨a, b, xs, q1, q2, q3, q _ H2 _ (by rw [q4]) (x1.trans x2) (.bl _) fun _ => FreshD.flat rfl⟩)
end
end L3

namespace L3
open PySem PySem.Spec PyProof.Rows L2
/-- a name of the top that holds d for good -/
def Gv (K : PySem.W.Frag) (mg : Str → Option Value) (x : Str) (d : D) : Prop := ∃ (u : Value) (v : V), mg x = some u ∧ RelV v u ∧ ∀ H, Rep K H v d
theorem gv_tup2 {K : PySem.W.Frag} {mg : Str → Option Value} {x : Str} {c : Addr} {dd : Option Addr} {t1 t2 : Tok} {n : Nat} {sl : Array (Option Value)} {i j : Int} (hm : mg x = some (.ref c)) (hl : K.lookup c = some ⟨.type "tuple", dd, .seq #[.int i t1, .int j t2] n, sl⟩) : Gv K mg x (.tup [.int i, .int j]) :=
  ⟨_, .ref c, hm, rfl, fun H => .tup (xs := [.int i, .int j]) (.inr ⟨_, _, _, hl, rfl, rfl, by show 2 ≤ sizeLine; decide, .cons ⟨t1, rfl⟩ (.cons ⟨t2, rfl⟩ .nil)⟩) (.cons (.int i) (.cons (.int j) .nil))⟩
theorem gv_int {K : PySem.W.Frag} {mg : Str → Option Value} {x : Str} {t : Tok} {i : Int} (hm : mg x = some (.int i t)) : Gv K mg x (.int i) := ⟨_, .int i, hm, ⟨t, rfl⟩, fun _ => .int i⟩
theorem gv_str {K : PySem.W.Frag} {mg : Str → Option Value} {x : Str} {t : Tok} {z : Str} (hm : mg x = some (.str z t)) : Gv K mg x (.str z) := ⟨_, .str z, hm, ⟨t, rfl⟩, fun _ => .str z⟩
theorem ev_gv {X : Cx} {Hb : Hp} {Γ : Slots} {x : Str} {pos : Pos} {d : D} (h : Gv X.K X.mg x d) (hg : Gl X x := by rfl) (hd : (x == ("__debug__" : Str)) = false := by decide) : Ev X Hb (.Name x pos) Γ false d := fun σ H en Q q => by
  obtain ⟨u, v, hm, r, rep⟩ := h
  exact SemE.of (pe_glob hg hm r hd) (q v H d rfl Ex.refl (rep H) fun z => nomatch z)
section
variable {X : Cx} {Hb Hb' : Hp} {a b c e : Expr} {es : List Expr} {Γ : Slots} {pos p' apos cpos : Pos} {d x y : D} {ds : List D} {S S' : D → Prop} {fr fr' : Bool}
theorem ev_chain {op op' : CmpOp} {g g' : Int → Int → Bool} {i j k : Int} {fr'' : Bool} (ho : OpR X (compareOp op) (rI0 fun i j => .bl (g i j))) (ho' : OpR X (compareOp op') (rI0 fun i j => .bl (g' i j))) (ha : Ev X Hb a Γ fr (.int i)) (hb : Ev X Hb b Γ fr' (.int j)) (hc : Ev X Hb c Γ fr'' (.int k))
    (hm : lastMarks [op, op'] [b, c] = false := by with_unfolding_all rfl) : Ev X Hb (.Compare a [op, op'] [b, c] pos) Γ true (.bl (g i j && g' j k)) := fun σ H en Q q =>
  SemE.of (pe_chain ho ho' (semE X a) (semE X b) (semE X c) hm) (ha σ H en _ fun v H1 e1 z1 x1 r1 _ => hb σ H1 (en.ex x1) _ fun w H2 e2 z2 x2 r2 _ => by
    subst z1 z2
    cases r1
    cases r2
    refine ⟨i, j, rfl, rfl, g i j, rfl, ?_⟩
    cases hg : g i j with
    | true =>
      refine iteT ?_
      refine hc σ H2 (en.ex (x1.trans x2)) _ fun u H3 e3 z3 x3 r3 _ => ?_
      subst z3
      cases r3
      exact ⟨j, k, rfl, rfl, q _ H3 _ (by rw [hg]; rfl) ((x1.trans x2).trans x3) (.bl _) fun _ => FreshD.flat rfl⟩
    | false =>
      refine iteF ?_
      exact q _ H2 _ (by rw [hg]; rfl) (x1.trans x2) (.bl _) fun _ => FreshD.flat rfl)
end
end L3

namespace L3
open PySem PySem.Spec PyProof.Rows L2
/-! ### a tuple once: itself -/
theorem tuple_mul1W (l : Addr) (items : Array Value) (n : Nat) (dd : Option Addr) (sl : Array (Option Value)) (x : Int) (u : Tok) (c0 : (decide (x < -(2 ^ 63)) || decide (x ≥ 2 ^ 63)) = false) (c1 : (items.isEmpty || x == 1) = true) :
    Meets (Builtin.«tuple.__mul__» ⟨[.ref l, .int x u], []⟩) (fun _ R s => s.heap.get? l = some { cls := .type "tuple", dict := dd, data := .seq items n, slots := sl } ∧ R (.ok (.ret (Value.ref l))) s) :=
  .of_wp fun prog w A R s h => by
    obtain ⟨hp, g, d, tk, os⟩ := s
    obtain ⟨hl, h⟩ := h
    have f1 := AutoSeq1.idx_int
    wp_walk using wpAny_loadPart' hl
    repeat (first
      | (refine wpAny_ite_false (decide_eq_false (by rw [c0]; exact Bool.false_ne_true)) ?_; wp_walk using wpAny_loadPart' hl)
      | (refine wpAny_ite_true (decide_eq_true c1) ?_; wp_walk using wpAny_loadPart' hl))
    exact ⟨_, rfl, h⟩
def rRepT1 (K : PySem.W.Frag) : R2 := fun x y H Q => ∃ l xs, x = .ref l ∧ y = .int 1 ∧ SqT K H l xs ∧ Q (.ref l) H
theorem op_repT1 {X : Cx} : OpR X (binaryOp .Mult) (rRepT1 X.K) := by
  intro pins s σ H x y v u Q I rx ry h
  obtain ⟨l, xs, rfl, rfl, hT, q⟩ := h
  cases rx
  obtain ⟨t, rfl⟩ := ry
  obtain ⟨its, r, ⟨⟨cls, dd, data, sl⟩, ho, hc, n, hd⟩, hs⟩ := I.tuple hT
  simp only at hc hd
  subst hc hd
  refine wpAny_binaryOp_repeat_ref (T := "tuple") (U := "int") (by decide) ⟨_, ho, rfl⟩ (fun s' => typeIs_int s' 1 t) noFill_tuple_mul F.fills_int_mul F.slot_int_rmul repeat_tuple F.slot_int_index.lookup
    (call_meets F.slot_int_rmul (typeIs_int s 1 t) F.entry_int_rmul (F.args_int_rmul_2 _ _) (int_rmul_tuple 1 t l its.toArray n dd sl)
      ⟨ho, rfl, ⟨_, ho, rfl⟩, call_meets F.slot_tuple_mul ⟨_, ho, rfl⟩ F.entry_tuple_mul (F.args_tuple_mul_2 _ _) (tuple_mul1W l its.toArray n dd sl 1 t rfl (by simp)) ⟨ho, ?_⟩⟩)
  exact ⟨.ref l, H, I, rfl, q⟩
section
variable {X : Cx} {Hb Hb' : Hp} {a b c e : Expr} {es : List Expr} {Γ : Slots} {pos p' apos cpos : Pos} {d x y : D} {ds : List D} {S S' : D → Prop} {fr fr' : Bool}
/-- t * k, k from 1 on -/
theorem evn_repT {S1 : List D → Prop} {S2 : Int → Prop} (ha : EvN X Hb a Γ fr fun z => ∃ ds, z = .tup ds ∧ S1 ds) (hb : EvI1 X Hb b Γ fr' S2) (hS : ∀ x k, S1 x → S2 k → x ≠ [] ∧ x.length ≤ 1000 ∧ 1 ≤ k ∧ k ≤ 1000 ∧ S (.tup (List.replicate k.toNat x).flatten)) :
    EvN X Hb (.BinOp a .Mult b pos) Γ true (fun z => S z ∧ ∃ ds, z = .tup ds) := fun σ H en Q q =>
  SemE.of (pe_op (fun pins s σ H x y v u Q I rx ry h => by
      rcases h with h | h
      · exact op_repT1 pins s σ H x y v u Q I rx ry h
      · exact op_repT pins s σ H x y v u Q I rx ry h) (r := fun x y H Q => rRepT1 X.K x y H Q ∨ rRepT X.K x y H Q) (semE X a) (semE X b)) (ha σ H en _ fun v H1 d1 ⟨xs, e1, s1⟩ x1 r1 _ => hb σ H1 (en.ex x1) _ fun w H2 d2 ⟨k, e2, s2⟩ x2 r2 _ => by
    subst e1 e2
    cases r2
    obtain ⟨h0, hl, h1, h2, s⟩ := hS xs k s1 s2
    have xx := x1.trans x2
    cases r1 with
    | tup hq ra =>
      have hq2 := SqT.ex x2 hq
      have ra2 := ra.ex x2
      by_cases e : k = 1
      · subst e
        have ef : (List.replicate (1 : Int).toNat xs).flatten = xs := by show (List.replicate 1 xs).flatten = xs; simp
        exact .inl ⟨_, _, rfl, rfl, hq2, q _ H2 (.tup xs) ⟨ef ▸ s, xs, rfl⟩ xx (.tup hq2 ra2) fun _ => FreshD.flat rfl⟩
      · have r3 : ∀ n vs, RepAll X.K H2 vs xs → RepAll X.K H2 (List.replicate n vs).flatten (List.replicate n xs).flatten := fun n vs ra => by
          induction n with
          | zero => exact .nil
          | succ n ih => rw [List.replicate_succ, List.replicate_succ, List.flatten_cons, List.flatten_cons]; exact ra.append ih
        refine .inr ⟨_, k, _, rfl, rfl, hq2, fun z => ?_, by omega, h2, by rw [ra2.length]; exact hl, fun p hp => q _ _ _ ⟨s, _, rfl⟩ (xx.trans (Ex.new hp)) (.tup (SqT.of upd_same) ((r3 _ _ ra2).ex (Ex.new hp))) fun _ => FreshD.flat rfl⟩
        have := ra2.length
        rw [z] at this
        exact h0 (List.eq_nil_of_length_eq_zero this.symm))
theorem ev_repT {k : Int} (ha : Ev X Hb a Γ fr (.tup ds)) (hb : Ev X Hb b Γ fr' (.int k)) (h0 : ds ≠ []) (hl : ds.length ≤ 1000) (h1 : 1 ≤ k) (h2 : k ≤ 1000) : Ev X Hb (.BinOp a .Mult b pos) Γ true (.tup (List.replicate k.toNat ds).flatten) :=
  (evn_repT (S1 := (· = ds)) (S2 := (· = k)) (S := (· = .tup (List.replicate k.toNat ds).flatten)) (ha.imp fun _ z => ⟨_, z, rfl⟩) (EvN.int1 hb) fun x j e1 e2 => by subst e1 e2; exact ⟨h0, hl, h1, h2, rfl⟩).imp fun _ z => z.1
end
end L3

namespace L3
open PySem PySem.Spec PyProof.Rows L2
/-! ### sum, max, min of a tuple of ints -/
/-- the walk over a tuple's iterator, whole -/
def TupGo (prog : Program) (w : World) (A : Around) (s s₂ : Shared) (l I : Addr) (its : Array Value) : Prop :=
  Walks prog w A I [I, l] [I] its.size (fun i v => its[i]? = some v) (fun i g => g.IsTupleIter I l i ∧ g.IsTuple l its) ∧ (s₂.heap.IsTupleIter I l 0 ∧ s₂.heap.IsTuple l its) ∧ (∀ c ∈ [I, l], c < s₂.heap.objs.size) ∧
    ∀ g : Heap, (∀ c u, c ∉ [I] → s₂.heap.get? c = some u → g.get? c = some u) → ∀ c u, s.heap.get? c = some u → g.get? c = some u
section
variable {prog : Program} {w : World} {A : Around} {E : Value → Shared → Prop} {s : Shared} {l : Addr} {Q : Value → Shared → Prop}
theorem tup_go {its : Array Value} (free : A.handled = none) (tl : s.heap.IsTuple l its) (k : ∀ s₂ I, True ∧ TupGo prog w A s s₂ l I its → (∃ g, s₂ = { s with heap := g }) → Q (.ref I) s₂) : wpAny (model prog w) A (pyIter (.ref l)) Q E s := by
  have below : l < s.heap.objs.size := tl.elim fun _ z => Heap.lt_size z.1
  have apart : l ≠ s.heap.objs.size := Nat.ne_of_lt below
  refine wpAny_pyIter_tuple tl (k _ _ ⟨trivial, Walks.tuple free _ _ apart its, ⟨⟨_, Heap.get?_push_size _ rfl, rfl, rfl⟩, tl.push _⟩, ?_, ?_⟩ ⟨_, rfl⟩)
  · have grown : (s.heap.push { cls := .type "tuple_iterator", data := .fields #[.ref l, .int 0 0] }).objs.size = s.heap.objs.size + 1 := Heap.size_push ..
    intro c mc
    refine Nat.lt_of_lt_of_eq ?_ grown.symm
    simp only [List.mem_cons, List.not_mem_nil, or_false] at mc
    rcases mc with e | e
    · rw [e]; exact Nat.lt_succ_self _
    · rw [e]; exact Nat.lt_succ_of_lt below
  · intro g keep c u hc
    have hlt : c < s.heap.objs.size := Heap.lt_size hc
    exact keep c u (fun z => Nat.lt_irrefl _ (by rw [List.mem_singleton.mp z] at hlt; exact hlt)) (Heap.get?_push_of_some _ hc)
theorem num_mem {xs : Array (Int × Tok)} {j : Nat} (hj : j < xs.size) : numAt xs j ∈ xs.toList.map (·.1) :=
  List.mem_map.mpr ⟨xs[j], by simp, by unfold numAt; simp [hj]⟩
theorem mem_num {xs : Array (Int × Tok)} {n : Int} (hn : n ∈ xs.toList.map (·.1)) : ∃ j, j < xs.size ∧ numAt xs j = n := by
  obtain ⟨p, hp, e⟩ := List.mem_map.mp hn
  obtain ⟨j, hj, e2⟩ := List.mem_iff_getElem.mp hp
  refine ⟨j, by simpa using hj, ?_⟩
  unfold numAt
  have : xs[j]? = some p := by rw [← Array.getElem?_toList, List.getElem?_eq_getElem hj, e2]
  rw [this]
  exact e
/-- a list of values that are ints, as pairs -/
theorem int_pairs {its : List Value} {ns : List Int} (hi : IntsAre its ns) : ∃ xs : Array (Int × Tok), its.toArray = intItems xs ∧ xs.toList.map (·.1) = ns := by
  obtain ⟨xs, e⟩ := hi.allInts.items
  refine ⟨xs, e, ?_⟩
  rw [← nums_intItems, ← e]
  exact hi.numsOf
theorem sum_tup {its : List Value} {ns : List Int} (free : A.handled = none) (tl : s.heap.IsTuple l its.toArray) (hi : IntsAre its ns)
    (k : ∀ g tk t, (∀ c u, s.heap.get? c = some u → g.get? c = some u) → Q (.int ns.sum t) { s with heap := g, toks := tk }) : wpAny (model prog w) A (call (.builtin "sum") [.ref l]) Q E s := by
  obtain ⟨xs, e, en⟩ := int_pairs hi
  rw [e] at tl
  refine call_sum_walkG (tup_go (A := A.in1) free tl fun s₂ I ⟨_, wk, st, lt, back⟩ ⟨g0, e2⟩ => ⟨I, _, _, _, _, _, numAt xs, rfl, wk, st, lt, fun _ _ hv => intItems_at hv, fun g tk t keep => ?_⟩)
  have key : preSum (numAt xs) (intItems xs).size = ns.sum := by
    rw [preSum_eq, List.take_of_length_le (by simp [intItems]), en]
  rw [key, e2]
  exact k g tk t (back g keep)
theorem max_tup {its : List Value} {ns : List Int} (free : A.handled = none) (tl : s.heap.IsTuple l its.toArray) (hi : IntsAre its ns) (some1 : 0 < ns.length)
    (k : ∀ g tk M t, (∀ c u, s.heap.get? c = some u → g.get? c = some u) → M ∈ ns → (∀ n ∈ ns, n ≤ M) → Q (.int M t) { s with heap := g, toks := tk }) : wpAny (model prog w) A (call (.builtin "max") [.ref l]) Q E s := by
  obtain ⟨xs, e, en⟩ := int_pairs hi
  rw [e] at tl
  have size1 : 0 < xs.size := by rw [← en, List.length_map, Array.length_toList] at some1; exact some1
  refine call_max_walk (tup_go (A := A.in1) free tl fun s₂ I ⟨_, wk, st, lt, back⟩ ⟨g0, e2⟩ => ⟨I, _, _, _, _, _, _, rfl, wk, st, lt, by simpa [intItems] using size1, CmpOf.ints_gt (numAt xs) (fun _ _ hv => intItems_at hv), fun v g tk hv keep => ?_⟩)
  obtain ⟨t, rfl⟩ := intItems_at (show (intItems xs)[argBest _ _]? = some v from hv)
  rw [e2]
  have sz : (intItems xs).size = xs.size := by simp [intItems]
  obtain ⟨b1, b2⟩ := argBest_gt (numAt xs) ((intItems xs).size - 1)
  refine k g tk _ t (back g keep) (en ▸ num_mem (by omega)) fun n hn => ?_
  obtain ⟨j, hj, rfl⟩ := mem_num (en.symm ▸ hn)
  exact b2 j (by omega)
theorem min_tup {its : List Value} {ns : List Int} (free : A.handled = none) (tl : s.heap.IsTuple l its.toArray) (hi : IntsAre its ns) (some1 : 0 < ns.length)
    (k : ∀ g tk M t, (∀ c u, s.heap.get? c = some u → g.get? c = some u) → M ∈ ns → (∀ n ∈ ns, M ≤ n) → Q (.int M t) { s with heap := g, toks := tk }) : wpAny (model prog w) A (call (.builtin "min") [.ref l]) Q E s := by
  obtain ⟨xs, e, en⟩ := int_pairs hi
  rw [e] at tl
  have size1 : 0 < xs.size := by rw [← en, List.length_map, Array.length_toList] at some1; exact some1
  refine call_min_walk (tup_go (A := A.in1) free tl fun s₂ I ⟨_, wk, st, lt, back⟩ ⟨g0, e2⟩ => ⟨I, _, _, _, _, _, _, rfl, wk, st, lt, by simpa [intItems] using size1, CmpOf.ints_lt (numAt xs) (fun _ _ hv => intItems_at hv), fun v g tk hv keep => ?_⟩)
  obtain ⟨t, rfl⟩ := intItems_at (show (intItems xs)[argBest _ _]? = some v from hv)
  rw [e2]
  have sz : (intItems xs).size = xs.size := by simp [intItems]
  obtain ⟨b1, b2⟩ := argBest_lt (numAt xs) ((intItems xs).size - 1)
  refine k g tk _ t (back g keep) (en ▸ num_mem (by omega)) fun n hn => ?_
  obtain ⟨j, hj, rfl⟩ := mem_num (en.symm ▸ hn)
  exact b2 j (by omega)
end
section
variable {X : Cx}
def rTupI (K : PySem.W.Frag) (one : Bool) (C : List Int → Int → Prop) : List V → Hp → VK → Prop := fun vs H Q => ∃ (p : Addr) (ns : List Int), vs = [.ref p] ∧ SqT K H p (ns.map V.int) ∧ (one = true → 0 < ns.length) ∧ ∀ m, C ns m → Q (.int m) H
theorem cr_sumT (calm : X.calm = true) : CallR X (.builtin "sum") (rTupI X.K false fun ns m => m = ns.sum) := fun pins s σ H vs us Q I r ⟨p, ns, e, ht, _, q⟩ => by
  subst e
  obtain ⟨its, rv, tl, _⟩ := I.tuple ht
  rw [Vals.ref1 r]
  exact sum_tup (I.ok.hd calm) tl rv.ints fun _ _ t keep => ⟨.int ns.sum, H, I.kept keep, ⟨t, rfl⟩, q _ rfl⟩
theorem cr_maxT (calm : X.calm = true) : CallR X (.builtin "max") (rTupI X.K true fun ns m => m ∈ ns ∧ ∀ n ∈ ns, n ≤ m) := fun pins s σ H vs us Q I r ⟨p, ns, e, ht, h1, q⟩ => by
  subst e
  obtain ⟨its, rv, tl, _⟩ := I.tuple ht
  rw [Vals.ref1 r]
  exact max_tup (I.ok.hd calm) tl rv.ints (h1 rfl) fun _ _ M t keep g1 g2 => ⟨.int M, H, I.kept keep, ⟨t, rfl⟩, q _ ⟨g1, g2⟩⟩
theorem cr_minT (calm : X.calm = true) : CallR X (.builtin "min") (rTupI X.K true fun ns m => m ∈ ns ∧ ∀ n ∈ ns, m ≤ n) := fun pins s σ H vs us Q I r ⟨p, ns, e, ht, h1, q⟩ => by
  subst e
  obtain ⟨its, rv, tl, _⟩ := I.tuple ht
  rw [Vals.ref1 r]
  exact min_tup (I.ok.hd calm) tl rv.ints (h1 rfl) fun _ _ M t keep g1 g2 => ⟨.int M, H, I.kept keep, ⟨t, rfl⟩, q _ ⟨g1, g2⟩⟩
end
theorem RepAll.tup1 {K : PySem.W.Frag} {H : Hp} {vs : List V} {ds : List D} (r : RepAll K H vs [.tup ds]) : ∃ p ws, vs = [.ref p] ∧ SqT K H p ws ∧ RepAll K H ws ds := by
  cases r with
  | cons r1 r2 =>
    cases r2
    cases r1 with
    | tup h ra => exact ⟨_, _, rfl, h, ra⟩
section
variable {X : Cx} {Hb Hb' : Hp} {a b c e : Expr} {es : List Expr} {Γ : Slots} {pos p' apos cpos : Pos} {d x y : D} {ds : List D} {S S' : D → Prop} {fr fr' : Bool}
theorem ev_sumT {pn : Pos} {ns : List Int} (hc : X.calm = true) (hm : X.mg "sum" = none) (hA : EvAs X Hb [a] Γ [.tup (ns.map .int)]) (hg : Gl X "sum" := by rfl) (he : starEach (a :: []) X.env = (false, eval a X.env) :: starEach [] X.env := by rfl) (hpl : (backTo pos (starEach [] X.env)).any (·.1) = false := by rfl) :
    Ev X Hb (.Call (.Name "sum" pn) [a] [] pos) Γ true (.int ns.sum) :=
  evn_B (cr_sumT hc) hm hA (fun vs H ds' Q s r k => by
    subst s
    obtain ⟨p, ws, e, hq, ra⟩ := r.tup1
    rw [ra.ints] at hq
    exact ⟨p, ns, e, hq, (fun z => nomatch z), fun m z => by subst z; exact k _ _ _ rfl Ex.refl (.int _) (FreshD.flat rfl)⟩) (by decide +kernel) hg (by decide) (by decide) he hpl
theorem ev_maxT {pn : Pos} {ns : List Int} {m : Int} (hc : X.calm = true) (hm : X.mg "max" = none) (hA : EvAs X Hb [a] Γ [.tup (ns.map .int)]) (h1 : m ∈ ns) (h2 : ∀ y ∈ ns, y ≤ m) (hg : Gl X "max" := by rfl) (he : starEach (a :: []) X.env = (false, eval a X.env) :: starEach [] X.env := by rfl) (hpl : (backTo pos (starEach [] X.env)).any (·.1) = false := by rfl) :
    Ev X Hb (.Call (.Name "max" pn) [a] [] pos) Γ true (.int m) :=
  evn_B (cr_maxT hc) hm hA (fun vs H ds' Q s r k => by
    subst s
    obtain ⟨p, ws, e, hq, ra⟩ := r.tup1
    rw [ra.ints] at hq
    exact ⟨p, ns, e, hq, (fun _ => List.length_pos_of_mem h1), fun m' ⟨g1, g2⟩ => by
      have : m' = m := Int.le_antisymm (h2 m' g1) (g2 m h1)
      subst this
      exact k _ _ _ rfl Ex.refl (.int _) (FreshD.flat rfl)⟩) (by decide +kernel) hg (by decide) (by decide) he hpl
theorem ev_minT {pn : Pos} {ns : List Int} {m : Int} (hc : X.calm = true) (hm : X.mg "min" = none) (hA : EvAs X Hb [a] Γ [.tup (ns.map .int)]) (h1 : m ∈ ns) (h2 : ∀ y ∈ ns, m ≤ y) (hg : Gl X "min" := by rfl) (he : starEach (a :: []) X.env = (false, eval a X.env) :: starEach [] X.env := by rfl) (hpl : (backTo pos (starEach [] X.env)).any (·.1) = false := by rfl) :
    Ev X Hb (.Call (.Name "min" pn) [a] [] pos) Γ true (.int m) :=
  evn_B (cr_minT hc) hm hA (fun vs H ds' Q s r k => by
    subst s
    obtain ⟨p, ws, e, hq, ra⟩ := r.tup1
    rw [ra.ints] at hq
    exact ⟨p, ns, e, hq, (fun _ => List.length_pos_of_mem h1), fun m' ⟨g1, g2⟩ => by
      have : m' = m := Int.le_antisymm (g2 m h1) (h2 m' g1)
      subst this
      exact k _ _ _ rfl Ex.refl (.int _) (FreshD.flat rfl)⟩) (by decide +kernel) hg (by decide) (by decide) he hpl
end
end L3

namespace L3
open PySem PySem.Spec PyProof.Rows L2
section
variable {X : Cx} {Hb Hb' : Hp} {a b c e : Expr} {es : List Expr} {Γ : Slots} {pos p' p2 apos apos2 cpos cpos2 : Pos} {d x y : D} {ds es' : List D} {S S' : D → Prop} {fr fr' : Bool} {D0 : Ends} {rest sts : List Stmt} {st : Stmt}
theorem idx_nat {n : Nat} {k : Int} (h0 : 0 ≤ k) (h1 : k < n) : seqIndex? k n = some k.toNat := by
  obtain ⟨j, rfl⟩ := Int.eq_ofNat_of_zero_le h0
  have h2 : ¬ ((j : Int) < 0) := by omega
  show (if (0 ≤ (if (j : Int) < 0 then (j : Int) + n else j) && (if (j : Int) < 0 then (j : Int) + n else j) < n) = true then some (if (j : Int) < 0 then (j : Int) + n else (j : Int)).toNat else none) = _
  rw [if_neg h2, if_pos (by rw [decide_eq_true (by omega), decide_eq_true h1]; rfl)]
/-- x.append(y.pop(e)), both of one's own -/
theorem go_appendPop (i j : Nat) {p q : Addr} {xn yn : Str} {S1 : Int → Prop} (ha : EvI1 X Hb e Γ fr S1) (hG : Γ[i]? = some (.own p ds) := by rfl) (hG2 : Γ[j]? = some (.own q es') := by rfl) (hij : i ≠ j) (hk : ∀ k, S1 k → 0 ≤ k ∧ k < es'.length) (hfl : D.flatAll es' = true) (hl : ds.length ≤ 100000) (hl2 : es'.length ≤ 100000)
    (g : ∀ k d, S1 k → es'[k.toNat]? = some d → Go X Hb rest D0 ((Γ.set j (.own q (es'.eraseIdx k.toNat))).set i (.own p (ds ++ [d])))) (hN : X.N[i]? = some xn := by rfl) (hN2 : X.N[j]? = some yn := by rfl)
    (hv : Vis X.env.scope xn := by first | exact Or.inl rfl | exact Or.inr (Or.inl rfl) | exact Or.inr (Or.inr rfl)) (hdb : (xn == ("__debug__" : Str)) = false := by decide) (hcd : (xn == ("__classdict__" : Str)) = false := by decide)
    (hv2 : Vis X.env.scope yn := by first | exact Or.inl rfl | exact Or.inr (Or.inl rfl) | exact Or.inr (Or.inr rfl)) (hdb2 : (yn == ("__debug__" : Str)) = false := by decide) (hcd2 : (yn == ("__classdict__" : Str)) = false := by decide)
    (hbase : attributeBase (.Name xn p') "append" X.env (eval (.Name xn p') X.env) = eval (.Name xn p') X.env := by rfl) (hbase2 : attributeBase (.Name yn p2) "pop" X.env (eval (.Name yn p2) X.env) = eval (.Name yn p2) X.env := by rfl)
    (hfew : ((backTo cpos (starEach [.Call (.Attribute (.Name yn p2) "pop" apos2) [e] [] cpos2] X.env)).all (fun x => !x.1) && (backToKw cpos (keywordEach [] X.env)).all (fun x => x.1.isSome) && decide (([.Call (.Attribute (.Name yn p2) "pop" apos2) [e] [] cpos2] : List Expr).length + ([] : List Keyword).length + (if ([] : List Keyword).isEmpty then 0 else 1) < 30)) = true := by rfl)
    (hfew2 : ((backTo cpos2 (starEach [e] X.env)).all (fun x => !x.1) && (backToKw cpos2 (keywordEach [] X.env)).all (fun x => x.1.isSome) && decide (([e] : List Expr).length + ([] : List Keyword).length + (if ([] : List Keyword).isEmpty then 0 else 1) < 30)) = true := by rfl)
    (hline : (apos.endLine == cpos.line) = true := by rfl) (hline2 : (apos2.endLine == cpos2.line) = true := by rfl)
    (hs : starEach ([.Call (.Attribute (.Name yn p2) "pop" apos2) [e] [] cpos2] : List Expr) X.env = (false, eval (.Call (.Attribute (.Name yn p2) "pop" apos2) [e] [] cpos2) X.env) :: starEach [] X.env := by rfl) (hs2 : starEach [e] X.env = (false, eval e X.env) :: starEach [] X.env := by rfl)
    (hplain : (backTo cpos (starEach [] X.env)).any (·.1) = false := by rfl) (hplain2 : (backTo cpos2 (starEach [] X.env)).any (·.1) = false := by rfl)
    (hsw : swapsWith (.Call (.Attribute (.Name xn p') "append" apos) [.Call (.Attribute (.Name yn p2) "pop" apos2) [e] [] cpos2] [] cpos) none pos.line X.env = pure false := by rfl) :
    Go X Hb (.Expr (.Call (.Attribute (.Name xn p') "append" apos) [.Call (.Attribute (.Name yn p2) "pop" apos2) [e] [] cpos2] [] cpos) pos :: rest) D0 Γ := fun σ H en => by
  obtain ⟨hσ, vs, hl1, _, _⟩ := en.ownW hG
  obtain ⟨hσ2, us, hu1, _, _⟩ := en.ownW hG2
  have pp := pe_bm (X := X) PySem.F.plainAttrs_list PySem.F.slot_list_pop PySem.F.type_list_pop mt_popAt (pe_var hN2 hv2 hdb2 hcd2) (pa_cons (semE X e) pa_nil hs2) hbase2 hfew2 hline2 hs2 hplain2
  refine SemSs.cons (ps_expr (pe_bm PySem.F.plainAttrs_list PySem.F.slot_list_append PySem.F.type_list_append mt_append (pe_var hN hv hdb hcd) (pa_cons pp pa_nil hs) hbase hfew hline hs hplain) hsw) ?_
  refine ⟨_, hσ, .inl ⟨rfl, _, SqL.of hl1⟩, _, hσ2, .inl ⟨rfl, _, SqL.of hu1⟩, ha σ H en _ fun v H' dk ⟨k, ek, sk⟩ x r _ => ?_⟩
  subst ek
  cases r
  have en' := en.ex x
  obtain ⟨_, ws2, hw2, rw2, ls⟩ := en'.ownW hG2
  obtain ⟨k0, k1⟩ := hk k sk
  have hlen : ws2.length = es'.length := rw2.length
  have hkn : k.toNat < es'.length := by omega
  obtain ⟨z, hz, rz⟩ := rw2.get (List.getElem?_eq_getElem hkn)
  refine ⟨q, ws2, k, k.toNat, z, rfl, rfl, hw2, by omega, by omega, idx_nat k0 (by omega), hz, ?_⟩
  have en2 := en'.mutOwn hG2 (rw2.eraseIdx k.toNat)
  have hG' : (Γ.set j (.own q (es'.eraseIdx k.toNat)))[i]? = some (.own p ds) := by rw [List.getElem?_set_ne (fun z => hij z.symm)]; exact hG
  obtain ⟨_, ws, hw, rw', ls'⟩ := en2.ownW hG'
  refine ⟨p, ws, z, rfl, rfl, hw, by rw [rw'.length]; exact Nat.lt_of_le_of_lt hl (by decide), ?_⟩
  have eh : Ex (hide H' (owns Γ)) (upd H' q (.lst (ws2.eraseIdx k.toNat))) := by
    have : hide H' (owns Γ) q = none := hide_in (owns_of hG2)
    exact Ex.mut hide_ex this (by rw [hw2]; trivial)
  have fz : (es'[k.toNat]).flat = true := by
    have key : ∀ {l : List D} {n : Nat} (h : n < l.length), D.flatAll l = true → (l[n]).flat = true := by
      intro l
      induction l with
      | nil => intro n h; exact absurd h (Nat.not_lt_zero _)
      | cons a r ih =>
        intro n h f
        have f' : (D.flat a && D.flatAll r) = true := f
        obtain ⟨f1, f2⟩ := Bool.and_eq_true_iff.mp f'
        cases n with
        | zero => exact f1
        | succ n => exact ih (Nat.lt_of_succ_lt_succ h) f2
    exact key hkn hfl
  exact g k _ sk (List.getElem?_eq_getElem hkn) σ _ (en2.mutOwn hG' (rw'.append (.cons ((rz.ex eh).hide ls' fz) .nil)))
end
end L3

namespace L3
open PySem PySem.Spec PyProof.Rows L2
/-! ### slots by their names -/
inductive Look : List Str → Slots → Str → Ent → Prop
  | z {N : List Str} {Γ : Slots} {x : Str} {e : Ent} : Look (x :: N) (e :: Γ) x e
  | s {N : List Str} {Γ : Slots} {x y : Str} {e e' : Ent} : Look N Γ x e → Look (y :: N) (e' :: Γ) x e
inductive Up : List Str → Slots → Str → Ent → Slots → Prop
  | z {N : List Str} {Γ : Slots} {x : Str} {e e' : Ent} : Up (x :: N) (e' :: Γ) x e (e :: Γ)
  | s {N : List Str} {Γ Γ' : Slots} {x y : Str} {e e' : Ent} : Up N Γ x e Γ' → Up (y :: N) (e' :: Γ) x e (e' :: Γ')
theorem Look.ix : ∀ {N : List Str} {Γ : Slots} {x : Str} {e : Ent}, Look N Γ x e → ∃ i : Nat, N[i]? = some x ∧ Γ[i]? = some e
  | _, _, _, _, .z => ⟨0, rfl, rfl⟩
  | _, _, _, _, .s h => let ⟨i, a, b⟩ := Look.ix h; ⟨i + 1, by simpa using a, by simpa using b⟩
theorem Up.ix : ∀ {N : List Str} {Γ Γ' : Slots} {x : Str} {e : Ent}, Up N Γ x e Γ' → ∃ i : Nat, N[i]? = some x ∧ Γ' = Γ.set i e
  | _, _, _, _, _, .z => ⟨0, rfl, rfl⟩
  | _, _, _, _, _, .s h => let ⟨i, a, b⟩ := Up.ix h; ⟨i + 1, by simpa using a, by rw [b]; rfl⟩
section
variable {X : Cx} {Hb Hb' : Hp} {a b c e : Expr} {es : List Expr} {Γ Γ' : Slots} {pos p' p2 apos cpos : Pos} {d x y : D} {ds : List D} {Q S S' : D → Prop} {fr : Bool} {D0 : Ends} {rest sts : List Stmt} {st : Stmt}
/-! ### the walk, by what is wanted behind -/
theorem EvN.fresh (h : EvN X Hb e Γ true S) : EvN X Hb e Γ fr S := by
  cases fr
  · exact h.weak
  · exact h
theorem w_det (h : Ev X Hb e Γ fr d) (q : Q d) : EvN X Hb e Γ fr Q := h.imp fun _ z => by rw [z]; exact q
theorem w_scal (h : EvN X Hb e Γ false fun d => isCont d = false ∧ Q d) : EvN X Hb e Γ true Q := fun σ H en Q' q => h σ H en Q' fun v H' d ⟨hc, s⟩ ex r _ => q v H' d s ex r fun _ => FreshD.flat hc
theorem and2 {A B : Prop} (b : B) (a : A) : A ∧ B := ⟨a, b⟩
theorem w_name {xn : Str} (hL : Look X.N Γ xn (.dat d)) (q : Q d) (hv : Vis X.env.scope xn := by first | exact Or.inl rfl | exact Or.inr (Or.inl rfl) | exact Or.inr (Or.inr rfl)) (hd : (xn == ("__debug__" : Str)) = false := by decide)
    (hcd : (xn == ("__classdict__" : Str)) = false := by decide) : EvN X Hb (.Name xn pos) Γ false Q := by
  obtain ⟨i, hN, hG⟩ := hL.ix
  exact w_det (ev_dat i hG hN hv hd hcd) q
theorem w_own {xn : Str} {p : Addr} (hL : Look X.N Γ xn (.own p ds)) (q : Q (.lst ds)) (hv : Vis X.env.scope xn := by first | exact Or.inl rfl | exact Or.inr (Or.inl rfl) | exact Or.inr (Or.inr rfl)) (hd : (xn == ("__debug__" : Str)) = false := by decide)
    (hcd : (xn == ("__classdict__" : Str)) = false := by decide) : EvN X Hb (.Name xn pos) Γ false Q := by
  obtain ⟨i, hN, hG⟩ := hL.ix
  exact w_det (ev_own i hG hN hv hd hcd) q
theorem w_gv {xn : Str} (h : Gv X.K X.mg xn d) (q : Q d) (hg : Gl X xn := by rfl) (hd : (xn == ("__debug__" : Str)) = false := by decide) : EvN X Hb (.Name xn pos) Γ false Q := w_det (ev_gv h hg hd) q
theorem w_int {i : Int} {j} (q : Q (.int i)) : EvN X Hb (.Constant (.int i) j pos) Γ fr Q := (w_det ev_int q).fresh
theorem w_bl {i : Bool} {j} (q : Q (.bl i)) : EvN X Hb (.Constant (.bool i) j pos) Γ fr Q := (w_det ev_bl q).fresh
theorem w_non {j} (q : Q .non) : EvN X Hb (.Constant .none j pos) Γ fr Q := (w_det ev_non q).fresh
theorem w_str {i : Str} {j} (q : Q (.str i)) : EvN X Hb (.Constant (.str i) j pos) Γ fr Q := (w_det ev_str q).fresh
/-! operators: what is asked of the data -/
/-- what f must do with d1, d2 -/
def OpD (X : Cx) (f : Value → Value → Sem Value) (d1 d2 : D) (Q : D → Prop) : Prop :=
  ∀ (pins : List (Addr × Obj)) (s : Shared) (σ : L2.St) (H : Hp) (x y : V) (v u : Value) (Q' : VK), Inv X pins σ H s → RelV x v → RelV y u → Rep X.K H x d1 → Rep X.K H y d2 → (∀ w H' d, Q d → Ex H H' → Rep X.K H' w d → FreshD X.K H H' w d → Q' w H') →
    wpAny (model X.prog X.w) X.A (f v u) (EP X pins σ Q') X.xe s
theorem OpD.of {f : Value → Value → Sem Value} {r : R2} {d1 d2 : D} (h : OpR X f r) (k : ∀ (x y : V) (H : Hp) (Q' : VK), Rep X.K H x d1 → Rep X.K H y d2 → (∀ w H' d, Q d → Ex H H' → Rep X.K H' w d → FreshD X.K H H' w d → Q' w H') → r x y H Q') : OpD X f d1 d2 Q :=
  fun pins s σ H x y v u Q' I rx ry r1 r2 q => h pins s σ H x y v u Q' I rx ry (k x y H Q' r1 r2 q)
theorem OpD.i {f : Value → Value → Sem Value} {C : Int → Int → Prop} {g : Int → Int → V} {i j : Int} {z : D} (h : OpR X f (rI C g)) (hc : C i j) (hz : ∀ H, Rep X.K H (g i j) z) (hf : isCont z = false) (q : Q z) : OpD X f (.int i) (.int j) Q :=
  OpD.of h fun x y H Q' r1 r2 k => by
    cases r1
    cases r2
    exact ⟨i, j, rfl, rfl, hc, k _ H z q Ex.refl (hz H) (FreshD.flat hf)⟩
def rSem (X : Cx) (f : Value → Value → Sem Value) : R2 := fun x y H Q => ∀ (pins : List (Addr × Obj)) (s : Shared) (σ : L2.St) (v u : Value), Inv X pins σ H s → RelV x v → RelV y u → wpAny (model X.prog X.w) X.A (f v u) (EP X pins σ Q) X.xe s
theorem rSem_op {f : Value → Value → Sem Value} : OpR X f (rSem X f) := fun pins s σ H x y v u Q I rx ry h => h pins s σ v u I rx ry
theorem w_bin {op : Operator} (h : EvN X Hb a Γ false fun d1 => EvN X Hb b Γ false fun d2 => OpD X (binaryOp op) d1 d2 Q) : EvN X Hb (.BinOp a op b pos) Γ fr Q := EvN.fresh fun σ H en Q' q =>
  SemE.of (pe_op rSem_op (semE X a) (semE X b)) (h σ H en _ fun v H1 d1 s1 x1 r1 _ => s1 σ H1 (en.ex x1) _ fun w H2 d2 s2 x2 r2 _ => fun pins s σ' v' u' I rx ry =>
    s2 pins s σ' H2 v w v' u' Q' I rx ry (r1.ex x2) r2 fun u H3 d3 q3 x3 r3 f3 => q u H3 d3 q3 ((x1.trans x2).trans x3) r3 fun _ => f3.back (x1.trans x2))
theorem opd_add {i j : Int} (q : Q (.int (i + j))) : OpD X (binaryOp .Add) (.int i) (.int j) Q := OpD.i (opI0' op_add) trivial (fun _ => .int _) rfl q
theorem opd_sub {i j : Int} (q : Q (.int (i - j))) : OpD X (binaryOp .Sub) (.int i) (.int j) Q := OpD.i (opI0' op_sub) trivial (fun _ => .int _) rfl q
theorem opd_mul {i j : Int} (q : Q (.int (i * j))) (hc : IntMulOk i j) : OpD X (binaryOp .Mult) (.int i) (.int j) Q := OpD.i (C := IntMulOk) (g := fun i j => .int (i * j)) (opI fun _ _ _ _ _ _ _ hc q => mul_int q hc) hc (fun _ => .int _) rfl q
theorem opd_fdiv {i j : Int} (q : Q (.int (i.fdiv j))) (hc : CDivX i j) : OpD X (binaryOp .FloorDiv) (.int i) (.int j) Q := OpD.i op_fdivX hc (fun _ => .int _) rfl q
theorem opd_mod {i j : Int} (q : Q (.int (i.fmod j))) (hc : j ≠ 0) : OpD X (binaryOp .Mod) (.int i) (.int j) Q := OpD.i op_modN hc (fun _ => .int _) rfl q
theorem opd_pow {i j : Int} (q : Q (.int (i ^ j.toNat))) (hc : 0 ≤ j ∧ (Builtin.Int.intBits i : Int) * j ≤ 2 ^ 27) : OpD X (binaryOp .Pow) (.int i) (.int j) Q := OpD.i op_powX hc (fun _ => .int _) rfl q
theorem opd_catL {xs ys : List D} (q : Q (.lst (xs ++ ys))) (hl : xs.length + ys.length ≤ 100000) : OpD X (binaryOp .Add) (.lst xs) (.lst ys) Q := OpD.of op_catP fun x y H Q' r1 r2 k => by
  cases r1 with
  | lst ha ra =>
    cases r2 with
    | lst hb rb =>
      refine ⟨_, _, _, _, rfl, rfl, ha, hb, by rw [ra.length, rb.length]; exact Nat.le_trans hl (by decide), fun p hp => ?_⟩
      have r3 := ra.append rb
      exact k _ _ _ q (Ex.new hp) (.lst (SqL.of upd_same) (r3.ex (Ex.new hp))) (freshL hp Ex.refl r3)
theorem opd_catT {xs ys : List D} (q : Q (.tup (xs ++ ys))) (hl : xs.length + ys.length ≤ 100000) : OpD X (binaryOp .Add) (.tup xs) (.tup ys) Q := OpD.of op_catA fun x y H Q' r1 r2 k => by
  cases r1 with
  | tup ha ra =>
    cases r2 with
    | tup hb rb =>
      refine ⟨_, _, _, _, rfl, rfl, ha, hb, by rw [ra.length, rb.length]; exact Nat.le_trans hl (by decide), fun e => ?_, fun _ e => ?_, fun _ _ p hp => ?_⟩
      · subst e
        cases ra
        exact k _ _ _ q Ex.refl (.tup hb rb) (FreshD.flat rfl)
      · subst e
        cases rb
        refine k _ _ _ q Ex.refl ?_ (FreshD.flat rfl)
        rw [List.append_nil]
        exact .tup ha ra
      · exact k _ _ _ q (Ex.new hp) (.tup (SqT.of upd_same) ((ra.ex (Ex.new hp)).append (rb.ex (Ex.new hp)))) (FreshD.flat rfl)
theorem opd_repT {xs : List D} {k : Int} (q : Q (.tup (List.replicate k.toNat xs).flatten)) (h : xs ≠ [] ∧ xs.length ≤ 1000 ∧ 1 ≤ k ∧ k ≤ 1000) : OpD X (binaryOp .Mult) (.tup xs) (.int k) Q := by
  obtain ⟨h0, hl, h1, h2⟩ := h
  refine OpD.of (r := fun x y H Q => rRepT1 X.K x y H Q ∨ rRepT X.K x y H Q) (fun pins s σ H x y v u Q I rx ry h => by
      rcases h with h | h
      · exact op_repT1 pins s σ H x y v u Q I rx ry h
      · exact op_repT pins s σ H x y v u Q I rx ry h) fun x y H Q' r1 r2 kk => ?_
  cases r2
  cases r1 with
  | tup hq ra =>
    by_cases e : k = 1
    · subst e
      have ef : (List.replicate (1 : Int).toNat xs).flatten = xs := by show (List.replicate 1 xs).flatten = xs; simp
      exact .inl ⟨_, _, rfl, rfl, hq, kk _ H (.tup xs) (ef ▸ q) Ex.refl (.tup hq ra) (FreshD.flat rfl)⟩
    · have r3 : ∀ n vs, RepAll X.K H vs xs → RepAll X.K H (List.replicate n vs).flatten (List.replicate n xs).flatten := fun n vs ra => by
        induction n with
        | zero => exact .nil
        | succ n ih => rw [List.replicate_succ, List.replicate_succ, List.flatten_cons, List.flatten_cons]; exact ra.append ih
      refine .inr ⟨_, k, _, rfl, rfl, hq, fun z => ?_, by omega, h2, by rw [ra.length]; exact hl, fun p hp => kk _ _ _ q (Ex.new hp) (.tup (SqT.of upd_same) ((r3 _ _ ra).ex (Ex.new hp))) (FreshD.flat rfl)⟩
      have := ra.length
      rw [z] at this
      exact h0 (List.eq_nil_of_length_eq_zero this.symm)
theorem w_neg (h : EvN X Hb a Γ false fun d => ∃ i, d = .int i ∧ Q (.int (-i))) : EvN X Hb (.UnaryOp .USub a pos) Γ fr Q := EvN.fresh fun σ H en Q' q =>
  SemE.of (pe_un un_neg (semE X a)) (h σ H en _ fun v H1 d1 ⟨i, e1, s⟩ x1 r1 _ => by
    subst e1
    cases r1
    exact ⟨i, rfl, q _ H1 _ s x1 (.int _) fun _ => FreshD.flat rfl⟩)
/-- a new list, so many times -/
theorem w_repL (h : EvN X Hb a Γ true fun d1 => EvN X Hb b Γ false fun d2 => ∃ xs k, d1 = .lst xs ∧ d2 = .int k ∧ (k < 100000 ∧ -1000 ≤ k ∧ xs.length * k.toNat ≤ 100000) ∧ Q (.lst (List.replicate k.toNat xs).flatten)) : EvN X Hb (.BinOp a .Mult b pos) Γ fr Q := EvN.fresh fun σ H en Q' q =>
  SemE.of (pe_op op_rep (semE X a) (semE X b)) (h σ H en _ fun v H1 d1 s1 x1 r1 f1 => s1 σ H1 (en.ex x1) _ fun w H2 d2 ⟨xs, k, e1, e2, ⟨h1, h0, hl2⟩, s⟩ x2 r2 _ => by
    subst e1 e2
    obtain ⟨p, vs, rfl, hp, hl, ra⟩ := f1 rfl
    have xx := x1.trans x2
    cases r2
    refine ⟨p, k, vs, rfl, rfl, x2.lst hl, by omega, by omega, by rw [ra.length]; exact Nat.le_trans hl2 (by decide), fun q' hq' => ?_⟩
    have r3 : ∀ n, RepAll X.K H2 (List.replicate n vs).flatten (List.replicate n xs).flatten := fun n => by
      induction n with
      | zero => exact .nil
      | succ n ih => rw [List.replicate_succ, List.replicate_succ, List.flatten_cons, List.flatten_cons]; exact (ra.ex x2).append ih
    exact q _ _ _ s (xx.trans (Ex.new hq')) (.lst (SqL.of upd_same) ((r3 _).ex (Ex.new hq'))) fun _ => freshL hq' xx (r3 _))
/-! comparisons -/
def CmpD (X : Cx) (op : CmpOp) (d1 d2 : D) (S : Bool → Prop) : Prop :=
  ∀ (pins : List (Addr × Obj)) (s : Shared) (σ : L2.St) (H : Hp) (x y : V) (v u : Value) (Q' : VK), Inv X pins σ H s → RelV x v → RelV y u → Rep X.K H x d1 → Rep X.K H y d2 → (∀ k, S k → Q' (.bl k) H) →
    wpAny (model X.prog X.w) X.A (compareOp op v u) (EP X pins σ Q') X.xe s
theorem CmpD.of {op : CmpOp} {r : R2} {d1 d2 : D} {S : Bool → Prop} (h : OpR X (compareOp op) r) (k : ∀ (x y : V) (H : Hp) (Q' : VK), Rep X.K H x d1 → Rep X.K H y d2 → (∀ k, S k → Q' (.bl k) H) → r x y H Q') : CmpD X op d1 d2 S :=
  fun pins s σ H x y v u Q' I rx ry r1 r2 q => h pins s σ H x y v u Q' I rx ry (k x y H Q' r1 r2 q)
theorem w_cmp {op : CmpOp} (h : EvN X Hb a Γ false fun d1 => EvN X Hb b Γ false fun d2 => CmpD X op d1 d2 fun k => Q (.bl k)) (hm : behindInMarks op b = false := by exact nomark _) : EvN X Hb (.Compare a [op] [b] pos) Γ fr Q := EvN.fresh fun σ H en Q' q =>
  SemE.of (pe_cmpR rSem_op (semE X a) (semE X b) hm) (h σ H en _ fun v H1 d1 s1 x1 r1 _ => s1 σ H1 (en.ex x1) _ fun w H2 d2 s2 x2 r2 _ => fun pins s σ' v' u' I rx ry =>
    s2 pins s σ' H2 v w v' u' Q' I rx ry (r1.ex x2) r2 fun k q3 => q _ H2 _ q3 (x1.trans x2) (.bl k) fun _ => FreshD.flat rfl)
theorem wt_cmp {op : CmpOp} {S : Bool → Prop} (h : EvN X Hb a Γ false fun d1 => EvN X Hb b Γ false fun d2 => CmpD X op d1 d2 S) (hm : behindInMarks op b = false := by exact nomark _) : EvT X Hb (.Compare a [op] [b] pos) Γ S := fun σ H en Q' q =>
  SemT.of (pt_cmpR rSem_op (semE X a) (semE X b) hm) (h σ H en _ fun v H1 d1 s1 x1 r1 _ => s1 σ H1 (en.ex x1) _ fun w H2 d2 s2 x2 r2 _ => fun pins s σ' v' u' I rx ry =>
    s2 pins s σ' H2 v w v' u' _ I rx ry (r1.ex x2) r2 fun k q3 => ⟨k, rfl, q k H2 q3 (x1.trans x2)⟩)
theorem CmpD.i {op : CmpOp} {g : Int → Int → Bool} {i j : Int} {S : Bool → Prop} (h : OpR X (compareOp op) (rI0 fun i j => .bl (g i j))) (q : S (g i j)) : CmpD X op (.int i) (.int j) S :=
  CmpD.of h fun x y H Q' r1 r2 k => by
    cases r1
    cases r2
    exact ⟨i, j, rfl, rfl, k _ q⟩
section
variable {i j : Int} {S : Bool → Prop}
theorem cmp_lt (q : S (decide (i < j))) : CmpD X .Lt (.int i) (.int j) S := CmpD.i op_lt q
theorem cmp_le (q : S (decide (i ≤ j))) : CmpD X .LtE (.int i) (.int j) S := CmpD.i op_le q
theorem cmp_gt (q : S (decide (j < i))) : CmpD X .Gt (.int i) (.int j) S := CmpD.i op_gt q
theorem cmp_ge (q : S (decide (j ≤ i))) : CmpD X .GtE (.int i) (.int j) S := CmpD.i op_ge q
theorem cmp_eqI (q : S (decide (i = j))) : CmpD X .Eq (.int i) (.int j) S := CmpD.i opEqI q
theorem cmp_neI (q : S (!decide (i = j))) : CmpD X .NotEq (.int i) (.int j) S := CmpD.i opNeI q
theorem cmp_eqS {i j : Str} (q : S (decide (i = j))) : CmpD X .Eq (.str i) (.str j) S := CmpD.of opEqS fun x y H Q' r1 r2 k => by
  cases r1; cases r2
  exact ⟨i, j, rfl, rfl, k _ q⟩
theorem cmp_neS {i j : Str} (q : S (!decide (i = j))) : CmpD X .NotEq (.str i) (.str j) S := CmpD.of opNeS fun x y H Q' r1 r2 k => by
  cases r1; cases r2
  exact ⟨i, j, rfl, rfl, k _ q⟩
theorem cmp_isB {i j : Bool} (q : S (decide (i = j))) : CmpD X .Is (.bl i) (.bl j) S := CmpD.of op_is_bl fun x y H Q' r1 r2 k => by
  cases r1; cases r2
  exact ⟨i, j, rfl, rfl, k _ q⟩
theorem cmp_notB {i j : Bool} (q : S (!decide (i = j))) : CmpD X .IsNot (.bl i) (.bl j) S := CmpD.of op_isnot_bl fun x y H Q' r1 r2 k => by
  cases r1; cases r2
  exact ⟨i, j, rfl, rfl, k _ q⟩
theorem cmp_isN (q : S (isNon d)) : CmpD X .Is d .non S := CmpD.of op_isN fun x y H Q' r1 r2 k => by
  cases r2
  refine ⟨rfl, ?_⟩
  rw [r1.isNon]
  exact k _ q
theorem cmp_notN (q : S (!isNon d)) : CmpD X .IsNot d .non S := CmpD.of op_notN fun x y H Q' r1 r2 k => by
  cases r2
  refine ⟨rfl, ?_⟩
  rw [r1.isNon]
  exact k _ q
theorem cmp_eqB {i j : Bool} (q : S (decide (i = j))) : CmpD X .Eq (.bl i) (.bl j) S := CmpD.of op_eq fun x y H Q' r1 r2 k => by
  cases r1; cases r2
  refine ⟨rfl, ?_⟩
  rw [show decide (V.bl i = V.bl j) = decide (i = j) from by simp]
  exact k _ q
theorem cmp_neB {i j : Bool} (q : S (!decide (i = j))) : CmpD X .NotEq (.bl i) (.bl j) S := CmpD.of op_ne fun x y H Q' r1 r2 k => by
  cases r1; cases r2
  refine ⟨rfl, ?_⟩
  rw [show decide (V.bl i = V.bl j) = decide (i = j) from by simp]
  exact k _ q
theorem cmp_eqD {n : Nat} {d1 d2 : D} (hr : Room n X.A) (q : S (PyData.eqv d1.py d2.py)) (h : (d1.ok = true ∧ d2.ok = true) ∧ SeqAt.shaped d1.py = true ∧ SeqAt.shaped d2.py = true) : CmpD X .Eq d1 d2 S := CmpD.of (op_eqR hr.units) fun x y H Q' r1 r2 k => ⟨_, _, r1, r2, h.1.1, h.1.2, h.2.1, h.2.2, k _ q⟩
theorem cmp_neD {n : Nat} {d1 d2 : D} (hr : Room n X.A) (q : S (!PyData.eqv d1.py d2.py)) (h : (d1.ok = true ∧ d2.ok = true) ∧ SeqAt.shaped d1.py = true ∧ SeqAt.shaped d2.py = true) : CmpD X .NotEq d1 d2 S := CmpD.of (op_neR hr.units) fun x y H Q' r1 r2 k => ⟨_, _, r1, r2, h.1.1, h.1.2, h.2.1, h.2.2, k _ q⟩
theorem cmp_eq0L {n : Nat} (hr : Room n X.A) (q : S ds.isEmpty) : CmpD X .Eq (.lst ds) (.lst []) S := CmpD.of (op_eq0 hr.units) fun x y H Q' r1 r2 k => by
  obtain ⟨a, b, xs, q1, q2, q3, q4⟩ := sq_of (.inl ⟨rfl, rfl⟩) Ex.refl r1 r2
  exact ⟨a, b, xs, q1, q2, q3, k _ (by rw [q4]; exact q)⟩
theorem cmp_eq0T {n : Nat} (hr : Room n X.A) (q : S ds.isEmpty) : CmpD X .Eq (.tup ds) (.tup []) S := CmpD.of (op_eq0 hr.units) fun x y H Q' r1 r2 k => by
  obtain ⟨a, b, xs, q1, q2, q3, q4⟩ := sq_of (.inr ⟨rfl, rfl⟩) Ex.refl r1 r2
  exact ⟨a, b, xs, q1, q2, q3, k _ (by rw [q4]; exact q)⟩
theorem cmp_ne0L {n : Nat} (hr : Room n X.A) (q : S (!ds.isEmpty)) : CmpD X .NotEq (.lst ds) (.lst []) S := CmpD.of (op_ne0 hr.units) fun x y H Q' r1 r2 k => by
  obtain ⟨a, b, xs, q1, q2, q3, q4⟩ := sq_of (.inl ⟨rfl, rfl⟩) Ex.refl r1 r2
  exact ⟨a, b, xs, q1, q2, q3, k _ (by rw [q4]; exact q)⟩
theorem cmp_ne0T {n : Nat} (hr : Room n X.A) (q : S (!ds.isEmpty)) : CmpD X .NotEq (.tup ds) (.tup []) S := CmpD.of (op_ne0 hr.units) fun x y H Q' r1 r2 k => by
  obtain ⟨a, b, xs, q1, q2, q3, q4⟩ := sq_of (.inr ⟨rfl, rfl⟩) Ex.refl r1 r2
  exact ⟨a, b, xs, q1, q2, q3, k _ (by rw [q4]; exact q)⟩
end
/-- a <= b <= c, ints -/
theorem w_chain {op op' : CmpOp} {g g' : Int → Int → Bool} (ho : OpR X (compareOp op) (rI0 fun i j => .bl (g i j))) (ho' : OpR X (compareOp op') (rI0 fun i j => .bl (g' i j))) {i j k : Int} (ha : Ev X Hb a Γ false (.int i)) (hb : Ev X Hb b Γ false (.int j)) (hc : Ev X Hb c Γ false (.int k)) (q : Q (.bl (g i j && g' j k)))
    (hm : lastMarks [op, op'] [b, c] = false := by with_unfolding_all rfl) : EvN X Hb (.Compare a [op, op'] [b, c] pos) Γ fr Q := (w_det (ev_chain ho ho' ha hb hc hm) q).fresh
theorem wt_chain {op op' : CmpOp} {g g' : Int → Int → Bool} {S : Bool → Prop} (ho : OpR X (compareOp op) (rI0 fun i j => .bl (g i j))) (ho' : OpR X (compareOp op') (rI0 fun i j => .bl (g' i j))) {i j k : Int} (ha : Ev X Hb a Γ false (.int i)) (hb : Ev X Hb b Γ false (.int j)) (hc : Ev X Hb c Γ false (.int k)) (q : S (g i j && g' j k))
    (hm : lastMarks [op, op'] [b, c] = false := by with_unfolding_all rfl) : EvT X Hb (.Compare a [op, op'] [b, c] pos) Γ S := (evt_chain ho ho' ha hb hc hm).imp fun _ z => by rw [z]; exact q
/-! tests -/
theorem wt_val {S : Bool → Prop} (h : EvN X Hb e Γ false fun z => ∃ k, z = .bl k ∧ S k) (he : ∀ whole, isTrue e X.env whole = (do let v ← whole; standAt e.pos; holding [v] (truthy v)) := by intro _; rfl) : EvT X Hb e Γ S := evt_val h he
theorem wt_not {S : Bool → Prop} (h : EvT X Hb e Γ fun b => S (!b)) : EvT X Hb (.UnaryOp .Not e pos) Γ S := evt_not h
theorem w_not (h : EvN X Hb a Γ false fun d => ∃ k, d = .bl k ∧ Q (.bl (!k))) : EvN X Hb (.UnaryOp .Not a pos) Γ fr Q := EvN.fresh fun σ H en Q' q =>
  SemE.of (pe_not (semE X a)) (h σ H en _ fun v H1 d1 ⟨k, e1, s⟩ x1 r1 _ => by
    subst e1
    cases r1
    exact ⟨k, rfl, q _ _ _ s x1 (.bl _) fun _ => FreshD.flat rfl⟩)
theorem wt_and {k k' : Bool} {S : Bool → Prop} (h : EvB X Hb a Γ k) (hb : k = true → EvW X Hb (.BoolOp .And (b :: es) pos) Γ (· = k')) (q : S (k && k')) : EvT X Hb (.BoolOp .And (a :: b :: es) pos) Γ S := (EvW.t (evw_andD h hb)).imp fun _ z => by rw [z]; exact q
theorem wt_or {k k' : Bool} {S : Bool → Prop} (h : EvB X Hb a Γ k) (hb : k = false → EvW X Hb (.BoolOp .Or (b :: es) pos) Γ (· = k')) (q : S (k || k')) : EvT X Hb (.BoolOp .Or (a :: b :: es) pos) Γ S := (EvW.t (evw_orD h hb)).imp fun _ z => by rw [z]; exact q
theorem w_and {k k' : Bool} (h : Ev X Hb a Γ false (.bl k)) (hb : k = true → Ev X Hb (.BoolOp .And (b :: es) pos) Γ true (.bl k')) (q : Q (.bl (k && k'))) : EvN X Hb (.BoolOp .And (a :: b :: es) pos) Γ fr Q := (w_det (ev_andD h hb) q).fresh
theorem w_or {k k' : Bool} (h : Ev X Hb a Γ false (.bl k)) (hb : k = false → Ev X Hb (.BoolOp .Or (b :: es) pos) Γ true (.bl k')) (q : Q (.bl (k || k'))) : EvN X Hb (.BoolOp .Or (a :: b :: es) pos) Γ fr Q := (w_det (ev_orD h hb) q).fresh
theorem w_if {k : Bool} {d1 d2 : D} (hc : EvB X Hb c Γ k) (ha : k = true → Ev X Hb a Γ fr d1) (hb : k = false → Ev X Hb b Γ fr d2) (q : Q (if k then d1 else d2)) : EvN X Hb (.IfExp c a b pos) Γ fr Q :=
  w_det (ev_if hc (fun z => by subst z; exact ha rfl) (fun z => by subst z; exact hb rfl)) q
theorem w_ifI {k : Bool} {i j : Int} (hc : EvB X Hb c Γ k) (ha : k = true → Ev X Hb a Γ fr (.int i)) (hb : k = false → Ev X Hb b Γ fr (.int j)) (q : Q (.int (if k then i else j))) : EvN X Hb (.IfExp c a b pos) Γ fr Q :=
  w_det (ev_if hc (fun z => by subst z; exact ha rfl) (fun z => by subst z; exact hb rfl)) q
/-! arguments, displays -/
theorem wa_nil {S : List D → Prop} (q : S []) : EvA X Hb [] Γ S := eva_nil.imp fun _ z => by rw [z]; exact q
theorem wa_cons {S : List D → Prop} (h : EvN X Hb e Γ false fun d => EvA X Hb es Γ fun ds => S (d :: ds)) (hs : starEach (e :: es) X.env = (false, eval e X.env) :: starEach es X.env := by rfl) : EvA X Hb (e :: es) Γ S := fun σ H en Q q =>
  SemA.of (pa_cons (semE X e) (semA X es) hs) (h σ H en _ fun v H1 d1 s1 x1 r1 _ => s1 σ H1 (en.ex x1) _ fun vs H2 ds s2 x2 r2 => q _ H2 _ s2 (x1.trans x2) (.cons (r1.ex x2) r2))
theorem w_tup {k : Nat} (h : EvA X Hb es Γ fun ds => ds.length ≤ 1000 ∧ Q (.tup ds)) : EvN X Hb (.Tuple es k pos) Γ fr Q := EvN.fresh fun σ H en Q' q =>
  SemE.of (pe_tup (semA X es)) (h σ H en _ fun vs H1 ds s x1 r => ⟨by rw [r.length]; exact Nat.le_trans s.1 (by decide), fun p hp => q _ _ _ s.2 (x1.trans (Ex.new hp)) (.tup (SqT.of upd_same) (r.ex (Ex.new hp))) fun _ => FreshD.flat rfl⟩)
theorem w_lst (h : EvA X Hb es Γ fun ds => ds.length ≤ 1000 ∧ Q (.lst ds)) : EvN X Hb (.List es pos) Γ fr Q := EvN.fresh fun σ H en Q' q =>
  SemE.of (pe_lst (semA X es)) (h σ H en _ fun vs H1 ds s x1 r => ⟨by rw [r.length]; exact Nat.le_trans s.1 (by decide), fun p hp => q _ _ _ s.2 (x1.trans (Ex.new hp)) (.lst (SqL.of upd_same) (r.ex (Ex.new hp))) fun _ => freshL hp x1 r⟩)
/-! items, slices -/
def IxD (X : Cx) (d1 d2 : D) (Q : D → Prop) : Prop :=
  ∃ r : R2, IxR X r ∧ ∀ (x y : V) (H : Hp) (Q' : VK), Rep X.K H x d1 → Rep X.K H y d2 → (∀ w d, Q d → Rep X.K H w d → Q' w H) → r x y H Q'
def rSemIx (X : Cx) (bx : Expr) : R2 := fun x y H Q => ∀ (value : Expr) (pins : List (Addr × Obj)) (s : Shared) (σ : L2.St) (v u : Value), Inv X pins σ H s → RelV x v → RelV y u → subscripted bx false v u = operate [v, u] (getItem v u) → wpAny (model X.prog X.w) X.A (subscriptTail value bx v u) (EP X pins σ Q) X.xe s
theorem w_ix (h : EvN X Hb a Γ false fun d1 => EvN X Hb b Γ false fun d2 => IxD X d1 d2 Q) (hs : PlainIx b := by intro _ _; rfl) : EvN X Hb (.Subscript a b pos) Γ false Q := fun σ H en Q' q => by
  have pe : PE X (.Subscript a b pos) (tOp (rSemIx X b) (SemE X a) (SemE X b)) := by
    refine ⟨fun pins s σ H Q I h => ?_⟩
    exact Subscript_ (binT (semE X a) (semE X b) I h fun v u s2 x y H2 I2 rx ry q => q a pins s2 σ v u I2 rx ry (hs _ _))
  refine SemE.of pe (h σ H en _ fun v H1 d1 s1 x1 r1 _ => s1 σ H1 (en.ex x1) _ fun w H2 d2 s2 x2 r2 _ => fun value pins s σ' v' u' I rx ry hsub => ?_)
  obtain ⟨r, hr, k⟩ := s2
  exact hr value b pins s σ' H2 v w v' u' Q' I rx ry (k v w H2 Q' (r1.ex x2) r2 fun z d qd rz => q z H2 d qd (x1.trans x2) rz fun z => nomatch z) hsub
theorem ix_T {xs : List D} {i : Int} (h : atI xs i = some d) (q : Q d) : IxD X (.tup xs) (.int i) Q := ⟨_, ix_tup, fun x y H Q' r1 r2 k => by
  cases r1 with
  | tup hq ra =>
    cases r2
    obtain ⟨v, hv, rv⟩ := atI_rep ra h
    exact ⟨_, _, i, v, rfl, rfl, hq, hv, k v d q rv⟩⟩
theorem ix_L {xs : List D} {i : Int} (h : atI xs i = some d) (q : Q d) : IxD X (.lst xs) (.int i) Q := ⟨_, ix_list, fun x y H Q' r1 r2 k => by
  cases r1 with
  | lst hq ra =>
    cases r2
    obtain ⟨v, hv, rv⟩ := atI_rep ra h
    exact ⟨_, _, i, v, rfl, rfl, hq, hv, k v d q rv⟩⟩
structure SemOP (X : Cx) (o : Option Expr) (σ : L2.St) (H : Hp) (Q : Option Int → Hp → Prop) : Prop where
  run : ∃ t, PO X o t ∧ t σ H Q
theorem PO.congr {o : Option Expr} : PO X o (fun σ H Q => SemOP X o σ H Q) := ⟨fun pins s σ H Q I h => by
  obtain ⟨t, p, h⟩ := h.run
  exact p.run pins s σ H Q I h⟩
def EvP (X : Cx) (Hb : Hp) (o : Option Expr) (Γ : Slots) (S : Option Int → Prop) : Prop := ∀ σ H, EnvOk X.K Hb Γ σ H → ∀ Q : Option Int → Hp → Prop, (∀ k H', S k → Ex H H' → Q k H') → SemOP X o σ H Q
theorem wo_none {S : Option Int → Prop} (q : S none) : EvP X Hb none Γ S := fun σ H en Q k => ⟨_, po_none, k none H q Ex.refl⟩
theorem wo_some {S : Option Int → Prop} (h : EvN X Hb e Γ false fun z => ∃ i, z = .int i ∧ S (some i)) : EvP X Hb (some e) Γ S := fun σ H en Q k => ⟨_, po_some (semE X e), h σ H en _ fun v H1 d1 ⟨i, e1, s⟩ x1 r1 _ => by
  subst e1
  cases r1
  exact ⟨i, rfl, k _ _ s x1⟩⟩
def SlD (X : Cx) (d : D) (o o' : Option Int) (Q : D → Prop) : Prop :=
  ∃ r : V → Option Int → Option Int → Hp → VK → Prop, SlR X r ∧ ∀ (x : V) (H : Hp) (Q' : VK), Rep X.K H x d → (∀ w H' d, Q d → Ex H H' → Rep X.K H' w d → FreshD X.K H H' w d → Q' w H') → r x o o' H Q'
def rSemSl (X : Cx) : V → Option Int → Option Int → Hp → VK → Prop := fun x lo hi H Q => ∃ r, SlR X r ∧ r x lo hi H Q
theorem rSemSl_ok : SlR X (rSemSl X) := fun pins s σ H x v vl vu lo hi sl Q I rx hs pl pu ⟨r, hr, q⟩ => hr pins s σ H x v vl vu lo hi sl Q I rx hs pl pu q
theorem w_slice {lo hi : Option Expr} (h : EvN X Hb a Γ false fun d => EvP X Hb lo Γ fun o => EvP X Hb hi Γ fun o' => SlD X d o o' Q) : EvN X Hb (.Subscript a (.Slice lo hi none p2) pos) Γ fr Q := EvN.fresh fun σ H en Q' q =>
  SemE.of (pe_slice rSemSl_ok (semE X a) PO.congr PO.congr) (h σ H en _ fun v H1 d1 s1 x1 r1 _ => s1 σ H1 (en.ex x1) _ fun o H2 s2 x2 => s2 σ H2 (en.ex (x1.trans x2)) _ fun o' H3 s3 x3 => by
    obtain ⟨r, hr, k⟩ := s3
    exact ⟨r, hr, k v H3 Q' (r1.ex (x2.trans x3)) fun w H4 d qd x4 rw4 f4 => q w H4 d qd (((x1.trans x2).trans x3).trans x4) rw4 fun _ => f4.back ((x1.trans x2).trans x3)⟩)
theorem sl_L {xs : List D} {o o' : Option Int} (q : Q (.lst (dcut xs o o'))) : SlD X (.lst xs) o o' Q := ⟨_, sl_list, fun x H Q' r k => by
  cases r with
  | lst hq ra => exact ⟨_, _, rfl, hq, fun p hp => k _ _ _ q (Ex.new hp) (.lst (SqL.of upd_same) ((ra.ex (Ex.new hp)).cut o o')) (freshL hp Ex.refl (ra.cut o o'))⟩⟩
theorem sl_T {xs : List D} {o o' : Option Int} (q : Q (.tup (dcut xs o o'))) : SlD X (.tup xs) o o' Q := ⟨_, sl_tupA, fun x H Q' r k => by
  cases r with
  | tup hq ra =>
    refine ⟨_, _, rfl, hq, fun hw => ?_, fun hw p hp => ?_⟩
    · refine k _ _ _ q Ex.refl ?_ (FreshD.flat rfl)
      rw [ra.length] at hw
      rw [dcut_whole hw]
      exact .tup hq ra
    · exact k _ _ _ q (Ex.new hp) (.tup (SqT.of upd_same) ((ra.ex (Ex.new hp)).cut o o')) (FreshD.flat rfl)⟩
/-! calls -/
def Cl (P : Pr) (ds : List D) (Q : D → Prop) : Prop := ∃ S0, P ds S0 ∧ ∀ d, S0 d → Q d
theorem cl_det {R : List D → D → Prop} (h : R ds d) (q : Q d) : Cl (det R) ds Q := ⟨(· = d), ⟨d, h, rfl⟩, fun _ z => by rw [z]; exact q⟩
theorem w_call {x : Str} {pn : Pos} {k k' : Nat} {P : Pr} (F : FnP X.prog X.w X.K X.mg X.base x k P) (hr : Room k' X.A) (h : EvA X Hb (e :: es) Γ fun ds => Cl P ds Q)
    (hk : k ≤ k' := by decide) (hg : Gl X x := by rfl) (hdb : (x == ("__debug__" : Str)) = false := by decide) (he : starEach (e :: es) X.env = (false, eval e X.env) :: starEach es X.env := by rfl) (hpl : (backTo pos (starEach es X.env)).any (·.1) = false := by rfl) :
    EvN X Hb (.Call (.Name x pn) (e :: es) [] pos) Γ fr Q := EvN.fresh (evn_call F hr h (fun _ z => z) hk hg hdb he hpl)
theorem w_callL {x : Str} {pn : Pos} {k k' : Nat} {P : Pr} (F : FnL X.prog X.w X.K X.mg X.base x k P) (hr : Room k' X.A) (h : EvA X Hb (e :: es) Γ fun ds => Cl P ds Q)
    (hk : k ≤ k' := by decide) (hg : Gl X x := by rfl) (hdb : (x == ("__debug__" : Str)) = false := by decide) (he : starEach (e :: es) X.env = (false, eval e X.env) :: starEach es X.env := by rfl) (hpl : (backTo pos (starEach es X.env)).any (·.1) = false := by rfl) :
    EvN X Hb (.Call (.Name x pn) (e :: es) [] pos) Γ false Q := evn_callL F hr h (fun _ z => z) hk hg hdb he hpl
/-! built-ins -/
def LenQ (ds : List D) (Q : D → Prop) : Prop := ∃ xs, (ds = [.lst xs] ∨ ds = [.tup xs]) ∧ Q (.int xs.length)
theorem lenL {xs : List D} (q : Q (.int xs.length)) : LenQ [.lst xs] Q := ⟨_, .inl rfl, q⟩
theorem lenT {xs : List D} (q : Q (.int xs.length)) : LenQ [.tup xs] Q := ⟨_, .inr rfl, q⟩
theorem lenML {α : Type} {f : α → D} {xs : List α} (q : Q (.int (xs.length : Int))) : LenQ [.lst (xs.map f)] Q := ⟨_, .inl rfl, by rw [List.length_map]; exact q⟩
theorem lenMT {α : Type} {f : α → D} {xs : List α} (q : Q (.int (xs.length : Int))) : LenQ [.tup (xs.map f)] Q := ⟨_, .inr rfl, by rw [List.length_map]; exact q⟩
section
variable {pn : Pos}
theorem w_len (hm : X.mg "len" = none) (h : EvA X Hb [a] Γ fun ds => LenQ ds Q) (hg : Gl X "len" := by rfl) (he : starEach (a :: []) X.env = (false, eval a X.env) :: starEach [] X.env := by rfl) (hpl : (backTo pos (starEach [] X.env)).any (·.1) = false := by rfl) :
    EvN X Hb (.Call (.Name "len" pn) [a] [] pos) Γ fr Q := EvN.fresh <|
  evn_B call_len_seq hm h (fun vs H ds' Q' ⟨xs, s, q⟩ r k => by
    rcases s with e | e <;> subst e
    · cases r with
      | cons r1 r2 =>
        cases r2
        cases r1 with
        | lst hq ra => exact ⟨_, _, rfl, .inl hq, by rw [ra.length]; exact k _ _ _ q Ex.refl (.int _) (FreshD.flat rfl)⟩
    · cases r with
      | cons r1 r2 =>
        cases r2
        cases r1 with
        | tup hq ra => exact ⟨_, _, rfl, .inr hq, by rw [ra.length]; exact k _ _ _ q Ex.refl (.int _) (FreshD.flat rfl)⟩) PySem.boot_len hg (by decide) (by decide) he hpl
theorem w_max2 (hm : X.mg "max" = none) (h : EvA X Hb [a, b] Γ fun ds => ∃ i j, ds = [.int i, .int j] ∧ Q (.int (max i j))) (hc : X.calm = true := by rfl) (hg : Gl X "max" := by rfl) (he : starEach (a :: [b]) X.env = (false, eval a X.env) :: starEach [b] X.env := by rfl) (hpl : (backTo pos (starEach [b] X.env)).any (·.1) = false := by rfl) :
    EvN X Hb (.Call (.Name "max" pn) [a, b] [] pos) Γ fr Q := EvN.fresh <|
  evn_B (call_max2 hc) hm h (fun vs H ds' Q s r k => by
    obtain ⟨i, j, s, q⟩ := s
    subst s
    refine ⟨i, j, r.int2, ?_⟩
    rw [show (if j > i then j else i) = max i j from by split <;> omega]
    exact k _ _ _ q Ex.refl (.int _) (FreshD.flat rfl)) (by decide +kernel) hg (by decide) (by decide) he hpl
theorem w_min2 (hm : X.mg "min" = none) (h : EvA X Hb [a, b] Γ fun ds => ∃ i j, ds = [.int i, .int j] ∧ Q (.int (min i j))) (hc : X.calm = true := by rfl) (hg : Gl X "min" := by rfl) (he : starEach (a :: [b]) X.env = (false, eval a X.env) :: starEach [b] X.env := by rfl) (hpl : (backTo pos (starEach [b] X.env)).any (·.1) = false := by rfl) :
    EvN X Hb (.Call (.Name "min" pn) [a, b] [] pos) Γ fr Q := EvN.fresh <|
  evn_B (call_min2 hc) hm h (fun vs H ds' Q s r k => by
    obtain ⟨i, j, s, q⟩ := s
    subst s
    refine ⟨i, j, r.int2, ?_⟩
    rw [show (if j < i then j else i) = min i j from by split <;> omega]
    exact k _ _ _ q Ex.refl (.int _) (FreshD.flat rfl)) (by decide +kernel) hg (by decide) (by decide) he hpl
theorem w_abs (hm : X.mg "abs" = none) (h : EvA X Hb [a] Γ fun ds => ∃ i, ds = [.int i] ∧ Q (.int (i.natAbs : Int))) (hg : Gl X "abs" := by rfl) (he : starEach (a :: []) X.env = (false, eval a X.env) :: starEach [] X.env := by rfl) (hpl : (backTo pos (starEach [] X.env)).any (·.1) = false := by rfl) :
    EvN X Hb (.Call (.Name "abs" pn) [a] [] pos) Γ fr Q := EvN.fresh <|
  evn_B call_abs hm h (fun vs H ds' Q s r k => by
    obtain ⟨i, s, q⟩ := s
    subst s
    refine ⟨i, r.int1, ?_⟩
    rw [show (if i < 0 then -i else i) = (i.natAbs : Int) from by split <;> omega]
    exact k _ _ _ q Ex.refl (.int _) (FreshD.flat rfl)) (by decide +kernel) hg (by decide) (by decide) he hpl
theorem w_toInt (hm : X.mg "int" = none) (h : EvA X Hb [a] Γ fun ds => ∃ i, ds = [.int i] ∧ Q (.int i)) (hg : Gl X "int" := by rfl) (he : starEach (a :: []) X.env = (false, eval a X.env) :: starEach [] X.env := by rfl) (hpl : (backTo pos (starEach [] X.env)).any (·.1) = false := by rfl) :
    EvN X Hb (.Call (.Name "int" pn) [a] [] pos) Γ fr Q := EvN.fresh <|
  evn_Ty call_int1 hm h (fun vs H ds' Q s r k => by
    obtain ⟨i, s, q⟩ := s
    subst s
    exact .inl ⟨i, r.int1, k _ _ _ q Ex.refl (.int _) (FreshD.flat rfl)⟩) (by decide +kernel) hg (by decide) (by decide) he hpl
theorem w_sumL (hm : X.mg "sum" = none) (h : EvA X Hb [a] Γ fun ds => ∃ ns : List Int, ds = [.lst (ns.map .int)] ∧ Q (.int ns.sum)) (hc : X.calm = true := by rfl) (hg : Gl X "sum" := by rfl) (he : starEach (a :: []) X.env = (false, eval a X.env) :: starEach [] X.env := by rfl) (hpl : (backTo pos (starEach [] X.env)).any (·.1) = false := by rfl) :
    EvN X Hb (.Call (.Name "sum" pn) [a] [] pos) Γ fr Q := EvN.fresh <|
  evn_B (cr_sum hc) hm h (fun vs H ds' Q s r k => by
    obtain ⟨ns, s, q⟩ := s
    subst s
    obtain ⟨p, ws, e, hq, ra⟩ := r.lst1
    rw [ra.ints] at hq
    exact ⟨p, ns, e, hq, k _ _ _ q Ex.refl (.int _) (FreshD.flat rfl)⟩) (by decide +kernel) hg (by decide) (by decide) he hpl
theorem w_sumT (hm : X.mg "sum" = none) (h : EvA X Hb [a] Γ fun ds => ∃ ns : List Int, ds = [.tup (ns.map .int)] ∧ Q (.int ns.sum)) (hc : X.calm = true := by rfl) (hg : Gl X "sum" := by rfl) (he : starEach (a :: []) X.env = (false, eval a X.env) :: starEach [] X.env := by rfl) (hpl : (backTo pos (starEach [] X.env)).any (·.1) = false := by rfl) :
    EvN X Hb (.Call (.Name "sum" pn) [a] [] pos) Γ fr Q := EvN.fresh <|
  evn_B (cr_sumT hc) hm h (fun vs H ds' Q s r k => by
    obtain ⟨ns, s, q⟩ := s
    subst s
    obtain ⟨p, ws, e, hq, ra⟩ := r.tup1
    rw [ra.ints] at hq
    exact ⟨p, ns, e, hq, (fun z => nomatch z), fun m z => by subst z; exact k _ _ _ q Ex.refl (.int _) (FreshD.flat rfl)⟩) (by decide +kernel) hg (by decide) (by decide) he hpl
/-- the greatest, the least of ints -/
theorem w_maxL (hm : X.mg "max" = none) (h : EvA X Hb [a] Γ fun ds => ∃ ns : List Int, (ds = [.lst (ns.map .int)] ∨ ds = [.tup (ns.map .int)]) ∧ ns ≠ [] ∧ ∀ m, m ∈ ns → (∀ y ∈ ns, y ≤ m) → Q (.int m)) (hc : X.calm = true := by rfl) (hg : Gl X "max" := by rfl) (he : starEach (a :: []) X.env = (false, eval a X.env) :: starEach [] X.env := by rfl) (hpl : (backTo pos (starEach [] X.env)).any (·.1) = false := by rfl) :
    EvN X Hb (.Call (.Name "max" pn) [a] [] pos) Γ fr Q := EvN.fresh fun σ H en Q' q =>
  SemE.of (pe_callB (r := fun vs H Q => (∃ (p : Addr) (ns : List Int), vs = [.ref p] ∧ SqL X.K H p (ns.map V.int) ∧ 0 < ns.length ∧ ∀ m, m ∈ ns → (∀ y ∈ ns, y ≤ m) → Q (.int m) H) ∨ (∃ (p : Addr) (ns : List Int), vs = [.ref p] ∧ SqT X.K H p (ns.map V.int) ∧ 0 < ns.length ∧ ∀ m, m ∈ ns → (∀ y ∈ ns, y ≤ m) → Q (.int m) H))
      (fun pins s σ H vs us Q I r h => by
        rcases h with ⟨p, ns, e, h1, h2, h3⟩ | ⟨p, ns, e, h1, h2, h3⟩
        · exact cr_max hc pins s σ H vs us Q I r ⟨p, ns, e, h1, h2, h3⟩
        · exact cr_maxT hc pins s σ H vs us Q I r ⟨p, ns, e, h1, fun _ => h2, fun m ⟨a, b⟩ => h3 m a b⟩) hg hm (by decide +kernel) (semA X [a]) (by decide) (by decide) he hpl) (h σ H en _ fun vs H1 ds ⟨ns, e, h0, hq⟩ x1 r => by
    rcases e with e | e <;> subst e
    · obtain ⟨p, ws, e, h2, ra⟩ := r.lst1
      rw [ra.ints] at h2
      exact .inl ⟨p, ns, e, h2, List.length_pos_iff.mpr h0, fun m h3 h4 => q _ _ _ (hq m h3 h4) x1 (.int _) fun _ => FreshD.flat rfl⟩
    · obtain ⟨p, ws, e, h2, ra⟩ := r.tup1
      rw [ra.ints] at h2
      exact .inr ⟨p, ns, e, h2, List.length_pos_iff.mpr h0, fun m h3 h4 => q _ _ _ (hq m h3 h4) x1 (.int _) fun _ => FreshD.flat rfl⟩)
theorem w_minL (hm : X.mg "min" = none) (h : EvA X Hb [a] Γ fun ds => ∃ ns : List Int, (ds = [.lst (ns.map .int)] ∨ ds = [.tup (ns.map .int)]) ∧ ns ≠ [] ∧ ∀ m, m ∈ ns → (∀ y ∈ ns, m ≤ y) → Q (.int m)) (hc : X.calm = true := by rfl) (hg : Gl X "min" := by rfl) (he : starEach (a :: []) X.env = (false, eval a X.env) :: starEach [] X.env := by rfl) (hpl : (backTo pos (starEach [] X.env)).any (·.1) = false := by rfl) :
    EvN X Hb (.Call (.Name "min" pn) [a] [] pos) Γ fr Q := EvN.fresh fun σ H en Q' q =>
  SemE.of (pe_callB (r := fun vs H Q => (∃ (p : Addr) (ns : List Int), vs = [.ref p] ∧ SqL X.K H p (ns.map V.int) ∧ 0 < ns.length ∧ ∀ m, m ∈ ns → (∀ y ∈ ns, m ≤ y) → Q (.int m) H) ∨ (∃ (p : Addr) (ns : List Int), vs = [.ref p] ∧ SqT X.K H p (ns.map V.int) ∧ 0 < ns.length ∧ ∀ m, m ∈ ns → (∀ y ∈ ns, m ≤ y) → Q (.int m) H))
      (fun pins s σ H vs us Q I r h => by
        rcases h with ⟨p, ns, e, h1, h2, h3⟩ | ⟨p, ns, e, h1, h2, h3⟩
        · exact cr_min hc pins s σ H vs us Q I r ⟨p, ns, e, h1, h2, h3⟩
        · exact cr_minT hc pins s σ H vs us Q I r ⟨p, ns, e, h1, fun _ => h2, fun m ⟨a, b⟩ => h3 m a b⟩) hg hm (by decide +kernel) (semA X [a]) (by decide) (by decide) he hpl) (h σ H en _ fun vs H1 ds ⟨ns, e, h0, hq⟩ x1 r => by
    rcases e with e | e <;> subst e
    · obtain ⟨p, ws, e, h2, ra⟩ := r.lst1
      rw [ra.ints] at h2
      exact .inl ⟨p, ns, e, h2, List.length_pos_iff.mpr h0, fun m h3 h4 => q _ _ _ (hq m h3 h4) x1 (.int _) fun _ => FreshD.flat rfl⟩
    · obtain ⟨p, ws, e, h2, ra⟩ := r.tup1
      rw [ra.ints] at h2
      exact .inr ⟨p, ns, e, h2, List.length_pos_iff.mpr h0, fun m h3 h4 => q _ _ _ (hq m h3 h4) x1 (.int _) fun _ => FreshD.flat rfl⟩)
theorem w_list (hm : X.mg "list" = none) (h : EvA X Hb [a] Γ fun ds => ∃ xs, (ds = [.lst xs] ∨ ds = [.tup xs]) ∧ Q (.lst xs)) (hg : Gl X "list" := by rfl) (he : starEach (a :: []) X.env = (false, eval a X.env) :: starEach [] X.env := by rfl) (hpl : (backTo pos (starEach [] X.env)).any (·.1) = false := by rfl) :
    EvN X Hb (.Call (.Name "list" pn) [a] [] pos) Γ fr Q := EvN.fresh <|
  evn_Ty call_list_of hm h (fun vs H ds' Q s r k => by
    obtain ⟨xs, s, q⟩ := s
    rcases s with e | e <;> subst e
    · obtain ⟨p, ws, e, hq, ra⟩ := r.lst1
      exact ⟨_, _, e, .inl hq, fun l hl => k _ _ _ q (Ex.new hl) (.lst (SqL.of upd_same) (ra.ex (Ex.new hl))) (freshL hl Ex.refl ra)⟩
    · obtain ⟨p, ws, e, hq, ra⟩ := r.tup1
      exact ⟨_, _, e, .inr hq, fun l hl => k _ _ _ q (Ex.new hl) (.lst (SqL.of upd_same) (ra.ex (Ex.new hl))) (freshL hl Ex.refl ra)⟩) (by decide +kernel) hg (by decide) (by decide) he hpl
theorem w_tuple (hm : X.mg "tuple" = none) (h : EvA X Hb [a] Γ fun ds => ∃ xs, ds = [.lst xs] ∧ Q (.tup xs)) (hg : Gl X "tuple" := by rfl) (he : starEach (a :: []) X.env = (false, eval a X.env) :: starEach [] X.env := by rfl) (hpl : (backTo pos (starEach [] X.env)).any (·.1) = false := by rfl) :
    EvN X Hb (.Call (.Name "tuple" pn) [a] [] pos) Γ fr Q := EvN.fresh <|
  evn_Ty call_tuple_of hm h (fun vs H ds' Q s r k => by
    obtain ⟨xs, s, q⟩ := s
    subst s
    obtain ⟨p, ws, e, hq, ra⟩ := r.lst1
    exact ⟨p, ws, e, .inl ⟨hq, fun l hl => k _ _ _ q (Ex.new hl) (.tup (SqT.of upd_same) (ra.ex (Ex.new hl))) (FreshD.flat rfl)⟩⟩) (by decide +kernel) hg (by decide) (by decide) he hpl
theorem w_repr (hg : X.A.guards = some []) {k : Nat} (hr : Room k X.A) (hm : X.mg "repr" = none) (h : EvA X Hb [a] Γ fun ds => ∃ d, ds = [d] ∧ Sh 40 10000000 d ∧ Q (.str (reprD d))) (hgl : Gl X "repr" := by rfl) (he : starEach (a :: []) X.env = (false, eval a X.env) :: starEach [] X.env := by rfl) (hpl : (backTo pos (starEach [] X.env)).any (·.1) = false := by rfl) :
    EvN X Hb (.Call (.Name "repr" pn) [a] [] pos) Γ fr Q := EvN.fresh <|
  evn_B (call_reprD hg hr.units) hm h (fun vs H ds Q ⟨d, e1, s, q⟩ r k => by
    subst e1
    cases r with
    | cons r1 r2 =>
      cases r2
      exact ⟨_, d, rfl, r1, s, k _ _ _ q Ex.refl (.str _) (FreshD.flat rfl)⟩) boot_repr hgl (by decide) (by decide) he hpl
end
end
end L3

namespace L3
open PySem PySem.Spec PyProof.Rows L2
/-- a name whose list is to be changed -/
structure Own (x : Str) : Prop where
inductive OwnIf : Bool → Str → Prop
  | t {x : Str} : Own x → OwnIf true x
  | f {x : Str} : OwnIf false x
theorem Look.z' {N : List Str} {Γ : Slots} {x y : Str} {e : Ent} (h : y = x) : Look (y :: N) (e :: Γ) x e := by subst h; exact .z
inductive Has : List Str → Str → Prop
  | z {N : List Str} {x y : Str} (h : y = x) : Has (y :: N) x
  | s {N : List Str} {x y : Str} : Has N x → Has (y :: N) x
theorem Has.ix : ∀ {N : List Str} {x : Str}, Has N x → ∃ i : Nat, N[i]? = some x
  | _, _, .z h => ⟨0, by rw [h]; rfl⟩
  | _, _, .s h => let ⟨i, a⟩ := Has.ix h; ⟨i + 1, by simpa using a⟩
theorem Up.z' {N : List Str} {Γ : Slots} {x y : Str} {e e' : Ent} (h : y = x) : Up (y :: N) (e' :: Γ) x e (e :: Γ) := by subst h; exact .z
def Up1 (N : List Str) (Γ : Slots) (x : Str) (e : Ent) (k : Slots → Prop) : Prop := ∃ Γ', Up N Γ x e Γ' ∧ k Γ'
theorem up1 {N : List Str} {Γ Γ' : Slots} {x : Str} {e : Ent} {k : Slots → Prop} (hu : Up N Γ x e Γ') (g : k Γ') : Up1 N Γ x e k := ⟨Γ', hu, g⟩
def StoreD (own : Bool) (N : List Str) (Γ : Slots) (xn : Str) (d : D) (k : Slots → Prop) : Prop :=
  (own = false ∧ Sto Γ d ∧ Up1 N Γ xn (.dat d) k) ∨ (own = true ∧ ∃ ds, d = .lst ds ∧ D.flatAll ds = true ∧ ∀ p, Up1 N Γ xn (.own p ds) k)
theorem sto_dat {N : List Str} {Γ : Slots} {xn : Str} {d : D} {k : Slots → Prop} (h : Up1 N Γ xn (.dat d) k) (hs : Sto Γ d) : StoreD false N Γ xn d k := .inl ⟨rfl, hs, h⟩
theorem sto_own {N : List Str} {Γ : Slots} {xn : Str} {ds : List D} {k : Slots → Prop} (h : ∀ p, Up1 N Γ xn (.own p ds) k) (hf : D.flatAll ds = true) : StoreD true N Γ xn (.lst ds) k := .inr ⟨rfl, ds, rfl, hf, h⟩
theorem nodup_ix {N : List Str} (nd : N.Nodup) {i j : Nat} {x : Str} (h1 : N[i]? = some x) (h2 : N[j]? = some x) : i = j := by
  have hi : i < N.length := (List.getElem?_eq_some_iff.mp h1).1
  exact (List.getElem?_inj hi nd).mp (h1.trans h2.symm)
theorem StoreD.ok {K : PySem.W.Frag} {Hb H H' : Hp} {Γ : Slots} {σ : L2.St} {own : Bool} {N : List Str} (nd : N.Nodup) {i : Nat} {xn : Str} (hi : N[i]? = some xn) {v : V} {d : D} {k : Slots → Prop} (en : EnvOk K Hb Γ σ H) (x : Ex H H') (r : Rep K H' v d) (f : own = true → FreshD K H H' v d) (h : StoreD own N Γ xn d k) :
    ∃ Γ', k Γ' ∧ EnvOk K Hb Γ' (σ.set i (some v)) H' := by
  rcases h with ⟨rfl, hs, Γ', hu, g⟩ | ⟨rfl, ds, rfl, hf, h⟩
  · obtain ⟨j, hj, rfl⟩ := hu.ix
    have := nodup_ix nd hi hj
    subst this
    exact ⟨_, g, (en.ex x).setDat r hs⟩
  · obtain ⟨p, vs, rfl, hp, hl, ra⟩ := f rfl
    obtain ⟨Γ', hu, g⟩ := h p
    obtain ⟨j, hj, rfl⟩ := hu.ix
    have := nodup_ix nd hi hj
    subst this
    exact ⟨_, g, en.setOwn hp x hl ra hf⟩
section
variable {X : Cx} {Hb Hb' : Hp} {a b c e : Expr} {es : List Expr} {Γ Γ' : Slots} {pos p' p2 apos cpos : Pos} {d x y : D} {ds : List D} {Q S S' : D → Prop} {fr : Bool} {D0 : Ends} {rest sts : List Stmt} {st : Stmt} {e0 e1 e2 e3 : Ent}
/-- x = e -/
theorem s_set {own : Bool} {xn : Str} (_ho : OwnIf own xn) (h : EvN X Hb e Γ own fun d => StoreD own X.N Γ xn d fun Γ' => Go X Hb rest D0 Γ') (nd : X.N.Nodup) (hL : Has X.N xn) (hx : Loc X.env.scope xn := by first | exact Or.inl rfl | exact Or.inr rfl)
    (hsw : swapsWith e (some (.Name xn p')) pos.line X.env = pure false := by rfl) (hf : X.fn xn = true ∨ X.env.scope.names.lookup xn = some .local := by first | exact .inl rfl | exact .inr rfl) : Go X Hb (.Assign [.Name xn p'] e pos :: rest) D0 Γ := fun σ H en => by
  obtain ⟨i, hi⟩ := hL.ix
  exact SemSs.cons (ps_set nd hi hx (semE X e) hsw hf) (h σ H en _ fun v H' d s x r f => by
    obtain ⟨Γ', g, en'⟩ := s.ok nd hi en x r f
    exact g _ H' en')
/-- x, y = a, b, plain locals -/
theorem s_par {o1 o2 : Bool} {xn yn : Str} {px py pt : Pos} {kt k2 : Nat} {pt2 : Pos} (_h1 : OwnIf o1 xn) (_h2 : OwnIf o2 yn) (h : EvN X Hb a Γ o1 fun d1 => EvN X Hb b Γ o2 fun d2 => StoreD o1 X.N Γ xn d1 fun Γ1 => StoreD o2 X.N Γ1 yn d2 fun Γ2 => Go X Hb rest D0 Γ2)
    (nd : X.N.Nodup) (hL : Has X.N xn) (hL2 : Has X.N yn) (hne : xn ≠ yn) (hw : swappedStores [.Tuple [.Name xn px, .Name yn py] kt pt] (.Tuple [a, b] k2 pt2) X.env = pure (some [xn, yn])) (hc : X.calm = true := by rfl)
    (hx : X.env.scope.names.lookup xn = some .local := by rfl) (hy : X.env.scope.names.lookup yn = some .local := by rfl)
    (hsw : swapsWithSole [.Tuple [.Name xn px, .Name yn py] kt pt] (.Tuple [a, b] k2 pt2) pos.line X.env = pure false := by rfl) (hs : starEach (a :: [b]) X.env = (false, eval a X.env) :: starEach [b] X.env := by rfl) (hs2 : starEach (b :: []) X.env = (false, eval b X.env) :: starEach [] X.env := by rfl) :
    Go X Hb (.Assign [.Tuple [.Name xn px, .Name yn py] kt pt] (.Tuple [a, b] k2 pt2) pos :: rest) D0 Γ := fun σ H en => by
  obtain ⟨i, hi⟩ := hL.ix
  obtain ⟨j, hj⟩ := hL2.ix
  have hij : i ≠ j := fun z => by subst z; rw [hi] at hj; exact hne (Option.some.inj hj)
  refine SemSs.cons (ps_par hc nd hi hj hij hx hy (pa_cons (semE X a) (pa_cons (semE X b) pa_nil hs2) hs) hw hsw) (h σ H en _ fun v1 H1 d1 s1 x1 r1 f1 => s1 σ H1 (en.ex x1) _ fun v2 H2 d2 s2 x2 r2 f2 => ?_)
  obtain ⟨Γ1, g1, en1⟩ := s2.ok nd hi en x1 r1 f1
  obtain ⟨Γ2, g2, en2⟩ := g1.ok nd hj en1 x2 r2 f2
  exact ⟨_, _, rfl, g2 _ H2 en2⟩
theorem s_par3 {o1 o2 o3 : Bool} {xn yn zn : Str} {px py pz pt : Pos} {kt k2 : Nat} {pt2 : Pos} (_h1 : OwnIf o1 xn) (_h2 : OwnIf o2 yn) (_h3 : OwnIf o3 zn) (h : EvN X Hb a Γ o1 fun d1 => EvN X Hb b Γ o2 fun d2 => EvN X Hb c Γ o3 fun d3 => StoreD o1 X.N Γ xn d1 fun Γ1 => StoreD o2 X.N Γ1 yn d2 fun Γ2 => StoreD o3 X.N Γ2 zn d3 fun Γ3 => Go X Hb rest D0 Γ3)
    (nd : X.N.Nodup) (hL : Has X.N xn) (hL2 : Has X.N yn) (hL3 : Has X.N zn) (hne : xn ≠ yn ∧ xn ≠ zn ∧ yn ≠ zn) (hw : swappedStores [.Tuple [.Name xn px, .Name yn py, .Name zn pz] kt pt] (.Tuple [a, b, c] k2 pt2) X.env = pure (some [xn, yn, zn])) (hc : X.calm = true := by rfl)
    (hx : X.env.scope.names.lookup xn = some .local := by rfl) (hy : X.env.scope.names.lookup yn = some .local := by rfl) (hz : X.env.scope.names.lookup zn = some .local := by rfl)
    (hsw : swapsWithSole [.Tuple [.Name xn px, .Name yn py, .Name zn pz] kt pt] (.Tuple [a, b, c] k2 pt2) pos.line X.env = pure false := by rfl) (hs : starEach (a :: [b, c]) X.env = (false, eval a X.env) :: starEach [b, c] X.env := by rfl) (hs2 : starEach (b :: [c]) X.env = (false, eval b X.env) :: starEach [c] X.env := by rfl) (hs3 : starEach (c :: []) X.env = (false, eval c X.env) :: starEach [] X.env := by rfl) :
    Go X Hb (.Assign [.Tuple [.Name xn px, .Name yn py, .Name zn pz] kt pt] (.Tuple [a, b, c] k2 pt2) pos :: rest) D0 Γ := fun σ H en => by
  obtain ⟨i, hi⟩ := hL.ix
  obtain ⟨j, hj⟩ := hL2.ix
  obtain ⟨l, hl⟩ := hL3.ix
  have hij : i ≠ j := fun z => by subst z; rw [hi] at hj; exact hne.1 (Option.some.inj hj)
  have hil : i ≠ l := fun z => by subst z; rw [hi] at hl; exact hne.2.1 (Option.some.inj hl)
  have hjl : j ≠ l := fun z => by subst z; rw [hj] at hl; exact hne.2.2 (Option.some.inj hl)
  refine SemSs.cons (ps_par3 hc nd hi hj hl hij hil hjl hx hy hz (pa_cons (semE X a) (pa_cons (semE X b) (pa_cons (semE X c) pa_nil hs3) hs2) hs) hw hsw) (h σ H en _ fun v1 H1 d1 s1 x1 r1 f1 => s1 σ H1 (en.ex x1) _ fun v2 H2 d2 s2 x2 r2 f2 => s2 σ H2 (en.ex (x1.trans x2)) _ fun v3 H3 d3 s3 x3 r3 f3 => ?_)
  obtain ⟨Γ1, g1, en1⟩ := s3.ok nd hi en x1 r1 f1
  obtain ⟨Γ2, g2, en2⟩ := g1.ok nd hj en1 x2 r2 f2
  obtain ⟨Γ3, g3, en3⟩ := g2.ok nd hl en2 x3 r3 f3
  exact ⟨_, _, _, rfl, g3 _ H3 en3⟩
/-- the same where a name is a cell, or more than three -/
theorem s_tup2 {o1 o2 : Bool} {xn yn : Str} {px py pt : Pos} {kt k2 : Nat} {pt2 : Pos} (_h1 : OwnIf o1 xn) (_h2 : OwnIf o2 yn) (h : EvN X Hb a Γ o1 fun d1 => EvN X Hb b Γ o2 fun d2 => StoreD o1 X.N Γ xn d1 fun Γ1 => StoreD o2 X.N Γ1 yn d2 fun Γ2 => Go X Hb rest D0 Γ2)
    (nd : X.N.Nodup) (hL : Has X.N xn) (hL2 : Has X.N yn) (hw : swappedStores [.Tuple [.Name xn px, .Name yn py] kt pt] (.Tuple [a, b] k2 pt2) X.env = pure none := by rfl) (hc : X.calm = true := by rfl)
    (hx : Loc X.env.scope xn := by first | exact Or.inl rfl | exact Or.inr rfl) (hy : Loc X.env.scope yn := by first | exact Or.inl rfl | exact Or.inr rfl)
    (hf : X.fn xn = true ∨ X.env.scope.names.lookup xn = some .local := by first | exact .inl rfl | exact .inr rfl) (hf2 : X.fn yn = true ∨ X.env.scope.names.lookup yn = some .local := by first | exact .inl rfl | exact .inr rfl)
    (hn : (assignEach [.Name xn px, .Name yn py] X.env).length = 2 := by rfl) (hst : (assignEach [.Name xn px, .Name yn py] X.env).findIdx? (·.1) = none := by rfl)
    (hz1 : (assignEach (.Name xn px :: [.Name yn py]) X.env).map (·.2) = assign (.Name xn px) X.env :: (assignEach [.Name yn py] X.env).map (·.2) := by rfl) (hz2 : (assignEach (.Name yn py :: []) X.env).map (·.2) = assign (.Name yn py) X.env :: (assignEach [] X.env).map (·.2) := by rfl)
    (hsw : swapsWithSole [.Tuple [.Name xn px, .Name yn py] kt pt] (.Tuple [a, b] k2 pt2) pos.line X.env = pure false := by rfl) (h1 : (assignEach [.Tuple [.Name xn px, .Name yn py] kt pt] X.env).map (·.2) = [assign (.Tuple [.Name xn px, .Name yn py] kt pt) X.env] := by rfl)
    (hs : starEach (a :: [b]) X.env = (false, eval a X.env) :: starEach [b] X.env := by rfl) (hs2 : starEach (b :: []) X.env = (false, eval b X.env) :: starEach [] X.env := by rfl) :
    Go X Hb (.Assign [.Tuple [.Name xn px, .Name yn py] kt pt] (.Tuple [a, b] k2 pt2) pos :: rest) D0 Γ := fun σ H en => by
  obtain ⟨i, hi⟩ := hL.ix
  obtain ⟨j, hj⟩ := hL2.ix
  refine SemSs.cons (ps_asg (pe_tup (pa_cons (semE X a) (pa_cons (semE X b) pa_nil hs2) hs)) (pg_tup hc (pgs_cons (pg_name nd hi hx hf) (pgs_cons (pg_name nd hj hy hf2) pgs_nil hz2) hz1) hn hst) hsw hw h1) (h σ H en _ fun v1 H1 d1 s1 x1 r1 f1 => s1 σ H1 (en.ex x1) _ fun v2 H2 d2 s2 x2 r2 f2 => ⟨by show 2 ≤ sizeLine; decide, fun T hT => ?_⟩)
  obtain ⟨Γ1, g1, en1⟩ := s2.ok nd hi en x1 r1 f1
  obtain ⟨Γ2, g2, en2⟩ := g1.ok nd hj en1 x2 r2 f2
  exact ⟨T, _, rfl, SqT.of upd_same, rfl, _, _, rfl, _, _, rfl, rfl, g2 _ _ (en2.ex (Ex.new hT))⟩
theorem s_tup3 {o1 o2 o3 : Bool} {xn yn zn : Str} {px py pz pt : Pos} {kt k2 : Nat} {pt2 : Pos} (_h1 : OwnIf o1 xn) (_h2 : OwnIf o2 yn) (_h3 : OwnIf o3 zn) (h : EvN X Hb a Γ o1 fun d1 => EvN X Hb b Γ o2 fun d2 => EvN X Hb c Γ o3 fun d3 => StoreD o1 X.N Γ xn d1 fun Γ1 => StoreD o2 X.N Γ1 yn d2 fun Γ2 => StoreD o3 X.N Γ2 zn d3 fun Γ3 => Go X Hb rest D0 Γ3)
    (nd : X.N.Nodup) (hL : Has X.N xn) (hL2 : Has X.N yn) (hL3 : Has X.N zn) (hw : swappedStores [.Tuple [.Name xn px, .Name yn py, .Name zn pz] kt pt] (.Tuple [a, b, c] k2 pt2) X.env = pure none := by rfl) (hc : X.calm = true := by rfl)
    (hx : Loc X.env.scope xn := by first | exact Or.inl rfl | exact Or.inr rfl) (hy : Loc X.env.scope yn := by first | exact Or.inl rfl | exact Or.inr rfl) (hz : Loc X.env.scope zn := by first | exact Or.inl rfl | exact Or.inr rfl)
    (hf : X.fn xn = true ∨ X.env.scope.names.lookup xn = some .local := by first | exact .inl rfl | exact .inr rfl) (hf2 : X.fn yn = true ∨ X.env.scope.names.lookup yn = some .local := by first | exact .inl rfl | exact .inr rfl) (hf3 : X.fn zn = true ∨ X.env.scope.names.lookup zn = some .local := by first | exact .inl rfl | exact .inr rfl)
    (hn : (assignEach [.Name xn px, .Name yn py, .Name zn pz] X.env).length = 3 := by rfl) (hst : (assignEach [.Name xn px, .Name yn py, .Name zn pz] X.env).findIdx? (·.1) = none := by rfl)
    (hz1 : (assignEach (.Name xn px :: [.Name yn py, .Name zn pz]) X.env).map (·.2) = assign (.Name xn px) X.env :: (assignEach [.Name yn py, .Name zn pz] X.env).map (·.2) := by rfl) (hz2 : (assignEach (.Name yn py :: [.Name zn pz]) X.env).map (·.2) = assign (.Name yn py) X.env :: (assignEach [.Name zn pz] X.env).map (·.2) := by rfl) (hz3 : (assignEach (.Name zn pz :: []) X.env).map (·.2) = assign (.Name zn pz) X.env :: (assignEach [] X.env).map (·.2) := by rfl)
    (hsw : swapsWithSole [.Tuple [.Name xn px, .Name yn py, .Name zn pz] kt pt] (.Tuple [a, b, c] k2 pt2) pos.line X.env = pure false := by rfl) (h1 : (assignEach [.Tuple [.Name xn px, .Name yn py, .Name zn pz] kt pt] X.env).map (·.2) = [assign (.Tuple [.Name xn px, .Name yn py, .Name zn pz] kt pt) X.env] := by rfl)
    (hs : starEach (a :: [b, c]) X.env = (false, eval a X.env) :: starEach [b, c] X.env := by rfl) (hs2 : starEach (b :: [c]) X.env = (false, eval b X.env) :: starEach [c] X.env := by rfl) (hs3 : starEach (c :: []) X.env = (false, eval c X.env) :: starEach [] X.env := by rfl) :
    Go X Hb (.Assign [.Tuple [.Name xn px, .Name yn py, .Name zn pz] kt pt] (.Tuple [a, b, c] k2 pt2) pos :: rest) D0 Γ := fun σ H en => by
  obtain ⟨i, hi⟩ := hL.ix
  obtain ⟨j, hj⟩ := hL2.ix
  obtain ⟨l, hl⟩ := hL3.ix
  refine SemSs.cons (ps_asg (pe_tup (pa_cons (semE X a) (pa_cons (semE X b) (pa_cons (semE X c) pa_nil hs3) hs2) hs)) (pg_tup hc (pgs_cons (pg_name nd hi hx hf) (pgs_cons (pg_name nd hj hy hf2) (pgs_cons (pg_name nd hl hz hf3) pgs_nil hz3) hz2) hz1) hn hst) hsw hw h1) (h σ H en _ fun v1 H1 d1 s1 x1 r1 f1 => s1 σ H1 (en.ex x1) _ fun v2 H2 d2 s2 x2 r2 f2 => s2 σ H2 (en.ex (x1.trans x2)) _ fun v3 H3 d3 s3 x3 r3 f3 => ⟨by show 3 ≤ sizeLine; decide, fun T hT => ?_⟩)
  obtain ⟨Γ1, g1, en1⟩ := s3.ok nd hi en x1 r1 f1
  obtain ⟨Γ2, g2, en2⟩ := g1.ok nd hj en1 x2 r2 f2
  obtain ⟨Γ3, g3, en3⟩ := g2.ok nd hl en2 x3 r3 f3
  exact ⟨T, _, rfl, SqT.of upd_same, rfl, _, _, rfl, _, _, rfl, _, _, rfl, rfl, g3 _ _ (en3.ex (Ex.new hT))⟩
/-- x, y = e, a tuple -/
theorem s_unp2 {xn yn : Str} {px py pt : Pos} {kt : Nat} (h : EvN X Hb e Γ false fun d => ∃ d1 d2, d = .tup [d1, d2] ∧ StoreD false X.N Γ xn d1 fun Γ1 => StoreD false X.N Γ1 yn d2 fun Γ2 => Go X Hb rest D0 Γ2)
    (nd : X.N.Nodup) (hL : Has X.N xn) (hL2 : Has X.N yn) (hw : swappedStores [.Tuple [.Name xn px, .Name yn py] kt pt] e X.env = pure none := by rfl) (hc : X.calm = true := by rfl)
    (hx : Loc X.env.scope xn := by first | exact Or.inl rfl | exact Or.inr rfl) (hy : Loc X.env.scope yn := by first | exact Or.inl rfl | exact Or.inr rfl)
    (hf : X.fn xn = true ∨ X.env.scope.names.lookup xn = some .local := by first | exact .inl rfl | exact .inr rfl) (hf2 : X.fn yn = true ∨ X.env.scope.names.lookup yn = some .local := by first | exact .inl rfl | exact .inr rfl)
    (hn : (assignEach [.Name xn px, .Name yn py] X.env).length = 2 := by rfl) (hst : (assignEach [.Name xn px, .Name yn py] X.env).findIdx? (·.1) = none := by rfl)
    (hz1 : (assignEach (.Name xn px :: [.Name yn py]) X.env).map (·.2) = assign (.Name xn px) X.env :: (assignEach [.Name yn py] X.env).map (·.2) := by rfl) (hz2 : (assignEach (.Name yn py :: []) X.env).map (·.2) = assign (.Name yn py) X.env :: (assignEach [] X.env).map (·.2) := by rfl)
    (hsw : swapsWithSole [.Tuple [.Name xn px, .Name yn py] kt pt] e pos.line X.env = pure false := by rfl) (h1 : (assignEach [.Tuple [.Name xn px, .Name yn py] kt pt] X.env).map (·.2) = [assign (.Tuple [.Name xn px, .Name yn py] kt pt) X.env] := by rfl) :
    Go X Hb (.Assign [.Tuple [.Name xn px, .Name yn py] kt pt] e pos :: rest) D0 Γ := fun σ H en => by
  obtain ⟨i, hi⟩ := hL.ix
  obtain ⟨j, hj⟩ := hL2.ix
  refine SemSs.cons (ps_asg (semE X e) (pg_tup hc (pgs_cons (pg_name nd hi hx hf) (pgs_cons (pg_name nd hj hy hf2) pgs_nil hz2) hz1) hn hst) hsw hw h1) (h σ H en _ fun v1 H1 d1 ⟨da, db, ed, s⟩ x1 r1 _ => ?_)
  subst ed
  cases r1 with
  | tup hq ra =>
    cases ra with
    | cons ra rr =>
      cases rr with
      | cons rb rr =>
        cases rr
        obtain ⟨Γ1, g1, en1⟩ := s.ok (own := false) nd hi en x1 ra fun z => nomatch z
        obtain ⟨Γ2, g2, en2⟩ := g1.ok (own := false) nd hj en1 Ex.refl rb fun z => nomatch z
        exact ⟨_, _, rfl, hq, rfl, _, _, rfl, _, _, rfl, rfl, g2 _ _ en2⟩
theorem s_unp3 {xn yn zn : Str} {px py pz pt : Pos} {kt : Nat} (h : EvN X Hb e Γ false fun d => ∃ d1 d2 d3, d = .tup [d1, d2, d3] ∧ StoreD false X.N Γ xn d1 fun Γ1 => StoreD false X.N Γ1 yn d2 fun Γ2 => StoreD false X.N Γ2 zn d3 fun Γ3 => Go X Hb rest D0 Γ3)
    (nd : X.N.Nodup) (hL : Has X.N xn) (hL2 : Has X.N yn) (hL3 : Has X.N zn) (hw : swappedStores [.Tuple [.Name xn px, .Name yn py, .Name zn pz] kt pt] e X.env = pure none := by rfl) (hc : X.calm = true := by rfl)
    (hx : Loc X.env.scope xn := by first | exact Or.inl rfl | exact Or.inr rfl) (hy : Loc X.env.scope yn := by first | exact Or.inl rfl | exact Or.inr rfl) (hz : Loc X.env.scope zn := by first | exact Or.inl rfl | exact Or.inr rfl)
    (hf : X.fn xn = true ∨ X.env.scope.names.lookup xn = some .local := by first | exact .inl rfl | exact .inr rfl) (hf2 : X.fn yn = true ∨ X.env.scope.names.lookup yn = some .local := by first | exact .inl rfl | exact .inr rfl) (hf3 : X.fn zn = true ∨ X.env.scope.names.lookup zn = some .local := by first | exact .inl rfl | exact .inr rfl)
    (hn : (assignEach [.Name xn px, .Name yn py, .Name zn pz] X.env).length = 3 := by rfl) (hst : (assignEach [.Name xn px, .Name yn py, .Name zn pz] X.env).findIdx? (·.1) = none := by rfl)
    (hz1 : (assignEach (.Name xn px :: [.Name yn py, .Name zn pz]) X.env).map (·.2) = assign (.Name xn px) X.env :: (assignEach [.Name yn py, .Name zn pz] X.env).map (·.2) := by rfl) (hz2 : (assignEach (.Name yn py :: [.Name zn pz]) X.env).map (·.2) = assign (.Name yn py) X.env :: (assignEach [.Name zn pz] X.env).map (·.2) := by rfl) (hz3 : (assignEach (.Name zn pz :: []) X.env).map (·.2) = assign (.Name zn pz) X.env :: (assignEach [] X.env).map (·.2) := by rfl)
    (hsw : swapsWithSole [.Tuple [.Name xn px, .Name yn py, .Name zn pz] kt pt] e pos.line X.env = pure false := by rfl) (h1 : (assignEach [.Tuple [.Name xn px, .Name yn py, .Name zn pz] kt pt] X.env).map (·.2) = [assign (.Tuple [.Name xn px, .Name yn py, .Name zn pz] kt pt) X.env] := by rfl) :
    Go X Hb (.Assign [.Tuple [.Name xn px, .Name yn py, .Name zn pz] kt pt] e pos :: rest) D0 Γ := fun σ H en => by
  obtain ⟨i, hi⟩ := hL.ix
  obtain ⟨j, hj⟩ := hL2.ix
  obtain ⟨l, hl⟩ := hL3.ix
  refine SemSs.cons (ps_asg (semE X e) (pg_tup hc (pgs_cons (pg_name nd hi hx hf) (pgs_cons (pg_name nd hj hy hf2) (pgs_cons (pg_name nd hl hz hf3) pgs_nil hz3) hz2) hz1) hn hst) hsw hw h1) (h σ H en _ fun v1 H1 d1 ⟨da, db, dc, ed, s⟩ x1 r1 _ => ?_)
  subst ed
  cases r1 with
  | tup hq ra =>
    cases ra with
    | cons ra rr =>
      cases rr with
      | cons rb rr =>
        cases rr with
        | cons rc rr =>
          cases rr
          obtain ⟨Γ1, g1, en1⟩ := s.ok (own := false) nd hi en x1 ra fun z => nomatch z
          obtain ⟨Γ2, g2, en2⟩ := g1.ok (own := false) nd hj en1 Ex.refl rb fun z => nomatch z
          obtain ⟨Γ3, g3, en3⟩ := g2.ok (own := false) nd hl en2 Ex.refl rc fun z => nomatch z
          exact ⟨_, _, rfl, hq, rfl, _, _, rfl, _, _, rfl, _, _, rfl, rfl, g3 _ _ en3⟩
/-- x op= e -/
theorem s_aug {xn : Str} {op : Operator} {d0 : D} (hL : Look X.N Γ xn (.dat d0)) (h : EvN X Hb e Γ false fun d => OpD X (inplaceOp op) d0 d fun z => StoreD false X.N Γ xn z fun Γ' => Go X Hb rest D0 Γ') (nd : X.N.Nodup)
    (hx : Loc X.env.scope xn := by first | exact Or.inl rfl | exact Or.inr rfl) (hf : X.fn xn = true ∨ X.env.scope.names.lookup xn = some .local := by first | exact .inl rfl | exact .inr rfl) :
    Go X Hb (.AugAssign (.Name xn p') op e pos :: rest) D0 Γ := fun σ H en => by
  obtain ⟨i, hi, hG⟩ := hL.ix
  obtain ⟨v, hσ, r0⟩ := en.dat hG
  refine SemSs.cons (ps_aug (ti := rSem X (inplaceOp op)) nd hi hx (semE X e) (fun pins s σ H x y v u Q I r1 r2 q => q pins s σ v u I r1 r2) hf) ⟨v, hσ, h σ H en _ fun w H' d s x r _ => ?_⟩
  intro pins s' σ' v' u' I r1 r2
  refine s pins s' σ' H' v w v' u' _ I r1 r2 (r0.ex x) r fun z H2 dz qz x2 rz _ => ?_
  obtain ⟨Γ', g, en'⟩ := StoreD.ok (own := false) nd hi (en.ex x) x2 rz (fun z => nomatch z) qz
  exact g _ H2 en'
theorem iop_add {i j : Int} (q : Q (.int (i + j))) : OpD X (inplaceOp .Add) (.int i) (.int j) Q := fun pins s σ H x y v u Q' I rx ry r1 r2 k => by
  cases r1; cases r2
  exact ip_add pins s σ H _ _ v u Q' I rx ry ⟨i, j, rfl, rfl, k _ H _ q Ex.refl (.int _) (FreshD.flat rfl)⟩
theorem iop_sub {i j : Int} (q : Q (.int (i - j))) : OpD X (inplaceOp .Sub) (.int i) (.int j) Q := fun pins s σ H x y v u Q' I rx ry r1 r2 k => by
  cases r1; cases r2
  exact ip_sub pins s σ H _ _ v u Q' I rx ry ⟨i, j, rfl, rfl, k _ H _ q Ex.refl (.int _) (FreshD.flat rfl)⟩
/-- x.append(e) -/
theorem s_append {p : Addr} {xn : Str} (hL : Look X.N Γ xn (.own p ds)) (h : EvN X Hb e Γ false fun d => d.flat = true ∧ Up1 X.N Γ xn (.own p (ds ++ [d])) fun Γ' => Go X Hb rest D0 Γ') (nd : X.N.Nodup) (hl : ds.length ≤ 100000)
    (hv : Vis X.env.scope xn := by first | exact Or.inl rfl | exact Or.inr (Or.inl rfl) | exact Or.inr (Or.inr rfl)) (hdb : (xn == ("__debug__" : Str)) = false := by decide) (hcd : (xn == ("__classdict__" : Str)) = false := by decide)
    (hbase : attributeBase (.Name xn p') "append" X.env (eval (.Name xn p') X.env) = eval (.Name xn p') X.env := by rfl)
    (hfew : ((backTo cpos (starEach (e :: []) X.env)).all (fun x => !x.1) && (backToKw cpos (keywordEach [] X.env)).all (fun x => x.1.isSome) && decide ((e :: []).length + ([] : List Keyword).length + (if ([] : List Keyword).isEmpty then 0 else 1) < 30)) = true := by rfl)
    (hline : (apos.endLine == cpos.line) = true := by rfl) (hs : starEach (e :: []) X.env = (false, eval e X.env) :: starEach [] X.env := by rfl) (hplain : (backTo cpos (starEach [] X.env)).any (·.1) = false := by rfl)
    (hsw : swapsWith (.Call (.Attribute (.Name xn p') "append" apos) [e] [] cpos) none pos.line X.env = pure false := by rfl) :
    Go X Hb (.Expr (.Call (.Attribute (.Name xn p') "append" apos) [e] [] cpos) pos :: rest) D0 Γ := by
  obtain ⟨i, hi, hG⟩ := hL.ix
  refine go_appendN i h hG (fun d z => z.1) hl (fun d ⟨_, Γ', hu, g⟩ => ?_) hi hv hdb hcd hbase hfew hline hs hplain hsw
  obtain ⟨j, hj, rfl⟩ := hu.ix
  have := nodup_ix nd hi hj
  subst this
  exact g
/-- return e -/
def RetD (K : PySem.W.Frag) (D0 : Ends) (Hb : Hp) (d : D) : Prop := ∀ v H', Rt K Hb d v H' → D0.rt v H'
theorem s_ret (h : EvN X Hb e Γ true fun d => RetD X.K D0 Hb d) : Go X Hb (.Return (some e) pos :: rest) D0 Γ := go_retN h fun v H' d s x r f => s v H' ⟨x, r, f rfl⟩
theorem s_retOwn {p : Addr} {xn : Str} (hL : Look X.N Γ xn (.own p ds)) (h : RetD X.K D0 Hb (.lst ds)) (hv : Vis X.env.scope xn := by first | exact Or.inl rfl | exact Or.inr (Or.inl rfl) | exact Or.inr (Or.inr rfl)) (hdb : (xn == ("__debug__" : Str)) = false := by decide)
    (hcd : (xn == ("__classdict__" : Str)) = false := by decide) : Go X Hb (.Return (some (.Name xn p')) pos :: rest) D0 Γ := by
  obtain ⟨i, hi, hG⟩ := hL.ix
  exact go_retOwn i h hG hi hv hdb hcd
theorem ret_fn {K : PySem.W.Frag} {H : Hp} (s : S d) (ex : Ex H Hb) (hD : D0.rt = fun v H' => ∃ d, S d ∧ Rt K H d v H' := by rfl) : RetD K D0 Hb d := fun v H' ⟨x, r, f⟩ => by
  rw [hD]
  exact ⟨d, s, ex.trans x, r, f.back ex⟩
theorem ret_law {K : PySem.W.Frag} (s : d = .bl true) (hD : D0.rt = fun v _ => v = .bl true := by rfl) : RetD K D0 Hb d := fun v H' ⟨x, r, f⟩ => by
  rw [hD]
  subst s
  cases r
  rfl
/-- return e, of a def whose answer need not be new -/
def RetL (K : PySem.W.Frag) (D0 : Ends) (Hb : Hp) (d : D) : Prop := ∀ v H', Ex Hb H' → Rep K H' v d → D0.rt v H'
theorem s_retL (h : EvN X Hb e Γ false fun d => RetL X.K D0 Hb d) : Go X Hb (.Return (some e) pos :: rest) D0 Γ := go_retN h fun v H' d s x r f => s v H' x r
theorem ret_fnL {K : PySem.W.Frag} {H : Hp} (s : S d) (ex : Ex H Hb) (hD : D0.rt = fun v H' => ∃ d, S d ∧ Ex H H' ∧ Rep K H' v d := by rfl) : RetL K D0 Hb d := fun v H' x r => by
  rw [hD]
  exact ⟨d, s, ex.trans x, r⟩
/-- if -/
theorem s_if {as bs : List Stmt} {k : Bool} (h : EvB X Hb c Γ k) (ha : k = true → Go X Hb as { D0 with nx := fun σ H => SemSs X rest D0 σ H } Γ) (hb : k = false → Go X Hb bs { D0 with nx := fun σ H => SemSs X rest D0 σ H } Γ) : Go X Hb (.If c as bs pos :: rest) D0 Γ := go_if h ha hb
/-- if, the answer known -/
theorem s_ifT {as bs : List Stmt} {k : Bool} (h : EvB X Hb c Γ k) (hk : k = true) (ha : Go X Hb as { D0 with nx := fun σ H => SemSs X rest D0 σ H } Γ) : Go X Hb (.If c as bs pos :: rest) D0 Γ := go_if h (fun _ => ha) fun z => by rw [hk] at z; cases z
theorem s_ifF {as bs : List Stmt} {k : Bool} (h : EvB X Hb c Γ k) (hk : k = false) (hb : Go X Hb bs { D0 with nx := fun σ H => SemSs X rest D0 σ H } Γ) : Go X Hb (.If c as bs pos :: rest) D0 Γ := go_if h (fun z => by rw [hk] at z; cases z) fun _ => hb
theorem s_ifN {as bs : List Stmt} (h : EvT X Hb c Γ fun k => (k = true ∧ Go X Hb as { D0 with nx := fun σ H => SemSs X rest D0 σ H } Γ) ∨ (k = false ∧ Go X Hb bs { D0 with nx := fun σ H => SemSs X rest D0 σ H } Γ)) : Go X Hb (.If c as bs pos :: rest) D0 Γ :=
  go_ifN h (fun z => z.elim (fun z => z.2) fun z => nomatch z.1) fun z => z.elim (fun z => nomatch z.1) fun z => z.2
theorem s_pass (g : Go X Hb rest D0 Γ) : Go X Hb (.Pass pos :: rest) D0 Γ := go_pass g
theorem s_expr (h : EvN X Hb e Γ false fun _ => Go X Hb rest D0 Γ) (hs : swapsWith e none pos.line X.env = pure false := by rfl) : Go X Hb (.Expr e pos :: rest) D0 Γ := go_expr h (fun _ g => g) hs
theorem sto_flat (h : d.flat = true) : Sto Γ d := .inl h
theorem flat_map {α : Type} {f : α → D} (h : ∀ a, (f a).flat = true) : ∀ xs : List α, D.flatAll (xs.map f) = true
  | [] => rfl
  | x :: xs => by rw [List.map_cons]; show (D.flat (f x) && D.flatAll (xs.map f)) = true; rw [h x, flat_map h xs]; rfl
theorem flat_app : ∀ {xs ys : List D}, D.flatAll xs = true → D.flatAll ys = true → D.flatAll (xs ++ ys) = true
  | [], _, _, h => h
  | x :: xs, ys, h1, h2 => by
    have h1' : (D.flat x && D.flatAll xs) = true := h1
    obtain ⟨a, b⟩ := Bool.and_eq_true_iff.mp h1'
    show (D.flat x && D.flatAll (xs ++ ys)) = true
    rw [a, flat_app b h2]
    rfl
end
/-! loops, by the next slots -/
section
variable {X : Cx} {Hb Hb' : Hp} {a b c e : Expr} {es : List Expr} {Γ Γ' : Slots} {pos p' p2 apos cpos : Pos} {d x y : D} {ds : List D} {Q S S' : D → Prop} {fr : Bool} {D0 : Ends} {rest sts : List Stmt} {st : Stmt} {e0 e1 e2 e3 : Ent}
/-- the end of a turn, of a branch: what the slots say is kept in part -/
inductive Sub : Slots → Slots → Prop
  | nil : Sub [] []
  | keep {e : Ent} {Γ Γ' : Slots} : Sub Γ Γ' → Sub (e :: Γ) (e :: Γ')
  | drop {e : Ent} {Γ Γ' : Slots} : Sub Γ Γ' → Sub (e :: Γ) (.any :: Γ')
theorem Sub.refl : ∀ {Γ : Slots}, Sub Γ Γ
  | [] => .nil
  | _ :: _ => .keep Sub.refl
theorem Sub.eq {e e' : Ent} {Γ Γ' : Slots} (h : e = e') (r : Sub Γ Γ') : Sub (e :: Γ) (e' :: Γ') := by subst h; exact .keep r
theorem Sub.owns {Γ Γ' : Slots} (h : Sub Γ Γ') : (L3.owns Γ').Sublist (L3.owns Γ) := by
  induction h with
  | nil => exact List.Sublist.refl _
  | @keep e Γ Γ' r ih =>
    rw [owns_cons, owns_cons]
    exact List.Sublist.append (List.Sublist.refl _) ih
  | @drop e Γ Γ' r ih =>
    rw [owns_cons, owns_cons]
    exact List.sublist_append_of_sublist_right ih
theorem Sub.paired {K : PySem.W.Frag} {Hz H : Hp} : ∀ {Γ Γ' : Slots} {σ : L2.St}, Sub Γ Γ' → Paired (EntOk K Hz H) Γ σ → Paired (EntOk K Hz H) Γ' σ
  | _, _, _, .nil, h => h
  | _, _, _, .keep r, .cons h t => .cons h (Sub.paired r t)
  | _, _, _, .drop r, .cons h t => .cons trivial (Sub.paired r t)
theorem EnvOk.sub {K : PySem.W.Frag} {Hb H : Hp} {Γ Γ' : Slots} {σ : L2.St} (s : Sub Γ Γ') (h : EnvOk K Hb Γ σ H) : EnvOk K Hb Γ' σ H := by
  obtain ⟨Hz, h1, h2, h3, h4⟩ := h
  exact ⟨Hz, h1, h2, s.paired h3, List.Nodup.sublist s.owns h4⟩
theorem s_end (hD : D0.nx = fun σ H => EnvOk X.K Hb Γ' σ H := by rfl) (s : Sub Γ Γ' := by walk_at "sub") : Go X Hb [] D0 Γ := go_end (fun _ _ h => h.sub s) (by rw [hD]; exact fun _ _ h => h)
theorem s_continue (hD : D0.ct = fun σ H => EnvOk X.K Hb Γ' σ H := by rfl) (s : Sub Γ Γ' := by walk_at "sub") : Go X Hb (.Continue pos :: rest) D0 Γ := go_continue fun σ H h => by rw [hD]; exact h.sub s
theorem s_break {D1 : Ends} {r1 : List Stmt} (g : Go X Hb r1 D1 Γ) (hD : D0.bk = fun σ H => SemSs X r1 D1 σ H := by rfl) : Go X Hb (.Break pos :: rest) D0 Γ := go_break fun σ H h => by rw [hD]; exact g σ H h
/-- join behind an if, some slots forgotten -/
theorem s_join (g : Go X Hb rest D0 Γ) : Go X Hb [] { D0 with nx := fun σ H => SemSs X rest D0 σ H } Γ := go_join g
theorem up_set {N : List Str} {Γ Γ' : Slots} {x : Str} {e : Ent} {i : Nat} (nd : N.Nodup) (hi : N[i]? = some x) (h : Up N Γ x e Γ') : Γ.set i e = Γ' := by
  obtain ⟨j, hj, rfl⟩ := h.ix
  have := nodup_ix nd hi hj
  subst this
  rfl
/-- for x in a list, a state -/
theorem s_fold {α β : Type} {body : List Stmt} {xn : Str} {Γe : β → α → Slots} (f : α → D) (xs : List α) (G : β → Slots) (step : β → α → β) (s0 : β) (hit : EvI X Hb e (G s0) (· = xs.map f))
    (hs : ∀ Hb', Ex Hb Hb' → ∀ pre a post, xs = pre ++ a :: post → Go X Hb' body { D0 with nx := fun σ H => EnvOk X.K Hb' (G (step (pre.foldl step s0) a)) σ H, ct := fun σ H => EnvOk X.K Hb' (G (step (pre.foldl step s0) a)) σ H, bk := fun σ H => SemSs X rest D0 σ H } (Γe (pre.foldl step s0) a))
    (hd : Go X Hb rest D0 (G (xs.foldl step s0))) (h0 : Sub Γ (G s0) := by walk_at "sub") (hL : Has X.N xn := by walk_at "has") (hu : ∀ s a, Up X.N (G s) xn (.dat (f a)) (Γe s a) := by intro _ _; walk_at "up") (hst : ∀ s a, a ∈ xs → Sto (G s) (f a) := by intro _ _ _; walk_at "sto") (nd : X.N.Nodup := by assumption) (hp : PassesOwn (model X.prog X.w) X.A X.env X.xe := by exact PassesOwn.never) (hc : X.calm = true := by rfl) (hx : Loc X.env.scope xn := by first | exact Or.inl rfl | exact Or.inr rfl)
    (hfs : ∀ x, foldedSetIterable e X.env x = pure x := by intro _; rfl) (hf : X.fn xn = true ∨ X.env.scope.names.lookup xn = some .local := by first | exact .inl rfl | exact .inr rfl) :
    Go X Hb (.For (.Name xn p') e body [] pos :: rest) D0 Γ := by
  obtain ⟨i, hi⟩ := hL.ix
  refine go_weak (fun _ _ h => h.sub h0) (go_fold i f xs G step s0 hit rfl hst (fun Hb' eb pre a post h => ?_) hd hp hc nd hi hx hfs hf)
  rw [up_set nd hi (hu _ a)]
  exact hs Hb' eb pre a post h
/-- for x in a list, nothing carried -/
theorem s_repL {body : List Stmt} {xn : Str} {S1 : List D → Prop} {Γe : D → Slots} (Γ0 : Slots) (hit : EvI X Hb e Γ S1) (hst : ∀ ds x, S1 ds → x ∈ ds → Sto Γ0 x)
    (hs : ∀ Hb', Ex Hb Hb' → ∀ ds x, S1 ds → x ∈ ds → Go X Hb' body { D0 with nx := fun σ H => EnvOk X.K Hb' Γ0 σ H, ct := fun σ H => EnvOk X.K Hb' Γ0 σ H, bk := fun σ H => SemSs X rest D0 σ H } (Γe x))
    (hd : Go X Hb rest D0 Γ0) (h0 : Sub Γ Γ0 := by walk_at "sub") (hL : Has X.N xn := by walk_at "has") (hu : ∀ x, Up X.N Γ0 xn (.dat x) (Γe x) := by intro _; walk_at "up") (nd : X.N.Nodup := by assumption) (hp : PassesOwn (model X.prog X.w) X.A X.env X.xe := by exact PassesOwn.never) (hc : X.calm = true := by rfl) (hx : Loc X.env.scope xn := by first | exact Or.inl rfl | exact Or.inr rfl)
    (hfs : ∀ x, foldedSetIterable e X.env x = pure x := by intro _; rfl) (hf : X.fn xn = true ∨ X.env.scope.names.lookup xn = some .local := by first | exact .inl rfl | exact .inr rfl) :
    Go X Hb (.For (.Name xn p') e body [] pos :: rest) D0 Γ := fun σ H en => by
  obtain ⟨i, hi⟩ := hL.ix
  refine SemSs.cons (ps_for hp hc (pi_list (semE X e)) (pg_name nd hi hx hf) (semSs X body) hfs) ?_
  refine hit σ H en _ fun a vs H' ds s x hq ra => ?_
  have en' := en.ex x
  have eb : Ex Hb (hide H' (owns Γ)) := en'.wide.1.toEx
  have en1 : EnvOk X.K (hide H' (owns Γ)) Γ0 σ H' := EnvOk.sub h0 ⟨_, en'.wide.1.self, en'.wide.2⟩
  refine ⟨a, rfl, ⟨_, SqL.ex hide_ex hq⟩, for_list (K := X.K) (a := a) (xs := vs) (fun i σ H => EnvOk X.K (hide H' (owns Γ)) Γ0 σ H) en1 (fun i σ2 H2 _ en2 => SqL.ex en2.base hq) ?_ ?_⟩
  · intro j v σ2 H2 hv en2
    obtain ⟨x, hx', rx⟩ := ra.get' hv
    have hm := List.mem_of_getElem? hx'
    exact hs _ eb ds x s hm _ H2 (by rw [← up_set nd hi (hu x)]; exact en2.setDat (rx.ex en2.base) (hst ds x s hm))
  · intro σ2 H2 en2
    exact hd _ H2 (en2.wb en'.wide.1)
/-- for i in range(..), nothing carried -/
theorem s_rep {body : List Stmt} {xn : Str} {Γe : D → Slots} (SR : Int → Nat → Prop) (Γ0 : Slots) (hit : EvR X Hb e Γ SR)
    (hs : ∀ (lo : Int) (n i : Nat), SR lo n → i < n → Go X Hb body { D0 with nx := fun σ H => EnvOk X.K Hb Γ0 σ H, ct := fun σ H => EnvOk X.K Hb Γ0 σ H, bk := fun σ H => SemSs X rest D0 σ H } (Γe (.int (lo + i))))
    (hd : Go X Hb rest D0 Γ0) (h0 : Sub Γ Γ0 := by walk_at "sub") (hL : Has X.N xn := by walk_at "has") (hu : ∀ x, Up X.N Γ0 xn (.dat x) (Γe x) := by intro _; walk_at "up") (nd : X.N.Nodup := by assumption) (hp : PassesOwn (model X.prog X.w) X.A X.env X.xe := by exact PassesOwn.never) (hc : X.calm = true := by rfl) (hx : Loc X.env.scope xn := by first | exact Or.inl rfl | exact Or.inr rfl)
    (hfs : ∀ x, foldedSetIterable e X.env x = pure x := by intro _; rfl) (hf : X.fn xn = true ∨ X.env.scope.names.lookup xn = some .local := by first | exact .inl rfl | exact .inr rfl) :
    Go X Hb (.For (.Name xn p') e body [] pos :: rest) D0 Γ := by
  intro σ H en
  obtain ⟨i, hi⟩ := hL.ix
  have en0 : EnvOk X.K Hb Γ0 σ H := en.sub h0
  obtain ⟨wi, hpi, hw⟩ := hit
  refine SemSs.cons (ps_for hp hc (hpi _) (pg_name nd hi hx hf) (semSs X body) hfs) ?_
  refine hw σ H en _ fun lo n H' s x => ?_
  refine for_range (lo := lo) (n := n) (fun i σ H => EnvOk X.K Hb Γ0 σ H) (en0.ex x) ?_ ?_
  · intro j σ2 H2 hin en2
    exact hs lo n j s hin _ H2 (by rw [← up_set nd hi (hu _)]; exact en2.setDat (.int _) (.inl rfl))
  · intro σ2 H2 en2
    exact hd _ H2 en2
/-- for i in range(..), the slots by the turn -/
theorem s_forG {body : List Stmt} {xn : Str} {Γe : Nat → D → Slots} (lo : Int) (n : Nat) (G : Nat → Slots) (hit : EvR X Hb e Γ (fun lo' n' => lo' = lo ∧ n' = n))
    (hs : ∀ i : Nat, i < n → Go X Hb body { D0 with nx := fun σ H => EnvOk X.K Hb (G (i + 1)) σ H, ct := fun σ H => EnvOk X.K Hb (G (i + 1)) σ H, bk := fun σ H => SemSs X rest D0 σ H } (Γe i (.int (lo + i))))
    (hd : Go X Hb rest D0 (G n)) (h0 : Sub Γ (G 0) := by walk_at "sub") (hL : Has X.N xn := by walk_at "has") (hu : ∀ i x, Up X.N (G i) xn (.dat x) (Γe i x) := by intro _ _; walk_at "up") (nd : X.N.Nodup := by assumption) (hp : PassesOwn (model X.prog X.w) X.A X.env X.xe := by exact PassesOwn.never) (hc : X.calm = true := by rfl) (hx : Loc X.env.scope xn := by first | exact Or.inl rfl | exact Or.inr rfl)
    (hfs : ∀ x, foldedSetIterable e X.env x = pure x := by intro _; rfl) (hf : X.fn xn = true ∨ X.env.scope.names.lookup xn = some .local := by first | exact .inl rfl | exact .inr rfl) :
    Go X Hb (.For (.Name xn p') e body [] pos :: rest) D0 Γ := by
  intro σ H en
  obtain ⟨i, hi⟩ := hL.ix
  have en0 : EnvOk X.K Hb (G 0) σ H := en.sub h0
  obtain ⟨wi, hpi, hw⟩ := hit
  refine SemSs.cons (ps_for hp hc (hpi _) (pg_name nd hi hx hf) (semSs X body) hfs) ?_
  refine hw σ H en _ fun lo' n' H' ⟨e1, e2⟩ x => ?_
  subst e1 e2
  refine for_range (lo := lo') (n := n') (fun i σ H => EnvOk X.K Hb (G i) σ H) (en0.ex x) ?_ ?_
  · intro j σ2 H2 hin en2
    exact hs j hin _ H2 (by rw [← up_set nd hi (hu j _)]; exact en2.setDat (.int _) (.inl rfl))
  · intro σ2 H2 en2
    exact hd _ H2 en2
/-! what a loop goes over -/
theorem wi_dat {xn : Str} (hL : Look X.N Γ xn (.dat (.lst ds))) (hv : Vis X.env.scope xn := by first | exact Or.inl rfl | exact Or.inr (Or.inl rfl) | exact Or.inr (Or.inr rfl)) (hd : (xn == ("__debug__" : Str)) = false := by decide)
    (hcd : (xn == ("__classdict__" : Str)) = false := by decide) : EvI X Hb (.Name xn pos) Γ (· = ds) := by
  obtain ⟨i, hN, hG⟩ := hL.ix
  exact evi_dat i hG hN hv hd hcd
theorem wi_datT {xn : Str} (hL : Look X.N Γ xn (.dat (.tup ds))) (hv : Vis X.env.scope xn := by first | exact Or.inl rfl | exact Or.inr (Or.inl rfl) | exact Or.inr (Or.inr rfl)) (hd : (xn == ("__debug__" : Str)) = false := by decide)
    (hcd : (xn == ("__classdict__" : Str)) = false := by decide) : EvIT X Hb (.Name xn pos) Γ (· = ds) := by
  obtain ⟨i, hN, hG⟩ := hL.ix
  exact evit_dat i hG hN hv hd hcd
theorem EvI.imp {S1 S2 : List D → Prop} (h : EvI X Hb e Γ S1) (f : ∀ ds, S1 ds → S2 ds) : EvI X Hb e Γ S2 := fun σ H en Q q => h σ H en Q fun a vs H' ds s => q a vs H' ds (f ds s)
theorem wi_free {S1 : List D → Prop} (h : EvN X Hb e Γ fr fun z => ∃ ds, z = .lst ds ∧ S1 ds) (ho : owns Γ = [] := by rfl) : EvI X Hb e Γ S1 :=
  (evi_free (S' := fun z => ∀ ds, z = .lst ds → S1 ds) (h.imp fun z ⟨ds, e, s⟩ => ⟨ds, e, fun ds' e' => by cases e'; exact s⟩) ho).imp fun ds k => k ds rfl
theorem wi_new {S1 : List D → Prop} (h : EvN X Hb e Γ true fun z => ∃ ds, z = .lst ds ∧ S1 ds) (hf : ∀ ds, S1 ds → D.flatAll ds = true) : EvI X Hb e Γ S1 :=
  (evi_new (S' := fun z => ∀ ds, z = .lst ds → S1 ds) (h.imp fun z ⟨ds, e, s⟩ => ⟨ds, e, fun ds' e' => by cases e'; exact s⟩) (fun ds k => hf ds (k ds rfl))).imp fun ds k => k ds rfl
theorem wr_1 {pn : Pos} {S : Int → Nat → Prop} (hm : X.mg "range" = none) (h : EvA X Hb [a] Γ fun z => ∃ i, z = [.int i] ∧ S 0 i.toNat ∧ (-(2 ^ 62) ≤ i ∧ i < 2 ^ 62)) (hg : Gl X "range" := by rfl) (hs : starEach [a] X.env = [(false, eval a X.env)] := by rfl) :
    EvR X Hb (.Call (.Name "range" pn) [a] [] pos) Γ S :=
  (evr_1N (S1 := fun i => S 0 i.toNat ∧ (-(2 ^ 62) ≤ i ∧ i < 2 ^ 62)) h (fun i s => s.2) hm hg hs).imp fun lo n ⟨e1, i, s, e2⟩ => by rw [e1, e2]; exact s.1
theorem wr_2 {pn : Pos} {S : Int → Nat → Prop} (hm : X.mg "range" = none) (h : EvA X Hb [a, b] Γ fun z => ∃ i j, z = [.int i, .int j] ∧ S i (j - i).toNat ∧ (-(2 ^ 62) ≤ i ∧ i < 2 ^ 62 ∧ -(2 ^ 62) ≤ j ∧ j < 2 ^ 62)) (hg : Gl X "range" := by rfl) (hs : starEach [a, b] X.env = [(false, eval a X.env), (false, eval b X.env)] := by rfl) (hs2 : starEach [b] X.env = [(false, eval b X.env)] := by rfl) :
    EvR X Hb (.Call (.Name "range" pn) [a, b] [] pos) Γ S :=
  ⟨_, fun tg => pi_range2 hg hm (semA X [a, b]) hs hs2, fun σ H en R q => h σ H en _ fun vs H' ds ⟨i, j, e1, s, hb⟩ x r => by
    subst e1
    exact ⟨i, j, r.int2, hb, q i _ H' s x⟩⟩
end

section
variable {X : Cx} {Hb Hb' : Hp} {a b c e : Expr} {es : List Expr} {Γ Γ' : Slots} {pos p' p2 apos cpos : Pos} {d x y : D} {ds : List D} {Q S S' : D → Prop} {fr : Bool} {D0 : Ends} {rest sts : List Stmt} {st : Stmt} {e0 e1 e2 e3 : Ent}
theorem w_and1 (h : EvN X Hb a Γ fr Q) : EvN X Hb (.BoolOp .And [a] pos) Γ fr Q := ev_one h
theorem w_or1 (h : EvN X Hb a Γ fr Q) : EvN X Hb (.BoolOp .Or [a] pos) Γ fr Q := ev_one h
theorem ww_and1 {S : Bool → Prop} (h : EvT X Hb a Γ S) : EvW X Hb (.BoolOp .And [a] pos) Γ S := evw_and1 h
theorem ww_or1 {S : Bool → Prop} (h : EvT X Hb a Γ S) : EvW X Hb (.BoolOp .Or [a] pos) Γ S := evw_or1 h
theorem ww_and {k k' : Bool} {S : Bool → Prop} (h : EvB X Hb a Γ k) (hb : k = true → EvW X Hb (.BoolOp .And (b :: es) pos) Γ (· = k')) (q : S (k && k')) : EvW X Hb (.BoolOp .And (a :: b :: es) pos) Γ S := (evw_andD h hb).imp fun _ z => by rw [z]; exact q
theorem ww_or {k k' : Bool} {S : Bool → Prop} (h : EvB X Hb a Γ k) (hb : k = false → EvW X Hb (.BoolOp .Or (b :: es) pos) Γ (· = k')) (q : S (k || k')) : EvW X Hb (.BoolOp .Or (a :: b :: es) pos) Γ S := (evw_orD h hb).imp fun _ z => by rw [z]; exact q
end
end L3

namespace L3
open PySem PySem.Spec PyProof.Rows L2
/-- the place of a name -/
inductive At : List Str → Str → Nat → Prop
  | z {N : List Str} {x y : Str} (h : y = x) : At (y :: N) x 0
  | s {N : List Str} {x y : Str} {i : Nat} : At N x i → At (y :: N) x (i + 1)
theorem At.ix : ∀ {N : List Str} {x : Str} {i : Nat}, At N x i → N[i]? = some x
  | _, _, _, .z h => by rw [h]; rfl
  | _, _, _, .s h => by simpa using At.ix h
section
variable {X : Cx} {Hb Hb' : Hp} {a b c e elt iter tg : Expr} {es ifs : List Expr} {Γ Γ' : Slots} {pos p' p1 p2 p3 apos cpos : Pos} {d x y : D} {ds : List D} {Q S S' : D → Prop} {fr : Bool} {D0 : Ends} {rest sts : List Stmt} {st : Stmt} {scope : Scope} {own : List (Str × Nat)}
/-! comprehensions -/
def LcX (X : Cx) (Hb : Hp) (elt tg iter : Expr) (ifs : List Expr) (scope : Scope) (Γ : Slots) (S : D → Prop) : Prop := ∃ own, LcEv X Hb elt tg iter ifs scope own Γ S
theorem w_lc (h : LcX X Hb elt tg iter ifs scope Γ Q) : EvN X Hb (.ListComp elt [⟨tg, iter, ifs, 0⟩] scope pos) Γ fr Q := let ⟨_, h⟩ := h; EvN.fresh (LcEv.ev h)
theorem s_setLc {o : Bool} {yn : Str} {py spos : Pos} (_ho : OwnIf o yn) (h : LcX X Hb elt tg iter ifs scope Γ fun d => StoreD o X.N Γ yn d fun Γ' => Go X Hb rest D0 Γ') (hL : Has X.N yn) (hsw : swapsWith (.ListComp elt [⟨tg, iter, ifs, 0⟩] scope pos) (some (.Name yn py)) spos.line X.env = pure true)
    (hyl : X.env.scope.names.lookup yn = some .local := by rfl) : Go X Hb (.Assign [.Name yn py] (.ListComp elt [⟨tg, iter, ifs, 0⟩] scope pos) spos :: rest) D0 Γ := fun σ H en => by
  obtain ⟨i, hy⟩ := hL.ix
  obtain ⟨own, hc, nd, ok, hs, wi, g, tt, te, h1, h2, h3, h4, h5⟩ := h
  exact SemSs.cons (ps_setLc hc nd hy hyl hsw h1 ok h2 h3 h4 hs) (h5 σ H en _ fun v H' d s x r f => by
    obtain ⟨Γ', g, en'⟩ := s.ok nd hy en x r fun _ => f
    exact g _ H' en')
theorem up_wipe {N : List Str} {i : Nat} {xn : Str} (nd : N.Nodup) (hi : N[i]? = some xn) (h : Up N Γ xn (.dat d) Γ') (hs : Sto (Γ.set i .any) d) : Put (.nm i) d (wipeG Γ [i]) Γ' := by
  refine ⟨hs, ?_⟩
  obtain ⟨j, hj, rfl⟩ := h.ix
  have := nodup_ix nd hi hj
  subst this
  show _ = (Γ.set i .any).set i _
  rw [List.set_set]
theorem sto_sub (h : Sto Γ d) {i : Nat} : Sto (Γ.set i .any) d := h.imp id fun z => by
  have := owns_set_cells (Γ := Γ) (i := i) (e := .any) rfl
  rw [z] at this
  exact List.sublist_nil.mp this
/-- [elt for x in xs] -/
theorem lc1 {α : Type} {xn : Str} {Γe : α → Slots} {i : Nat} (f : α → D) (xs : List α) (g : α → D) (hit : EvJ X Hb (.Name xn p') iter Γ (· = xs.map f))
    (he : ∀ a ∈ xs, ∀ (s : Shared) (H : Hp) (C : Addr) (cl : List (Str × Addr)) (fp : List Addr), Ev (inCx X scope s H C cl fp) Hb elt (Γe a) false (g a)) (q : Q (.lst (xs.map g))) (hlen : xs.length < 100000)
    (hi : At X.N xn i := by walk_at "ati") (hu : ∀ a, Up X.N Γ xn (.dat (f a)) (Γe a) := by intro _; walk_at "up") (hst : ∀ a ∈ xs, Sto Γ (f a) := by intro _ _; walk_at "sto") (hfl : ∀ a ∈ xs, (g a).flat = true := by intro _ _; walk_at "flat1")
    (nd : X.N.Nodup := by assumption) (hc : X.calm = true := by rfl) (ok : blkC X.N X.env.scope scope [(xn, i)] = true := by walk_at "blk")
    (hg : AllIn X scope fun Y => PG Y (.Name xn p') (gName i) := by exact fun _ _ _ _ _ => pg_name (by assumption) rfl (Or.inl rfl)) (hs : ∀ x, foldedSetIterable iter X.env x = pure x := by intro _; rfl) :
    LcX X Hb elt (.Name xn p') iter [] scope Γ Q := by
  refine ⟨_, (lcJ (own := [(xn, i)]) (.nm i) f (fun a z => z = g a ∧ z.flat = true) xs Γe hit (fun a ha => up_wipe nd hi.ix (hu a) (sto_sub (hst a ha))) (fun a ha s H C cl fp => (he a ha s H C cl fp).imp fun z e => ⟨e, by rw [e]; exact hfl a ha⟩) (fun a d s => s.2) hlen hc nd (blkOk_by ok) (fun j m => m) hg hs).imp ?_⟩
  rintro z ⟨ys, rfl, hp⟩
  have : ys = xs.map g := paired_det (Paired.mapE hp fun a b _ s => s.1)
  rw [this]
  exact q
/-- [elt for x in xs if t] -/
theorem lc1If {α : Type} {xn : Str} {Γe : α → Slots} {i : Nat} {tst : Expr} (f : α → D) (xs : List α) (p : α → Bool) (g : α → D) (hit : EvJ X Hb (.Name xn p') iter Γ (· = xs.map f))
    (ht : ∀ a ∈ xs, ∀ (s : Shared) (H : Hp) (C : Addr) (cl : List (Str × Addr)) (fp : List Addr), EvB (inCx X scope s H C cl fp) Hb tst (Γe a) (p a))
    (he : ∀ a ∈ xs, p a = true → ∀ (s : Shared) (H : Hp) (C : Addr) (cl : List (Str × Addr)) (fp : List Addr), Ev (inCx X scope s H C cl fp) Hb elt (Γe a) false (g a)) (q : Q (.lst ((xs.filter p).map g))) (hlen : xs.length < 100000)
    (hi : At X.N xn i := by walk_at "ati") (hu : ∀ a, Up X.N Γ xn (.dat (f a)) (Γe a) := by intro _; walk_at "up") (hst : ∀ a ∈ xs, Sto Γ (f a) := by intro _ _; walk_at "sto") (hfl : ∀ a ∈ xs, (g a).flat = true := by intro _ _; walk_at "flat1")
    (nd : X.N.Nodup := by assumption) (hc : X.calm = true := by rfl) (ok : blkC X.N X.env.scope scope [(xn, i)] = true := by walk_at "blk")
    (hg : AllIn X scope fun Y => PG Y (.Name xn p') (gName i) := by exact fun _ _ _ _ _ => pg_name (by assumption) rfl (Or.inl rfl)) (hs : ∀ x, foldedSetIterable iter X.env x = pure x := by intro _; rfl) :
    LcX X Hb elt (.Name xn p') iter [tst] scope Γ Q := by
  refine ⟨_, (lcJIf (own := [(xn, i)]) (.nm i) f p (fun a z => z = g a ∧ z.flat = true) xs Γe hit (fun a ha => up_wipe nd hi.ix (hu a) (sto_sub (hst a ha))) (fun a ha s H C cl fp => ht a ha s H C cl fp) (fun a ha hp s H C cl fp => (he a ha hp s H C cl fp).imp fun z e => ⟨e, by rw [e]; exact hfl a ha⟩) (fun a d s => s.2) hlen hc nd (blkOk_by ok) (fun j m => m) hg hs).imp ?_⟩
  rintro z ⟨ys, rfl, hp⟩
  have : ys = (xs.filter p).map g := paired_det (Paired.mapE hp fun a b _ s => s.1)
  rw [this]
  exact q
/-- [elt for x in xs], what it may be -/
theorem lc1N {α : Type} {xn : Str} {Γe : α → Slots} {i : Nat} (f : α → D) (xs : List α) (SE : α → D → Prop) (hit : EvJ X Hb (.Name xn p') iter Γ (· = xs.map f))
    (he : ∀ a ∈ xs, ∀ (s : Shared) (H : Hp) (C : Addr) (cl : List (Str × Addr)) (fp : List Addr), EvN (inCx X scope s H C cl fp) Hb elt (Γe a) false (SE a)) (q : ∀ ys, Paired SE xs ys → Q (.lst ys)) (hfl : ∀ a d, SE a d → d.flat = true) (hlen : xs.length < 100000)
    (hi : At X.N xn i := by walk_at "ati") (hu : ∀ a, Up X.N Γ xn (.dat (f a)) (Γe a) := by intro _; walk_at "up") (hst : ∀ a ∈ xs, Sto Γ (f a) := by intro _ _; walk_at "sto")
    (nd : X.N.Nodup := by assumption) (hc : X.calm = true := by rfl) (ok : blkC X.N X.env.scope scope [(xn, i)] = true := by walk_at "blk")
    (hg : AllIn X scope fun Y => PG Y (.Name xn p') (gName i) := by exact fun _ _ _ _ _ => pg_name (by assumption) rfl (Or.inl rfl)) (hs : ∀ x, foldedSetIterable iter X.env x = pure x := by intro _; rfl) :
    LcX X Hb elt (.Name xn p') iter [] scope Γ Q := by
  refine ⟨_, (lcJ (own := [(xn, i)]) (.nm i) f SE xs Γe hit (fun a ha => up_wipe nd hi.ix (hu a) (sto_sub (hst a ha))) (fun a ha s H C cl fp => he a ha s H C cl fp) hfl hlen hc nd (blkOk_by ok) (fun j m => m) hg hs).imp ?_⟩
  rintro z ⟨ys, rfl, hp⟩
  exact q ys hp
/-- [elt for x, y in xs] -/
theorem lc2 {α : Type} {xn yn : Str} {kt : Nat} {Γ1 Γe : α → Slots} {i j : Nat} (f1 f2 : α → D) (xs : List α) (g : α → D) (hit : EvJ X Hb (.Tuple [.Name xn p1, .Name yn p2] kt p3) iter Γ (· = xs.map fun a => .tup [f1 a, f2 a]))
    (he : ∀ a ∈ xs, ∀ (s : Shared) (H : Hp) (C : Addr) (cl : List (Str × Addr)) (fp : List Addr), Ev (inCx X scope s H C cl fp) Hb elt (Γe a) false (g a)) (q : Q (.lst (xs.map g))) (hlen : xs.length < 100000)
    (hi : At X.N xn i := by walk_at "ati") (hj : At X.N yn j := by walk_at "ati") (hu : ∀ a, Up X.N Γ xn (.dat (f1 a)) (Γ1 a) := by intro _; walk_at "up") (hu2 : ∀ a, Up X.N (Γ1 a) yn (.dat (f2 a)) (Γe a) := by intro _; walk_at "up") (hst : ∀ a ∈ xs, Sto Γ (f1 a) ∧ Sto Γ (f2 a) := by intro _ _; exact ⟨by walk_at "sto", by walk_at "sto"⟩) (hfl : ∀ a ∈ xs, (g a).flat = true := by intro _ _; walk_at "flat1")
    (nd : X.N.Nodup := by assumption) (hc : X.calm = true := by rfl) (ok : blkC X.N X.env.scope scope [(xn, i), (yn, j)] = true := by walk_at "blk")
    (hg : AllIn X scope fun Y => PG Y (.Tuple [.Name xn p1, .Name yn p2] kt p3) (Tg.g X.K (.tp [.nm i, .nm j])) := by exact fun _ _ _ _ _ => pg_two rfl (pg_name (by assumption) rfl (Or.inl rfl)) (pg_name (by assumption) rfl (Or.inl rfl))) (hs : ∀ x, foldedSetIterable iter X.env x = pure x := by intro _; rfl) :
    LcX X Hb elt (.Tuple [.Name xn p1, .Name yn p2] kt p3) iter [] scope Γ Q := by
  refine ⟨_, (lcJ (fr := false) (own := [(xn, i), (yn, j)]) (.tp [.nm i, .nm j]) (fun a => .tup [f1 a, f2 a]) (fun a z => z = g a ∧ z.flat = true) xs (fun a => ((((Γ.set j .any).set i .any)).set i (.dat (f1 a))).set j (.dat (f2 a))) hit (fun a ha => ?_) (fun a ha s H C cl fp => ?_) (fun a d s => s.2) hlen hc nd (blkOk_by ok) (fun j m => m) hg hs).imp ?_⟩
  · exact ⟨_, rfl, _, _, _, rfl, ⟨sto_sub (sto_sub (hst a ha).1), rfl⟩, _, _, _, rfl, ⟨by
      have h2 := (hst a ha).2
      rcases h2 with h | h
      · exact .inl h
      · refine .inr ?_
        have h3 := owns_set_cells (Γ := Γ) (i := j) (e := .any) rfl
        have h4 := owns_set_cells (Γ := Γ.set j .any) (i := i) (e := .any) rfl
        have h5 := owns_set_cells (Γ := (Γ.set j .any).set i .any) (i := i) (e := .dat (f1 a)) rfl
        have h6 := (h5.trans h4).trans h3
        rw [h] at h6
        exact List.sublist_nil.mp h6, rfl⟩, rfl, rfl⟩
  · have e1 : Γe a = (Γ.set i (.dat (f1 a))).set j (.dat (f2 a)) := by
      rw [← up_set nd hj.ix (hu2 a), ← up_set nd hi.ix (hu a)]
    have e2 : ((((Γ.set j .any).set i .any)).set i (.dat (f1 a))).set j (.dat (f2 a)) = Γe a := by
      rw [e1, List.set_set]
      by_cases hij : i = j
      · subst hij; rw [List.set_set, List.set_set, List.set_set]
      · rw [List.set_comm _ _ (Ne.symm hij), List.set_set]
    exact (show EvN _ _ _ _ false _ from e2 ▸ he a ha s H C cl fp).imp fun z e => ⟨e, by rw [e]; exact hfl a ha⟩
  rintro z ⟨ys, rfl, hp⟩
  have : ys = xs.map g := paired_det (Paired.mapE hp fun a b _ s => s.1)
  rw [this]
  exact q
/-- [x for x in xs if t], things that stand already -/
theorem lcF1 {α : Type} {xn : Str} {q1 q2 : Pos} {tst : Expr} {Γe : α → Slots} {i : Nat} (f : α → D) (xs : List α) (p : α → Bool) (hit : EvJS X Hb (.Name xn q1) iter Γ (· = xs.map f))
    (ht : ∀ a ∈ xs, ∀ (s : Shared) (H : Hp) (C : Addr) (cl : List (Str × Addr)) (fp : List Addr), EvB (inCx X scope s H C cl fp) Hb tst (Γe a) (p a)) (q : Q (.lst ((xs.filter p).map f))) (hlen : xs.length < 100000)
    (hi : At X.N xn i := by walk_at "ati") (hu : ∀ a, Up X.N Γ xn (.dat (f a)) (Γe a) := by intro _; walk_at "up") (hst : ∀ a ∈ xs, Sto Γ (f a) := by intro _ _; walk_at "sto") (hΓ : i < Γ.length := by first | decide | exact Nat.le_of_ble_eq_true rfl)
    (nd : X.N.Nodup := by assumption) (hc : X.calm = true := by rfl) (ok : blkC X.N X.env.scope scope [(xn, i)] = true := by walk_at "blk")
    (hg : AllIn X scope fun Y => PG Y (.Name xn q1) (gName i) := by exact fun _ _ _ _ _ => pg_name (by assumption) rfl (Or.inl rfl)) (hv : AllIn X scope fun Y => PE Y (.Name xn q2) (tVar i) := by exact fun _ _ _ _ _ => pe_var rfl (Or.inl rfl) (by decide) (by decide)) (hs : ∀ x, foldedSetIterable iter X.env x = pure x := by intro _; rfl) :
    LcX X Hb (.Name xn q2) (.Name xn q1) iter [tst] scope Γ Q := by
  refine ⟨_, (lcF (own := [(xn, i)]) i f p xs hit (fun a ha => sto_sub (hst a ha)) (fun a ha s H C cl fp => ?_) hlen hΓ hc nd (blkOk_by ok) (by simp) hg hv hs).imp ?_⟩
  · have e : (wipeG Γ ([(xn, i)].map (·.2))).set i (.dat (f a)) = Γe a := by
      rw [← up_set nd hi.ix (hu a)]
      show (Γ.set i .any).set i _ = _
      rw [List.set_set]
    rw [e]
    exact ht a ha s H C cl fp
  · rintro z rfl
    exact q
/-! loops over anything -/
/-- for x in .., a state -/
theorem s_foldJ {α β : Type} {body : List Stmt} {xn : Str} {Γe : β → α → Slots} {i : Nat} (f : α → D) (xs : List α) (G : β → Slots) (step : β → α → β) (s0 : β) (hit : EvJ X Hb (.Name xn p') e (G s0) (· = xs.map f))
    (hs : ∀ Hb', Ex Hb Hb' → ∀ pre a post, xs = pre ++ a :: post → Go X Hb' body { D0 with nx := fun σ H => EnvOk X.K Hb' (G (step (pre.foldl step s0) a)) σ H, ct := fun σ H => EnvOk X.K Hb' (G (step (pre.foldl step s0) a)) σ H, bk := fun σ H => SemSs X rest D0 σ H } (Γe (pre.foldl step s0) a))
    (hd : Go X Hb rest D0 (G (xs.foldl step s0))) (h0 : Sub Γ (G s0) := by walk_at "sub") (hi : At X.N xn i := by walk_at "ati") (hu : ∀ s a, Up X.N (G s) xn (.dat (f a)) (Γe s a) := by intro _ _; walk_at "up") (hst : ∀ s a, a ∈ xs → Sto (G s) (f a) := by intro _ _ _; walk_at "sto") (nd : X.N.Nodup := by assumption)
    (hp : PassesOwn (model X.prog X.w) X.A X.env X.xe := by exact PassesOwn.never) (hc : X.calm = true := by rfl) (hx : Loc X.env.scope xn := by first | exact Or.inl rfl | exact Or.inr rfl)
    (hfs : ∀ x, foldedSetIterable e X.env x = pure x := by intro _; rfl) (hf : X.fn xn = true ∨ X.env.scope.names.lookup xn = some .local := by first | exact .inl rfl | exact .inr rfl) :
    Go X Hb (.For (.Name xn p') e body [] pos :: rest) D0 Γ :=
  go_weak (fun _ _ h => h.sub h0) (go_foldJ (.nm i) f xs G step s0 hit rfl (fun s a => (G s).set i (.dat (f a))) (fun s a ha => ⟨hst s a ha, rfl⟩) (fun Hb' eb pre a post h => by
    rw [up_set nd hi.ix (hu _ a)]
    exact hs Hb' eb pre a post h) hd hp hc (pg_name nd hi.ix hx hf) hfs)
/-- for x, y in .., a state -/
theorem s_foldJ2 {α β : Type} {body : List Stmt} {xn yn : Str} {kt : Nat} {Γ1 Γe : β → α → Slots} {i j : Nat} (f1 f2 : α → D) (xs : List α) (G : β → Slots) (step : β → α → β) (s0 : β) (hit : EvJ X Hb (.Tuple [.Name xn p1, .Name yn p2] kt p3) e (G s0) (· = xs.map fun a => .tup [f1 a, f2 a]))
    (hs : ∀ Hb', Ex Hb Hb' → ∀ pre a post, xs = pre ++ a :: post → Go X Hb' body { D0 with nx := fun σ H => EnvOk X.K Hb' (G (step (pre.foldl step s0) a)) σ H, ct := fun σ H => EnvOk X.K Hb' (G (step (pre.foldl step s0) a)) σ H, bk := fun σ H => SemSs X rest D0 σ H } (Γe (pre.foldl step s0) a))
    (hd : Go X Hb rest D0 (G (xs.foldl step s0))) (h0 : Sub Γ (G s0) := by walk_at "sub") (hi : At X.N xn i := by walk_at "ati") (hj : At X.N yn j := by walk_at "ati") (hu : ∀ s a, Up X.N (G s) xn (.dat (f1 a)) (Γ1 s a) := by intro _ _; walk_at "up") (hu2 : ∀ s a, Up X.N (Γ1 s a) yn (.dat (f2 a)) (Γe s a) := by intro _ _; walk_at "up")
    (hst : ∀ s a, a ∈ xs → Sto (G s) (f1 a) ∧ Sto (Γ1 s a) (f2 a) := by intro _ _ _; exact ⟨by walk_at "sto", by walk_at "sto"⟩) (nd : X.N.Nodup := by assumption)
    (hp : PassesOwn (model X.prog X.w) X.A X.env X.xe := by exact PassesOwn.never) (hc : X.calm = true := by rfl)
    (hg : PG X (.Tuple [.Name xn p1, .Name yn p2] kt p3) (Tg.g X.K (.tp [.nm i, .nm j])) := by exact pg_two rfl (pg_name (by assumption) rfl (by first | exact Or.inl rfl | exact Or.inr rfl)) (pg_name (by assumption) rfl (by first | exact Or.inl rfl | exact Or.inr rfl)))
    (hfs : ∀ x, foldedSetIterable e X.env x = pure x := by intro _; rfl) :
    Go X Hb (.For (.Tuple [.Name xn p1, .Name yn p2] kt p3) e body [] pos :: rest) D0 Γ :=
  go_weak (fun _ _ h => h.sub h0) (go_foldJ (.tp [.nm i, .nm j]) (fun a => .tup [f1 a, f2 a]) xs G step s0 hit rfl Γe (fun s a ha => ⟨_, rfl, _, _, _, rfl, ⟨(hst s a ha).1, (up_set nd hi.ix (hu s a)).symm⟩, _, _, _, rfl, ⟨(hst s a ha).2, (up_set nd hj.ix (hu2 s a)).symm⟩, rfl, rfl⟩) hs hd hp hc hg hfs)
/-- for x in .., nothing carried -/
theorem s_repJ {α : Type} {body : List Stmt} {xn : Str} {Γe : α → Slots} {i : Nat} (f : α → D) (xs : List α) (Γ0 : Slots) (hit : EvJ X Hb (.Name xn p') e Γ (· = xs.map f))
    (hs : ∀ Hb', Ex Hb Hb' → ∀ a, a ∈ xs → Go X Hb' body { D0 with nx := fun σ H => EnvOk X.K Hb' Γ0 σ H, ct := fun σ H => EnvOk X.K Hb' Γ0 σ H, bk := fun σ H => SemSs X rest D0 σ H } (Γe a))
    (hd : Go X Hb rest D0 Γ0) (h0 : Sub Γ Γ0 := by walk_at "sub") (hi : At X.N xn i := by walk_at "ati") (hu : ∀ a, Up X.N Γ0 xn (.dat (f a)) (Γe a) := by intro _; walk_at "up") (hst : ∀ a, a ∈ xs → Sto Γ0 (f a) := by intro _ _; walk_at "sto") (nd : X.N.Nodup := by assumption)
    (hp : PassesOwn (model X.prog X.w) X.A X.env X.xe := by exact PassesOwn.never) (hc : X.calm = true := by rfl) (hx : Loc X.env.scope xn := by first | exact Or.inl rfl | exact Or.inr rfl)
    (hfs : ∀ x, foldedSetIterable e X.env x = pure x := by intro _; rfl) (hf : X.fn xn = true ∨ X.env.scope.names.lookup xn = some .local := by first | exact .inl rfl | exact .inr rfl) :
    Go X Hb (.For (.Name xn p') e body [] pos :: rest) D0 Γ := fun σ H en => by
  obtain ⟨wi, hpi, hw⟩ := hit
  refine SemSs.cons (ps_for hp hc hpi (pg_name nd hi.ix hx hf) (semSs X body) hfs) ?_
  refine hw σ H en _ fun J H' ds s x ⟨G, Y, w, hG, hY⟩ => ?_
  have en' := en.ex x
  have eb : Ex Hb (hide H' (owns Γ)) := en'.wide.1.toEx
  have en1 : EnvOk X.K (hide H' (owns Γ)) Γ0 σ H' := EnvOk.sub h0 ⟨_, en'.wide.1.self, en'.wide.2⟩
  subst s
  refine for_it w (fun i σ H => EnvOk X.K (hide H' (owns Γ)) Γ0 σ H) en1 (fun i σ H _ en2 => hG _ en2.base) ?_ ?_
  · intro k v σ2 H2 H3 hk en2 y
    obtain ⟨x3, d, hd, r⟩ := hY k H2 v H3 hk en2.base y
    rw [List.getElem?_map] at hd
    obtain ⟨a, ha, rfl⟩ : ∃ a, xs[k]? = some a ∧ d = f a := by
      cases z : xs[k]? with
      | none => rw [z] at hd; cases hd
      | some a => rw [z] at hd; cases hd; exact ⟨a, rfl, rfl⟩
    have hm := List.mem_of_getElem? ha
    exact put_ok (t := .nm i) (own := [i]) (Γ' := Γe a) ⟨hst a hm, (up_set nd hi.ix (hu a)).symm⟩ (fun _ m => m) (en2.ex x3) r _ fun σ' en' _ => hs _ eb a hm σ' H3 en'
  · intro σ2 H2 en2
    exact hd _ H2 (en2.wb en'.wide.1)
/-- for x, y in .., nothing carried -/
theorem s_repJ2 {α : Type} {body : List Stmt} {xn yn : Str} {kt : Nat} {Γ1 Γe : α → Slots} {i j : Nat} (f1 f2 : α → D) (xs : List α) (Γ0 : Slots) (hit : EvJ X Hb (.Tuple [.Name xn p1, .Name yn p2] kt p3) e Γ (· = xs.map fun a => .tup [f1 a, f2 a]))
    (hs : ∀ Hb', Ex Hb Hb' → ∀ a, a ∈ xs → Go X Hb' body { D0 with nx := fun σ H => EnvOk X.K Hb' Γ0 σ H, ct := fun σ H => EnvOk X.K Hb' Γ0 σ H, bk := fun σ H => SemSs X rest D0 σ H } (Γe a))
    (hd : Go X Hb rest D0 Γ0) (h0 : Sub Γ Γ0 := by walk_at "sub") (hi : At X.N xn i := by walk_at "ati") (hj : At X.N yn j := by walk_at "ati") (hu : ∀ a, Up X.N Γ0 xn (.dat (f1 a)) (Γ1 a) := by intro _; walk_at "up") (hu2 : ∀ a, Up X.N (Γ1 a) yn (.dat (f2 a)) (Γe a) := by intro _; walk_at "up")
    (hst : ∀ a, a ∈ xs → Sto Γ0 (f1 a) ∧ Sto (Γ1 a) (f2 a) := by intro _ _; exact ⟨by walk_at "sto", by walk_at "sto"⟩) (nd : X.N.Nodup := by assumption)
    (hp : PassesOwn (model X.prog X.w) X.A X.env X.xe := by exact PassesOwn.never) (hc : X.calm = true := by rfl)
    (hg : PG X (.Tuple [.Name xn p1, .Name yn p2] kt p3) (Tg.g X.K (.tp [.nm i, .nm j])) := by exact pg_two rfl (pg_name (by assumption) rfl (by first | exact Or.inl rfl | exact Or.inr rfl)) (pg_name (by assumption) rfl (by first | exact Or.inl rfl | exact Or.inr rfl)))
    (hfs : ∀ x, foldedSetIterable e X.env x = pure x := by intro _; rfl) :
    Go X Hb (.For (.Tuple [.Name xn p1, .Name yn p2] kt p3) e body [] pos :: rest) D0 Γ := fun σ H en => by
  obtain ⟨wi, hpi, hw⟩ := hit
  refine SemSs.cons (ps_for hp hc hpi hg (semSs X body) hfs) ?_
  refine hw σ H en _ fun J H' ds s x ⟨G, Y, w, hG, hY⟩ => ?_
  have en' := en.ex x
  have eb : Ex Hb (hide H' (owns Γ)) := en'.wide.1.toEx
  have en1 : EnvOk X.K (hide H' (owns Γ)) Γ0 σ H' := EnvOk.sub h0 ⟨_, en'.wide.1.self, en'.wide.2⟩
  subst s
  refine for_it w (fun i σ H => EnvOk X.K (hide H' (owns Γ)) Γ0 σ H) en1 (fun i σ H _ en2 => hG _ en2.base) ?_ ?_
  · intro k v σ2 H2 H3 hk en2 y
    obtain ⟨x3, d, hd, r⟩ := hY k H2 v H3 hk en2.base y
    rw [List.getElem?_map] at hd
    obtain ⟨a, ha, rfl⟩ : ∃ a, xs[k]? = some a ∧ d = .tup [f1 a, f2 a] := by
      cases z : xs[k]? with
      | none => rw [z] at hd; cases hd
      | some a => rw [z] at hd; cases hd; exact ⟨a, rfl, rfl⟩
    have hm := List.mem_of_getElem? ha
    exact put_ok (t := .tp [.nm i, .nm j]) (own := [i, j]) (Γ' := Γe a) ⟨_, rfl, _, _, _, rfl, ⟨(hst a hm).1, (up_set nd hi.ix (hu a)).symm⟩, _, _, _, rfl, ⟨(hst a hm).2, (up_set nd hj.ix (hu2 a)).symm⟩, rfl, rfl⟩ (fun _ m => m) (en2.ex x3) r _ fun σ' en' _ => hs _ eb a hm σ' H3 en'
  · intro σ2 H2 en2
    exact hd _ H2 (en2.wb en'.wide.1)
/-- the end of a while's turn -/
theorem s_turn {I : Nat → Slots → Prop} {m m' : Nat} {Γ' : Slots} {D1 : Ends} (hI : I m' Γ') (hm : m' < m) (hw : Sub Γ Γ' := by walk_at "sub") (hD : ∀ σ H, (∃ m' Γ'', m' < m ∧ I m' Γ'' ∧ EnvOk X.K Hb Γ'' σ H) → D1.nx σ H := by exact fun _ _ h => h) : Go X Hb [] D1 Γ := go_turn hD hI hm fun _ _ h => h.sub hw
/-- while -/
theorem s_while {body : List Stmt} (I : Nat → Slots → Prop) (h0 : ∃ m, I m Γ)
    (hs : ∀ m Γ', I m Γ' → ∃ k : Bool, EvB X Hb c Γ' k ∧ (k = true → Go X Hb body { D0 with nx := fun σ H => ∃ m' Γ'', m' < m ∧ I m' Γ'' ∧ EnvOk X.K Hb Γ'' σ H, ct := fun σ H => ∃ m' Γ'', m' < m ∧ I m' Γ'' ∧ EnvOk X.K Hb Γ'' σ H, bk := fun σ H => SemSs X rest D0 σ H } Γ') ∧ (k = false → Go X Hb rest D0 Γ'))
    (hp : PassesOwn (model X.prog X.w) X.A X.env X.xe := by exact PassesOwn.never) : Go X Hb (.While c body [] pos :: rest) D0 Γ :=
  go_while I h0 (fun m Γ' h => by
    obtain ⟨k, h1, h2, h3⟩ := hs m Γ' h
    exact ⟨_, h1, fun z => h2 z.symm, fun z => h3 z.symm⟩) hp
/-! what is gone over -/
theorem wj_i {S1 : List D → Prop} (h : EvI X Hb e Γ S1) : EvJ X Hb tg e Γ S1 := evj_i h
theorem wj_t {S1 : List D → Prop} (h : EvIT X Hb e Γ S1) : EvJ X Hb tg e Γ S1 := evj_t h
theorem range_nil {lo : Int} : ((List.range 0).map fun (i : Nat) => D.int (lo + i)) = [] := rfl
theorem wj_r {lo : Int} {n : Nat} (h : EvR X Hb e Γ fun lo' n' => lo' = lo ∧ n' = n) : EvJ X Hb tg e Γ (· = (List.range n).map fun (i : Nat) => D.int (lo + i)) := evj_r h
/-- range(n): from 0 on -/
theorem wj_r0 {n : Nat} (h : EvR X Hb e Γ fun lo' n' => lo' = 0 ∧ n' = n) : EvJ X Hb tg e Γ (· = (List.range n).map fun (i : Nat) => D.int i) := (evj_r h).imp fun z e => by
  rw [e]
  refine List.map_congr_left fun i _ => ?_
  rw [Int.zero_add]
theorem wit_free {S1 : List D → Prop} (h : EvN X Hb e Γ fr fun z => ∃ ds, z = .tup ds ∧ S1 ds) (ho : owns Γ = [] := by rfl) : EvIT X Hb e Γ S1 := evit_free h ho
theorem wit_flat {S1 : List D → Prop} (h : EvN X Hb e Γ fr fun z => ∃ ds, z = .tup ds ∧ S1 ds) (hf : ∀ ds, S1 ds → D.flatAll ds = true) : EvIT X Hb e Γ S1 := evit_flat h hf
end
end L3

namespace L3
open PySem PySem.Spec PyProof.Rows L2
/-! ### promises by what they are given -/
def setP {α : Type} (args : α → List D) (pre : α → Prop) (res : α → D → Prop) : Pr := fun ds S => ∃ a, ds = args a ∧ pre a ∧ S = res a
def detP {α : Type} (args : α → List D) (pre : α → Prop) (res : α → D) : Pr := fun ds S => ∃ a, ds = args a ∧ pre a ∧ S = (· = res a)
theorem cl_setP {α : Type} {args : α → List D} {pre : α → Prop} {res : α → D → Prop} {ds : List D} {Q : D → Prop} (a : α) (q : ∀ d, res a d → Q d) (h : pre a) (e : ds = args a := by rfl) : Cl (setP args pre res) ds Q := ⟨_, ⟨a, e, h, rfl⟩, q⟩
theorem cl_detP {α : Type} {args : α → List D} {pre : α → Prop} {res : α → D} {ds : List D} {Q : D → Prop} (a : α) (q : Q (res a)) (h : pre a) (e : ds = args a := by rfl) : Cl (detP args pre res) ds Q := ⟨_, ⟨a, e, h, rfl⟩, fun d z => by rw [z]; exact q⟩
section
variable {P : Program} {w : World} {K : PySem.W.Frag} {mg : Str → Option Value} {base : Heap}
theorem fnP_set {α : Type} {args : α → List D} {pre : α → Prop} {res : α → D → Prop} {x qual : Str} {st : Stmt} {f : Addr} {fd : FuncData} {N ps : List Str} {k : Nat} (F : Fun K x qual st f fd) (Sc : FnScope N ps (defScope st)) (hm : mg x = some (.ref f)) (hb : Binds K fd ps []) (har : ∀ a, pre a → (args a).length = ps.length)
    (hbody : ∀ (cdv : Value) (A : Around) (outer : List Env) (s : Shared) (H : Hp) (E : XK), Room k (A.deeper (envOfC qual (defScope st) s.heap.objs.size f cdv)) → N.Nodup → ∀ a, pre a →
      Go (bodyCx P w K mg base N qual (defScope st) f cdv A outer s H E) H (defBody st) { nx := fun _ H' => res a .non ∧ Ex H H', rt := fun v H' => ∃ d, res a d ∧ Rt K H d v H' } (slots0 N (args a))) : FnP P w K mg base x (k + 1) (setP args pre res) :=
  fnP_of F Sc hm hb (fun ds S ⟨a, e, h, _⟩ => by rw [e]; exact har a h) fun cdv A outer s H E hr ds S ⟨a, e, h, e2⟩ => by
    subst e e2
    exact hbody cdv A outer s H E hr Sc.nd a h
theorem fnP_det {α : Type} {args : α → List D} {pre : α → Prop} {res : α → D} {x qual : Str} {st : Stmt} {f : Addr} {fd : FuncData} {N ps : List Str} {k : Nat} (F : Fun K x qual st f fd) (Sc : FnScope N ps (defScope st)) (hm : mg x = some (.ref f)) (hb : Binds K fd ps []) (har : ∀ a, pre a → (args a).length = ps.length)
    (hbody : ∀ (cdv : Value) (A : Around) (outer : List Env) (s : Shared) (H : Hp) (E : XK), Room k (A.deeper (envOfC qual (defScope st) s.heap.objs.size f cdv)) → N.Nodup → ∀ a, pre a →
      Go (bodyCx P w K mg base N qual (defScope st) f cdv A outer s H E) H (defBody st) { nx := fun _ H' => .non = res a ∧ Ex H H', rt := fun v H' => ∃ d, d = res a ∧ Rt K H d v H' } (slots0 N (args a))) : FnP P w K mg base x (k + 1) (detP args pre res) :=
  fnP_of F Sc hm hb (fun ds S ⟨a, e, h, _⟩ => by rw [e]; exact har a h) fun cdv A outer s H E hr ds S ⟨a, e, h, e2⟩ => by
    subst e e2
    exact hbody cdv A outer s H E hr Sc.nd a h
theorem fnL_det {α : Type} {args : α → List D} {pre : α → Prop} {res : α → D} {x qual : Str} {st : Stmt} {f : Addr} {fd : FuncData} {N ps : List Str} {k : Nat} (F : Fun K x qual st f fd) (Sc : FnScope N ps (defScope st)) (hm : mg x = some (.ref f)) (hb : Binds K fd ps []) (har : ∀ a, pre a → (args a).length = ps.length)
    (hbody : ∀ (cdv : Value) (A : Around) (outer : List Env) (s : Shared) (H : Hp) (E : XK), Room k (A.deeper (envOfC qual (defScope st) s.heap.objs.size f cdv)) → N.Nodup → ∀ a, pre a →
      Go (bodyCx P w K mg base N qual (defScope st) f cdv A outer s H E) H (defBody st) { nx := fun _ H' => .non = res a ∧ Ex H H', rt := fun v H' => ∃ d, d = res a ∧ Ex H H' ∧ Rep K H' v d } (slots0 N (args a))) : FnL P w K mg base x (k + 1) (detP args pre res) :=
  fnL_of F Sc hm hb (fun ds S ⟨a, e, h, _⟩ => by rw [e]; exact har a h) fun cdv A outer s H E hr ds S ⟨a, e, h, e2⟩ => by
    subst e e2
    exact hbody cdv A outer s H E hr Sc.nd a h
end
theorem rng_nat {n : Nat} (h : n ≤ 2 ^ 60) : ((0 : Int) = 0 ∧ (n : Int).toNat = n) ∧ (-(2 ^ 62) ≤ (n : Int) ∧ (n : Int) < 2 ^ 62) := ⟨⟨rfl, Int.toNat_natCast n⟩, by omega, by omega⟩
/-- data that == may look at -/
def Shp (d : D) : Prop := d.ok = true ∧ SeqAt.shaped d.py = true
theorem eqv_same {d : D} (h : Shp d) : PyData.eqv d.py d.py = true := SeqAt.eqv_refl _ (SeqAt.canLay_of_shaped h.2)
section
variable {X : Cx} {S : Bool → Prop} {d : D}
/-- equal data -/
theorem cmp_neSame {n : Nat} (hr : Room n X.A) (q : S false) (h : Shp d) : CmpD X .NotEq d d S := cmp_neD hr (by rw [eqv_same h]; exact q) ⟨⟨h.1, h.1⟩, h.2, h.2⟩
theorem cmp_eqSame {n : Nat} (hr : Room n X.A) (q : S true) (h : Shp d) : CmpD X .Eq d d S := cmp_eqD hr (by rw [eqv_same h]; exact q) ⟨⟨h.1, h.1⟩, h.2, h.2⟩
end
theorem shp_int (i : Int) : Shp (.int i) := ⟨rfl, rfl⟩
/-- plain: a scalar, or a tuple of ints -/
theorem shp_ti2 (i j : Int) : Shp (.tup [.int i, .int j]) := ⟨rfl, rfl⟩
theorem canLay_all : ∀ {ds : List D}, (∀ d ∈ ds, d.py.canLay0 = true) → PyData.canLayAll0 (D.pyAll ds) = true
  | [], _ => rfl
  | d :: ds, h => by
    show (d.py.canLay0 && PyData.canLayAll0 (D.pyAll ds)) = true
    rw [h d List.mem_cons_self, canLay_all fun x m => h x (List.mem_cons_of_mem _ m)]
    rfl
theorem ok_all : ∀ {ds : List D}, (∀ d ∈ ds, d.ok = true) → D.okAll ds = true
  | [], _ => rfl
  | d :: ds, h => by
    show (d.ok && D.okAll ds) = true
    rw [h d List.mem_cons_self, ok_all fun x m => h x (List.mem_cons_of_mem _ m)]
    rfl
/-- data of small depth -/
structure ShpN (n : Nat) (d : D) : Prop where
  ok : d.ok = true
  lay : d.py.canLay0 = true
  deep : d.py.depth ≤ n
theorem ShpN.shp {n : Nat} {d : D} (h : ShpN n d) (hn : n ≤ 64) : Shp d := ⟨h.ok, by unfold SeqAt.shaped; rw [h.lay, decide_eq_true (Nat.le_trans h.deep hn)]; rfl⟩
theorem shpN_int (i : Int) : ShpN 0 (.int i) := ⟨rfl, rfl, Nat.le_refl _⟩
theorem shpN_lst {n : Nat} {ds : List D} (h : ∀ d ∈ ds, ShpN n d) : ShpN (n + 1) (.lst ds) := by
  refine ⟨ok_all fun d m => (h d m).ok, canLay_all fun d m => (h d m).lay, ?_⟩
  rw [D.py, PyData.depth]
  exact Nat.succ_le_succ (deepAll ds fun d m => (h d m).deep)
theorem shpN_tup {n : Nat} {ds : List D} (h : ∀ d ∈ ds, ShpN n d) : ShpN (n + 1) (.tup ds) := by
  refine ⟨ok_all fun d m => (h d m).ok, canLay_all fun d m => (h d m).lay, ?_⟩
  rw [D.py, PyData.depth]
  exact Nat.succ_le_succ (deepAll ds fun d m => (h d m).deep)
theorem shpN_map {α : Type} {n : Nat} {f : α → D} (h : ∀ a, ShpN n (f a)) (xs : List α) : ∀ d ∈ xs.map f, ShpN n d := fun d m => by
  obtain ⟨a, _, rfl⟩ := List.mem_map.mp m
  exact h a
end L3

namespace L3
open PySem PySem.Spec PyProof.Rows L2
open AutoSeq1 (wpAny_loadPart')
/-! ### enumerate(tuple) -/
theorem meets_enumerate_newT (l : Addr) (items : Array Value) (n : Nat) (dct : Option Addr) (sl : Array (Option Value)) :
    Meets (Builtin.«enumerate.__new__» ⟨[.type "enumerate", .ref l], []⟩) (fun _ R s => s.heap.get? l = some { cls := .type "tuple", dict := dct, data := .seq items n, slots := sl } ∧
      R (.ok (.ret (.ref (s.heap.push { cls := .type "tuple_iterator", data := .fields #[.ref l, .int 0 0] }).objs.size)))
        { s with heap := (s.heap.push { cls := .type "tuple_iterator", data := .fields #[.ref l, .int 0 0] }).push { cls := .type "enumerate", data := .fields #[.none, .bool false, .ref s.heap.objs.size, rawInt 0, .none, .none] } }) :=
  .of_wp fun prog w A R s h => by
    obtain ⟨hp, g, d, tk, os⟩ := s; obtain ⟨hl, h⟩ := h
    have hsub := sub_enumerate
    have hL : Heap.IsTuple (Shared.heap ⟨hp, g, d, tk, os⟩) l items := ⟨_, hl, rfl, n, rfl⟩
    wp_walk using wpAny_loadPart' hl
    refine wpAny_stack_any fun st => wpAny_pure ?_
    split
    · rename_i c _ _ _ _ _
      cases (c == Value.type "enumerate")
      · wp_walk using wpAny_loadPart' hl, wpAny_pyIter_tuple hL
        exact ⟨_, rfl, h⟩
      · wp_walk using wpAny_loadPart' hl, wpAny_pyIter_tuple hL
        exact ⟨_, rfl, h⟩
    · wp_walk using wpAny_loadPart' hl, wpAny_pyIter_tuple hL
      exact ⟨_, rfl, h⟩
section
variable {prog : Program} {w : World} {A : Around} {E : Value → Shared → Prop} {s : Shared}
theorem call_enumerate_tuple {l : Addr} {items : Array Value} {Q : Value → Shared → Prop} (hL : s.heap.IsTuple l items)
    (h : ∀ h', IsEnum h' (s.heap.objs.size + 1) s.heap.objs.size 0 .none → h'.IsTupleIter s.heap.objs.size l 0 → h'.objs.size = s.heap.objs.size + 2 →
      (∀ b o, s.heap.get? b = some o → h'.get? b = some o) → Q (.ref (s.heap.objs.size + 1)) { s with heap := h' }) :
    wpAny (model prog w) A (call (.type "enumerate") [.ref l]) Q E s := by
  obtain ⟨⟨c, dct, dt, sl⟩, hl, hc, n, hd⟩ := hL
  replace hc : c = .type "tuple" := hc
  replace hd : dt = .seq items n := hd
  subst hc hd
  refine callType_new F.called_enumerate (by decide) (F.typeCall_enumerate_1 _) (F.newCall_enumerate_1 _) (fun obj => F.args_object_init_2 obj _) F.entry_enumerate_new
    (meets_enumerate_newT l items n dct sl) ⟨hl, ?_⟩
  have hz : (s.heap.push { cls := .type "tuple_iterator", data := .fields #[.ref l, .int 0 0] }).objs.size = s.heap.objs.size + 1 := Heap.size_push ..
  show _ ∧ _
  rw [hz]
  have he : IsEnum ((s.heap.push { cls := .type "tuple_iterator", data := .fields #[.ref l, .int 0 0] }).push
      { cls := .type "enumerate", data := .fields #[.none, .bool false, .ref s.heap.objs.size, rawInt 0, .none, .none] }) (s.heap.objs.size + 1) s.heap.objs.size 0 .none := by
    have := Heap.get?_push_size (s.heap.push { cls := .type "tuple_iterator", data := .fields #[.ref l, .int 0 0] })
      (o := { cls := .type "enumerate", data := .fields #[.none, .bool false, .ref s.heap.objs.size, rawInt 0, .none, .none] }) rfl
    rw [hz] at this; exact this
  refine ⟨⟨_, he, rfl⟩, h _ he ⟨_, Heap.get?_push_of_some _ (Heap.get?_push_size _ rfl), rfl, rfl⟩ (by rw [Heap.size_push, hz]) fun b o x => Heap.get?_push_of_some _ (Heap.get?_push_of_some _ x)⟩
end
/-- the tuple at a as it stands at each turn, each item in a new pair -/
def ItT (K : PySem.W.Frag) (a : Addr) : It :=
  ⟨fun i H => ∃ (xs : List V) (x : V), SqT K H a xs ∧ xs[i]? = some x, fun i H v H' => ∃ T x, v = .ref T ∧ H T = none ∧ H' = upd H T (.tup [.int (i : Nat), x]) ∧ ∀ xs, SqT K H a xs → xs[i]? = some x, fun i H => ∃ xs : List V, SqT K H a xs ∧ xs.length ≤ i⟩
theorem turn_enumT {P : Program} {w : World} {K : PySem.W.Frag} {elts : List Expr} {kk : Nat} {tpos : Pos} (a e it : Addr) :
    Turn P w K (.Tuple elts kk tpos) (ItT K a) [e, it] e (fun i h => (∃ old, IsEnum h e it ((i : Nat) : Int) old) ∧ h.IsTupleIter it a i ∧ (e ≠ it ∧ a ≠ e ∧ a ≠ it)) where
  mem := by simp
  obj := fun i h st b hb => by
    obtain ⟨⟨old, he⟩, ⟨o, ho, hc, hd⟩, _⟩ := st
    have e' : b = e ∨ b = it := by simpa using hb
    rcases e' with z | z
    · rw [z]; exact ⟨_, he, fun v q => nomatch q⟩
    · rw [z]; exact ⟨o, ho, fun v q => by rw [hd] at q; cases q⟩
  keep := fun i h h' st k => let ⟨⟨old, he⟩, hi, hne⟩ := st; ⟨⟨old, k e (by simp) _ he⟩, hi.at fun o q => k it (by simp) o q, hne⟩
  item := by
    intro X hP hw hK hc i pins s σ H E I hf st hg
    subst hP hw hK
    obtain ⟨⟨old, he⟩, hit, hne, hae, hai⟩ := st
    obtain ⟨xs, x, hq, hx⟩ := hg
    obtain ⟨its, rv, p, hz⟩ := I.tuple hq
    obtain ⟨u, hu, ru⟩ := rv.get hx
    have hel : e < s.heap.objs.size := Heap.lt_size he
    have hil : it < s.heap.objs.size := by obtain ⟨_, q, _⟩ := hit; exact Heap.lt_size q
    have hi2 : i < its.toArray.size := by
      have := (List.getElem?_eq_some_iff.mp hu).1
      simpa using this
    refine wpAny_pyNext_enum_itemD (Draws.tuple (A := X.A.in1) (I.ok.hd hc) it a hai its.toArray) he ⟨hit, p⟩ hi2 hne (by simp [hne, Ne.symm hae]) fun x2 h' tk hP ho ⟨hit', _⟩ hT hsz hk => ?_
    have eu : x2 = u := by
      have h1 : its[i]? = some x2 := by simpa using hP
      rw [hu] at h1
      exact (Option.some.inj h1).symm
    subst eu
    refine ⟨_, rfl, wpAny_letOwnedTupleGo_enum (s := { s with heap := h', toks := tk + 1 }) ho fun h'' he' sb => ?_⟩
    have hT2 : h''.get? s.heap.objs.size = some { cls := .type "tuple", data := .seq #[.int i tk, x2] } := (sb.2 _ (Nat.ne_of_gt hel)).trans hT
    have new : ObjOk X.prog X.w (upd H s.heap.objs.size (.tup [.int (i : Nat), x])) h'' s.heap.objs.size (.tup [.int (i : Nat), x]) :=
      ⟨by show 2 ≤ sizeLine; decide, [.int i tk, x2], .cons ⟨_, rfl⟩ (.cons ru .nil), ⟨_, hT2, rfl, _, rfl⟩⟩
    have I1 : Inv X pins σ (upd H s.heap.objs.size (.tup [.int (i : Nat), x])) { s with heap := h'', toks := tk + 1 } :=
      I.turnedNew (ch := [e, it]) (fun b ob hb q => (sb.2 b (fun z => hb (by simp [z]))).trans (hk b ob (fun z => hb (by simp [z])) (fun z => hb (by simp [z])) q)) hf (Nat.le_refl _) new
    refine ⟨.ref s.heap.objs.size, _, I1, rfl, ⟨_, x, rfl, I.hok.fresh (Nat.le_refl _), rfl, fun ys hy => by rw [I.tuple_inj hy hq]; exact hx⟩, ⟨⟨x2, ?_⟩, hit'.at fun o q => (sb.2 it (Ne.symm hne)).trans q, hne, hae, hai⟩, fun b hb => ?_⟩
    · have e1 : ((i + 1 : Nat) : Int) = (i : Int) + 1 := by omega
      rw [e1]; exact he'
    · have hb' : b < s.heap.objs.size := by
        have e' : b = e ∨ b = it := by simpa using hb
        rcases e' with z | z
        · rw [z]; exact hel
        · rw [z]; exact hil
      rw [upd_ne (Nat.ne_of_lt hb')]
      exact (hf b hb).1
  done := by
    intro X hP hw hK hc i pins s σ H E I hf st hg
    subst hP hw hK
    obtain ⟨⟨old, he⟩, hit, hne, hae, hai⟩ := st
    obtain ⟨xs, hq, hx⟩ := hg
    obtain ⟨its, rv, p, hz⟩ := I.tuple hq
    obtain ⟨f0, f1, f2, f3, f4, f5⟩ := hf it (by simp)
    have hl := rv.length
    unfold pyNext
    have hT : s.TypeIs (.ref e) "enumerate" := ⟨_, he, rfl⟩
    refine wpAny_bind (wpAny_attempt (wpAny_callSpecial?_slot (name := Str.ofString "__next__") hT F.slot_enumerate_next
      (wpAny_call_entry F.slot_enumerate_next hT F.entry_enumerate_next ?_ (F.args_enumerate_next_1 _))))
    show wpAny _ _ (field (.ref e) 2 >>= _) _ _ _
    refine wpAny_bind (wpAny_field he rfl (x := .ref it) rfl ?_)
    refine wpAny_bind (wpAny_nextOf_tuple_end (A := X.A.in1) (I.ok.hd hc) hit p (by simp; omega) fun h' x he' hx' => ?_)
    obtain ⟨o, ho, hc⟩ := hx'
    refine wpAny_bind (wpAny_isInstance (T := "StopIteration") (b := true) ⟨o, ho, hc⟩ isSubtype_stop ?_)
    exact wpAny_pure ⟨rfl, I.turned (t' := s.toks) (fun b o hb q => he' b o hb q) f0 f1 f3 f4 f5⟩
  self := fun A i s Q E st h => let ⟨⟨_, he⟩, _⟩ := st; wpAny_pyIter_enum he h
def iEnumT (K : PySem.W.Frag) (ta : TA) : TI := fun σ H R => ta σ H fun vs H1 => ∃ a xs, vs = [.ref a] ∧ SqT K H1 a xs ∧ R (ItT K a) H1
theorem pi_enumT {X : Cx} {e : Expr} {ta : TA} {p pos tpos : Pos} {elts : List Expr} {kk : Nat} (hg : Gl X "enumerate") (hm : X.mg "enumerate" = none) (ha : PA X [e] ta) (hs : starEach [e] X.env = [(false, eval e X.env)] := by rfl) :
    PI X (.Tuple elts kk tpos) (.Call (.Name "enumerate" p) [e] [] pos) (iEnumT X.K ta) := by
  refine ⟨fun pins s σ H R I h => ?_⟩
  refine Call_ (ld_blt I hg hm boot_enumerate (PyProof.Rows.callWith_type1 (thn (ha.run pos pins s σ H _ I h) fun us s1 ⟨vs, H1, I1, r1, q1⟩ => ?_) hs rfl))
  obtain ⟨a, xs, ex, hq, q⟩ := q1
  subst ex
  cases r1 with
  | cons r rr =>
    cases rr
    cases r
    obtain ⟨its, rv, p', hz⟩ := I1.tuple hq
    have hal : a < s1.heap.objs.size := p'.elim fun _ z => Heap.lt_size z.1
    refine call_enumerate_tuple p' fun h' he hit hsz hk => wpAny_pyIter_enum he ?_
    have I2 : Inv X pins σ H1 { s1 with heap := h' } := I1.kept (t' := s1.toks) hk
    refine ⟨s1.heap.objs.size + 1, [s1.heap.objs.size + 1, s1.heap.objs.size], _, _, H1, rfl, I2, turn_enumT a (s1.heap.objs.size + 1) s1.heap.objs.size, ⟨⟨.none, he⟩, hit, Nat.succ_ne_self _, Nat.ne_of_lt (Nat.lt_succ_of_lt hal), Nat.ne_of_lt hal⟩, fun b hb => ?_, q⟩
    have e' : b = s1.heap.objs.size + 1 ∨ b = s1.heap.objs.size := by simpa using hb
    have hle : s1.heap.objs.size ≤ b := by
      rcases e' with z | z
      · rw [z]; exact Nat.le_add_right _ _
      · rw [z]; exact Nat.le_refl _
    exact I1.fpOk hle (I1.hok.fresh hle)
theorem walk_enumT {K : PySem.W.Frag} {a : Addr} {xs : List V} : Walk (ItT K a) xs.length (fun H => SqT K H a xs) (YPair (fun i => some (.int (i : Nat))) (fun i => xs[i]?)) := by
  refine ⟨fun i _ hi q => ⟨xs, xs[i], q, by simp [hi]⟩, fun _ q => ⟨xs, q, Nat.le_refl _⟩, fun i H v H' _ q y => ?_⟩
  obtain ⟨T, x, h1, h2, h3, h4⟩ := y
  exact ⟨T, .int (i : Nat), x, h1, h2, h3, rfl, h4 xs q⟩
section
variable {X : Cx} {Hb Hb' : Hp} {e tg : Expr} {Γ : Slots} {pos : Pos} {ds : List D}
theorem jt_enumT {K : PySem.W.Frag} {Hz : Hp} {p : Addr} {vs : List V} (hq : SqT K Hz p vs) (ra : RepAll K Hz vs ds) : Jt K Hz (ItT K p) (ds.mapIdx fun i d => D.tup [.int (i : Nat), d]) := by
  refine ⟨_, _, by rw [List.length_mapIdx]; exact ra.length ▸ walk_enumT (xs := vs), fun H2 e => SqT.ex e hq, fun i H2 v H3 hi e y => ?_⟩
  obtain ⟨T, x, y, rfl, hT, rfl, hx, hy⟩ := y
  cases hx
  obtain ⟨d, hd, r⟩ := ra.get' hy
  refine ⟨Ex.new hT, .tup [.int (i : Nat), d], by rw [List.getElem?_mapIdx, hd]; rfl, .tup (SqT.of upd_same) (.cons (.int _) (.cons ((r.ex e).ex (Ex.new hT)) .nil))⟩
theorem evj_enumT {S1 : List D → Prop} {pn : Pos} {elts : List Expr} {kk : Nat} {tpos : Pos} (hm : X.mg "enumerate" = none) (h : EvIT X Hb e Γ S1) (hg : Gl X "enumerate" := by rfl) (hs : starEach [e] X.env = [(false, eval e X.env)] := by rfl) :
    EvJ X Hb (.Tuple elts kk tpos) (.Call (.Name "enumerate" pn) [e] [] pos) Γ (fun z => ∃ ds, z = ds.mapIdx (fun i d => D.tup [.int (i : Nat), d]) ∧ S1 ds) :=
  ⟨_, pi_enumT hg hm (pa_cons (semE X e) pa_nil hs) hs, fun σ H en R q => h σ H en _ fun a vs H' ds s x hq ra => ⟨a, vs, rfl, SqT.ex hide_ex hq, q _ H' _ ⟨ds, rfl, s⟩ x (jt_enumT hq ra)⟩⟩
/-- enumerate, by places: of f i the i-th -/
theorem mapIdx_range {α : Type} (f : α → D) (xs : List α) (z : α) : (xs.map f).mapIdx (fun i d => D.tup [.int (i : Nat), d]) = (List.range xs.length).map fun (i : Nat) => .tup [.int (i : Int), f (xs.getD i z)] := by
  refine List.ext_getElem? fun i => ?_
  rw [List.getElem?_mapIdx, List.getElem?_map, List.getElem?_map]
  by_cases h : i < xs.length
  · rw [List.getElem?_range h, List.getElem?_eq_getElem h]
    show some (D.tup [.int (i : Int), f xs[i]]) = some (D.tup [.int (i : Int), f (xs.getD i z)])
    rw [List.getD_eq_getElem?_getD, List.getElem?_eq_getElem h]
    rfl
  · rw [List.getElem?_eq_none (by omega), List.getElem?_eq_none (by rw [List.length_range]; omega)]
    rfl
theorem wj_enumT {α : Type} {f : α → D} {xs : List α} {pn : Pos} {elts : List Expr} {kk : Nat} {tpos : Pos} (z : α) (hm : X.mg "enumerate" = none) (h : EvIT X Hb e Γ (· = xs.map f)) (hg : Gl X "enumerate" := by rfl) (hs : starEach [e] X.env = [(false, eval e X.env)] := by rfl) :
    EvJ X Hb (.Tuple elts kk tpos) (.Call (.Name "enumerate" pn) [e] [] pos) Γ (· = (List.range xs.length).map fun (i : Nat) => .tup [.int (i : Int), f (xs.getD i z)]) :=
  (evj_enumT hm h hg hs).imp fun y ⟨ds, e1, e2⟩ => by rw [e1, e2, mapIdx_range f xs z]
theorem wj_enumL {α : Type} {f : α → D} {xs : List α} {pn : Pos} {elts : List Expr} {kk : Nat} {tpos : Pos} (z : α) (hm : X.mg "enumerate" = none) (h : EvI X Hb e Γ (· = xs.map f)) (hg : Gl X "enumerate" := by rfl) (hs : starEach [e] X.env = [(false, eval e X.env)] := by rfl) :
    EvJ X Hb (.Tuple elts kk tpos) (.Call (.Name "enumerate" pn) [e] [] pos) Γ (· = (List.range xs.length).map fun (i : Nat) => .tup [.int (i : Int), f (xs.getD i z)]) :=
  (evj_enum hm h hg hs).imp fun y ⟨ds, e1, e2⟩ => by rw [e1, e2, mapIdx_range f xs z]
end
end L3

namespace L3
open PySem PySem.Spec PyProof.Rows L2
theorem kit_ll : kitB "list" "list" = some true := by decide +kernel
theorem kit_tl : kitB "tuple" "list" = some false := by decide +kernel
theorem kit_il : kitB "int" "list" = some false := by decide +kernel
theorem kit_bl : kitB "bool" "list" = some false := by decide +kernel
theorem kit_nl : kitB "NoneType" "list" = some false := by decide +kernel
theorem kd_tt {xs : List D} : kitB (tyD (.tup xs)) "tuple" = some true := kit_tt
theorem kd_lt {xs : List D} : kitB (tyD (.lst xs)) "tuple" = some false := kit_lt
theorem kd_it {i : Int} : kitB (tyD (.int i)) "tuple" = some false := kit_it
theorem kd_bt {i : Bool} : kitB (tyD (.bl i)) "tuple" = some false := kit_bt
theorem kd_nt : kitB (tyD .non) "tuple" = some false := kit_nt
theorem kd_tl {xs : List D} : kitB (tyD (.tup xs)) "list" = some false := kit_tl
theorem kd_ll {xs : List D} : kitB (tyD (.lst xs)) "list" = some true := kit_ll
theorem kd_il {i : Int} : kitB (tyD (.int i)) "list" = some false := kit_il
theorem kd_ti {xs : List D} : kitB (tyD (.tup xs)) "int" = some false := kit_ti
theorem kd_li {xs : List D} : kitB (tyD (.lst xs)) "int" = some false := kit_li
theorem kd_ii {i : Int} : kitB (tyD (.int i)) "int" = some true := kit_ii
theorem kd_bi {i : Bool} : kitB (tyD (.bl i)) "int" = some true := kit_bi
theorem kd_ni : kitB (tyD .non) "int" = some false := kit_ni
theorem kd_tb {xs : List D} : kitB (tyD (.tup xs)) "bool" = some false := kit_tb
theorem kd_lb {xs : List D} : kitB (tyD (.lst xs)) "bool" = some false := kit_lb
theorem kd_ib {i : Int} : kitB (tyD (.int i)) "bool" = some false := kit_ib
theorem kd_bb {i : Bool} : kitB (tyD (.bl i)) "bool" = some true := kit_bb
theorem kd_nb : kitB (tyD .non) "bool" = some false := kit_nb
theorem ok_mapT {α : Type} {f : α → D} (h : ∀ a, (f a).ok = true) (xs : List α) : (D.tup (xs.map f)).ok = true := ok_all fun d m => by
  obtain ⟨a, _, rfl⟩ := List.mem_map.mp m
  exact h a
theorem ok_mapL {α : Type} {f : α → D} (h : ∀ a, (f a).ok = true) (xs : List α) : (D.lst (xs.map f)).ok = true := ok_all fun d m => by
  obtain ⟨a, _, rfl⟩ := List.mem_map.mp m
  exact h a
section
variable {X : Cx} {Hb Hb' : Hp} {a b c e : Expr} {es : List Expr} {Γ Γ' : Slots} {pos p' p2 apos cpos : Pos} {d x y : D} {ds : List D} {Q S S' : D → Prop} {fr : Bool} {D0 : Ends} {rest sts : List Stmt} {st : Stmt}
def KitD (d : D) (Ts : String) (Q : Bool → Prop) : Prop := d.ok = true ∧ ∃ k, kitB (tyD d) Ts = some k ∧ Q k
theorem kitd {Ts : String} {k : Bool} {Q : Bool → Prop} (q : Q k) (h : kitB (tyD d) Ts = some k) (ho : d.ok = true) : KitD d Ts Q := ⟨ho, k, h, q⟩
theorem w_isI {T : Str} {Ts : String} {pn p2 : Pos} (hm : X.mg "isinstance" = none) (hm2 : X.mg T = none) (h : EvN X Hb a Γ false fun d => KitD d Ts fun k => Q (.bl k)) (hv : bootBuiltins T = some (.type Ts) := by decide +kernel)
    (hg : Gl X "isinstance" := by rfl) (hg2 : Gl X T := by rfl) (hn : T ≠ "__name__" := by decide) (hd : (T == ("__debug__" : Str)) = false := by decide) (he : starEach (a :: [.Name T p2]) X.env = (false, eval a X.env) :: starEach [.Name T p2] X.env := by rfl) (he2 : starEach ([.Name T p2]) X.env = (false, eval (.Name T p2) X.env) :: starEach [] X.env := by rfl) (hpl : (backTo pos (starEach [.Name T p2] X.env)).any (·.1) = false := by rfl) :
    EvN X Hb (.Call (.Name "isinstance" pn) [a, .Name T p2] [] pos) Γ fr Q := EvN.fresh <|
  (evn_isI (SB := fun k => Q (.bl k)) (T := T) hm hm2 h (fun d' e => e) hv hg hg2 hn hd he he2 hpl).imp fun _ ⟨k', e1, e2⟩ => by rw [e1]; exact e2
/-- for i in range(n), nothing carried, nothing forgotten -/
theorem s_range {body : List Stmt} {xn : Str} {Γe : D → Slots} {pn : Pos} (n : Nat) (hm : X.mg "range" = none) (h : EvA X Hb [a] Γ fun z => ∃ i, z = [.int i] ∧ i.toNat = n ∧ (-(2 ^ 62) ≤ i ∧ i < 2 ^ 62))
    (hs : ∀ i : Nat, i < n → Go X Hb body { D0 with nx := fun σ H => EnvOk X.K Hb Γ σ H, ct := fun σ H => EnvOk X.K Hb Γ σ H, bk := fun σ H => SemSs X rest D0 σ H } (Γe (.int i)))
    (hd : Go X Hb rest D0 Γ) (hL : Has X.N xn := by walk_at "has") (hu : ∀ x, Up X.N Γ xn (.dat x) (Γe x) := by intro _; walk_at "up") (nd : X.N.Nodup := by assumption) (hp : PassesOwn (model X.prog X.w) X.A X.env X.xe := by exact PassesOwn.never) (hc : X.calm = true := by rfl) (hx : Loc X.env.scope xn := by first | exact Or.inl rfl | exact Or.inr rfl)
    (hg : Gl X "range" := by rfl) (hse : starEach [a] X.env = [(false, eval a X.env)] := by rfl)
    (hfs : ∀ x, foldedSetIterable (.Call (.Name "range" pn) [a] [] pos) X.env x = pure x := by intro _; rfl) (hf : X.fn xn = true ∨ X.env.scope.names.lookup xn = some .local := by first | exact .inl rfl | exact .inr rfl) :
    Go X Hb (.For (.Name xn p') (.Call (.Name "range" pn) [a] [] pos) body [] p2 :: rest) D0 Γ :=
  s_rep (fun lo m => lo = 0 ∧ m = n) Γ (wr_1 hm (h.imp fun z ⟨i, e, e2, hb⟩ => ⟨i, e, ⟨rfl, e2⟩, hb⟩) hg hse) (fun lo m i ⟨e1, e2⟩ hi => by
    subst e1 e2
    rw [Int.zero_add]
    exact hs i hi) hd Sub.refl hL hu nd hp hc hx hfs hf
end
end L3

namespace L3
open PySem PySem.Spec PyProof.Rows L2
section
variable {X : Cx} {Hb Hb' : Hp} {a b c e : Expr} {es : List Expr} {Γ Γ' : Slots} {pos p' p2 apos cpos : Pos} {d x y : D} {ds : List D} {Q S S' : D → Prop} {fr : Bool} {D0 : Ends} {rest sts : List Stmt} {st : Stmt}
/-- if, the two ways meet again -/
theorem s_ifJ {as bs : List Stmt} {k : Bool} (I : Slots → Prop) (h : EvB X Hb c Γ k) (ha : k = true → Go X Hb as { D0 with nx := Btw X Hb I } Γ) (hb : k = false → Go X Hb bs { D0 with nx := Btw X Hb I } Γ) (hd : ∀ Γ', I Γ' → Go X Hb rest D0 Γ') : Go X Hb (.If c as bs pos :: rest) D0 Γ :=
  go_if h (fun z σ H en => (ha z σ H en).mono (fun σ H ⟨Γ', hI, en'⟩ => hd Γ' hI σ H en') (fun _ _ h => h) (fun _ _ h => h) fun _ _ h => h) fun z σ H en => (hb z σ H en).mono (fun σ H ⟨Γ', hI, en'⟩ => hd Γ' hI σ H en') (fun _ _ h => h) (fun _ _ h => h) fun _ _ h => h
theorem s_btw {I : Slots → Prop} {rt : VK} {bk ct : L2.St → Hp → Prop} (hI : I Γ') (s : Sub Γ Γ' := by walk_at "sub") : Go X Hb [] { nx := Btw X Hb I, rt := rt, bk := bk, ct := ct } Γ := go_btw hI (fun _ _ h => h.sub s) fun _ _ h => h
theorem s_tup4 {o1 o2 o3 o4 : Bool} {xn yn zn un : Str} {px py pz pu pt : Pos} {kt k2 : Nat} {pt2 : Pos} (_h1 : OwnIf o1 xn) (_h2 : OwnIf o2 yn) (_h3 : OwnIf o3 zn) (_h4 : OwnIf o4 un) (h : EvN X Hb a Γ o1 fun d1 => EvN X Hb b Γ o2 fun d2 => EvN X Hb c Γ o3 fun d3 => EvN X Hb e Γ o4 fun d4 => StoreD o1 X.N Γ xn d1 fun Γ1 => StoreD o2 X.N Γ1 yn d2 fun Γ2 => StoreD o3 X.N Γ2 zn d3 fun Γ3 => StoreD o4 X.N Γ3 un d4 fun Γ4 => Go X Hb rest D0 Γ4)
    (nd : X.N.Nodup) (hL : Has X.N xn) (hL2 : Has X.N yn) (hL3 : Has X.N zn) (hL4 : Has X.N un) (hw : swappedStores [.Tuple [.Name xn px, .Name yn py, .Name zn pz, .Name un pu] kt pt] (.Tuple [a, b, c, e] k2 pt2) X.env = pure none := by rfl) (hc : X.calm = true := by rfl)
    (hx : Loc X.env.scope xn := by first | exact Or.inl rfl | exact Or.inr rfl) (hy : Loc X.env.scope yn := by first | exact Or.inl rfl | exact Or.inr rfl) (hz : Loc X.env.scope zn := by first | exact Or.inl rfl | exact Or.inr rfl) (hu : Loc X.env.scope un := by first | exact Or.inl rfl | exact Or.inr rfl)
    (hf : X.fn xn = true ∨ X.env.scope.names.lookup xn = some .local := by first | exact .inl rfl | exact .inr rfl) (hf2 : X.fn yn = true ∨ X.env.scope.names.lookup yn = some .local := by first | exact .inl rfl | exact .inr rfl) (hf3 : X.fn zn = true ∨ X.env.scope.names.lookup zn = some .local := by first | exact .inl rfl | exact .inr rfl) (hf4 : X.fn un = true ∨ X.env.scope.names.lookup un = some .local := by first | exact .inl rfl | exact .inr rfl)
    (hn : (assignEach [.Name xn px, .Name yn py, .Name zn pz, .Name un pu] X.env).length = 4 := by rfl) (hst : (assignEach [.Name xn px, .Name yn py, .Name zn pz, .Name un pu] X.env).findIdx? (·.1) = none := by rfl)
    (hz1 : (assignEach (.Name xn px :: [.Name yn py, .Name zn pz, .Name un pu]) X.env).map (·.2) = assign (.Name xn px) X.env :: (assignEach [.Name yn py, .Name zn pz, .Name un pu] X.env).map (·.2) := by rfl)
    (hz2 : (assignEach (.Name yn py :: [.Name zn pz, .Name un pu]) X.env).map (·.2) = assign (.Name yn py) X.env :: (assignEach [.Name zn pz, .Name un pu] X.env).map (·.2) := by rfl)
    (hz3 : (assignEach (.Name zn pz :: [.Name un pu]) X.env).map (·.2) = assign (.Name zn pz) X.env :: (assignEach [.Name un pu] X.env).map (·.2) := by rfl)
    (hz4 : (assignEach (.Name un pu :: []) X.env).map (·.2) = assign (.Name un pu) X.env :: (assignEach [] X.env).map (·.2) := by rfl)
    (hsw : swapsWithSole [.Tuple [.Name xn px, .Name yn py, .Name zn pz, .Name un pu] kt pt] (.Tuple [a, b, c, e] k2 pt2) pos.line X.env = pure false := by rfl) (h1 : (assignEach [.Tuple [.Name xn px, .Name yn py, .Name zn pz, .Name un pu] kt pt] X.env).map (·.2) = [assign (.Tuple [.Name xn px, .Name yn py, .Name zn pz, .Name un pu] kt pt) X.env] := by rfl)
    (hs1 : starEach (a :: [b, c, e]) X.env = (false, eval a X.env) :: starEach [b, c, e] X.env := by rfl)
    (hs2 : starEach (b :: [c, e]) X.env = (false, eval b X.env) :: starEach [c, e] X.env := by rfl)
    (hs3 : starEach (c :: [e]) X.env = (false, eval c X.env) :: starEach [e] X.env := by rfl)
    (hs4 : starEach (e :: []) X.env = (false, eval e X.env) :: starEach [] X.env := by rfl)
    : Go X Hb (.Assign [.Tuple [.Name xn px, .Name yn py, .Name zn pz, .Name un pu] kt pt] (.Tuple [a, b, c, e] k2 pt2) pos :: rest) D0 Γ := fun σ H en => by
  obtain ⟨i, hi⟩ := hL.ix
  obtain ⟨j, hj⟩ := hL2.ix
  obtain ⟨l, hl⟩ := hL3.ix
  obtain ⟨m, hm⟩ := hL4.ix
  refine SemSs.cons (ps_asg (pe_tup (pa_cons (semE X a) (pa_cons (semE X b) (pa_cons (semE X c) (pa_cons (semE X e) pa_nil hs4) hs3) hs2) hs1)) (pg_tup hc (pgs_cons (pg_name nd hi hx hf) (pgs_cons (pg_name nd hj hy hf2) (pgs_cons (pg_name nd hl hz hf3) (pgs_cons (pg_name nd hm hu hf4) pgs_nil hz4) hz3) hz2) hz1) hn hst) hsw hw h1) (h σ H en _ fun v1 H1 d1 s1 x1 r1 f1 => s1 σ H1 (en.ex x1) _ fun v2 H2 d2 s2 x2 r2 f2 => s2 σ H2 (en.ex (x1.trans x2)) _ fun v3 H3 d3 s3 x3 r3 f3 => s3 σ H3 (en.ex ((x1.trans x2).trans x3)) _ fun v4 H4 d4 s4 x4 r4 f4 => ⟨by show 4 ≤ sizeLine; decide, fun T hT => ?_⟩)
  obtain ⟨Γ1, g1, en1⟩ := s4.ok nd hi en x1 r1 f1
  obtain ⟨Γ2, g2, en2⟩ := g1.ok nd hj en1 x2 r2 f2
  obtain ⟨Γ3, g3, en3⟩ := g2.ok nd hl en2 x3 r3 f3
  obtain ⟨Γ4, g4, en4⟩ := g3.ok nd hm en3 x4 r4 f4
  exact ⟨T, _, rfl, SqT.of upd_same, rfl, _, _, rfl, _, _, rfl, _, _, rfl, _, _, rfl, rfl, g4 _ _ (en4.ex (Ex.new hT))⟩
theorem shpN_bl (i : Bool) : ShpN 0 (.bl i) := ⟨rfl, rfl, Nat.le_refl _⟩
theorem c_chooseT {P : D → Prop} {xs : List D} (h : ∀ d ∈ xs, P d) {d : D} (m : d ∈ xs) : P d := h d m
end
end L3

namespace L3
open PySem PySem.Spec PyProof.Rows L2
section
variable {X : Cx} {Hb Hb' : Hp} {a b c e o : Expr} {es : List Expr} {Γ Γ' : Slots} {pos p' p2 apos cpos : Pos} {d x y : D} {ds : List D} {Q S S' : D → Prop} {fr : Bool} {D0 : Ends} {rest sts : List Stmt} {st : Stmt}
/-- f(..).append(e), the list thrown away -/
theorem s_appendNew (h : EvN X Hb o Γ true fun d => ∃ ds, d = .lst ds ∧ ds.length ≤ 100000 ∧ EvN X Hb e Γ false fun _ => Go X Hb rest D0 Γ)
    (hbase : attributeBase o "append" X.env (eval o X.env) = eval o X.env := by rfl)
    (hfew : ((backTo cpos (starEach (e :: []) X.env)).all (fun x => !x.1) && (backToKw cpos (keywordEach [] X.env)).all (fun x => x.1.isSome) && decide ((e :: []).length + ([] : List Keyword).length + (if ([] : List Keyword).isEmpty then 0 else 1) < 30)) = true := by rfl)
    (hline : (apos.endLine == cpos.line) = true := by rfl) (hs : starEach (e :: []) X.env = (false, eval e X.env) :: starEach [] X.env := by rfl) (hplain : (backTo cpos (starEach [] X.env)).any (·.1) = false := by rfl)
    (hsw : swapsWith (.Call (.Attribute o "append" apos) [e] [] cpos) none pos.line X.env = pure false := by rfl) :
    Go X Hb (.Expr (.Call (.Attribute o "append" apos) [e] [] cpos) pos :: rest) D0 Γ := fun σ H en => by
  refine SemSs.cons (ps_expr (pe_bm PySem.F.plainAttrs_list PySem.F.slot_list_append PySem.F.type_list_append mt_append (semE X o) (pa_cons (semE X e) pa_nil hs) hbase hfew hline hs hplain) hsw) ?_
  refine h σ H en _ fun v H1 d ⟨ds, hd, hl, k⟩ x1 r1 f1 => ?_
  subst hd
  obtain ⟨p, vs, rfl, hp, hpl, ra⟩ := f1 rfl
  refine ⟨.inl ⟨rfl, _, SqL.of hpl⟩, k σ H1 (en.ex x1) _ fun w H2 d2 s2 x2 r2 _ => ?_⟩
  refine ⟨p, vs, w, rfl, rfl, x2.lst hpl, by rw [ra.length]; exact Nat.lt_of_le_of_lt hl (by decide), ?_⟩
  exact s2 σ _ (en.ex (Ex.mut (x1.trans x2) hp (by rw [x2.lst hpl]; trivial)))
theorem zipW_map {α β : Type} {f : α → D} {g : β → D} : ∀ (xs : List α) (ys : List β), List.zipWith (fun a b => D.tup [a, b]) (xs.map f) (ys.map g) = (List.zip xs ys).map fun p => D.tup [f p.1, g p.2]
  | [], _ => rfl
  | _ :: _, [] => rfl
  | x :: xs, y :: ys => by
    simp only [List.zip_cons_cons, List.map_cons, List.zipWith_cons_cons]
    exact congrArg _ (zipW_map xs ys)
/-- over zip of two lists -/
theorem wj_zip {α β : Type} {f : α → D} {g : β → D} {xs : List α} {ys : List β} {pn tpos : Pos} {elts : List Expr} {kt : Nat} (hm : X.mg "zip" = none) (ha : EvI X Hb a Γ (· = xs.map f)) (hb : EvI X Hb b Γ (· = ys.map g))
    (hg : Gl X "zip" := by rfl) (hs : starEach [a, b] X.env = (false, eval a X.env) :: starEach [b] X.env := by rfl) (hs2 : starEach [b] X.env = [(false, eval b X.env)] := by rfl) (hpl : (backTo pos (starEach [b] X.env)).any (·.1) = false := by rfl) :
    EvJ X Hb (.Tuple elts kt tpos) (.Call (.Name "zip" pn) [a, b] [] pos) Γ (· = (List.zip xs ys).map fun p => D.tup [f p.1, g p.2]) :=
  (evj_zip (S1 := (· = xs.map f)) (S2 := (· = ys.map g)) hm ha hb hg hs hs2 hpl).imp fun z ⟨ds, es, e, e1, e2⟩ => by
    rw [e, e1, e2]
    exact zipW_map xs ys
end
end L3

/-! Core33: any, all of a list of truths. -/
namespace L3
open PySem PySem.Spec PyProof.Rows L2
theorem ownNil {α : Type} {p : Addr} {f : α → D} : Ent.own p [] = Ent.own p (List.map f []) := rfl
section
variable {X : Cx} {Hb : Hp} {a : Expr} {Γ : Slots} {pos pn : Pos} {Q : D → Prop} {fr : Bool}
theorem w_any (hm : X.mg "any" = none) (h : EvA X Hb [a] Γ fun ds => ∃ ns : List Bool, ds = [.lst (ns.map .bl)] ∧ Q (.bl (ns.any id))) (hc : X.calm = true := by rfl) (hg : Gl X "any" := by rfl) (he : starEach (a :: []) X.env = (false, eval a X.env) :: starEach [] X.env := by rfl) (hpl : (backTo pos (starEach [] X.env)).any (·.1) = false := by rfl) :
    EvN X Hb (.Call (.Name "any" pn) [a] [] pos) Γ fr Q := EvN.fresh <|
  evn_B (cr_any hc) hm h (fun vs H ds Q' ⟨ns, e, q⟩ r k => by
    subst e
    obtain ⟨p, ws, e, hq, ra⟩ := r.lst1
    rw [ra.bls] at hq
    exact ⟨p, ns, e, hq, k _ _ _ q Ex.refl (.bl _) (FreshD.flat rfl)⟩) (by decide +kernel) hg (by decide) (by decide) he hpl
theorem w_all (hm : X.mg "all" = none) (h : EvA X Hb [a] Γ fun ds => ∃ ns : List Bool, ds = [.lst (ns.map .bl)] ∧ Q (.bl (ns.all id))) (hc : X.calm = true := by rfl) (hg : Gl X "all" := by rfl) (he : starEach (a :: []) X.env = (false, eval a X.env) :: starEach [] X.env := by rfl) (hpl : (backTo pos (starEach [] X.env)).any (·.1) = false := by rfl) :
    EvN X Hb (.Call (.Name "all" pn) [a] [] pos) Γ fr Q := EvN.fresh <|
  evn_B (cr_all hc) hm h (fun vs H ds Q' ⟨ns, e, q⟩ r k => by
    subst e
    obtain ⟨p, ws, e, hq, ra⟩ := r.lst1
    rw [ra.bls] at hq
    exact ⟨p, ns, e, hq, k _ _ _ q Ex.refl (.bl _) (FreshD.flat rfl)⟩) (by decide +kernel) hg (by decide) (by decide) he hpl
/-- sum of ints -/
theorem w_sum (hm : X.mg "sum" = none) (h : EvA X Hb [a] Γ fun ds => ∃ ns : List Int, ds = [.lst (ns.map .int)] ∧ Q (.int ns.sum)) (hc : X.calm = true := by rfl) (hg : Gl X "sum" := by rfl) (he : starEach (a :: []) X.env = (false, eval a X.env) :: starEach [] X.env := by rfl) (hpl : (backTo pos (starEach [] X.env)).any (·.1) = false := by rfl) :
    EvN X Hb (.Call (.Name "sum" pn) [a] [] pos) Γ fr Q := EvN.fresh <|
  evn_B (cr_sum hc) hm h (fun vs H ds Q' ⟨ns, e, q⟩ r k => by
    subst e
    obtain ⟨p, ws, e, hq, ra⟩ := r.lst1
    rw [ra.ints] at hq
    exact ⟨p, ns, e, hq, k _ _ _ q Ex.refl (.int _) (FreshD.flat rfl)⟩) (by decide +kernel) hg (by decide) (by decide) he hpl
end
end L3

/-! Core34: in, not in: data in lists and tuples; two names out of a list; over a tuple not stored. -/
namespace L3
open PySem PySem.Spec PyProof.Rows L2
section
variable {X : Cx} {Hb : Hp} {a b e : Expr} {Γ : Slots} {pos pn : Pos} {Q : D → Prop} {S : Bool → Prop} {fr : Bool} {d1 : D} {ds : List D} {D0 : Ends} {rest : List Stmt}
theorem op_inLR (hu : X.A.units + 65 < cLine) : OpR X (compareOp .In) (fun x y H Q => ∃ d ds, Rep X.K H x d ∧ Rep X.K H y (.lst ds) ∧ (d.ok = true ∧ (D.lst ds).ok = true) ∧ (SeqAt.shaped d.py = true ∧ SeqAt.shaped (D.lst ds).py = true) ∧ Q (.bl ((D.pyAll ds).any fun z => PyData.eqv z d.py)) H) := by
  intro pins s σ H x y v u Q I rx ry ⟨d, ds, h1, h2, ho, hs, q⟩
  obtain ⟨as, r1, _⟩ := Rep.reads I d x v h1 ho.1 rx
  obtain ⟨bs, r2, _⟩ := Rep.reads I _ y u h2 ho.2 ry
  exact SeqAt.in_list_reads r2 r1 (SeqAt.canLay_of_shaped hs.2) (SeqAt.canLay_of_shaped hs.1) (room_in_shaped hs.1 hu) ⟨.bl _, H, I, rfl, q⟩
theorem op_inTR (hu : X.A.units + 65 < cLine) : OpR X (compareOp .In) (fun x y H Q => ∃ d ds, Rep X.K H x d ∧ Rep X.K H y (.tup ds) ∧ (d.ok = true ∧ (D.tup ds).ok = true) ∧ (SeqAt.shaped d.py = true ∧ SeqAt.shaped (D.tup ds).py = true) ∧ Q (.bl ((D.pyAll ds).any fun z => PyData.eqv z d.py)) H) := by
  intro pins s σ H x y v u Q I rx ry ⟨d, ds, h1, h2, ho, hs, q⟩
  obtain ⟨as, r1, _⟩ := Rep.reads I d x v h1 ho.1 rx
  obtain ⟨bs, r2, _⟩ := Rep.reads I _ y u h2 ho.2 ry
  exact SeqAt.in_tuple_reads r2 r1 (SeqAt.canLay_of_shaped hs.2) (SeqAt.canLay_of_shaped hs.1) (room_in_shaped hs.1 hu) ⟨.bl _, H, I, rfl, q⟩
theorem cmp_inL {n : Nat} (hr : Room n X.A) (q : S ((D.pyAll ds).any fun z => PyData.eqv z d1.py)) (h : (d1.ok = true ∧ (D.lst ds).ok = true) ∧ SeqAt.shaped d1.py = true ∧ SeqAt.shaped (D.lst ds).py = true) : CmpD X .In d1 (.lst ds) S := CmpD.of (op_inLR (by have := hr.un; omega)) fun x y H Q' r1 r2 k => ⟨_, _, r1, r2, h.1, h.2, k _ q⟩
theorem cmp_inT {n : Nat} (hr : Room n X.A) (q : S ((D.pyAll ds).any fun z => PyData.eqv z d1.py)) (h : (d1.ok = true ∧ (D.tup ds).ok = true) ∧ SeqAt.shaped d1.py = true ∧ SeqAt.shaped (D.tup ds).py = true) : CmpD X .In d1 (.tup ds) S := CmpD.of (op_inTR (by have := hr.un; omega)) fun x y H Q' r1 r2 k => ⟨_, _, r1, r2, h.1, h.2, k _ q⟩
/-- ints in a list, a tuple of ints -/
theorem pyAll_ints : ∀ (ns : List Int) (i : Int), (D.pyAll (ns.map .int)).any (fun z => PyData.eqv z (D.int i).py) = ns.any fun n => n == i
  | [], _ => rfl
  | n :: ns, i => by
    show (PyData.eqv (.int n) (.int i) || (D.pyAll (ns.map .int)).any _) = _
    rw [pyAll_ints ns i]
    rfl
end
end L3

/-! Core35: a loop with a state that is one of some. -/
namespace L3
open PySem PySem.Spec PyProof.Rows L2
section
variable {X : Cx} {Hb : Hp} {a b e : Expr} {Γ : Slots} {pos pn p' : Pos} {D0 : Ends} {rest : List Stmt}
/-- for x in ..: behind i turns the state is one of I i -/
theorem s_stJ {α β : Type} {body : List Stmt} {xn : Str} {Γe : β → α → Slots} {i : Nat} (f : α → D) (xs : List α) (G : β → Slots) (I : Nat → β → Prop) (s0 : β) (h0 : I 0 s0) (hit : EvJ X Hb (.Name xn p') e (G s0) (· = xs.map f))
    (hs : ∀ Hb', Ex Hb Hb' → ∀ n a s, xs[n]? = some a → I n s → Go X Hb' body { D0 with nx := Btw X Hb' (fun Γ' => ∃ s', I (n + 1) s' ∧ Γ' = G s'), ct := Btw X Hb' (fun Γ' => ∃ s', I (n + 1) s' ∧ Γ' = G s'), bk := fun σ H => SemSs X rest D0 σ H } (Γe s a))
    (hd : ∀ s, I xs.length s → Go X Hb rest D0 (G s)) (hsub : Sub Γ (G s0) := by walk_at "sub") (hi : At X.N xn i := by walk_at "ati") (hu : ∀ s a, Up X.N (G s) xn (.dat (f a)) (Γe s a) := by intro _ _; walk_at "up") (hst : ∀ s a, a ∈ xs → Sto (G s) (f a) := by intro _ _ _; walk_at "sto") (nd : X.N.Nodup := by assumption)
    (hp : PassesOwn (model X.prog X.w) X.A X.env X.xe := by exact PassesOwn.never) (hc : X.calm = true := by rfl) (hx : Loc X.env.scope xn := by first | exact Or.inl rfl | exact Or.inr rfl)
    (hfs : ∀ x, foldedSetIterable e X.env x = pure x := by intro _; rfl) (hf : X.fn xn = true ∨ X.env.scope.names.lookup xn = some .local := by first | exact .inl rfl | exact .inr rfl) :
    Go X Hb (.For (.Name xn p') e body [] pos :: rest) D0 Γ := by
  refine go_weak (fun _ _ h => h.sub hsub) (go_forJ (.nm i) (fun _ n Γ' => ∃ s, I n s ∧ Γ' = G s) hit (fun _ _ => ⟨s0, h0, rfl⟩) (fun Hb' eb ds n x Γ' es hx' hI => ?_) (fun ds Γ' es hI => ?_) hp hc (pg_name nd hi.ix hx hf) hfs)
  · subst es
    obtain ⟨s, hI, rfl⟩ := hI
    rw [List.getElem?_map] at hx'
    obtain ⟨a, ha, rfl⟩ : ∃ a, xs[n]? = some a ∧ x = f a := by
      cases z : xs[n]? with
      | none => rw [z] at hx'; cases hx'
      | some a => rw [z] at hx'; cases hx'; exact ⟨a, rfl, rfl⟩
    refine ⟨(G s).set i (.dat (f a)), ⟨hst s a (List.mem_of_getElem? ha), rfl⟩, ?_⟩
    rw [up_set nd hi.ix (hu s a)]
    exact hs Hb' eb n a s ha hI
  · subst es
    obtain ⟨s, hI, rfl⟩ := hI
    rw [List.length_map] at hI
    exact hd s hI
end
end L3

/-! Core36: calls of the own defs by names alone. -/
namespace L3
open PySem PySem.Spec PyProof.Rows L2
/-- the things, by places -/
def putIn {α : Type} (z : α) (perm : List Nat) (l : List α) : List α := perm.map fun i => l.getD i z
/-- how a call by the names ks binds: the i-th parameter gets what stands at place perm[i] -/
structure KwB (K : PySem.W.Frag) (mg : Str → Option Value) (x : Str) (ps ks : List Str) (perm : List Nat) : Prop where
  ex : ∃ (f : Addr) (fd : FuncData) (oc : Value) (od : Option Addr) (osl : Array (Option Value)), mg x = some (.ref f) ∧ K.lookup f = some ⟨oc, od, .func fd, osl⟩ ∧
    (∀ us : List Value, us.length = ps.length → bindArgs fd ⟨us, []⟩ = pure (ps.zip us)) ∧ ∀ ws : List Value, ws.length = ks.length → bindArgs fd ⟨[], ks.zip ws⟩ = pure (ps.zip (putIn .none perm ws))
  len : perm.length = ps.length
  few : ∀ i ∈ perm, i < ks.length
theorem vals_put {zs : List V} {ws : List Value} (r : Vals zs ws) : ∀ {perm : List Nat}, (∀ i ∈ perm, i < zs.length) → Vals (putIn .non perm zs) (putIn .none perm ws)
  | [], _ => .nil
  | i :: perm, h => by
    have hi : i < zs.length := h i List.mem_cons_self
    have e : zs[i]? = some zs[i] := List.getElem?_eq_getElem hi
    obtain ⟨u, hu, ru⟩ := r.get e
    refine .cons ?_ (vals_put r fun j m => h j (List.mem_cons_of_mem _ m))
    show RelV (zs.getD i .non) (ws.getD i .none)
    rw [List.getD_eq_getElem?_getD, e, List.getD_eq_getElem?_getD, hu]
    exact ru
theorem rep_put {K : PySem.W.Frag} {H : Hp} {vs : List V} {ds : List D} (r : RepAll K H vs ds) : ∀ {perm : List Nat}, (∀ i ∈ perm, i < vs.length) → RepAll K H (putIn .non perm vs) (putIn .non perm ds)
  | [], _ => .nil
  | i :: perm, h => by
    have hi : i < vs.length := h i List.mem_cons_self
    have e : vs[i]? = some vs[i] := List.getElem?_eq_getElem hi
    obtain ⟨d, hd, rd⟩ := r.get' e
    refine .cons ?_ (rep_put r fun j m => h j (List.mem_cons_of_mem _ m))
    show Rep K H (vs.getD i .non) (ds.getD i .non)
    rw [List.getD_eq_getElem?_getD, e, List.getD_eq_getElem?_getD, hd]
    exact rd
theorem zip_inj {ps qs : List Str} {us : List Value} (h1 : us.length = ps.length) (h2 : us.length = qs.length) (h : ps.zip us = qs.zip us) : ps = qs := by
  have := congrArg (List.map Prod.fst) h
  rwa [List.map_fst_zip (by omega), List.map_fst_zip (by omega)] at this
theorem binds_one {K : PySem.W.Frag} {fd : FuncData} {ps qs : List Str} {s : Shared} (hk : K.In s.heap) (hb : Binds K fd qs []) (he : ∀ us : List Value, us.length = ps.length → bindArgs fd ⟨us, []⟩ = pure (ps.zip us)) (hl : qs.length = ps.length) (M : Model) (A : Around) (G : PySem.Ctx) (p : Pos) (hG : G.In A) : qs = ps := by
  have l1 : (List.replicate ps.length Value.none).length = ps.length := List.length_replicate
  have h := hb s (List.replicate ps.length Value.none) hk (by rw [List.append_nil, l1, hl]) M A (fun _ _ => False) (fun b _ => b = qs.zip (List.replicate ps.length Value.none ++ [])) rfl
  rw [he _ l1, List.append_nil] at h
  have h2 : ps.zip (List.replicate ps.length Value.none) = qs.zip (List.replicate ps.length Value.none) := h G p hG
  exact (zip_inj l1 (by rw [l1, hl]) h2).symm
section
variable {X : Cx} {Hb : Hp} {e : Expr} {Γ : Slots} {pos pn : Pos} {Q : D → Prop} {S S1 : List D → Prop} {fr : Bool} {kws : List Keyword}
structure SemKP (X : Cx) (kws : List Keyword) (σ : L2.St) (H : Hp) (Q : List V → Hp → Prop) : Prop where
  run : ∀ pos pins s, Inv X pins σ H s → wpAny (model X.prog X.w) X.A (evalAll ((backToKw pos (keywordEach kws X.env)).map (·.2))) (AP X pins σ Q) X.xe s
abbrev SemK (X : Cx) (kws : List Keyword) : TA := fun σ H Q => SemKP X kws σ H Q
theorem semK (X : Cx) (kws : List Keyword) : PK X kws (SemK X kws) := ⟨fun pos pins s _ _ _ I h => h.run pos pins s I⟩
theorem SemK.of {t : TA} {σ : L2.St} {H : Hp} {Q : List V → Hp → Prop} (h : PK X kws t) (q : t σ H Q) : SemK X kws σ H Q := ⟨fun pos pins s I => h.run pos pins s σ H Q I q⟩
/-- the values of keywords, as they stand -/
def EvK (X : Cx) (Hb : Hp) (kws : List Keyword) (Γ : Slots) (S : List D → Prop) : Prop := ∀ σ H, EnvOk X.K Hb Γ σ H → ∀ Q : List V → Hp → Prop, (∀ vs H' ds, S ds → Ex H H' → RepAll X.K H' vs ds → Q vs H') → SemK X kws σ H Q
theorem wk_nil (q : S []) : EvK X Hb [] Γ S := fun σ H en Q k => SemK.of pk_nil (k [] H [] q Ex.refl .nil)
theorem wk_cons {nm : Option Str} {kpos : Pos} (h : EvN X Hb e Γ false fun d => EvK X Hb kws Γ fun ds => S (d :: ds)) (hn : nm.isSome = true := by rfl) : EvK X Hb (⟨nm, e, kpos⟩ :: kws) Γ S := by
  obtain ⟨nm, rfl⟩ := Option.isSome_iff_exists.mp hn
  exact fun σ H en Q k => SemK.of (pk_cons (semE X e) (semK X kws)) (h σ H en _ fun v H1 d s1 x1 r1 _ => s1 σ H1 (en.ex x1) _ fun vs H2 ds s2 x2 r2 => k _ H2 _ s2 (x1.trans x2) (.cons (r1.ex x2) r2))
/-- f(k = v, ..) -/
theorem w_callK {x : Str} {k k' : Nat} {P : Pr} {ps ks : List Str} {perm : List Nat} (KB : KwB X.K X.mg x ps ks perm) (F : FnP X.prog X.w X.K X.mg X.base x k P) (hr : Room k' X.A) (h : EvK X Hb kws Γ fun ds => Cl P (putIn .non perm ds) Q ∧ ds.length = ks.length) (hk : k ≤ k' := by decide)
    (hg : Gl X x := by rfl) (hall : (backToKw pos (keywordEach kws X.env)).all (·.1.isSome) = true := by rfl) (hks : (backToKw pos (keywordEach kws X.env)).filterMap (·.1) = ks := by rfl)
    (hdb : (x == ("__debug__" : Str)) = false := by decide) (hpl : ((backTo pos (starEach [] X.env)).any (·.1) || (backToKw pos (keywordEach kws X.env)).any (·.1.isNone)) = false := by rfl) :
    EvN X Hb (.Call (.Name x pn) [] kws pos) Γ fr Q := EvN.fresh fun σ H en Q' q => by
  obtain ⟨f, fd, ps', G, hm, hkp, hb, oc, od, osl, lk⟩ := F.ex
  obtain ⟨f2, fd2, oc2, od2, osl2, hm2, lk2, he, hw⟩ := KB.ex
  rw [hm] at hm2
  cases hm2
  rw [lk] at lk2
  cases lk2
  refine ⟨fun pins s I => ?_⟩
  refine wpAny_Call_Name_kw (ld_glob I hg hm ?_ hdb)
  refine PySem.W.callWith_KW0 (h₀ := X.base) I.ok.mod.kin hkp hall (thn ((h σ H en (fun zs H2 => ∃ ds, RepAll X.K H2 zs ds ∧ Ex H H2 ∧ Cl P (putIn .non perm ds) Q ∧ ds.length = ks.length) fun vs H1 ds s1 x1 r => ⟨ds, r, x1, s1⟩).run pos pins s I) fun ws s2 ⟨zs, H2, I2, rz, ds, ra, x2, hcl, hl⟩ => ⟨I2.kIn, ?_⟩) hpl
  rw [hks]
  have hz : zs.length = ks.length := ra.length.trans hl
  obtain ⟨S0, hP, hS⟩ := hcl
  have hp : RepAll X.K H2 (putIn .non perm zs) (putIn .non perm ds) := rep_put ra fun i m => by rw [hz]; exact KB.few i m
  have hv : Vals (putIn .non perm zs) (putIn .none perm ws) := vals_put rz fun i m => by rw [hz]; exact KB.few i m
  have hsp : spN X.K P (putIn .non perm zs) H2 Q' E0 := ⟨en.tb.ex (en.base.trans x2), _, S0, hp, hP, fun v H' d s0 x3 r3 f3 => q v H' d (hS d s0) (x2.trans x3) r3 fun _ => f3.back x2⟩
  have hlen : ps'.length = ps.length := by
    rw [← G.len _ _ _ _ hsp]
    show (perm.map _).length = _
    rw [List.length_map, KB.len]
  intro G0 p0 hG0
  have e := binds_one I2.kIn hb he hlen (model X.prog X.w) X.A G0 p0 hG0
  subst e
  refine wpAny_call (codeAny_mono (G.run X.A X.stack s2 H2 ⟨[], ks.zip ws⟩ (putIn .none perm ws) (putIn .non perm zs) Q' E0 (hr.mono hk) I2.env0 (BindsTo.of_eq (hw ws (rz.length.symm.trans hz))) hv hsp) fun r s' hq => ?_) G0 p0 hG0
  cases r with
  | error e => exact pass0 pins σ H2 s2 e s' I2 hq
  | ok fl =>
    cases fl with
    | ret u => exact I2.after hq
    | next => exact False.elim hq
    | brk => exact False.elim hq
    | cont => exact False.elim hq
end
end L3

/-! Core37: items of a list of one's own that are set: xs[i] = e; xs[i], xs[j] = a, b; xs[i], y = a, b. -/
namespace L3
open PySem PySem.Spec PyProof.Rows L2
section
variable {X : Cx} {Hb : Hp} {e ix i1 i2 : Expr} {Γ : Slots} {pos p1 p2 q1 q2 pt : Pos} {D0 : Ends} {rest : List Stmt} {ds : List D}
/-- xs[i], xs[j] = a, b -/
theorem s_setTwo {p : Addr} {xn : Str} {kt : Nat} (hL : Look X.N Γ xn (.own p ds)) (h : EvN X Hb e Γ false fun d => ∃ d1 d2, d = .tup [d1, d2] ∧ (d1.flat = true ∧ d2.flat = true) ∧ EvN X Hb i1 Γ false fun z1 => ∃ k1, z1 = .int k1 ∧ ∃ j1, ixN ds.length k1 = some j1 ∧ Up1 X.N Γ xn (.own p (ds.set j1 d1)) fun Γ1 => EvN X Hb i2 Γ1 false fun z2 => ∃ k2, z2 = .int k2 ∧ ∃ j2, ixN ds.length k2 = some j2 ∧ Up1 X.N Γ1 xn (.own p ((ds.set j1 d1).set j2 d2)) fun Γ2 => Go X Hb rest D0 Γ2) (nd : X.N.Nodup)
    (hv : Vis X.env.scope xn := by first | exact Or.inl rfl | exact Or.inr (Or.inl rfl) | exact Or.inr (Or.inr rfl)) (hdb : (xn == ("__debug__" : Str)) = false := by decide) (hcd : (xn == ("__classdict__" : Str)) = false := by decide) (hc : X.calm = true := by rfl)
    (hw : swappedStores [.Tuple [.Subscript (.Name xn q1) i1 p1, .Subscript (.Name xn q2) i2 p2] kt pt] e X.env = pure none := by rfl)
    (hn : (assignEach [.Subscript (.Name xn q1) i1 p1, .Subscript (.Name xn q2) i2 p2] X.env).length = 2 := by rfl) (hst : (assignEach [.Subscript (.Name xn q1) i1 p1, .Subscript (.Name xn q2) i2 p2] X.env).findIdx? (·.1) = none := by rfl)
    (hz1 : (assignEach (.Subscript (.Name xn q1) i1 p1 :: [.Subscript (.Name xn q2) i2 p2]) X.env).map (·.2) = assign (.Subscript (.Name xn q1) i1 p1) X.env :: (assignEach [.Subscript (.Name xn q2) i2 p2] X.env).map (·.2) := by rfl) (hz2 : (assignEach (.Subscript (.Name xn q2) i2 p2 :: []) X.env).map (·.2) = assign (.Subscript (.Name xn q2) i2 p2) X.env :: (assignEach [] X.env).map (·.2) := by rfl)
    (hsw : swapsWithSole [.Tuple [.Subscript (.Name xn q1) i1 p1, .Subscript (.Name xn q2) i2 p2] kt pt] e pos.line X.env = pure false := by rfl) (h1 : (assignEach [.Tuple [.Subscript (.Name xn q1) i1 p1, .Subscript (.Name xn q2) i2 p2] kt pt] X.env).map (·.2) = [assign (.Tuple [.Subscript (.Name xn q1) i1 p1, .Subscript (.Name xn q2) i2 p2] kt pt) X.env] := by rfl)
    (hs1 : ∀ v, assign (.Subscript (.Name xn q1) i1 p1) X.env v = (do
      let ov ← holding [v] (eval (.Name xn q1) X.env)
      let iv ← holding [v, ov] (eval i1 X.env)
      standAt p1
      holding [v, ov, iv] (setItem ov iv v)
      release [v, ov, iv] []) := by intro _; rfl)
    (hs2 : ∀ v, assign (.Subscript (.Name xn q2) i2 p2) X.env v = (do
      let ov ← holding [v] (eval (.Name xn q2) X.env)
      let iv ← holding [v, ov] (eval i2 X.env)
      standAt p2
      holding [v, ov, iv] (setItem ov iv v)
      release [v, ov, iv] []) := by intro _; rfl) :
    Go X Hb (.Assign [.Tuple [.Subscript (.Name xn q1) i1 p1, .Subscript (.Name xn q2) i2 p2] kt pt] e pos :: rest) D0 Γ := fun σ H en => by
  obtain ⟨i, hi, hG⟩ := hL.ix
  refine SemSs.cons (ps_asg (semE X e) (pg_tup hc (pgs_cons (pg_sub (pe_var hi hv hdb hcd) (semE X i1) set_list hs1) (pgs_cons (pg_sub (pe_var hi hv hdb hcd) (semE X i2) set_list hs2) pgs_nil hz2) hz1) hn hst) hsw hw h1) (h σ H en _ fun v1 H1 d1 ⟨da, db, ed, ⟨fa, fb⟩, s⟩ x1 r1 _ => ?_)
  subst ed
  cases r1 with
  | tup hq ra =>
    cases ra with
    | cons ra rr =>
      cases rr with
      | cons rb rr =>
        cases rr
        have en1 := en.ex x1
        obtain ⟨hσ, _⟩ := en1.ownW hG
        refine ⟨_, _, rfl, hq, rfl, _, _, rfl, _, hσ, s σ H1 en1 _ fun w1 H2 z1 ⟨k1, ez, j1, hj1, Γ1, hu1, s2⟩ x2 r2 _ => ?_⟩
        subst ez
        cases r2
        have en2 := en1.ex x2
        obtain ⟨_, ws, hw2, rw2, ls⟩ := en2.ownW hG
        refine ⟨p, ws, k1, j1, rfl, rfl, hw2, by rw [rw2.length]; exact hj1, ?_⟩
        have rb2 := (rb.ex x2).hide ls fb
        have exH : ∀ o, Ex (hide H2 (owns Γ)) (upd H2 p o) := fun o => Ex.mut hide_ex (hide_in (owns_of hG)) (by rw [hw2]; trivial)
        have en3 := en2.mutOwn hG (RepAll.set ((ra.ex x2).hide ls fa) j1 rw2)
        obtain ⟨jj, hjj, rfl⟩ := hu1.ix
        have := nodup_ix nd hi hjj
        subst this
        have hG1 : (Γ.set i (.own p (ds.set j1 da)))[i]? = some (.own p (ds.set j1 da)) := by
          have hlt : i < Γ.length := (List.getElem?_eq_some_iff.mp hG).1
          rw [List.getElem?_set_self hlt]
        obtain ⟨hσ3, _⟩ := en3.ownW hG1
        refine ⟨_, _, rfl, _, hσ3, s2 σ _ en3 _ fun w2 H3 z2 ⟨k2, ez2, j2, hj2, Γ2, hu2, g⟩ x3 r3 _ => ?_⟩
        subst ez2
        cases r3
        have en4 := en3.ex x3
        obtain ⟨_, ws4, hw4, rw4, ls4⟩ := en4.ownW hG1
        refine ⟨p, ws4, k2, j2, rfl, rfl, hw4, by rw [rw4.length, List.length_set]; exact hj2, ?_⟩
        have en5 := en4.mutOwn hG1 (RepAll.set (((rb2.ex (exH _)).ex x3).hide ls4 fb) j2 rw4)
        obtain ⟨jj, hjj, rfl⟩ := hu2.ix
        have := nodup_ix nd hi hjj
        subst this
        exact ⟨rfl, g σ _ en5⟩
/-- xs[i], y = a, b -/
theorem s_setNm {p : Addr} {xn yn : Str} {kt : Nat} (hL : Look X.N Γ xn (.own p ds)) (h : EvN X Hb e Γ false fun d => ∃ d1 d2, d = .tup [d1, d2] ∧ (d1.flat = true ∧ d2.flat = true) ∧ EvN X Hb i1 Γ false fun z1 => ∃ k1, z1 = .int k1 ∧ ∃ j1, ixN ds.length k1 = some j1 ∧ Up1 X.N Γ xn (.own p (ds.set j1 d1)) fun Γ1 => Up1 X.N Γ1 yn (.dat d2) fun Γ2 => Go X Hb rest D0 Γ2) (nd : X.N.Nodup) (hL2 : Has X.N yn)
    (hv : Vis X.env.scope xn := by first | exact Or.inl rfl | exact Or.inr (Or.inl rfl) | exact Or.inr (Or.inr rfl)) (hdb : (xn == ("__debug__" : Str)) = false := by decide) (hcd : (xn == ("__classdict__" : Str)) = false := by decide) (hc : X.calm = true := by rfl)
    (hy : Loc X.env.scope yn := by first | exact Or.inl rfl | exact Or.inr rfl) (hf2 : X.fn yn = true ∨ X.env.scope.names.lookup yn = some .local := by first | exact .inl rfl | exact .inr rfl)
    (hw : swappedStores [.Tuple [.Subscript (.Name xn q1) i1 p1, .Name yn q2] kt pt] e X.env = pure none := by rfl)
    (hn : (assignEach [.Subscript (.Name xn q1) i1 p1, .Name yn q2] X.env).length = 2 := by rfl) (hst : (assignEach [.Subscript (.Name xn q1) i1 p1, .Name yn q2] X.env).findIdx? (·.1) = none := by rfl)
    (hz1 : (assignEach (.Subscript (.Name xn q1) i1 p1 :: [.Name yn q2]) X.env).map (·.2) = assign (.Subscript (.Name xn q1) i1 p1) X.env :: (assignEach [.Name yn q2] X.env).map (·.2) := by rfl) (hz2 : (assignEach (.Name yn q2 :: []) X.env).map (·.2) = assign (.Name yn q2) X.env :: (assignEach [] X.env).map (·.2) := by rfl)
    (hsw : swapsWithSole [.Tuple [.Subscript (.Name xn q1) i1 p1, .Name yn q2] kt pt] e pos.line X.env = pure false := by rfl) (h1 : (assignEach [.Tuple [.Subscript (.Name xn q1) i1 p1, .Name yn q2] kt pt] X.env).map (·.2) = [assign (.Tuple [.Subscript (.Name xn q1) i1 p1, .Name yn q2] kt pt) X.env] := by rfl)
    (hs1 : ∀ v, assign (.Subscript (.Name xn q1) i1 p1) X.env v = (do
      let ov ← holding [v] (eval (.Name xn q1) X.env)
      let iv ← holding [v, ov] (eval i1 X.env)
      standAt p1
      holding [v, ov, iv] (setItem ov iv v)
      release [v, ov, iv] []) := by intro _; rfl) :
    Go X Hb (.Assign [.Tuple [.Subscript (.Name xn q1) i1 p1, .Name yn q2] kt pt] e pos :: rest) D0 Γ := fun σ H en => by
  obtain ⟨i, hi, hG⟩ := hL.ix
  obtain ⟨j, hj⟩ := hL2.ix
  refine SemSs.cons (ps_asg (semE X e) (pg_tup hc (pgs_cons (pg_sub (pe_var hi hv hdb hcd) (semE X i1) set_list hs1) (pgs_cons (pg_name nd hj hy hf2) pgs_nil hz2) hz1) hn hst) hsw hw h1) (h σ H en _ fun v1 H1 d1 ⟨da, db, ed, ⟨fa, fb⟩, s⟩ x1 r1 _ => ?_)
  subst ed
  cases r1 with
  | tup hq ra =>
    cases ra with
    | cons ra rr =>
      cases rr with
      | cons rb rr =>
        cases rr
        have en1 := en.ex x1
        obtain ⟨hσ, _⟩ := en1.ownW hG
        refine ⟨_, _, rfl, hq, rfl, _, _, rfl, _, hσ, s σ H1 en1 _ fun w1 H2 z1 ⟨k1, ez, j1, hj1, Γ1, hu1, Γ2, hu2, g⟩ x2 r2 _ => ?_⟩
        subst ez
        cases r2
        have en2 := en1.ex x2
        obtain ⟨_, ws, hw2, rw2, ls⟩ := en2.ownW hG
        refine ⟨p, ws, k1, j1, rfl, rfl, hw2, by rw [rw2.length]; exact hj1, ?_⟩
        have rb2 := (rb.ex x2).hide ls fb
        have exH : ∀ o, Ex (hide H2 (owns Γ)) (upd H2 p o) := fun o => Ex.mut hide_ex (hide_in (owns_of hG)) (by rw [hw2]; trivial)
        have en3 := en2.mutOwn hG (RepAll.set ((ra.ex x2).hide ls fa) j1 rw2)
        obtain ⟨jj, hjj, rfl⟩ := hu1.ix
        have := nodup_ix nd hi hjj
        subst this
        obtain ⟨j2, hj2, rfl⟩ := hu2.ix
        have := nodup_ix nd hj hj2
        subst this
        exact ⟨_, _, rfl, rfl, g _ _ (en3.setDat (rb2.ex (exH _)) (.inl fb))⟩
end
end L3

/-! Core38: [elt for x in range(..)] where the range is one of some. -/
namespace L3
open PySem PySem.Spec PyProof.Rows L2
section
variable {X : Cx} {Hb : Hp} {elt iter : Expr} {scope : Scope} {Γ : Slots} {p' : Pos} {Q : D → Prop}
theorem lcRN {xn : Str} {Γe : D → Slots} {i : Nat} (SR : Int → Nat → Prop) (SE : Int → D → Prop) (hit : EvR X Hb iter Γ SR)
    (he : ∀ (lo : Int) (n j : Nat), SR lo n → j < n → ∀ (s : Shared) (H : Hp) (C : Addr) (cl : List (Str × Addr)) (fp : List Addr), EvN (inCx X scope s H C cl fp) Hb elt (Γe (.int (lo + j))) false (SE (lo + j))) (q : ∀ lo n ys, SR lo n → Paired (fun (j : Nat) d => SE (lo + j) d) (List.range n) ys → Q (.lst ys)) (hfl : ∀ a d, SE a d → d.flat = true) (hlen : ∀ lo n, SR lo n → n < 100000)
    (hi : At X.N xn i := by walk_at "ati") (hu : ∀ x, Up X.N Γ xn (.dat x) (Γe x) := by intro _; walk_at "up")
    (nd : X.N.Nodup := by assumption) (hc : X.calm = true := by rfl) (ok : blkC X.N X.env.scope scope [(xn, i)] = true := by walk_at "blk")
    (hg : AllIn X scope fun Y => PG Y (.Name xn p') (gName i) := by exact fun _ _ _ _ _ => pg_name (by assumption) rfl (Or.inl rfl)) (hs : ∀ x, foldedSetIterable iter X.env x = pure x := by intro _; rfl) :
    LcX X Hb elt (.Name xn p') iter [] scope Γ Q := by
  refine ⟨_, (lcvR (own := [(xn, i)]) (fr := false) i SE hit (fun lo n j sr hj s H C cl fp => ?_) hfl hlen hc nd (blkOk_by ok) hi.ix (fun σ v => by simp [wipe, List.set_set]) hg hs).imp ?_⟩
  · have h := he lo n j sr hj s H C cl fp
    rw [← up_set nd hi.ix (hu (.int (lo + j)))] at h
    show EvN _ Hb elt ((Γ.set i .any).set i (.dat (.int (lo + j)))) false _
    rw [List.set_set]
    exact h
  · rintro z ⟨lo, n, ys, sr, rfl, hp⟩
    exact q lo n ys sr hp
end
end L3

/-! Core39: a loop over things of a kind, nothing carried. -/
namespace L3
open PySem PySem.Spec PyProof.Rows L2
section
variable {X : Cx} {Hb : Hp} {a b e : Expr} {Γ : Slots} {pos pn p' : Pos} {D0 : Ends} {rest : List Stmt} {ds : List D} {es : List Expr}
/-- for x in .., nothing carried, each thing one of P -/
theorem s_repQ {body : List Stmt} {xn : Str} {Γe : D → Slots} {i : Nat} {S1 : List D → Prop} (P : D → Prop) (Γ0 : Slots) (hit : EvJ X Hb (.Name xn p') e Γ S1) (hP : ∀ ds, S1 ds → ∀ x ∈ ds, P x)
    (hs : ∀ Hb', Ex Hb Hb' → ∀ a, P a → Go X Hb' body { D0 with nx := fun σ H => EnvOk X.K Hb' Γ0 σ H, ct := fun σ H => EnvOk X.K Hb' Γ0 σ H, bk := fun σ H => SemSs X rest D0 σ H } (Γe a))
    (hd : Go X Hb rest D0 Γ0) (hst : ∀ a, P a → Sto Γ0 a) (h0 : Sub Γ Γ0 := by walk_at "sub") (hi : At X.N xn i := by walk_at "ati") (hu : ∀ a, Up X.N Γ0 xn (.dat a) (Γe a) := by intro _; walk_at "up") (nd : X.N.Nodup := by assumption)
    (hp : PassesOwn (model X.prog X.w) X.A X.env X.xe := by exact PassesOwn.never) (hc : X.calm = true := by rfl) (hx : Loc X.env.scope xn := by first | exact Or.inl rfl | exact Or.inr rfl)
    (hfs : ∀ x, foldedSetIterable e X.env x = pure x := by intro _; rfl) (hf : X.fn xn = true ∨ X.env.scope.names.lookup xn = some .local := by first | exact .inl rfl | exact .inr rfl) :
    Go X Hb (.For (.Name xn p') e body [] pos :: rest) D0 Γ := fun σ H en => by
  obtain ⟨wi, hpi, hw⟩ := hit
  refine SemSs.cons (ps_for hp hc hpi (pg_name nd hi.ix hx hf) (semSs X body) hfs) ?_
  refine hw σ H en _ fun J H' ds s x ⟨G, Y, w, hG, hY⟩ => ?_
  have en' := en.ex x
  have eb : Ex Hb (hide H' (owns Γ)) := en'.wide.1.toEx
  have en1 : EnvOk X.K (hide H' (owns Γ)) Γ0 σ H' := EnvOk.sub h0 ⟨_, en'.wide.1.self, en'.wide.2⟩
  refine for_it w (fun i σ H => EnvOk X.K (hide H' (owns Γ)) Γ0 σ H) en1 (fun i σ H _ en2 => hG _ en2.base) ?_ ?_
  · intro k v σ2 H2 H3 hk en2 y
    obtain ⟨x3, d, hd, r⟩ := hY k H2 v H3 hk en2.base y
    have hm := hP ds s d (List.mem_of_getElem? hd)
    exact put_ok (t := .nm i) (own := [i]) (Γ' := Γe d) ⟨hst d hm, (up_set nd hi.ix (hu d)).symm⟩ (fun _ m => m) (en2.ex x3) r _ fun σ' en' _ => hs _ eb d hm σ' H3 en'
  · intro σ2 H2 en2
    exact hd _ H2 (en2.wb en'.wide.1)
/-- a list display gone over, nothing of one's own about -/
theorem wi_disp {S1 : List D → Prop} (h : EvA X Hb es Γ S1) (hl : ∀ ds, S1 ds → ds.length ≤ 1000) (ho : owns Γ = [] := by rfl) : EvI X Hb (.List es pos) Γ S1 := wi_free (evn_lst h hl) ho
end
end L3

/-! Core40: sorted(xs, key=lambda v: v[0] * (b // v[1])), b a name of the def. -/
namespace L3
open PySem PySem.Spec PyProof.Rows L2
/-! ### expressions that change no object -/
section
variable {prog : Program} {w : World} {A : Around} {env : Env} {s : Shared} {a b : Expr} {pos p1 : Pos}
def PureE (prog : Program) (w : World) (A : Around) (env : Env) (e : Expr) (s : Shared) (R : Value → Prop) : Prop :=
  ∀ (tk : Nat) (Q E : Value → Shared → Prop), (∀ v tk', R v → Q v { s with toks := tk' }) → wpAny (model prog w) A (eval e env) Q E { s with toks := tk }
abbrev IsI (i : Int) (v : Value) : Prop := ∃ t, v = .int i t
theorem pu_int {i : Int} {k : Nat} : PureE prog w A env (.Constant (.int i) k pos) s (IsI i) := fun tk Q E q => wpAny_Constant_int (q _ _ ⟨_, rfl⟩)
theorem pu_local {x : Str} {m : Str → Option Value} {v : Value} (hk : env.scope.kind = .function) (hl : env.kindOf x = some .local) (hn : s.heap.Ns env.locals m) (hm : m x = some v) (hd : (x == ("__debug__" : Str)) = false) : PureE prog w A env (.Name x pos) s (· = v) :=
  fun tk Q E q => wpAny_Name (wpAny_loadName_local hk hl hn hm (q v tk rfl)) hd
theorem pu_free {x : Str} {c : Addr} {v : Value} (hk : env.scope.kind = .function) (hl : env.kindOf x = some .free) (hc : env.cells.lookup x = some c) (hv : s.heap.IsCell c (some v)) (hd : (x == ("__debug__" : Str)) = false) (hcd : (x == ("__classdict__" : Str)) = false) : PureE prog w A env (.Name x pos) s (· = v) :=
  fun tk Q E q => wpAny_Name (wpAny_loadName_free hk hl hc hv (q v tk rfl) hcd) hd
theorem pu_ixT {p : Addr} {its : List Value} {i : Int} {j k : Nat} {v0 : Value} (ha : PureE prog w A env a s (· = .ref p)) (hp : IsTup s.heap p its.toArray) (hi : seqIndex? i its.length = some j) (h0 : -(2 ^ 63) ≤ i) (h1 : i < 2 ^ 63) (hj : its[j]? = some v0) : PureE prog w A env (.Subscript a (.Constant (.int i) k p1) pos) s (· = v0) :=
  fun tk Q E q => Subscript_ (ha tk _ _ fun v tk' e => by
    subst e
    refine pu_int (s := s) tk' _ _ fun v2 tk2 ⟨t, e2⟩ => ?_
    subst e2
    exact subscriptTail_builtinR (x := v0) (IsTup.typeIs (show IsTup (Shared.heap { s with toks := tk2 }) p its.toArray from hp)) slot_tuple_getitem.lookup (getItem_tuple (j := j) hp h0 h1 (by rw [List.size_toArray]; exact hi) (by simpa using hj) ⟨rfl, q _ _ rfl⟩))
theorem pu_mul {i j : Int} (ha : PureE prog w A env a s (IsI i)) (hb : PureE prog w A env b s (IsI j)) (hm : IntMulOk i j) : PureE prog w A env (.BinOp a .Mult b pos) s (IsI (i * j)) :=
  fun tk Q E q => wpAny_BinOp (ha tk _ _ fun v tk' ⟨t, e⟩ => hb tk' _ _ fun v2 tk2 ⟨t2, e2⟩ => by
    subst e e2
    exact PyProof.Rows.mul_int (q _ _ ⟨_, rfl⟩) hm)
theorem pu_fdiv {i j : Int} (ha : PureE prog w A env a s (IsI i)) (hb : PureE prog w A env b s (IsI j)) (h0 : j ≠ 0) (hp : Builtin.divisionGoesByPylong i j = false) : PureE prog w A env (.BinOp a .FloorDiv b pos) s (IsI (i.fdiv j)) :=
  fun tk Q E q => wpAny_BinOp (ha tk _ _ fun v tk' ⟨t, e⟩ => hb tk' _ _ fun v2 tk2 ⟨t2, e2⟩ => by
    subst e e2
    exact PyProof.Rows.floordiv_int h0 (q _ _ ⟨_, rfl⟩) (.inl hp))
/-- a lambda of one parameter called -/
theorem lam_run {f c' : Addr} {qual x : Str} {params : Arguments} {body : Expr} {scope : Scope} {clos : List (Str × Addr)} {pm ctv v : Value} {k : Int}
    (ho : s.heap.get? f = some (PySem.W.kla_obj "<lambda>" qual params body scope clos pm c' ctv)) (hcd : s.heap.CodeRec (.ref c') qual) (room : A.depth < recursionLimit) (lim : s.heap.NoLimit) (hco : scope.isCoroutine = false) (hge : scope.isGenerator = false) (hki : scope.kind = .function)
    (hbi : bindArgs (PySem.W.kla_fn "<lambda>" qual params body scope clos pm (.ref c') ctv) ⟨[v], []⟩ = pure [(x, v)]) (hx : scope.names.lookup x = some .local) (hnc : ∀ y ∈ scope.names, y.2 ≠ .cell)
    (hb : ∀ (A' : Around) (L : Addr) (h' : Heap) (tk : Nat), (∀ b o, s.heap.get? b = some o → h'.get? b = some o) → h'.Ns L (fun z => [(x, v)].reverse.lookup z) → PureE prog w A' (PySem.W.envX qual scope L f (.ref c') clos) body { s with heap := h', toks := tk } (IsI k)) :
    wpAny (model prog w) A (call (.ref f) [v]) (PySem.W.KeyPure (.int k) s) (fun _ _ => False) s := by
  refine wpAny_call (PySem.W.kla_callFunE room ho rfl hco hge rfl hcd ?_)
  rw [hbi]
  refine wpAny_pure (wpAny_newFunctionEnv hnc (fun y hy => by rw [List.mem_singleton.mp hy]; exact hx) (fun h1 hns hsb => ⟨lim.fresh _ hsb, ?_⟩) hki)
  have kp : ∀ b o, s.heap.get? b = some o → h1.get? b = some o := fun b o e => hsb.extBut b o (Nat.ne_of_lt (Heap.lt_size e)) (Heap.get?_push_of_some _ e)
  refine PySem.W.kla_codeExpr (hb _ _ h1 (s.toks + [(x, v)].length) kp hns (s.toks + [(x, v)].length) _ _ fun u tk' hu => ?_)
  obtain ⟨t, rfl⟩ := hu
  exact ⟨h1, tk', rfl, kp, .int k t⟩
end
/-! ### the lambda made -/
section
variable {X : Cx} {pins : List (Addr × Obj)} {σ : L2.St} {H : Hp} {s : Shared}
/-- its code object is new, or found; a table may get more, all else stays -/
theorem lam_mk {c P : Addr} {ps : Arguments} {bd : Expr} {sc : Scope} {pos : Pos} {E Q : Value → Shared → Prop} (I : Inv X pins σ H s) (TB : LamX.TabB X.base X.mg c P) (hcode : X.env.code = .ref c) (hq : X.env.qual ++ "<lambda>" = lamQ) (tS : LamX.TabS H P lamQ)
    (hdef : defaultsOf ps X.env = ([], [])) (hfr : ∀ y ∈ sc.names, y.2 = .free → ∃ c, X.env.cells.lookup y.1 = some c)
    (k : ∀ (f c' : Addr) (pm ctv : Value) (H1 : Hp) (s1 : Shared), Inv X pins σ H1 s1 → Ex H H1 → s1.heap.get? f = some (PySem.W.kla_obj "<lambda>" (X.env.qual ++ "<lambda>") ps bd sc (cloFrom X.env.cells sc.names []) pm c' ctv) → s1.heap.CodeRec (.ref c') (X.env.qual ++ "<lambda>") → Q (.ref f) s1) :
    wpAny (model X.prog X.w) X.A (eval (.Lambda ps bd sc pos) X.env) Q E s := by
  obtain ⟨tb, hP, tri, hall⟩ := tS
  have bP := TB.bm.keeps I.bk
  have gP := I.hok P _ hP
  refine PySem.W.kla_eval hdef ?_
  rcases hc : codeAmong pos tb.toList with _ | cv
  · refine PySem.W.kla_makeFunction (ps := tb) (mg := X.mg) (P := P) (c := c) (closure_ok hfr) I.ok.glob (I.mod.glob.keeps I.bk) hcode (TB.code.keeps I.bk) gP tri hc TB.gP bP fun c' ctv h1 tk hx hge hlt hrec htb => ?_
    obtain ⟨c2, oc, vs, t, e2, hoc, hd, hv⟩ := hrec
    cases e2
    have nC : H c' = none := I.hok.fresh hge
    have nPc : P ≠ c' := ne_of_none hP nC
    have J := LamX.inv_table (q := X.env.qual ++ "<lambda>") (t' := tk) (more := #[rawInt pos.line, rawInt pos.col, .ref c']) (h' := h1.push (PySem.W.kla_obj "<lambda>" (X.env.qual ++ "<lambda>") ps bd sc (cloFrom X.env.cells sc.names []) ((X.mg "__name__").getD .none) c' ctv)) I hP
      (fun b o nb e => Heap.get?_push_of_some _ (hx b o nb e)) (Heap.get?_push_of_some _ htb) hge ⟨oc, vs, t, Heap.get?_push_of_some _ hoc, hd, hv⟩
    refine k h1.objs.size c' _ ctv _ _ J ⟨fun b o e n => ?_, fun b e => ?_, fun P' t' => ?_⟩ (Heap.get?_push_size _ rfl) ⟨c', oc, vs, t, rfl, Heap.get?_push_of_some _ hoc, hd, hv⟩
    · rw [upd_ne (ne_of_none e nC), upd_ne fun z => n tb (Option.some.inj (e.symm.trans (by rw [z]; exact hP)))]
      exact e
    · by_cases z : b = c'
      · rw [z, upd_same] at e; cases e
      · rw [upd_ne z] at e
        by_cases z2 : b = P
        · rw [z2, upd_same] at e; cases e
        · rw [upd_ne z2] at e; exact e
    · have old : ∀ a q, H a = some (LamX.CodeO a q) → upd (upd H P (.tbl (tb ++ #[rawInt pos.line, rawInt pos.col, .ref c']))) c' (LamX.CodeO c' (X.env.qual ++ "<lambda>")) a = some (LamX.CodeO a q) := fun a q e => by
        rw [upd_ne (ne_of_none e nC), upd_ne fun z => by rw [z, hP] at e; exact LamX.codeO_ne _ (Option.some.inj e).symm]
        exact e
      by_cases z : P' = P
      · subst z
        have eL : (tb ++ #[rawInt pos.line, rawInt pos.col, .ref c']).toList = tb.toList ++ [rawInt pos.line, rawInt pos.col, .ref c'] := by simp
        refine ⟨_, by rw [upd_ne nPc, upd_same], by rw [eL]; exact PySem.TriplesOk_snoc _ _ _ _ tri, fun p' cv hcv => ?_⟩
        rw [eL] at hcv
        rcases LamX.among_app _ tri hcv with z | z
        · obtain ⟨c0, e1, e2⟩ := hall p' cv z
          exact ⟨c0, e1, old _ _ e2⟩
        · exact ⟨c', z, by rw [upd_same, hq]⟩
      · obtain ⟨ps', a1, a2, a3⟩ := t'
        refine ⟨ps', by rw [upd_ne (ne_of_none a1 nC), upd_ne z]; exact a1, a2, fun p' cv hcv => ?_⟩
        obtain ⟨c0, e1, e2⟩ := a3 p' cv hcv
        exact ⟨c0, e1, old _ _ e2⟩
  · obtain ⟨c', e, hco⟩ := hall pos cv hc
    subst e
    refine PySem.W.kla_makeFunctionHit (ps := tb) (mg := X.mg) (P := P) (c := c) (closure_ok hfr) I.ok.glob (I.mod.glob.keeps I.bk) hcode (TB.code.keeps I.bk) gP tri hc bP fun ctv h1 tk hx hsz => ?_
    have J : Inv X pins σ H { s with heap := h1.push (PySem.W.kla_obj "<lambda>" (X.env.qual ++ "<lambda>") ps bd sc (cloFrom X.env.cells sc.names []) ((X.mg "__name__").getD .none) c' ctv), toks := tk } := I.kept fun b o e => Heap.get?_push_of_some _ (hx b o e)
    obtain ⟨⟨oc, vs, t, h2, h3, h4⟩, _, _⟩ := I.hok c' _ hco
    refine k h1.objs.size c' _ ctv H _ J Ex.refl (Heap.get?_push_size _ rfl) ⟨c', oc, vs, t, rfl, Heap.get?_push_of_some _ (hx _ _ h2), h3, ?_⟩
    rw [hq]
    exact h4
end
/-! ### sorted by it -/
/-- a pair of ints -/
abbrev dII (p : Int × Int) : D := .tup [.int p.1, .int p.2]
/-- a lambda's text: v[0] * (b // v[1]) -/
abbrev keyX (xv yb : Str) (k0 k1 : Nat) (q1 q2 q3 q4 q5 q6 q7 q8 q9 : Pos) : Expr :=
  .BinOp (.Subscript (.Name xv q1) (.Constant (.int 0) k0 q2) q3) .Mult (.BinOp (.Name yb q4) .FloorDiv (.Subscript (.Name xv q5) (.Constant (.int 1) k1 q6) q7) q8) q9
def keyI (B : Int) (p : Int × Int) : Int := p.1 * B.fdiv p.2
structure KeySc (sc : Scope) (xv yb : Str) : Prop where
  kind : sc.kind = .function
  co : sc.isCoroutine = false
  gen : sc.isGenerator = false
  names : sc.names = [(xv, .local), (yb, .free)]
  ne : xv ≠ yb
theorem each_zip {K : PySem.W.Frag} {H : Hp} : ∀ {vs : List V} {us : List Value} {ps : List (Int × Int)}, Vals vs us → RepAll K H vs (ps.map dII) → PySem.W.EachIs (fun u (b : V × (Int × Int)) => RelV b.1 u ∧ Rep K H b.1 (dII b.2)) us (vs.zip ps)
  | _, _, [], r, ra => by cases ra; cases r; exact .nil
  | _, _, p :: ps, r, ra => by
    cases ra with
    | cons h1 h2 =>
      cases r with
      | cons r1 r2 => exact .cons ⟨r1, h1⟩ (each_zip r2 h2)
theorem each_back {K : PySem.W.Frag} {H : Hp} : ∀ {us : List Value} {bs : List (V × (Int × Int))}, PySem.W.EachIs (fun u (b : V × (Int × Int)) => RelV b.1 u ∧ Rep K H b.1 (dII b.2)) us bs → Vals (bs.map (·.1)) us ∧ RepAll K H (bs.map (·.1)) ((bs.map (·.2)).map dII)
  | _, _, .nil => ⟨.nil, .nil⟩
  | _, _, .cons ⟨h1, h2⟩ r => let ⟨a, b⟩ := each_back r; ⟨.cons h1 a, .cons h2 b⟩
section
variable {X : Cx} {Hb : Hp} {a : Expr} {Γ : Slots} {pos pn lpos kpos : Pos} {Q : D → Prop}
theorem w_sortK {xv yb : Str} {c P : Addr} {k : Nat} {B : Int} {sc : Scope} {prm : Arguments} {k0 k1 : Nat} {q1 q2 q3 q4 q5 q6 q7 q8 q9 : Pos} (hm : X.mg "sorted" = none) (TB : LamX.TabB X.base X.mg c P) (hcode : X.env.code = .ref c) (tb : LamX.TabS Hb P lamQ) (hr : Room k X.A)
    (hL : Look X.N Γ yb (.dat (.int B)))
    (h : EvN X Hb a Γ false fun d => ∃ ps : List (Int × Int), d = .lst (ps.map dII) ∧ (ps.length ≤ 100000 ∧ ∀ p ∈ ps, p.2 ≠ 0 ∧ Builtin.divisionGoesByPylong B p.2 = false ∧ IntMulOk p.1 (B.fdiv p.2)) ∧ ∀ qs : List (Int × Int), qs.Perm ps → qs.Pairwise (fun p q => keyI B p ≤ keyI B q) → Q (.lst (qs.map dII)))
    (S : KeySc sc xv yb) (hcell : X.env.scope.names.lookup yb = some .cell) (hq : X.env.qual ++ "<lambda>" = lamQ := by rfl) (hdef : defaultsOf prm X.env = ([], []) := by rfl)
    (hbi : ∀ (q : Str) (cl : List (Str × Addr)) (pm cv ctv v : Value), bindArgs (PySem.W.kla_fn "<lambda>" q prm (keyX xv yb k0 k1 q1 q2 q3 q4 q5 q6 q7 q8 q9) sc cl pm cv ctv) ⟨[v], []⟩ = pure [(xv, v)] := by intro _ _ _ _ _ _; rfl)
    (hd1 : (xv == ("__debug__" : Str)) = false := by decide) (hd2 : (yb == ("__debug__" : Str)) = false := by decide) (hd3 : (yb == ("__classdict__" : Str)) = false := by decide) (hg : Gl X "sorted" := by rfl)
    (he : backTo pos (starEach (a :: []) X.env) = (false, eval a X.env) :: backTo pos (starEach [] X.env) := by rfl) (hpl : (backTo pos (starEach (a :: []) X.env)).any (·.1) = false := by rfl) (hs : starEach (a :: []) X.env = (false, eval a X.env) :: starEach [] X.env := by rfl) :
    EvN X Hb (.Call (.Name "sorted" pn) [a] [⟨some "key", .Lambda prm (keyX xv yb k0 k1 q1 q2 q3 q4 q5 q6 q7 q8 q9) sc lpos, kpos⟩] pos) Γ true Q := fun σ H en Q' q => ⟨fun pins s I => by
  obtain ⟨iy, hNy, hGy⟩ := hL.ix
  refine wpAny_Call_Name_kw (ld_blt (u := .builtin "sorted") I hg hm (by decide +kernel) ?_)
  have hfr : ∀ y ∈ sc.names, y.2 = .free → ∃ c, X.env.cells.lookup y.1 = some c := fun y hy e => by
    rw [S.names] at hy
    simp only [List.mem_cons, List.not_mem_nil, or_false] at hy
    rcases hy with rfl | rfl
    · cases e
    · exact I.ok.has yb (.inl hcell)
  refine PyProof.Rows.callWith_kw (thn ((SemA.of (pa_cons (semE X a) pa_nil hs) (Q := fun vs H1 => ∃ v ps, vs = [v] ∧ Ex H H1 ∧ Rep X.K H1 v (.lst (ps.map dII)) ∧ (ps.length ≤ 100000 ∧ ∀ p ∈ ps, p.2 ≠ 0 ∧ Builtin.divisionGoesByPylong B p.2 = false ∧ IntMulOk p.1 (B.fdiv p.2)) ∧ ∀ qs : List (Int × Int), qs.Perm ps → qs.Pairwise (fun p q => keyI B p ≤ keyI B q) → Q (.lst (qs.map dII)))
    (h σ H en _ fun v H1 d ⟨ps, e, h1, h2⟩ x1 r1 _ => ⟨v, ps, rfl, x1, by rw [← e]; exact r1, h1, h2⟩)).run pos pins s I) fun us s1 ⟨vs, H1, I1, rv, v, ps, ev, x1, r1, ⟨hlen, hps⟩, hQ⟩ => ?_) he hpl rfl rfl
  subst ev
  have en1 := en.ex x1
  refine wpAny_evalAll_cons (wpAny_bind (lam_mk I1 TB hcode hq ((en.base.trans x1).tab P tb) hdef hfr fun f c' pm ctv H2 s2 I2 x2 hf hcr => wpAny_bind (wpAny_standAt (wpAny_pure (wpAny_evalAll_nil ?_)))))
  cases rv with
  | cons rv0 rr =>
  cases rr
  have r2 := r1.ex x2
  have en2 := en1.ex x2
  cases r2 with
  | @lst l0 xs0 _ hsq ra =>
  cases rv0
  obtain ⟨its, rvs, hl, hz⟩ := I2.list hsq
  -- the cell
  obtain ⟨vb, hσ, rb⟩ := en2.dat hGy
  cases rb
  obtain ⟨m, hns, hlk⟩ := I2.loc
  obtain ⟨ub, rub, lk⟩ := hlk iy yb _ hNy hσ (.inr (.inl hcell))
  obtain ⟨tB, rfl⟩ := rub
  obtain ⟨cc, hcc, hic⟩ : ∃ cc, X.env.cells.lookup yb = some cc ∧ s2.heap.IsCell cc (some (.int B tB)) := by
    rcases lk with ⟨z, _⟩ | ⟨_, cc, z1, z2⟩
    · rw [show X.env.kindOf yb = some .cell from hcell] at z; cases z
    · exact ⟨cc, z1, z2⟩
  have hclo : (cloFrom X.env.cells sc.names []).lookup yb = some cc := by
    rw [S.names]
    show List.lookup yb [(yb, (X.env.cells.lookup yb).getD 0)] = some cc
    rw [hcc, List.lookup_cons, BEq.rfl]
    rfl
  have hx : sc.names.lookup xv = some .local := by rw [S.names, List.lookup_cons, BEq.rfl]
  have hy : sc.names.lookup yb = some .free := by
    rw [S.names, List.lookup_cons, show (yb == xv) = false from beq_eq_false_iff_ne.mpr S.ne.symm, List.lookup_cons, BEq.rfl]
  have hE := each_zip rvs ra
  have hlz : xs0.length = ps.length := ra.length.trans (List.length_map ..)
  have hal : PySem.W.AllAlike ((xs0.zip ps).map fun b : V × (Int × Int) => PyData.int (keyI B b.2)) := fun d hd d' hd' => by
    obtain ⟨b, _, rfl⟩ := List.mem_map.mp hd
    obtain ⟨b', _, rfl⟩ := List.mem_map.mp hd'
    rfl
  refine PySem.W.sorted_key_data (b := false) (fun b : V × (Int × Int) => PyData.int (keyI B b.2)) hl.isList hE hal (.inr fun d hd => ?_) ?_ (fun b hb => ?_) (PyProof.Rows.ksk_s1 _ _) (fun _ => PyProof.Rows.ksk_l1 _ _) (fun _ => PyProof.Rows.ksk_t1 _ _) (fun v b hR hb h' tk hk => ?_) (fun out c0 h' tk hk hnone hout hol hoE => ?_)
  · obtain ⟨b, _, rfl⟩ := List.mem_map.mp hd
    exact ⟨(fun z => nomatch z), fun _ z => nomatch z⟩
  · rw [List.length_zip, hlz, Nat.min_self]
    exact Nat.le_trans hlen (by decide)
  · show X.A.units + 2 + 0 < cLine
    have := hr.un
    omega
  · obtain ⟨hR1, hR2⟩ := hR
    obtain ⟨h0, hdv, hmu⟩ := hps b.2 (List.of_mem_zip hb).2
    obtain ⟨bv, bt, bb⟩ := b
    cases hR2 with
    | @tup p ys _ hq2 ra2 =>
    cases ra2 with
    | cons i1 ra3 =>
    cases ra3 with
    | cons i2 ra4 =>
    cases ra4
    cases i1
    cases i2
    cases hR1
    obtain ⟨its2, rv2, ht, _⟩ := I2.tuple hq2
    cases rv2 with
    | cons w1 rv3 =>
    cases rv3 with
    | cons w2 rv4 =>
    cases rv4
    obtain ⟨t1, rfl⟩ := w1
    obtain ⟨t2, rfl⟩ := w2
    have hcr' : h'.CodeRec (.ref c') (X.env.qual ++ "<lambda>") := by
      obtain ⟨c3, oc, vs, t, e1, e2, e3, e4⟩ := hcr
      exact ⟨c3, oc, vs, t, e1, hk _ _ e2, e3, e4⟩
    refine lam_run (s := { s2 with heap := h', toks := tk }) (hk _ _ hf) hcr' (by have := hr.dp; show X.A.depth < _; omega) (I2.nolimit.keeps hk) S.co S.gen S.kind (hbi _ _ _ _ _ _) hx (fun y hy e => ?_) fun A' L h3 tk3 hk3 hns3 => ?_
    · rw [S.names] at hy
      simp only [List.mem_cons, List.not_mem_nil, or_false] at hy
      rcases hy with rfl | rfl <;> cases e
    · have ht3 : IsTup h3 p [Value.int bt t1, Value.int bb t2].toArray := (ht.keeps hk).keeps hk3
      have pv : ∀ pos, PureE X.prog X.w A' (PySem.W.envX (X.env.qual ++ "<lambda>") sc L f (.ref c') (cloFrom X.env.cells sc.names [])) (.Name xv pos) { s2 with heap := h3, toks := tk3 } (· = .ref p) := fun pos =>
        pu_local (m := fun z => [(xv, Value.ref p)].reverse.lookup z) S.kind hx hns3 (by show List.lookup xv [(xv, Value.ref p)] = _; rw [List.lookup_cons, BEq.rfl]) hd1
      refine pu_mul ?_ (pu_fdiv ?_ ?_ h0 hdv) hmu
      · exact fun tk' Q E q => pu_ixT (j := 0) (v0 := .int bt t1) (pv _) ht3 rfl (by decide) (by decide) rfl tk' Q E fun v tk'' e => q v tk'' ⟨t1, e⟩
      · exact fun tk' Q E q => pu_free (x := yb) (env := PySem.W.envX (X.env.qual ++ "<lambda>") sc L f (.ref c') (cloFrom X.env.cells sc.names [])) S.kind hy hclo ((hic.keeps hk).keeps hk3) hd2 hd3 tk' Q E fun v tk'' e => q v tk'' ⟨tB, e⟩
      · exact fun tk' Q E q => pu_ixT (j := 1) (v0 := .int bb t2) (pv _) ht3 rfl (by decide) (by decide) rfl tk' Q E fun v tk'' e => q v tk'' ⟨t2, e⟩
  · rw [PySem.W.dataLe_int] at hoE
    obtain ⟨bs', hbs'⟩ : ∃ bs', (xs0.zip ps).mergeSort (fun a b => decide (keyI B a.2 ≤ keyI B b.2)) = bs' := ⟨_, rfl⟩
    rw [hbs'] at hoE
    obtain ⟨va, ra'⟩ := each_back hoE
    have pm : bs'.Perm (xs0.zip ps) := by rw [← hbs']; exact List.mergeSort_perm _ _
    have pw : bs'.Pairwise (fun a b => decide (keyI B a.2 ≤ keyI B b.2) = true) := by
      rw [← hbs']
      exact List.pairwise_mergeSort (fun a b c h1 h2 => by simp only [decide_eq_true_eq] at *; omega) (fun a b => by simp only [Bool.or_eq_true, decide_eq_true_eq]; omega) _
    have pm2 : (bs'.map (·.2)).Perm ps := by
      have := pm.map (·.2)
      rwa [List.map_snd_zip (by omega)] at this
    have hl3 : (bs'.map (·.1)).length ≤ sizeLine := by
      rw [List.length_map, pm.length_eq, List.length_zip, hlz, Nat.min_self]
      exact Nat.le_trans hlen (by decide)
    have nP : H2 (s2.heap.objs.size + 1) = none := I2.hok.fresh (Nat.le_succ _)
    refine ⟨.ref _, upd H2 (s2.heap.objs.size + 1) (.lst (bs'.map (·.1))), I2.laid (t' := tk) hk (Nat.le_succ _) ⟨hl3, out, c0, va, hout⟩, rfl, ?_⟩
    have rr := ra'.ex (Ex.new (o := .lst (bs'.map (·.1))) nP)
    refine q _ _ _ (hQ (bs'.map (·.2)) pm2 (by rw [List.pairwise_map]; exact pw.imp fun z => of_decide_eq_true z)) ((x1.trans x2).trans (Ex.new nP)) (.lst (SqL.of upd_same) rr) fun _ => freshL nP (x1.trans x2) ra'⟩
end
/-! ### a def whose code object is known -/
section
variable {P : Program} {w : World} {K : PySem.W.Frag} {mg : Str → Option Value} {base : Heap}
theorem fnP_detC {α : Type} {args : α → List D} {pre : α → Prop} {res : α → D} {x qual : Str} {st : Stmt} {f cc : Addr} {fd : FuncData} {N ps : List Str} {k : Nat} (F : Fun K x qual st f fd) (hcc : fd.code = .ref cc) (Sc : FnScope N ps (defScope st)) (hm : mg x = some (.ref f)) (hb : Binds K fd ps []) (har : ∀ a, pre a → (args a).length = ps.length)
    (hbody : ∀ (A : Around) (outer : List Env) (s : Shared) (H : Hp) (E : XK), Room k (A.deeper (envOfC qual (defScope st) s.heap.objs.size f (.ref cc))) → N.Nodup → TbOk K H → ∀ a, pre a →
      Go (bodyCx P w K mg base N qual (defScope st) f (.ref cc) A outer s H E) H (defBody st) { nx := fun _ H' => .non = res a ∧ Ex H H', rt := fun v H' => ∃ d, d = res a ∧ Rt K H d v H' } (slots0 N (args a))) : FnP P w K mg base x (k + 1) (detP args pre res) := by
  obtain ⟨oc, od, kV, doc, pm, an, cdv, ct, osl, efd, lk, hcd⟩ := F.ex
  subst efd
  have e1 : cdv = .ref cc := hcc
  subst e1
  refine ⟨f, _, ps, fn_of lk hcd Sc (fun vs H Q' E h => ?_) (fun A outer s H vs Q' E hr h => ?_), hm, F.kp, hb, oc, od, osl, lk⟩
  · obtain ⟨_, ds, S, r, ⟨a, ea, ha, _⟩, _⟩ := h
    rw [r.length, ea]
    exact har a ha
  · obtain ⟨tb, ds, S, r, ⟨a, ea, ha, eS⟩, hk⟩ := h
    subst ea eS
    refine ⟨_, (semSs _ _).nox, ?_⟩
    have go := hbody A outer s H E hr Sc.nd tb a ha _ _ (env_start (N := N) r tb)
    exact go.mono (fun σ' H' ⟨sd, x⟩ => hk .non H' .non sd x .non trivial) (fun v H' ⟨d, sd, x, rp, f⟩ => hk v H' d sd x rp f) (fun _ _ h => h) fun _ _ h => h
end
end L3

/-! Core41: int(b) of a truth value. -/
namespace L3
open PySem PySem.Spec PyProof.Rows L2
section
variable {X : Cx} {Hb : Hp} {a : Expr} {Γ : Slots} {pos pn : Pos} {Q : D → Prop} {fr : Bool}
theorem w_toIntB (hm : X.mg "int" = none) (h : EvA X Hb [a] Γ fun ds => ∃ b, ds = [.bl b] ∧ Q (.int (if b then 1 else 0))) (hg : Gl X "int" := by rfl) (he : starEach (a :: []) X.env = (false, eval a X.env) :: starEach [] X.env := by rfl) (hpl : (backTo pos (starEach [] X.env)).any (·.1) = false := by rfl) :
    EvN X Hb (.Call (.Name "int" pn) [a] [] pos) Γ fr Q := EvN.fresh <|
  evn_Ty call_int1 hm h (fun vs H ds' Q s r k => by
    obtain ⟨b, s, q⟩ := s
    subst s
    cases r with
    | cons r1 r2 =>
      cases r2
      cases r1
      exact .inr ⟨b, rfl, k _ _ _ q Ex.refl (.int _) (FreshD.flat rfl)⟩) (by decide +kernel) hg (by decide) (by decide) he hpl
end
/-- the table's address, by the parts of K -/
theorem tabIn_of {K : PySem.W.Frag} {f cc PP : Addr} {oc o2 : Value} {od d2 : Option Addr} {fd : FuncData} {sl s2 : Array (Option Value)} {vs : Array Value} (hn : PySem.W.nsIn K mainGlobals "sorted_fractions" = some (some (.ref f))) (hf : K.lookup f = some ⟨oc, od, .func fd, sl⟩) (hcd : fd.code = .ref cc) (hc : K.lookup cc = some ⟨o2, d2, .fields vs, s2⟩) (hv : vs[11]? = some (.ref PP)) :
    PySem.W.tabIn K "sorted_fractions" = some (cc, PP) := by
  unfold PySem.W.tabIn
  simp only [hn, hf, hcd, hc, hv]
end L3

/-! Core42: not in. -/
namespace L3
open PySem PySem.Spec PyProof.Rows L2
section
variable {X : Cx} {d1 : D} {ds : List D} {S : Bool → Prop}
theorem op_ninT (hu : X.A.units + 65 < cLine) : OpR X (compareOp .NotIn) (fun x y H Q => ∃ d ds, Rep X.K H x d ∧ Rep X.K H y (.tup ds) ∧ (d.ok = true ∧ (D.tup ds).ok = true) ∧ (SeqAt.shaped d.py = true ∧ SeqAt.shaped (D.tup ds).py = true) ∧ Q (.bl (!(D.pyAll ds).any fun z => PyData.eqv z d.py)) H) := by
  intro pins s σ H x y v u Q I rx ry ⟨d, ds, h1, h2, ho, hs, q⟩
  obtain ⟨as, r1, _⟩ := Rep.reads I d x v h1 ho.1 rx
  obtain ⟨bs, r2, _⟩ := Rep.reads I _ y u h2 ho.2 ry
  exact SeqAt.notIn_tuple_reads r2 r1 (SeqAt.canLay_of_shaped hs.2) (SeqAt.canLay_of_shaped hs.1) (room_in_shaped hs.1 hu) ⟨.bl _, H, I, rfl, q⟩
theorem op_ninL (hu : X.A.units + 65 < cLine) : OpR X (compareOp .NotIn) (fun x y H Q => ∃ d ds, Rep X.K H x d ∧ Rep X.K H y (.lst ds) ∧ (d.ok = true ∧ (D.lst ds).ok = true) ∧ (SeqAt.shaped d.py = true ∧ SeqAt.shaped (D.lst ds).py = true) ∧ Q (.bl (!(D.pyAll ds).any fun z => PyData.eqv z d.py)) H) := by
  intro pins s σ H x y v u Q I rx ry ⟨d, ds, h1, h2, ho, hs, q⟩
  obtain ⟨as, r1, _⟩ := Rep.reads I d x v h1 ho.1 rx
  obtain ⟨bs, r2, _⟩ := Rep.reads I _ y u h2 ho.2 ry
  exact SeqAt.notIn_list_reads r2 r1 (SeqAt.canLay_of_shaped hs.2) (SeqAt.canLay_of_shaped hs.1) (room_in_shaped hs.1 hu) ⟨.bl _, H, I, rfl, q⟩
theorem cmp_ninT {n : Nat} (hr : Room n X.A) (q : S (!(D.pyAll ds).any fun z => PyData.eqv z d1.py)) (h : (d1.ok = true ∧ (D.tup ds).ok = true) ∧ SeqAt.shaped d1.py = true ∧ SeqAt.shaped (D.tup ds).py = true) : CmpD X .NotIn d1 (.tup ds) S := CmpD.of (op_ninT (by have := hr.un; omega)) fun x y H Q' r1 r2 k => ⟨_, _, r1, r2, h.1, h.2, k _ q⟩
theorem cmp_ninL {n : Nat} (hr : Room n X.A) (q : S (!(D.pyAll ds).any fun z => PyData.eqv z d1.py)) (h : (d1.ok = true ∧ (D.lst ds).ok = true) ∧ SeqAt.shaped d1.py = true ∧ SeqAt.shaped (D.lst ds).py = true) : CmpD X .NotIn d1 (.lst ds) S := CmpD.of (op_ninL (by have := hr.un; omega)) fun x y H Q' r1 r2 k => ⟨_, _, r1, r2, h.1, h.2, k _ q⟩
end
end L3

/-! Core43: zip of two tuples. -/
namespace L3
open PySem PySem.Spec PyProof.Rows L2
theorem walk_zipT {K : PySem.W.Frag} {a b : Addr} {xs ys : List V} {n : Nat} (hn : n = min xs.length ys.length) : Walk (RZ.ItzT K a b) n (fun H => SqT K H a xs ∧ SqT K H b ys) (YPair (fun i => xs[i]?) (fun i => ys[i]?)) := by
  subst hn
  refine ⟨fun i _ hi q => ?_, fun _ q => ⟨xs, ys, q.1, q.2, by omega⟩, fun i H v H' _ q y => ?_⟩
  · have h1 : i < xs.length := by omega
    have h2 : i < ys.length := by omega
    exact ⟨xs, ys, xs[i], ys[i], q.1, q.2, by simp [h1], by simp [h2]⟩
  · obtain ⟨T, x, z, h1, h2, h3, h4, h5⟩ := y
    exact ⟨T, x, z, h1, h2, h3, h4 xs q.1, h5 ys q.2⟩
theorem jt_zipT {K : PySem.W.Frag} {Hz : Hp} {p q : Addr} {vs ws : List V} {ds es : List D} (hq : SqT K Hz p vs) (ra : RepAll K Hz vs ds) (hq2 : SqT K Hz q ws) (ra2 : RepAll K Hz ws es) : Jt K Hz (RZ.ItzT K p q) (List.zipWith (fun a b => D.tup [a, b]) ds es) := by
  refine ⟨_, _, walk_zipT (xs := vs) (ys := ws) (by rw [List.length_zipWith, ra.length, ra2.length]), fun H2 e => ⟨SqT.ex e hq, SqT.ex e hq2⟩, fun i H2 v H3 hi e y => ?_⟩
  obtain ⟨T, x, y, rfl, hT, rfl, hx, hy⟩ := y
  obtain ⟨d, hd, r⟩ := ra.get' hx
  obtain ⟨d2, hd2, r2⟩ := ra2.get' hy
  refine ⟨Ex.new hT, .tup [d, d2], by rw [List.getElem?_zipWith, hd, hd2], .tup (SqT.of upd_same) (.cons ((r.ex e).ex (Ex.new hT)) (.cons ((r2.ex e).ex (Ex.new hT)) .nil))⟩
section
variable {X : Cx} {Hb : Hp} {a b : Expr} {Γ : Slots} {pos p' : Pos} {ds : List D}
theorem evj_zipT {S1 S2 : List D → Prop} {pn : Pos} {elts : List Expr} {kk : Nat} {tpos : Pos} (hm : X.mg "zip" = none) (h : EvIT X Hb a Γ S1) (h2 : EvIT X Hb b Γ S2) (hg : Gl X "zip" := by rfl) (hs : starEach [a, b] X.env = (false, eval a X.env) :: starEach [b] X.env := by rfl) (hs2 : starEach [b] X.env = [(false, eval b X.env)] := by rfl) (hpl : (backTo pos (starEach [b] X.env)).any (·.1) = false := by rfl) :
    EvJ X Hb (.Tuple elts kk tpos) (.Call (.Name "zip" pn) [a, b] [] pos) Γ (fun z => ∃ ds es, z = List.zipWith (fun a b => D.tup [a, b]) ds es ∧ S1 ds ∧ S2 es) :=
  ⟨_, RZ.pi_zipA hg hm (pa_cons (semE X a) (pa_cons (semE X b) pa_nil hs2) hs) hs hpl, fun σ H en R q => h σ H en _ fun a vs H' ds s x hq ra => h2 σ H' (en.ex x) _ fun b ws H2 es s2 x2 hq2 ra2 => by
    have xh : Ex (hide H' (owns Γ)) (hide H2 (owns Γ)) := x2.hides (owns_lsts ((en.ex x).ex x2).wide.2.2.1)
    exact ⟨a, b, vs, ws, rfl, .inr ⟨SqT.ex x2 (SqT.ex hide_ex hq), SqT.ex hide_ex hq2, q _ H2 _ ⟨ds, es, rfl, s, s2⟩ (x.trans x2) (jt_zipT (SqT.ex xh hq) (ra.ex xh) hq2 ra2)⟩⟩⟩
/-- over zip of two tuples -/
theorem wj_zipT {α β : Type} {f : α → D} {g : β → D} {xs : List α} {ys : List β} {pn tpos : Pos} {elts : List Expr} {kt : Nat} (hm : X.mg "zip" = none) (ha : EvIT X Hb a Γ (· = xs.map f)) (hb : EvIT X Hb b Γ (· = ys.map g))
    (hg : Gl X "zip" := by rfl) (hs : starEach [a, b] X.env = (false, eval a X.env) :: starEach [b] X.env := by rfl) (hs2 : starEach [b] X.env = [(false, eval b X.env)] := by rfl) (hpl : (backTo pos (starEach [b] X.env)).any (·.1) = false := by rfl) :
    EvJ X Hb (.Tuple elts kt tpos) (.Call (.Name "zip" pn) [a, b] [] pos) Γ (· = (List.zip xs ys).map fun p => D.tup [f p.1, g p.2]) :=
  (evj_zipT (S1 := (· = xs.map f)) (S2 := (· = ys.map g)) hm ha hb hg hs hs2 hpl).imp fun z ⟨ds, es, e, e1, e2⟩ => by
    rw [e, e1, e2]
    exact zipW_map xs ys
end
end L3

/-! Core44: what is passed by names, by places. -/
namespace L3
open PySem PySem.Spec PyProof.Rows L2
section
variable {P : Pr} {Q : D → Prop} {x0 x1 x2 x3 : D}
theorem cput0 (h : Cl P [x0] Q) : Cl P (putIn .non [0] [x0]) Q := h
theorem cput01 (h : Cl P [x0, x1] Q) : Cl P (putIn .non [0, 1] [x0, x1]) Q := h
theorem cput10 (h : Cl P [x1, x0] Q) : Cl P (putIn .non [1, 0] [x0, x1]) Q := h
theorem cput012 (h : Cl P [x0, x1, x2] Q) : Cl P (putIn .non [0, 1, 2] [x0, x1, x2]) Q := h
theorem cput021 (h : Cl P [x0, x2, x1] Q) : Cl P (putIn .non [0, 2, 1] [x0, x1, x2]) Q := h
theorem cput102 (h : Cl P [x1, x0, x2] Q) : Cl P (putIn .non [1, 0, 2] [x0, x1, x2]) Q := h
theorem cput120 (h : Cl P [x1, x2, x0] Q) : Cl P (putIn .non [1, 2, 0] [x0, x1, x2]) Q := h
theorem cput201 (h : Cl P [x2, x0, x1] Q) : Cl P (putIn .non [2, 0, 1] [x0, x1, x2]) Q := h
theorem cput210 (h : Cl P [x2, x1, x0] Q) : Cl P (putIn .non [2, 1, 0] [x0, x1, x2]) Q := h
theorem cput0123 (h : Cl P [x0, x1, x2, x3] Q) : Cl P (putIn .non [0, 1, 2, 3] [x0, x1, x2, x3]) Q := h
theorem cput1032 (h : Cl P [x1, x0, x3, x2] Q) : Cl P (putIn .non [1, 0, 3, 2] [x0, x1, x2, x3]) Q := h
theorem cput2301 (h : Cl P [x2, x3, x0, x1] Q) : Cl P (putIn .non [2, 3, 0, 1] [x0, x1, x2, x3]) Q := h
theorem cput3210 (h : Cl P [x3, x2, x1, x0] Q) : Cl P (putIn .non [3, 2, 1, 0] [x0, x1, x2, x3]) Q := h
end
end L3

/-! Core45: xs.index(e), a list of ints. -/
namespace L3
open PySem PySem.Spec PyProof.Rows L2
section
variable {X : Cx} {Hb : Hp} {o e : Expr} {Γ : Slots} {cpos apos : Pos} {Q : D → Prop} {fr : Bool}
/-- the first place of a thing in a list of ints -/
def IdxD (ns : List Int) (d2 : D) (Q : D → Prop) : Prop := ∃ (k : Int) (j : Nat), d2 = .int k ∧ ns[j]? = some k ∧ (∀ m, m < j → ns[m]? ≠ some k) ∧ Q (.int (j : Nat))
theorem idxD {ns : List Int} {k : Int} (j : Nat) (q : Q (.int (j : Nat))) (h : ns[j]? = some k ∧ ∀ m, m < j → ns[m]? ≠ some k) : IdxD ns (.int k) Q := ⟨k, j, rfl, h.1, h.2, q⟩
theorem w_index (h : EvN X Hb o Γ false fun d1 => ∃ ns : List Int, d1 = .lst (ns.map .int) ∧ EvN X Hb e Γ false fun d2 => IdxD ns d2 Q)
    (hbase : attributeBase o "index" X.env (eval o X.env) = eval o X.env := by rfl)
    (hfew : ((backTo cpos (starEach (e :: []) X.env)).all (fun x => !x.1) && (backToKw cpos (keywordEach [] X.env)).all (fun x => x.1.isSome) && decide ((e :: []).length + ([] : List Keyword).length + (if ([] : List Keyword).isEmpty then 0 else 1) < 30)) = true := by rfl)
    (hline : (apos.endLine == cpos.line) = true := by rfl) (hs : starEach (e :: []) X.env = (false, eval e X.env) :: starEach [] X.env := by rfl) (hplain : (backTo cpos (starEach [] X.env)).any (·.1) = false := by rfl) :
    EvN X Hb (.Call (.Attribute o "index" apos) [e] [] cpos) Γ fr Q := EvN.fresh fun σ H en Q' q =>
  SemE.of (pe_bm PySem.F.plainAttrs_list PySem.F.slot_list_index PySem.F.type_list_index mt_index (semE X o) (pa_cons (semE X e) pa_nil hs) hbase hfew hline hs hplain)
    (h σ H en _ fun v H1 d1 ⟨ns, e1, s1⟩ x1 r1 _ => by
      subst e1
      cases r1 with
      | @lst a vs _ hq ra =>
        refine ⟨.inl ⟨rfl, _, hq⟩, s1 σ H1 (en.ex x1) _ fun w H2 d2 s2 x2 r2 _ => ?_⟩
        obtain ⟨k, j, rfl, h1, h2, hq2⟩ := s2
        cases r2
        have ev := RepAll.ints ra
        refine ⟨a, vs, .int k, j, .int k, rfl, rfl, SqL.ex x2 hq, rfl, ?_, ?_, ?_, ?_, q _ H2 _ hq2 (x1.trans x2) (.int _) fun _ => trivial⟩
        · rw [ev, List.all_map, List.all_eq_true]
          intro x _
          rfl
        · rw [ev, List.getElem?_map, h1]
          rfl
        · show decide (k = k) = true
          simp
        · intro m z hm hz
          rw [ev, List.getElem?_map] at hz
          cases hn : ns[m]? with
          | none => rw [hn] at hz; cases hz
          | some y =>
            rw [hn] at hz
            injection hz with hz
            subst hz
            have hne : y ≠ k := fun z => h2 m hm (by rw [hn, z])
            show decide (y = k) = false
            exact decide_eq_false hne)
end
end L3

/-! Core46: *e in a display; sorted(set(xs)), len(set(xs)) of tuples of ints; xs.extend(e). -/
namespace L3
open PySem PySem.Spec PyProof.Rows L2
def dTI (ns : List Int) : D := .tup (ns.map .int)
theorem rep_tups {K : PySem.W.Frag} {H : Hp} : ∀ {vs : List V} {L : List (List Int)}, RepAll K H vs (L.map dTI) → ∃ ks : List (Addr × List Int), vs = ks.map (fun p => V.ref p.1) ∧ ks.map (·.2) = L ∧ ∀ p ∈ ks, SqT K H p.1 (p.2.map V.int)
  | [], [], _ => ⟨[], rfl, rfl, fun p m => nomatch m⟩
  | v :: vs, ns :: L, .cons h r => by
    obtain ⟨ks, e1, e2, h2⟩ := rep_tups r
    cases h with
    | @tup a ws _ hq ra =>
      have ew := RepAll.ints ra
      refine ⟨(a, ns) :: ks, by rw [e1]; rfl, by rw [← e2]; rfl, fun p m => ?_⟩
      rcases List.mem_cons.mp m with e | m
      · rw [e, ← ew]; exact hq
      · exact h2 p m
theorem tups_rep {K : PySem.W.Frag} {H : Hp} : ∀ (ks : List (Addr × List Int)), (∀ p ∈ ks, SqT K H p.1 (p.2.map V.int)) → RepAll K H (ks.map fun p => V.ref p.1) ((ks.map (·.2)).map dTI)
  | [], _ => .nil
  | p :: ks, h => .cons (.tup (h p List.mem_cons_self) (repAll_ints p.2)) (tups_rep ks fun q m => h q (List.mem_cons_of_mem _ m))
section
variable {X : Cx} {Hb : Hp} {a b e : Expr} {es : List Expr} {Γ : Slots} {pos p' apos cpos q0 : Pos} {ds : List D} {Q : D → Prop} {fr : Bool} {D0 : Ends} {rest : List Stmt}
/-- *e among the things of a display -/
theorem wa_star {S : List D → Prop} {sp : Pos} (h : EvN X Hb e Γ false fun d => ∃ xs, d = .tup xs ∧ EvA X Hb es Γ fun ds => S (xs ++ ds)) (hs : starEach (.Starred e sp :: es) X.env = (true, eval e X.env) :: starEach es X.env := by rfl) : EvA X Hb (.Starred e sp :: es) Γ S := fun σ H en Q q =>
  SemA.of (StX.pa_star (semE X e) (semA X es) hs) (h σ H en _ fun v H1 d1 ⟨xs, e1, s1⟩ x1 r1 _ => by
    subst e1
    cases r1 with
    | @tup a vs _ hq ra => exact ⟨a, vs, rfl, .inl hq, s1 σ H1 (en.ex x1) _ fun ws H2 ds s2 x2 r2 => q _ H2 _ s2 (x1.trans x2) ((RepAll.ex x2 ra).append r2)⟩)
/-- what sorted(set(xs)) asks and gives -/
def SortSetD (d : D) (Q : D → Prop) : Prop := ∃ (L : List (List Int)) (n : Nat) (B : Int), d = .lst (L.map dTI) ∧ (L.length < 64 ∧ 1 ≤ n ∧ ∀ ns ∈ L, ns.length = n ∧ TS.Bd B ns) ∧
  ∀ L' : List (List Int), L'.Nodup → (∀ ns, ns ∈ L' ↔ ns ∈ L) → L'.Pairwise (fun q r => TS.code B q ≤ TS.code B r) → Q (.lst (L'.map dTI))
theorem w_sortSet {pn p2 : Pos} {k : Nat} (hm : X.mg "sorted" = none) (hm2 : X.mg "set" = none) (hr : Room k X.A) (h : EvN X Hb a Γ false fun d => SortSetD d Q) (hc : X.calm = true := by rfl) (hg : Gl X "sorted" := by rfl) (hg2 : Gl X "set" := by rfl)
    (hs : starEach [a] X.env = (false, eval a X.env) :: starEach [] X.env := by rfl) (hs2 : starEach [.Call (.Name "set" p2) [a] [] q0] X.env = (false, eval (.Call (.Name "set" p2) [a] [] q0) X.env) :: starEach [] X.env := by rfl) (hpl : (backTo q0 (starEach [] X.env)).any (·.1) = false := by rfl) (hpl2 : (backTo pos (starEach [] X.env)).any (·.1) = false := by rfl) :
    EvN X Hb (.Call (.Name "sorted" pn) [.Call (.Name "set" p2) [a] [] q0] [] pos) Γ fr Q := EvN.fresh fun σ H en Q' q =>
  SemE.of (pe_callB (cr_sortedT hc) hg hm (by decide +kernel) (pa_cons (pe_callTy (cr_setOfT hc hr.units) hg2 hm2 (by decide +kernel) (pa_cons (semE X a) pa_nil hs) (by decide) (by decide) hs hpl) pa_nil hs2) (by decide) (by decide) hs2 hpl2)
    (h σ H en _ fun v H1 d1 ⟨L, n, B, e1, ⟨hl, hn, hB⟩, s1⟩ x1 r1 _ => by
      subst e1
      cases r1 with
      | @lst l vs _ hq ra =>
        obtain ⟨ks, e1, e2, hk⟩ := rep_tups ra
        have hkl : ks.length < 64 := by rw [← e2, List.length_map] at hl; exact hl
        refine ⟨l, ks, rfl, e1 ▸ hq, hk, hkl, fun a M ha hM1 hM2 => ?_⟩
        refine ⟨a, M, n, B, rfl, upd_same, fun p hp => SqT.ex (Ex.new ha) (hk p (hM1 p hp)), hn, fun p hp => hB p.2 (by rw [← e2]; exact List.mem_map.mpr ⟨p, hM1 p hp, rfl⟩), fun L' p hpm hnd hfew hpw hp => ?_⟩
        have hk2 : ∀ q ∈ L', SqT X.K (upd H1 a (SetTO X.prog X.w a M)) q.1 (q.2.map V.int) := fun q hq' => SqT.ex (Ex.new ha) (hk q (hM1 q (hpm.mem_iff.mp hq')))
        have ra2 := tups_rep L' hk2
        refine q _ _ _ (s1 (L'.map (·.2)) hnd (fun ns => ⟨fun m => ?_, fun m => ?_⟩) (List.pairwise_map.mpr hpw)) ((x1.trans (Ex.new ha)).trans (Ex.new hp)) (.lst (SqL.of upd_same) (ra2.ex (Ex.new hp))) fun _ => freshL hp (x1.trans (Ex.new ha)) ra2
        · obtain ⟨r, hr', rfl⟩ := List.mem_map.mp m
          rw [← e2]
          exact List.mem_map.mpr ⟨r, hM1 r (hpm.mem_iff.mp hr'), rfl⟩
        · rw [← e2] at m
          obtain ⟨r, hr', e3⟩ := List.mem_map.mp m
          have := hM2 r hr'
          rw [e3] at this
          obtain ⟨t, ht, e4⟩ := List.mem_map.mp this
          exact List.mem_map.mpr ⟨t, hpm.mem_iff.mpr ht, e4⟩)
/-- xs.extend(e), xs a list of one's own -/
theorem go_extendN (i : Nat) {p : Addr} {xn : Str} {SL : List D → Prop} (h : EvN X Hb e Γ true fun z => ∃ es, z = .lst es ∧ SL es) (hG : Γ[i]? = some (.own p ds) := by rfl) (hf : ∀ es, SL es → D.flatAll es = true ∧ ds.length + es.length ≤ 100000) (g : ∀ es, SL es → Go X Hb rest D0 (Γ.set i (.own p (ds ++ es)))) (hN : X.N[i]? = some xn := by rfl)
    (hv : Vis X.env.scope xn := by first | exact Or.inl rfl | exact Or.inr (Or.inl rfl) | exact Or.inr (Or.inr rfl)) (hdb : (xn == ("__debug__" : Str)) = false := by decide) (hcd : (xn == ("__classdict__" : Str)) = false := by decide)
    (hbase : attributeBase (.Name xn p') "extend" X.env (eval (.Name xn p') X.env) = eval (.Name xn p') X.env := by rfl)
    (hfew : ((backTo cpos (starEach (e :: []) X.env)).all (fun x => !x.1) && (backToKw cpos (keywordEach [] X.env)).all (fun x => x.1.isSome) && decide ((e :: []).length + ([] : List Keyword).length + (if ([] : List Keyword).isEmpty then 0 else 1) < 30)) = true := by rfl)
    (hline : (apos.endLine == cpos.line) = true := by rfl) (hs : starEach (e :: []) X.env = (false, eval e X.env) :: starEach [] X.env := by rfl) (hplain : (backTo cpos (starEach [] X.env)).any (·.1) = false := by rfl)
    (hsw : swapsWith (.Call (.Attribute (.Name xn p') "extend" apos) [e] [] cpos) none pos.line X.env = pure false := by rfl) :
    Go X Hb (.Expr (.Call (.Attribute (.Name xn p') "extend" apos) [e] [] cpos) pos :: rest) D0 Γ := fun σ H en => by
  obtain ⟨hσ, vs, hl1, _, _⟩ := en.ownW hG
  refine SemSs.cons (ps_expr (pe_bm PySem.F.plainAttrs_list PySem.F.slot_list_extend PySem.F.type_list_extend mt_extend (pe_var hN hv hdb hcd) (pa_cons (semE X e) pa_nil hs) hbase hfew hline hs hplain) hsw) ?_
  refine ⟨_, hσ, .inl ⟨rfl, _, SqL.of hl1⟩, h σ H en _ fun v H' d s x r f => ?_⟩
  obtain ⟨es, rfl, s⟩ := s
  have en' := en.ex x
  obtain ⟨_, ws, hl2, rw, ls⟩ := en'.ownW hG
  obtain ⟨q, zs, rfl, hq0, hq1, rz⟩ := f rfl
  obtain ⟨f1, f2⟩ := hf es s
  refine ⟨p, q, ws, zs, rfl, rfl, hl2, hq1, ?_, ?_⟩
  · rw [rw.length, rz.length]
    exact Nat.le_trans f2 (by decide)
  · exact g es s σ _ (en'.mutOwn hG (rw.append (rz.hide ls f1)))
end
end L3

/-! Core47: len(set(xs)) of tuples of ints; xs.extend(e) by walking. -/
namespace L3
open PySem PySem.Spec PyProof.Rows L2
section
variable {X : Cx} {Hb : Hp} {a b e : Expr} {es : List Expr} {Γ : Slots} {pos p' apos cpos q0 : Pos} {ds : List D} {Q : D → Prop} {fr : Bool} {D0 : Ends} {rest : List Stmt}
def rLenT (K : PySem.W.Frag) (P : Program) (w : World) : List V → Hp → VK → Prop := fun vs H Q => ∃ (a : Addr) (L : List (Addr × List Int)), vs = [V.ref a] ∧ H a = some (SetTO P w a L) ∧ (∀ p ∈ L, SqT K H p.1 (p.2.map V.int)) ∧ ((L.map (·.2)).Nodup → L.length < 64 → Q (.int (L.length : Nat)) H)
theorem cr_lenT : CallR X (.builtin "len") (rLenT X.K X.prog X.w) := by
  intro pins s σ H vs us Q I r h
  obtain ⟨a, L, rfl, ha, hk, q⟩ := h
  have R0 : SetT0 X.prog X.w s.heap a L := (I.hok a _ ha).1
  obtain ⟨es, ep, t, R⟩ := R0.full fun p hp => I.isT (hk p hp)
  rw [Vals.ref1 r]
  obtain ⟨o, ho, hex, hd⟩ := R.ob
  have hz := R.size
  have hf := R.few
  refine PySem.call_len_set ho hex hd R.fits (by rw [hz]; omega) ⟨.int L.length, H, I.tok _, ⟨_, by rw [hz]⟩, q R.nd hf⟩
/-- what len(set(xs)) asks and gives -/
def LenSetD (d : D) (Q : D → Prop) : Prop := ∃ (L : List (List Int)), d = .lst (L.map dTI) ∧ L.length < 64 ∧ ∀ L' : List (List Int), L'.Nodup → (∀ ns, ns ∈ L' ↔ ns ∈ L) → Q (.int (L'.length : Nat))
theorem w_lenSet {pn p2 : Pos} {k : Nat} (hm : X.mg "len" = none) (hm2 : X.mg "set" = none) (hr : Room k X.A) (h : EvN X Hb a Γ false fun d => LenSetD d Q) (hc : X.calm = true := by rfl) (hg : Gl X "len" := by rfl) (hg2 : Gl X "set" := by rfl)
    (hs : starEach [a] X.env = (false, eval a X.env) :: starEach [] X.env := by rfl) (hs2 : starEach [.Call (.Name "set" p2) [a] [] q0] X.env = (false, eval (.Call (.Name "set" p2) [a] [] q0) X.env) :: starEach [] X.env := by rfl) (hpl : (backTo q0 (starEach [] X.env)).any (·.1) = false := by rfl) (hpl2 : (backTo pos (starEach [] X.env)).any (·.1) = false := by rfl) :
    EvN X Hb (.Call (.Name "len" pn) [.Call (.Name "set" p2) [a] [] q0] [] pos) Γ fr Q := EvN.fresh fun σ H en Q' q =>
  SemE.of (pe_callB cr_lenT hg hm (by decide +kernel) (pa_cons (pe_callTy (cr_setOfT hc hr.units) hg2 hm2 (by decide +kernel) (pa_cons (semE X a) pa_nil hs) (by decide) (by decide) hs hpl) pa_nil hs2) (by decide) (by decide) hs2 hpl2)
    (h σ H en _ fun v H1 d1 ⟨L, e1, hl, s1⟩ x1 r1 _ => by
      subst e1
      cases r1 with
      | @lst l vs _ hq ra =>
        obtain ⟨ks, e1, e2, hk⟩ := rep_tups ra
        have hkl : ks.length < 64 := by rw [← e2, List.length_map] at hl; exact hl
        refine ⟨l, ks, rfl, e1 ▸ hq, hk, hkl, fun a M ha hM1 hM2 => ?_⟩
        refine ⟨a, M, rfl, upd_same, fun p hp => SqT.ex (Ex.new ha) (hk p (hM1 p hp)), fun hnd hfew => ?_⟩
        have hq2 := s1 (M.map (·.2)) hnd fun ns => ⟨fun m => by
          obtain ⟨r, hr', rfl⟩ := List.mem_map.mp m
          rw [← e2]
          exact List.mem_map.mpr ⟨r, hM1 r hr', rfl⟩, fun m => by
          rw [← e2] at m
          obtain ⟨r, hr', e3⟩ := List.mem_map.mp m
          have := hM2 r hr'
          rw [e3] at this
          exact this⟩
        rw [List.length_map] at hq2
        exact q _ _ _ hq2 (x1.trans (Ex.new ha)) (.int _) fun _ => trivial)
theorem s_extend {p : Addr} {xn : Str} (hL : Look X.N Γ xn (.own p ds)) (h : EvN X Hb e Γ true fun d => ∃ es, d = .lst es ∧ (D.flatAll es = true ∧ ds.length + es.length ≤ 100000) ∧ Up1 X.N Γ xn (.own p (ds ++ es)) fun Γ' => Go X Hb rest D0 Γ') (nd : X.N.Nodup)
    (hv : Vis X.env.scope xn := by first | exact Or.inl rfl | exact Or.inr (Or.inl rfl) | exact Or.inr (Or.inr rfl)) (hdb : (xn == ("__debug__" : Str)) = false := by decide) (hcd : (xn == ("__classdict__" : Str)) = false := by decide)
    (hbase : attributeBase (.Name xn p') "extend" X.env (eval (.Name xn p') X.env) = eval (.Name xn p') X.env := by rfl)
    (hfew : ((backTo cpos (starEach (e :: []) X.env)).all (fun x => !x.1) && (backToKw cpos (keywordEach [] X.env)).all (fun x => x.1.isSome) && decide ((e :: []).length + ([] : List Keyword).length + (if ([] : List Keyword).isEmpty then 0 else 1) < 30)) = true := by rfl)
    (hline : (apos.endLine == cpos.line) = true := by rfl) (hs : starEach (e :: []) X.env = (false, eval e X.env) :: starEach [] X.env := by rfl) (hplain : (backTo cpos (starEach [] X.env)).any (·.1) = false := by rfl)
    (hsw : swapsWith (.Call (.Attribute (.Name xn p') "extend" apos) [e] [] cpos) none pos.line X.env = pure false := by rfl) :
    Go X Hb (.Expr (.Call (.Attribute (.Name xn p') "extend" apos) [e] [] cpos) pos :: rest) D0 Γ := by
  obtain ⟨i, hi, hG⟩ := hL.ix
  refine go_extendN i h hG (fun es z => z.1) (fun es ⟨_, Γ', hu, g⟩ => ?_) hi hv hdb hcd hbase hfew hline hs hplain hsw
  obtain ⟨j, hj, rfl⟩ := hu.ix
  have := nodup_ix nd hi hj
  subst this
  exact g
end
end L3

/-! Core48: for x, y, z in .., nothing carried. -/
namespace L3
open PySem PySem.Spec PyProof.Rows L2
theorem keep_all : ∀ Γ : Slots, keepG (List.replicate Γ.length true) Γ = Γ
  | [] => rfl
  | e :: r => by
    show e :: keepG (List.replicate r.length true) r = _
    rw [keep_all r]
section
variable {X : Cx} {Hb Hb' : Hp} {e : Expr} {Γ : Slots} {pos p1 p2 p3 p4 : Pos} {D0 : Ends} {rest : List Stmt}
local macro_rules | `(tactic| walk_at "ati") => `(tactic| first | (apply At.z; with_reducible rfl) | (apply At.s; walk_at "ati"))
theorem s_repJ3 {α : Type} {body : List Stmt} {xn yn zn : Str} {kt : Nat} {Γ1 Γ2 Γe : α → Slots} {i j l : Nat} (f1 f2 f3 : α → D) (xs : List α) (Γ0 : Slots) (hit : EvJ X Hb (.Tuple [.Name xn p1, .Name yn p2, .Name zn p3] kt p4) e Γ0 (· = xs.map fun a => .tup [f1 a, f2 a, f3 a]))
    (hs : ∀ Hb', Ex Hb Hb' → ∀ a, a ∈ xs → Go X Hb' body { D0 with nx := fun σ H => EnvOk X.K Hb' Γ0 σ H, ct := fun σ H => EnvOk X.K Hb' Γ0 σ H, bk := fun σ H => SemSs X rest D0 σ H } (Γe a))
    (hd : Go X Hb rest D0 Γ0) (h0 : Sub Γ Γ0 := by walk_at "sub") (hi : At X.N xn i := by walk_at "ati") (hj : At X.N yn j := by walk_at "ati") (hl : At X.N zn l := by walk_at "ati") (hu : ∀ a, Up X.N Γ0 xn (.dat (f1 a)) (Γ1 a) := by intro _; walk_at "up") (hu2 : ∀ a, Up X.N (Γ1 a) yn (.dat (f2 a)) (Γ2 a) := by intro _; walk_at "up") (hu3 : ∀ a, Up X.N (Γ2 a) zn (.dat (f3 a)) (Γe a) := by intro _; walk_at "up")
    (hst : ∀ a, a ∈ xs → Sto Γ0 (f1 a) ∧ Sto (Γ1 a) (f2 a) ∧ Sto (Γ2 a) (f3 a) := by intro _ _; exact ⟨by walk_at "sto", by walk_at "sto", by walk_at "sto"⟩) (nd : X.N.Nodup := by assumption)
    (hp : PassesOwn (model X.prog X.w) X.A X.env X.xe := by exact PassesOwn.never) (hc : X.calm = true := by rfl)
    (hg : PG X (.Tuple [.Name xn p1, .Name yn p2, .Name zn p3] kt p4) (Tg.g X.K (.tp [.nm i, .nm j, .nm l])) := by exact pg_three rfl (pg_name (by assumption) rfl (by first | exact Or.inl rfl | exact Or.inr rfl)) (pg_name (by assumption) rfl (by first | exact Or.inl rfl | exact Or.inr rfl)) (pg_name (by assumption) rfl (by first | exact Or.inl rfl | exact Or.inr rfl)))
    (hfs : ∀ x, foldedSetIterable e X.env x = pure x := by intro _; rfl) :
    Go X Hb (.For (.Tuple [.Name xn p1, .Name yn p2, .Name zn p3] kt p4) e body [] pos :: rest) D0 Γ :=
  go_weak (fun _ _ h => h.sub h0) (go_repJ (.tp [.nm i, .nm j, .nm l]) (List.replicate Γ0.length true) (keep_all Γ0) hit (fun Hb' eb ds n x hds hx => by
    rw [hds, List.getElem?_map] at hx
    cases hy : xs[n]? with
    | none => rw [hy] at hx; cases hx
    | some y =>
      rw [hy] at hx
      injection hx with hx
      subst hx
      have hm : y ∈ xs := List.mem_of_getElem? hy
      obtain ⟨s1, s2, s3⟩ := hst y hm
      refine ⟨Γe y, ⟨_, rfl, _, _, _, rfl, ⟨s1, up_set nd hi.ix (hu y) |>.symm⟩, _, _, _, rfl, ⟨s2, (up_set nd hj.ix (hu2 y)).symm⟩, _, _, _, rfl, ⟨s3, (up_set nd hl.ix (hu3 y)).symm⟩, rfl, rfl⟩, hs Hb' eb y hm⟩) hd hp hc hg hfs)
end
end L3

/-! Core49: sorted(set(xs)), xs a list of ints. -/
namespace L3
open PySem PySem.Spec PyProof.Rows L2
section
variable {P : Program} {w : World} {A : Around} {E : Value → Shared → Prop} {s : Shared}
/-- the empty set, as it is laid -/
abbrev oEm (w : World) : Obj := { cls := .type "set", dict := none, data := .set #[] 0 (.fresh 0 0 (!w.params.followText "set-order")) }
theorem ints_nth {items : Array Value} {ns : List Int} (h : IntsAre items.toList ns) : items.size = ns.length ∧ ∀ (i : Nat) (v : Value), items[i]? = some v → ∃ k t, ns[i]? = some k ∧ v = .int k t := by
  have z : items.size = ns.length := by
    have q := IntsAre.length h
    rwa [Array.length_toList] at q
  refine ⟨z, fun i v hv => ?_⟩
  have hi : i < ns.length := by rw [← z]; exact (Array.getElem?_eq_some_iff.mp hv).1
  obtain ⟨t, e⟩ := h.int_at i v (by rw [Array.getElem?_toList]; exact hv)
  exact ⟨ns[i], t, List.getElem?_eq_getElem hi, by rw [e, List.getD_eq_getElem?_getD, List.getElem?_eq_getElem hi]; rfl⟩
set_option maxHeartbeats 8000000 in
theorem call_setL {l : Addr} {items : Array Value} (ns : List Int) {Q : Value → Shared → Prop} (hh : A.handled = none) (hl : s.heap.IsList l items) (hit : IntsAre items.toList ns) (hb : ns.length + 1 < scanBound)
    (h : ∀ (h' : Heap) (tk c : Nat), SetR w h' s.heap.objs.size (fun j => decide (j ∈ ns)) c → c ≤ ns.length → (∀ b o, s.heap.get? b = some o → h'.get? b = some o) → Q (.ref s.heap.objs.size) { s with heap := h', toks := tk }) :
    wpAny (model P w) A (call (.type "set") [.ref l]) Q E s := by
  obtain ⟨hz, hval⟩ := ints_nth hit
  obtain ⟨c, tl, hmro⟩ := F.called_set.mro
  have hmade := F.called_set.made
  have hsub := F.called_set.sub
  have h1 := F.called_set.notType
  have h2 := F.called_set.canCreate
  have hct := F.typeCall_set_1 (.ref l)
  refine wpAny_call (codeAny_of_tree ?_)
  show wpAny _ _ (callAny (.type "set") _) _ _ _
  refine wpAny_pure ⟨Code.quiet_builtin _ (by decide +kernel), codeAny_builtin F.entry_type_call ?_⟩
  rw [Around.under_plain (weight_type_call_type "set" [.ref l] []) rfl]
  repeat (any_goals (first | assumption | wp_step))
  refine codeAny_mono (code_set_led1 (.ref l) (E := E) (Q₁ := fun obj s₁ => obj = .ref s.heap.objs.size ∧ s₁ = { s with heap := s.heap.push (oEm w) }) ⟨rfl, rfl⟩) fun r s₁ hr => ?_
  cases r with
  | error e => exact hr
  | ok fl =>
    cases fl with
    | ret obj =>
      obtain ⟨rfl, rfl⟩ := hr
      have hS : (s.heap.push (oEm w)).get? s.heap.objs.size = some (oEm w) := Heap.get?_push_size _ rfl
      have hT : Shared.TypeIs { s with heap := s.heap.push (oEm w) } (.ref s.heap.objs.size) "set" := ⟨_, hS, rfl⟩
      have hli := F.called_set.init.lookup
      have hbi := F.called_set.init.bind (.ref s.heap.objs.size)
      repeat (any_goals (first | assumption | wp_step))
      refine codeAny_mono (codeAny_call_builtin (R := wants (fun r s₂ => r = .none ∧ ∃ h' tk c, s₂ = { s with heap := h', toks := tk } ∧ (SetR w h' s.heap.objs.size (fun j => decide (j ∈ ns)) c ∧ c ≤ ns.length) ∧
          (∀ b o, s.heap.get? b = some o → h'.get? b = some o)) E) F.called_set.init.plain F.entry_set_init (check_set_init_1 hT ?_)) fun r₂ s₂ hr₂ => ?_
      · obtain ⟨⟨cl0, dd, da, sl⟩, hol, hcl, nl, hdl⟩ := hl
        simp only at hcl hdl
        subst hcl hdl
        have hol' : (s.heap.push (oEm w)).get? l = some { cls := .type "list", dict := dd, data := .seq items nl, slots := sl } := Heap.get?_push_of_some _ hol
        have hsls := F.sub_list_set
        have hslf := F.sub_list_frozenset
        have hne : (Value.type "list" == Value.type "dict") = false := by decide
        have hl1 : (s.heap.push (oEm w)).IsList l items := ⟨_, hol', rfl, nl, rfl⟩
        have lS : l < s.heap.objs.size := Heap.lt_size hol
        have zS : (s.heap.push (oEm w)).objs.size = s.heap.objs.size + 1 := Heap.size_push ..
        unfold Builtin.«set.__init__» noKeywords Builtin.Frozenset.updateFrom
        generalize hPI : pyIter = PI
        wp_walk
        subst hPI
        refine wpAny_pyIter_list hl1 ?_
        refine wpAny_bind (wpAny_runValue ?_)
        have hh3 : A.in1.in1.in1.handled = none := by simp [hh]
        have nI : l ≠ (s.heap.push (oEm w)).objs.size := by rw [Heap.size_push]; exact Nat.ne_of_lt (Nat.lt_succ_of_lt lS)
        have nS : s.heap.objs.size ∉ [(s.heap.push (oEm w)).objs.size, l] := by
          rw [Heap.size_push]
          intro z
          rcases List.mem_cons.mp z with z | z
          · exact absurd z (Nat.ne_of_lt (Nat.lt_succ_self _))
          · exact absurd (List.mem_singleton.mp z) (Nat.ne_of_gt lS)
        refine set_update_ints ((Walks.list hh3 _ l nI items).toS) s.heap.objs.size nS ns hz hb hval (items.size - 0) 0 _ (by omega) (Nat.zero_le _)
          ⟨⟨_, Heap.get?_push_size _ rfl, rfl, rfl⟩, (hl1.push _)⟩ ⟨0, Nat.le_refl 0, setR_new_at (Heap.get?_push_of_some _ hS)⟩ ?_
        rintro ⟨h', g2, d', tk', os'⟩ c' hm hc' hS'
        have eg : g2 = s.gens := hm.gens
        have ed : d' = s.drawn := hm.drawn
        have eo : os' = s.os := hm.os
        subst eg ed eo
        show wpAny _ _ _ _ _ _
        refine wpAny_pure ?_
        show wpAny _ _ (ret Value.none) _ _ _
        refine wpAny_pure ⟨rfl, h', tk', c', rfl, ⟨hS', by omega⟩, fun b o e => ?_⟩
        have b0 : b < s.heap.objs.size := Heap.lt_size e
        have b1 : b ≠ s.heap.objs.size := Nat.ne_of_lt b0
        have b2 : b ≠ (s.heap.push (oEm w)).objs.size := by rw [Heap.size_push]; exact Nat.ne_of_lt (Nat.lt_succ_of_lt b0)
        exact hm.heap b o (by simp only [List.mem_cons, List.not_mem_nil, or_false, not_or]; exact ⟨b1, b2⟩) (Heap.get?_push_of_some _ (Heap.get?_push_of_some _ e))
      · cases r₂ with
        | error e => exact hr₂
        | ok fl₂ =>
          cases fl₂ with
          | ret r =>
            obtain ⟨rfl, h', tk, c', rfl, ⟨hS', hc'⟩, hk'⟩ := hr₂
            repeat (any_goals (first | assumption | wp_step))
            exact h _ _ _ hS' hc' hk'
          | _ => exact hr₂.elim
    | _ => exact hr.elim
end
section
variable {X : Cx} {Hb : Hp} {a b e : Expr} {es : List Expr} {Γ : Slots} {pos p' apos cpos q0 : Pos} {ds : List D} {Q : D → Prop} {fr : Bool} {D0 : Ends} {rest : List Stmt}
/-- set(xs), xs a list of fewer than 64 ints -/
def rSetL (K : PySem.W.Frag) (w : World) : List V → Hp → VK → Prop := fun vs H Q => ∃ (l : Addr) (ns : List Int), vs = [V.ref l] ∧ SqL K H l (ns.map V.int) ∧ ns.length < 64 ∧ ∀ (a : Addr) (c : Nat), H a = none → c ≤ ns.length → Q (.ref a) (upd H a (SetO w a (fun j => decide (j ∈ ns)) c))
theorem cr_setL (hc : X.calm = true) : CallR X (.type "set") (rSetL X.K X.w) := by
  intro pins s σ H xs us Q I r h
  obtain ⟨l, ns, rfl, hl, hf, q⟩ := h
  rw [Vals.ref1 r]
  obtain ⟨its, rv, pl, hz⟩ := I.list hl
  have hn : H s.heap.objs.size = none := I.hok.fresh (Nat.le_refl _)
  refine call_setL (P := X.prog) (w := X.w) ns (I.ok.hd hc) pl.isList (by simpa using ints_of_vals rv) (by unfold scanBound; omega) fun h' tk c R hcn k => ?_
  exact ⟨.ref s.heap.objs.size, upd H s.heap.objs.size (SetO X.w s.heap.objs.size (fun j => decide (j ∈ ns)) c), I.laid (t' := tk) k (Nat.le_refl _) (setO_new R), rfl, q _ c hn hcn⟩
theorem ints_rep {H : Hp} : ∀ L : List Int, RepAll X.K H (L.map V.int) (L.map .int)
  | [] => .nil
  | n :: L => .cons (.int n) (ints_rep L)
/-- what sorted(set(xs)) asks and gives: ints -/
def SortSetI (d : D) (Q : D → Prop) : Prop := ∃ L : List Int, d = .lst (L.map .int) ∧ L.length < 64 ∧ ∀ L' : List Int, L'.Pairwise (· < ·) → (∀ n, n ∈ L' ↔ n ∈ L) → Q (.lst (L'.map .int))
theorem rep_ints' {H : Hp} : ∀ {L : List Int} {vs : List V}, RepAll X.K H vs (L.map .int) → vs = L.map V.int
  | [], _, .nil => rfl
  | n :: L, _, .cons h t => by
    cases h
    rw [rep_ints' t]
    rfl
theorem w_sortSetI {pn p2 : Pos} (hm : X.mg "sorted" = none) (hm2 : X.mg "set" = none) (h : EvN X Hb a Γ false fun d => SortSetI d Q) (hc : X.calm = true := by rfl) (hg : Gl X "sorted" := by rfl) (hg2 : Gl X "set" := by rfl)
    (hs : starEach [a] X.env = (false, eval a X.env) :: starEach [] X.env := by rfl) (hs2 : starEach [.Call (.Name "set" p2) [a] [] q0] X.env = (false, eval (.Call (.Name "set" p2) [a] [] q0) X.env) :: starEach [] X.env := by rfl) (hpl : (backTo q0 (starEach [] X.env)).any (·.1) = false := by rfl) (hpl2 : (backTo pos (starEach [] X.env)).any (·.1) = false := by rfl) :
    EvN X Hb (.Call (.Name "sorted" pn) [.Call (.Name "set" p2) [a] [] q0] [] pos) Γ fr Q := EvN.fresh fun σ H en Q' q =>
  SemE.of (pe_callB (cr_sortedSet hc) hg hm (by decide +kernel) (pa_cons (pe_callTy (cr_setL hc) hg2 hm2 (by decide +kernel) (pa_cons (semE X a) pa_nil hs) (by decide) (by decide) hs hpl) pa_nil hs2) (by decide) (by decide) hs2 hpl2)
    (h σ H en _ fun v H1 d1 ⟨L, e1, hl, s1⟩ x1 r1 _ => by
      subst e1
      cases r1 with
      | @lst l vs _ hq ra =>
        have ev := rep_ints' ra
        subst ev
        refine ⟨l, L, rfl, hq, hl, fun a c ha hcn => ?_⟩
        refine ⟨a, _, c, rfl, upd_same, by omega, fun L' p hpw hmem hlen hp => ?_⟩
        have ra2 : RepAll X.K (upd H1 a (SetO X.w a (fun j => decide (j ∈ L)) c)) (L'.map V.int) (L'.map .int) := ints_rep L'
        refine q _ _ _ (s1 L' hpw fun n => ?_) ((x1.trans (Ex.new ha)).trans (Ex.new hp)) (.lst (SqL.of upd_same) (ra2.ex (Ex.new hp))) fun _ => freshL hp (x1.trans (Ex.new ha)) ra2
        rw [hmem n, decide_eq_true_eq])
end
end L3

/-! Core50: a list taken apart into two names; xs[::-1]. -/
namespace L3
open PySem PySem.Spec PyProof.Rows L2
section
variable {X : Cx} {Hb : Hp} {a b c e : Expr} {es : List Expr} {Γ : Slots} {pos p' : Pos} {ds : List D} {Q : D → Prop} {fr : Bool} {D0 : Ends} {rest : List Stmt}
theorem RepAll.reverse {K : PySem.W.Frag} {H : Hp} : ∀ {vs : List V} {ds : List D}, RepAll K H vs ds → RepAll K H vs.reverse ds.reverse
  | _, _, .nil => .nil
  | _, _, .cons h r => by
    rw [List.reverse_cons, List.reverse_cons]
    exact RepAll.append (RepAll.reverse r) (.cons h .nil)
theorem w_revL {k : Nat} {p1 p2 p3 : Pos} (h : EvN X Hb e Γ false fun d => ∃ ds, d = .lst ds ∧ Q (.lst ds.reverse)) : EvN X Hb (.Subscript e (.Slice none none (some (.UnaryOp .USub (.Constant (.int 1) k p1) p2)) p3) pos) Γ fr Q := EvN.fresh fun σ H en Q' q =>
  SemE.of (pe_revL (semE X e)) (h σ H en _ fun v H1 d1 ⟨ds, e1, s1⟩ x1 r1 _ => by
    subst e1
    cases r1 with
    | lst hq ra => exact ⟨_, _, rfl, hq, fun p hp => q _ _ _ s1 (x1.trans (Ex.new hp)) (.lst (SqL.of upd_same) (RepAll.reverse (ra.ex (Ex.new hp)))) fun _ => freshL hp x1 (RepAll.reverse ra)⟩)
/-- x, y = e, a list -/
theorem s_unpL2 {xn yn : Str} {px py pt : Pos} {kt : Nat} (h : EvN X Hb e Γ false fun d => ∃ d1 d2, d = .lst [d1, d2] ∧ StoreD false X.N Γ xn d1 fun Γ1 => StoreD false X.N Γ1 yn d2 fun Γ2 => Go X Hb rest D0 Γ2)
    (nd : X.N.Nodup) (hL : Has X.N xn) (hL2 : Has X.N yn) (hw : swappedStores [.Tuple [.Name xn px, .Name yn py] kt pt] e X.env = pure none := by rfl) (hc : X.calm = true := by rfl)
    (hx : Loc X.env.scope xn := by first | exact Or.inl rfl | exact Or.inr rfl) (hy : Loc X.env.scope yn := by first | exact Or.inl rfl | exact Or.inr rfl)
    (hf : X.fn xn = true ∨ X.env.scope.names.lookup xn = some .local := by first | exact .inl rfl | exact .inr rfl) (hf2 : X.fn yn = true ∨ X.env.scope.names.lookup yn = some .local := by first | exact .inl rfl | exact .inr rfl)
    (hn : (assignEach [.Name xn px, .Name yn py] X.env).length = 2 := by rfl) (hst : (assignEach [.Name xn px, .Name yn py] X.env).findIdx? (·.1) = none := by rfl)
    (hz1 : (assignEach (.Name xn px :: [.Name yn py]) X.env).map (·.2) = assign (.Name xn px) X.env :: (assignEach [.Name yn py] X.env).map (·.2) := by rfl) (hz2 : (assignEach (.Name yn py :: []) X.env).map (·.2) = assign (.Name yn py) X.env :: (assignEach [] X.env).map (·.2) := by rfl)
    (hsw : swapsWithSole [.Tuple [.Name xn px, .Name yn py] kt pt] e pos.line X.env = pure false := by rfl) (h1 : (assignEach [.Tuple [.Name xn px, .Name yn py] kt pt] X.env).map (·.2) = [assign (.Tuple [.Name xn px, .Name yn py] kt pt) X.env] := by rfl) :
    Go X Hb (.Assign [.Tuple [.Name xn px, .Name yn py] kt pt] e pos :: rest) D0 Γ := fun σ H en => by
  obtain ⟨i, hi⟩ := hL.ix
  obtain ⟨j, hj⟩ := hL2.ix
  refine SemSs.cons (ps_asg (semE X e) (pg_unl hc (pgs_cons (pg_name nd hi hx hf) (pgs_cons (pg_name nd hj hy hf2) pgs_nil hz2) hz1) hn hst) hsw hw h1) (h σ H en _ fun v1 H1 d1 ⟨da, db, ed, s⟩ x1 r1 _ => ?_)
  subst ed
  cases r1 with
  | lst hq ra =>
    cases ra with
    | cons ra rr =>
      cases rr with
      | cons rb rr =>
        cases rr
        obtain ⟨Γ1, g1, en1⟩ := s.ok (own := false) nd hi en x1 ra fun z => nomatch z
        obtain ⟨Γ2, g2, en2⟩ := g1.ok (own := false) nd hj en1 Ex.refl rb fun z => nomatch z
        exact ⟨_, _, rfl, hq, rfl, _, _, rfl, _, _, rfl, rfl, g2 _ _ en2⟩
end
end L3

/-! Core51: defs that use repr, called where no repr is under way. -/
namespace L3
open PySem PySem.Spec PyProof.Rows L2
section
variable {X : Cx} {Hb : Hp} {e : Expr} {es : List Expr} {Γ : Slots} {pos p : Pos} {S Q : D → Prop} {fr : Bool}
theorem run_fnG {k : Nat} {f : Addr} {fd : FuncData} {ps : List Str} {sp : Sp} {ds : List Value} {dvs : List V} {pins : List (Addr × Obj)} {σ : L2.St} {H : Hp} {s : Shared} {Q : VK} {us : List Value} {vs : List V} (F : FnG X.prog X.w X.K X.mg X.base k f fd ps sp) (hgd : X.A.guards = some []) (hr : Room k X.A) (hb : Binds X.K fd ps ds) (hd : Vals dvs ds)
    (I : Inv X pins σ H s) (r : Vals vs us) (h : sp (vs ++ dvs) H Q E0) : wpAny (model X.prog X.w) X.A (call (.ref f) us) (EP X pins σ Q) X.xe s := by
  have r2 : Vals (vs ++ dvs) (us ++ ds) := r.append hd
  have hl : (us ++ ds).length = ps.length := by rw [← r2.length]; exact F.ar _ _ _ _ h
  refine wpAny_call (codeAny_mono (F.go X.A X.stack s H ⟨us, []⟩ (us ++ ds) (vs ++ dvs) Q hgd hr I.env0 (hb s us I.kIn hl) r2 h) fun r s' hq => ?_)
  cases r with
  | error e => exact pass0 pins σ H s e s' I hq
  | ok fl =>
    cases fl with
    | ret u => exact I.after hq
    | next => exact False.elim hq
    | brk => exact False.elim hq
    | cont => exact False.elim hq
structure FnPG (P : Program) (w : World) (K : PySem.W.Frag) (mg : Str → Option Value) (base : Heap) (x : Str) (k : Nat) (Q : Pr) : Prop where
  ex : ∃ (f : Addr) (fd : FuncData) (ps : List Str), FnG P w K mg base k f fd ps (spN K Q) ∧ mg x = some (.ref f) ∧ PySem.W.keepIn K (.ref f) = true ∧ Binds K fd ps []
theorem evn_callG {x : Str} {pn : Pos} {k k' : Nat} {P : Pr} {SA : List D → Prop} (F : FnPG X.prog X.w X.K X.mg X.base x k P) (hgd : X.A.guards = some []) (hr : Room k' X.A) (hA : EvA X Hb (e :: es) Γ SA) (hP : ∀ ds, SA ds → ∃ S0, P ds S0 ∧ ∀ d, S0 d → S d)
    (hk : k ≤ k' := by decide) (hg : Gl X x := by rfl) (hdb : (x == ("__debug__" : Str)) = false := by decide) (he : starEach (e :: es) X.env = (false, eval e X.env) :: starEach es X.env := by rfl) (hpl : (backTo pos (starEach es X.env)).any (·.1) = false := by rfl) :
    EvN X Hb (.Call (.Name x pn) (e :: es) [] pos) Γ true S := fun σ H en Q q => by
  obtain ⟨f, fd, ps, G, hm, hkp, hb⟩ := F.ex
  refine ⟨fun pins s I => ?_⟩
  refine wpAny_Call_Name_kw (ld_glob I hg hm ?_ hdb)
  refine PySem.W.callWith_K (h₀ := X.base) I.ok.mod.kin hkp (thn ((semA X (e :: es)).run pos pins s σ H _ I (hA σ H en (fun vs H1 => spN X.K P (vs ++ []) H1 Q E0) fun vs H1 ds s x1 r => ?_)) fun us s1 ⟨vs, H1, I1, r, q⟩ => ⟨I1.kIn, run_fnG G hgd (hr.mono hk) hb .nil I1 r q⟩) he hpl
  obtain ⟨S0, hS0, hS⟩ := hP ds s
  show spN _ _ (vs ++ []) H1 Q E0
  rw [List.append_nil]
  exact ⟨en.tb.ex (en.base.trans x1), ds, S0, r, hS0, fun v H' d s0 x2 r2 f2 => q v H' d (hS d s0) (x1.trans x2) r2 fun _ => f2.back x1⟩
theorem w_callG {x : Str} {pn : Pos} {k k' : Nat} {P : Pr} (F : FnPG X.prog X.w X.K X.mg X.base x k P) (hgd : X.A.guards = some []) (hr : Room k' X.A) (h : EvA X Hb (e :: es) Γ fun ds => Cl P ds Q)
    (hk : k ≤ k' := by decide) (hg : Gl X x := by rfl) (hdb : (x == ("__debug__" : Str)) = false := by decide) (he : starEach (e :: es) X.env = (false, eval e X.env) :: starEach es X.env := by rfl) (hpl : (backTo pos (starEach es X.env)).any (·.1) = false := by rfl) :
    EvN X Hb (.Call (.Name x pn) (e :: es) [] pos) Γ fr Q := EvN.fresh (evn_callG F hgd hr h (fun ds h => h) hk hg hdb he hpl)
end
section
variable {P : Program} {w : World} {K : PySem.W.Frag} {mg : Str → Option Value} {base : Heap}
theorem fnPG_of {x qual : Str} {st : Stmt} {f : Addr} {fd : FuncData} {N ps : List Str} {k : Nat} {Q : Pr} (F : Fun K x qual st f fd) (Sc : FnScope N ps (defScope st)) (hm : mg x = some (.ref f)) (hb : Binds K fd ps []) (har : ∀ ds S, Q ds S → ds.length = ps.length)
    (hbody : ∀ (cdv : Value) (A : Around) (outer : List Env) (s : Shared) (H : Hp), (A.deeper (envOfC qual (defScope st) s.heap.objs.size f cdv)).guards = some [] → Room k (A.deeper (envOfC qual (defScope st) s.heap.objs.size f cdv)) → ∀ ds S, Q ds S →
      Go (bodyCx P w K mg base N qual (defScope st) f cdv A outer s H E0) H (defBody st) { nx := fun _ H' => S .non ∧ Ex H H', rt := fun v H' => ∃ d, S d ∧ Rt K H d v H' } (slots0 N ds)) : FnPG P w K mg base x (k + 1) Q := by
  refine ⟨f, fd, ps, fnG_of F Sc (fun vs H Q' E h => ?_) (fun cdv A outer s H vs Q' hgd hr h => ?_), hm, F.kp, hb⟩
  · obtain ⟨_, ds, S, r, q, _⟩ := h
    rw [r.length]
    exact har ds S q
  · obtain ⟨tb, ds, S, r, q, hk⟩ := h
    have go := hbody cdv A outer s H hgd hr ds S q _ _ (env_start (N := N) r tb)
    exact go.mono (fun σ' H' ⟨sd, x⟩ => hk .non H' .non sd x .non trivial) (fun v H' ⟨d, sd, x, rp, f⟩ => hk v H' d sd x rp f) (fun _ _ h => h) fun _ _ h => h
theorem fnPG_det {α : Type} {args : α → List D} {pre : α → Prop} {res : α → D} {x qual : Str} {st : Stmt} {f : Addr} {fd : FuncData} {N ps : List Str} {k : Nat} (F : Fun K x qual st f fd) (Sc : FnScope N ps (defScope st)) (hm : mg x = some (.ref f)) (hb : Binds K fd ps []) (har : ∀ a, pre a → (args a).length = ps.length)
    (hbody : ∀ (cdv : Value) (A : Around) (outer : List Env) (s : Shared) (H : Hp), (A.deeper (envOfC qual (defScope st) s.heap.objs.size f cdv)).guards = some [] → Room k (A.deeper (envOfC qual (defScope st) s.heap.objs.size f cdv)) → N.Nodup → ∀ a, pre a →
      Go (bodyCx P w K mg base N qual (defScope st) f cdv A outer s H E0) H (defBody st) { nx := fun _ H' => .non = res a ∧ Ex H H', rt := fun v H' => ∃ d, d = res a ∧ Rt K H d v H' } (slots0 N (args a))) : FnPG P w K mg base x (k + 1) (detP args pre res) :=
  fnPG_of F Sc hm hb (fun ds S ⟨a, e, h, _⟩ => by rw [e]; exact har a h) fun cdv A outer s H hgd hr ds S ⟨a, e, h, e2⟩ => by
    subst e e2
    exact hbody cdv A outer s H hgd hr Sc.nd a h
end
end L3

/-! Core52: comprehensions over a list of one's own. -/
namespace L3
open PySem PySem.Spec PyProof.Rows L2
def EvJw (X : Cx) (Hb : Hp) (tg e : Expr) (Γ : Slots) (S : List D → Prop) : Prop :=
  ∃ wi : TI, PI X tg e wi ∧ ∀ σ H, EnvOk X.K Hb Γ σ H → ∀ R : It → Hp → Prop, (∀ J H' ds, S ds → Ex H H' → Jt X.K H' J ds → R J H') → wi σ H R
section
variable {X : Cx} {Hb Hb' : Hp} {a b c e elt iter tg : Expr} {es ifs : List Expr} {Γ : Slots} {pos p' apos cpos : Pos} {d x y : D} {ds : List D} {S S' : D → Prop} {fr : Bool} {scope : Scope} {own : List (Str × Nat)}
theorem wjw_own {xn : Str} {p : Addr} (hL : Look X.N Γ xn (.own p ds)) (hv : Vis X.env.scope xn := by first | exact Or.inl rfl | exact Or.inr (Or.inl rfl) | exact Or.inr (Or.inr rfl)) (hd : (xn == ("__debug__" : Str)) = false := by decide)
    (hcd : (xn == ("__classdict__" : Str)) = false := by decide) : EvJw X Hb tg (.Name xn pos) Γ (· = ds) := by
  obtain ⟨i, hN, hG⟩ := hL.ix
  exact ⟨_, pi_list (pe_var hN hv hd hcd), fun σ H en R q => by
    obtain ⟨hσ, _, vs, hl, r⟩ := en.own hG
    exact ⟨_, hσ, p, rfl, ⟨_, SqL.of hl⟩, q _ H ds rfl Ex.refl (jt_list (SqL.of hl) r)⟩⟩
theorem lcJw {α : Type} (t : Tg) (f : α → D) (SE : α → D → Prop) (xs : List α) (Γe : α → Slots) (hit : EvJw X Hb tg iter Γ (· = xs.map f)) (hput : ∀ a ∈ xs, Put t (f a) (wipeG Γ (own.map (·.2))) (Γe a))
    (he : ∀ a ∈ xs, AllIn X scope fun Y => EvN Y Hb elt (Γe a) fr (SE a)) (hfl : ∀ a d, SE a d → d.flat = true) (hlen : xs.length < 100000)
    (hc : X.calm = true) (nd : X.N.Nodup) (ok : BlkOk X.N X.env.scope scope own) (hown : ∀ i ∈ t.slots, i ∈ own.map (·.2))
    (hg : AllIn X scope fun Y => PG Y tg (t.g X.K)) (hs : ∀ x, foldedSetIterable iter X.env x = pure x := by intro _; rfl) :
    LcEv X Hb elt tg iter [] scope own Γ (fun z => ∃ ys, z = .lst ys ∧ Paired SE xs ys) := by
  obtain ⟨wi, hpi, hw⟩ := hit
  refine ⟨hc, nd, ok, hs, _, _, _, tIn X scope elt, hpi, hg, (fun s H C cl fp => pts_nil), fun s H C cl fp => ⟨fun pins s' σ H' Q I h => (h s H C cl fp).run pins s' I⟩, fun σ H en Q q => ?_⟩
  refine hw σ H en _ fun J H1 ds e1 x ⟨G, Y, w, hG, hY⟩ => ?_
  subst e1
  have en1 := en.ex x
  rw [List.length_map] at w hY
  refine fun L hL => lc_it w (fun i H => SoFar X.K H1 L (fun ys => Paired SE (xs.take i) ys) H) (soFar_start hL .nil) (fun i H2 _ h => hG _ (h.1)) ?_ ?_
  · intro i v H2 H3 hi sf y
    obtain ⟨x3, dx, hd, rv⟩ := hY i H2 v H3 hi (sf.1) y
    rw [List.getElem?_map] at hd
    obtain ⟨ax, hax, rfl⟩ : ∃ ax, xs[i]? = some ax ∧ dx = f ax := by
      cases z : xs[i]? with
      | none => rw [z] at hd; cases hd
      | some ax => rw [z] at hd; cases hd; exact ⟨ax, rfl, rfl⟩
    have hm := List.mem_of_getElem? hax
    have et : xs.take (i + 1) = xs.take i ++ [ax] := by rw [List.take_add_one, hax]; rfl
    have sf3 : SoFar X.K H1 L (fun ys => Paired SE (xs.take i) ys) H3 := by
      obtain ⟨e, acc, ys, h1, h2, h3⟩ := sf
      exact ⟨e.trans x3, acc, ys, x3.lst h1, h2.ex (hide1_ex x3 (x3.lst h1)), h3⟩
    refine put_ok (own := own.map (·.2)) (hput ax hm) hown (wipe_env (en1.ex sf3.1) _) rv _ fun σ' en2 hwp => ?_
    refine ⟨hwp.trans (wipe_wipe _ _) ▸ by rw [hwp, wipe_wipe], ?_⟩
    refine yes_of (L2.iteT ?_)
    intro s0 H0 C cl fp
    refine he ax hm s0 H0 C cl fp _ H3 en2 _ fun w H4 dw sw x4 rw4 _ => ?_
    refine soFar_more hL sf3 x4 rw4 (hfl ax dw sw) (fun ys h => ?_) fun ys h => ?_
    · rw [← Paired.length h, List.length_take]
      omega
    · rw [et]
      exact Paired.snoc sw h
  · intro H2 sf
    rw [List.take_length] at sf
    obtain ⟨ys, h1, h2, h3, h4⟩ := soFar_done hL x sf
    exact q _ _ _ ⟨ys, rfl, h1⟩ h2 h3 h4
end
section
variable {X : Cx} {Hb Hb' : Hp} {a b c e elt iter tg : Expr} {es ifs : List Expr} {Γ Γ' : Slots} {pos p' p1 p2 p3 apos cpos : Pos} {d x y : D} {ds : List D} {Q S S' : D → Prop} {fr : Bool} {D0 : Ends} {rest sts : List Stmt} {st : Stmt} {scope : Scope} {own : List (Str × Nat)}
theorem lc1w {α : Type} {xn : Str} {Γe : α → Slots} {i : Nat} (f : α → D) (xs : List α) (g : α → D) (hit : EvJw X Hb (.Name xn p') iter Γ (· = xs.map f))
    (he : ∀ a ∈ xs, ∀ (s : Shared) (H : Hp) (C : Addr) (cl : List (Str × Addr)) (fp : List Addr), Ev (inCx X scope s H C cl fp) Hb elt (Γe a) false (g a)) (q : Q (.lst (xs.map g))) (hlen : xs.length < 100000)
    (hi : At X.N xn i := by walk_at "ati") (hu : ∀ a, Up X.N Γ xn (.dat (f a)) (Γe a) := by intro _; walk_at "up") (hst : ∀ a ∈ xs, Sto Γ (f a) := by intro _ _; walk_at "sto") (hfl : ∀ a ∈ xs, (g a).flat = true := by intro _ _; walk_at "flat1")
    (nd : X.N.Nodup := by assumption) (hc : X.calm = true := by rfl) (ok : blkC X.N X.env.scope scope [(xn, i)] = true := by walk_at "blk")
    (hg : AllIn X scope fun Y => PG Y (.Name xn p') (gName i) := by exact fun _ _ _ _ _ => pg_name (by assumption) rfl (Or.inl rfl)) (hs : ∀ x, foldedSetIterable iter X.env x = pure x := by intro _; rfl) :
    LcX X Hb elt (.Name xn p') iter [] scope Γ Q := by
  refine ⟨_, (lcJw (own := [(xn, i)]) (.nm i) f (fun a z => z = g a ∧ z.flat = true) xs Γe hit (fun a ha => up_wipe nd hi.ix (hu a) (sto_sub (hst a ha))) (fun a ha s H C cl fp => (he a ha s H C cl fp).imp fun z e => ⟨e, by rw [e]; exact hfl a ha⟩) (fun a d s => s.2) hlen hc nd (blkOk_by ok) (fun j m => m) hg hs).imp ?_⟩
  rintro z ⟨ys, rfl, hp⟩
  have : ys = xs.map g := paired_det (Paired.mapE hp fun a b _ s => s.1)
  rw [this]
  exact q
end
end L3

/-! Core53: an attribute as a target. -/
namespace L3
open PySem PySem.Spec PyProof.Rows L2
/-- .. , o.f, .. = .. : what the store asks -/
def gFld (K : PySem.W.Frag) (ob : TE) (f : Str) : TG := fun v σ H Q => ob σ H fun x H1 =>
  ∃ a C dx fs, x = .ref a ∧ H1 a = some (.ins C dx fs) ∧ Cls K C ∧ NoAttr K C f ∧ fs.length < 1000 ∧ Q σ (upd H1 a (.ins C dx (putF f v fs)))
section
variable {X : Cx} {o : Expr} {f : Str} {pos : Pos} {ob : TE}
theorem pg_fld (ho : PE X o ob) : PG X (.Attribute o f pos) (gFld X.K ob f) := by
  refine ⟨fun pins s σ H v u Q I rv hw => ?_⟩
  rw [PySem.assign_Attribute]
  refine wpAny_bind (wpAny_holding (thn (ho.run pins s σ H _ I hw) fun w s1 ⟨x, H1, I1, rx, fact⟩ => ?_))
  obtain ⟨a, C, dx, fs, rfl, at1, cls, no, few, rest⟩ := fact
  cases rx
  refine wpAny_bind (wpAny_standAt (wpAny_bind (wpAny_holding (setattr_ok I1 at1 cls no few rv fun s2 I2 => ?_))))
  exact wpAny_release ⟨σ, _, I2, rest⟩
end
end L3

/-! Core54: {key: value for .. in ..} with tuples of ints as keys. -/
namespace L3
open PySem PySem.Spec PyProof.Rows L2
section
variable {X : Cx} {pins : List (Addr × Obj)} {σ : L2.St} {H : Hp}
/-- a dict whose keys are tuples of ints: key, the tuple's place, the value, an int -/
abbrev DEnt := List Int × Addr × Int
def DicRow (p : DEnt) (q : List Key × Addr × Value) : Prop := q.1 = p.1.map Sum.inl ∧ q.2.1 = p.2.1 ∧ RelV (.int p.2.2) q.2.2
def DicT (P : Program) (w : World) (h : Heap) (a : Addr) (ps : List DEnt) : Prop :=
  (a == sysModules) = false ∧ ∃ xs, Paired DicRow ps xs ∧ ∃ o es ep, h.get? a = some o ∧ o.ExactDict ∧ o.data = .dict es ep ∧ es.toList = xs.map (entryOfKey (tupleKind (mixKind P w))) ∧ (xs.map (·.1)).Nodup
def DicO (P : Program) (w : World) (a : Addr) (ps : List DEnt) : HO := .ext fun h => DicT P w h a ps
theorem paired_mem {α β : Type} {F : α → β → Prop} : ∀ {l : List α} {r : List β}, Paired F l r → ∀ b ∈ r, ∃ a ∈ l, F a b
  | _, _, .nil, b, m => nomatch m
  | _, _, .cons (a := a) h r, b, m => by
    rcases List.mem_cons.mp m with e | m
    · exact ⟨a, List.mem_cons_self, e ▸ h⟩
    · obtain ⟨x, h1, h2⟩ := paired_mem r b m
      exact ⟨x, List.mem_cons_of_mem _ h1, h2⟩
theorem DicT.full {P : Program} {w : World} {h : Heap} {a : Addr} {ps : List DEnt} (R : DicT P w h a ps) (hk : ∀ p ∈ ps, (tupleKind (mixKind P w)).is h (p.1.map Sum.inl) p.2.1) : ∃ xs, Paired DicRow ps xs ∧ h.DictOfH (tupleKind (mixKind P w)) a xs := by
  obtain ⟨_, xs, hp, o, es, ep, h1, h2, h3, h4, h5⟩ := R
  refine ⟨xs, hp, o, es, ep, h1, h2, h3, h4, fun x m => ?_, h5⟩
  obtain ⟨p, mp, e1, e2, _⟩ := paired_mem hp x m
  rw [e1, e2]
  exact hk p mp
theorem dicO_ok {P : Program} {w : World} {H : Hp} {h : Heap} {a : Addr} {ps : List DEnt} (R : DicT P w h a ps) : ObjOk P w H h a (DicO P w a ps) := by
  refine ⟨R, ?_, fun h1 h2 r k => ?_⟩
  · obtain ⟨_, xs, hp, o, es, ep, h1, _⟩ := R
    exact ⟨o, h1⟩
  · obtain ⟨z, xs, hp, o, es, ep, e1, r⟩ := r
    exact ⟨z, xs, hp, o, es, ep, k o e1, r⟩
theorem key_sq {b : Addr} {ns : List Int} {s : Shared} (I : Inv X pins σ H s) (h : SqT X.K H b (ns.map V.int)) : (tupleKind (mixKind X.prog X.w)).is s.heap (ns.map Sum.inl) b := by
  obtain ⟨its, r, ⟨o, ho, hc, n, hd⟩, _⟩ := I.tuple h
  have e : ns.map V.int = (ns.map (Sum.inl : Int → Key)).map kV := by rw [List.map_map]; rfl
  rw [e] at r
  exact ⟨o, its.toArray, n, ho, hc, hd, by simpa using items_are r⟩
/-- what stands at a key -/
def dlook (ps : List DEnt) (ns : List Int) : Option Int := (ps.find? fun p => decide (p.1 = ns)).map (·.2.2)
theorem mapinl_inj {a b : List Int} (h : a.map (Sum.inl : Int → Key) = b.map Sum.inl) : a = b := (List.map_inj_right (fun _ _ e => Sum.inl.inj e)).mp h
theorem dlook_at {ps : List DEnt} {xs : List (List Key × Addr × Value)} (h : Paired DicRow ps xs) (ns : List Int) : (dlook ps ns = none → atKey xs (ns.map Sum.inl) = none) ∧ ∀ i, dlook ps ns = some i → ∃ p, atKey xs (ns.map Sum.inl) = some p ∧ RelV (.int i) p.2 := by
  induction h with
  | nil => exact ⟨fun _ => rfl, fun i z => nomatch z⟩
  | @cons p q ps qs h r ih =>
    obtain ⟨e1, e2, e3⟩ := h
    by_cases z : p.1 = ns
    · have z' : q.1 = ns.map Sum.inl := by rw [e1, z]
      have a1 : dlook (p :: ps) ns = some p.2.2 := by unfold dlook; simp [List.find?_cons, z]
      have a2 : atKey (q :: qs) (ns.map Sum.inl) = some q.2 := by simp [atKey, List.find?_cons, z']
      rw [a1, a2]
      refine ⟨fun y => (nomatch y), fun i y => ⟨_, rfl, ?_⟩⟩
      rw [← Option.some.inj y]
      exact e3
    · have z' : ¬ q.1 = ns.map Sum.inl := fun y => z (mapinl_inj (by rw [← e1, y]))
      have a1 : dlook (p :: ps) ns = dlook ps ns := by unfold dlook; simp [List.find?_cons, z]
      have a2 : atKey (q :: qs) (ns.map Sum.inl) = atKey qs (ns.map Sum.inl) := by simp [atKey, List.find?_cons, z']
      rw [a1, a2]
      exact ih
theorem dlook_none {ps : List DEnt} {ns : List Int} (h : ns ∉ ps.map (·.1)) : dlook ps ns = none := by
  unfold dlook
  rw [Option.map_eq_none_iff, List.find?_eq_none]
  intro p m
  rw [decide_eq_true_eq]
  exact fun z => h (List.mem_map.mpr ⟨p, m, z⟩)
/-- one more entry, its key a new one -/
theorem entry_o {A : Around} {E : Value → Shared → Prop} {Q : Unit → Shared → Prop} {s : Shared} {D b : Addr} {ps : List DEnt} {ns : List Int} {i : Int} {r : Value} (hu : A.units < cLine) (I : Inv X pins σ H s)
    (at1 : H D = some (DicO X.prog X.w D ps)) (hk : ∀ p ∈ ps, SqT X.K H p.2.1 (p.1.map V.int)) (hb : SqT X.K H b (ns.map V.int)) (new : ns ∉ ps.map (·.1)) (few : ps.length < sizeLine) (rv : RelV (.int i) r)
    (go : ∀ s', Inv X pins σ (upd H D (DicO X.prog X.w D (ps ++ [(ns, b, i)]))) s' → Q () s') :
    wpAny (model X.prog X.w) A (dictSet D (.ref b) r) Q E s := by
  have R : DicT X.prog X.w s.heap D ps := (I.hok D _ at1).1
  have hd := R.1
  obtain ⟨xs, hp, dd⟩ := R.full fun p m => key_sq I (hk p m)
  have few' : xs.length ≤ sizeLine := Nat.le_trans (Nat.le_of_eq (Paired.length hp).symm) (Nat.le_of_lt few)
  have hn : atKey xs (ns.map Sum.inl) = none := (dlook_at hp ns).1 (dlook_none new)
  refine wpAny_dictSet_heap (hsz := few') (show (tupleKind (mixKind X.prog X.w)).room A from hu) (key_sq I hb) dd fun h' dd' same => go _ ?_
  have es : storedH xs (ns.map Sum.inl) b r = xs ++ [(ns.map Sum.inl, b, r)] := by
    unfold storedH
    rw [hn]
    rfl
  rw [es] at dd'
  obtain ⟨o, es, ep, z1, z2, z3, z4, _, z5⟩ := dd'
  exact d_write I (by rw [at1]; trivial) same ⟨o, z1⟩ (dicO_ok ⟨hd, _, Paired.snoc (F := DicRow) (a := (ns, b, i)) (b := (ns.map Sum.inl, b, r)) ⟨rfl, rfl, rv⟩ hp, o, es, ep, z1, z2, z3, z4, z5⟩)
theorem dicO_empty {P : Program} {w : World} {H : Hp} (h : Heap) (big : sysModules < h.objs.size) : ObjOk P w H (h.push { cls := .type "dict", data := .dict #[] }) h.objs.size (DicO P w h.objs.size []) := by
  obtain ⟨o, es, ep, z1, z2, z3, z4, _, z5⟩ := Heap.DictOfH.new (knd := tupleKind (mixKind P w)) h
  refine dicO_ok ⟨?_, [], .nil, o, es, ep, z1, z2, z3, z4, z5⟩
  exact beq_eq_false_iff_ne.mpr fun z => Nat.lt_irrefl _ (z ▸ big)
/-- {key: value for target in iter}: what it asks -/
def tDict (X : Cx) (wi : TI) (g : TG) (kt vt : TE) (sl : List Nat) : TE := fun σ H Q => wi σ H fun J H1 => ∀ D, H1 D = none →
  ∃ W : Nat → Nat → Hp → Prop, (∃ m, W 0 m (upd H1 D (DicO X.prog X.w D []))) ∧ ∀ i m H, W i m H → (J.stop i H ∧ Q (.ref D) H) ∨ (J.go i H ∧ ∃ Nx : Hp → Prop, (∀ H', Nx H' → ∃ m', m' < m ∧ W (i + 1) m' H') ∧
    ∀ x H', J.yld i H x H' → g x (wipe σ sl) H' fun σ2 H2 => wipe σ2 sl = wipe σ sl ∧ kt σ2 H2 fun y H4 => vt σ2 H4 fun z H5 => ∃ ps ns b j, y = .ref b ∧ z = .int j ∧ H5 D = some (DicO X.prog X.w D ps) ∧ (∀ p ∈ ps, SqT X.K H5 p.2.1 (p.1.map V.int)) ∧ SqT X.K H5 b (ns.map V.int) ∧ ns ∉ ps.map (·.1) ∧ ps.length < sizeLine ∧ Nx (upd H5 D (DicO X.prog X.w D (ps ++ [(ns, b, j)]))))
variable {Q : VK} {ke ve tg it : Expr} {sc : Scope} {own : List (Str × Nat)} {pos p2 : Pos} {wi : TI} {g : TG} {kt vt : TE}
/-- where the block of a comprehension runs -/
abbrev blkX (X : Cx) (sc : Scope) (s : Shared) (H : Hp) (C : Addr) (cl : List (Str × Addr)) (fp : List Addr) : Cx := X.blk s H sc (compEnvC sc cl C X.env) fp
theorem dict_core {s : Shared} {Qf : Value → Shared → Prop} {use : Option (Value → Sem Unit)} (hu : X.A.units < cLine) (calm : X.calm = true) (nd : X.N.Nodup) (I : Inv X pins σ H s) (src : PI X tg it wi) (ok : BlkOk X.N X.env.scope sc own)
    (pg : ∀ s H C cl fp, PG (blkX X sc s H C cl fp) tg g) (pk : ∀ s H C cl fp, PE (blkX X sc s H C cl fp) ke kt) (pv : ∀ s H C cl fp, PE (blkX X sc s H C cl fp) ve vt) (nofold : ∀ x, foldedSetIterable it X.env x = pure x)
    (ask : tDict X wi g kt vt (own.map (·.2)) σ H Q)
    (back : ∀ D C s' m H', Inv X pins σ H' s' → Q (.ref D) H' → s'.heap.Ns C m → FpOk X pins H' C → compPost (model X.prog X.w) X.A X.xe use Qf (.ref D) C (.ok .next) s') :
    wpAny (model X.prog X.w) X.A (comprehension (.DictComp ke ve [⟨tg, it, [], 0⟩] sc pos) sc X.env p2 newDict false (eval it X.env) use) Qf X.xe s := by
  have closed : ∀ y ∈ sc.names, y.2 = .free → ∃ c, X.env.cells.lookup y.1 = some c := fun y m e => (ok.free y m e).elim (fun z => I.ok.has _ (.inl z)) fun z => I.ok.has _ (.inr z)
  refine wpAny_comprehension_free (use := use) rfl nofold (closure_ok closed) ok.kind (fun y m e => by rw [ok.uniq y m, e]) (thn (src.run pins s σ H _ I ask) fun _ sa r => thn r fun _ sb r2 => ?_)
  obtain ⟨itA, fp, tn, J, Hb, rfl, Ib, T, tb, fb, q⟩ := r2
  refine wpAny_newObj_type (newEnv_comp ?_)
  -- the new dict
  obtain ⟨D, hD⟩ : ∃ D, sb.heap.objs.size = D := ⟨_, rfl⟩
  have none0 : Hb D = none := Ib.hok.fresh (Nat.le_of_eq hD)
  obtain ⟨W, ⟨m0, w0⟩, turn⟩ := q D none0
  obtain ⟨sd, hsd⟩ : ∃ sd : Shared, sd = { sb with heap := sb.heap.push { cls := .type "dict", data := .dict #[] } } := ⟨_, rfl⟩
  have hp : sd.heap = sb.heap.push { cls := .type "dict", data := .dict #[] } := by rw [hsd]
  have Id : Inv X pins σ (upd Hb D (DicO X.prog X.w D [])) sd := by
    rw [hsd]
    refine Ib.laid (t' := sb.toks) (fun _ _ e => Heap.get?_push_of_some _ e) (Nat.le_of_eq hD) ?_
    rw [← hD]
    exact dicO_empty sb.heap Ib.big
  have old : ∀ b ∈ fp, FpOk X pins (upd Hb D (DicO X.prog X.w D [])) b ∧ b < sd.heap.objs.size := fun b m => by
    obtain ⟨o, e, _⟩ := T.obj _ _ tb b m
    have lt := Heap.lt_size e
    refine ⟨⟨(upd_ne fun z => Nat.lt_irrefl _ (hD ▸ z ▸ lt)).trans (fb b m).1, (fb b m).2⟩, ?_⟩
    rw [hp, Heap.size_push]
    exact Nat.lt_succ_of_lt lt
  have td : tn 0 sd.heap := T.keep _ _ _ tb fun b _ o e => by rw [hp]; exact Heap.get?_push_of_some _ e
  obtain ⟨cl, hcl⟩ : ∃ cl, cl = cellsFrom (sd.heap.objs.size + 1) sc.names (cloFrom X.env.cells sc.names []) := ⟨_, rfl⟩
  obtain ⟨He, hHe⟩ : ∃ He, He = upd Hb D (DicO X.prog X.w D []) := ⟨_, rfl⟩
  obtain ⟨ce, hce⟩ : ∃ ce, ce = compEnvC sc cl sd.heap.objs.size X.env := ⟨_, rfl⟩
  obtain ⟨se, hse⟩ : ∃ se : Shared, se = { sd with heap := pushCells (sd.heap.push { cls := .type "dict", data := .dict #[] }) sc.names } := ⟨_, rfl⟩
  have g1 := pg sd He sd.heap.objs.size cl fp
  have g2 := pk sd He sd.heap.objs.size cl fp
  have g3 := pv sd He sd.heap.objs.size cl fp
  have Ie := block_start Id ok nd old
  rw [← hHe, ← hcl, ← hce, ← hse] at Ie
  rw [← hHe] at w0 old Id
  have loc : ce.locals = sd.heap.objs.size := by rw [hce]; rfl
  have te : tn 0 se.heap := T.keep _ _ _ td fun b _ o e => by rw [hse]; exact pushCells_keeps _ _ _ _ (Heap.get?_push_of_some _ e)
  unfold blkX at g1 g2 g3
  rw [← hce] at g1 g2 g3
  have fpY : ∀ {σ1 : L2.St} {Hn : Hp} {sn : Shared}, Inv (X.blk sd He sc ce fp) [] σ1 Hn sn → (∀ b ∈ fp, Hn b = none) → ∀ b ∈ fp, FpOk (X.blk sd He sc ce fp) [] Hn b := by
    exact fun Jn nn b m => ⟨nn b m, (Jn.ok.exf b m).1, Jn.ok.exfs b m, .inl m, (Jn.ok.exf b m).2, fun p mp => by simp only [List.nil_append, List.append_nil] at mp; exact nomatch mp⟩
  have run : codeAny (model X.prog X.w) X.A (.compLoop (.DictComp ke ve [⟨tg, it, [], 0⟩] sc pos) 0 (.ref itA) (.ref D) ce) (compPost (model X.prog X.w) X.A X.xe use Qf (.ref D) sd.heap.objs.size) se := by
    refine compLoop_anyD (fun n s' => ∃ i H', Inv (X.blk sd He sc ce fp) [] (wipe σ (own.map (·.2))) H' s' ∧ tn i s'.heap ∧ (∀ b ∈ fp, H' b = none) ∧ W i n H') ?_ m0 ⟨0, He, Ie, te, fun b m => (old b m).1.1, w0⟩
    rintro n s1 ⟨i, H1, I1, t1, n1, w1⟩
    rcases turn i n H1 w1 with ⟨stop, fin⟩ | ⟨more, Nx, next, step⟩
    · -- no item is left: back to the def
      refine thnF (T.done (X.blk sd He sc ce fp) rfl rfl rfl calm i [] s1 _ H1 (fun _ _ => False) I1 (fpY I1 n1) t1 stop) fun r s2 ⟨e, I2⟩ => ?_
      subst e
      have Iend : Inv X pins σ H1 s2 := Id.call' (ch := fp) I2.os I2.base I2.hok I2.bare fun b m => ⟨(old b m).1.2.2.2.1, (old b m).1.2.1, (old b m).1.2.2.2.2.1, (old b m).1.2.2.2.2.2⟩
      have free : H1 sd.heap.objs.size = none := loc ▸ (show H1 ce.locals = none from I2.free)
      obtain ⟨k, ns, _⟩ := I2.loc
      exact back D sd.heap.objs.size s2 k H1 Iend fin (loc ▸ (show s2.heap.Ns ce.locals k from ns)) (Id.fpOk (Nat.le_refl _) free)
    · -- a turn
      refine thnF (T.item (X.blk sd He sc ce fp) rfl rfl rfl calm i [] s1 _ H1 (fun _ _ => False) I1 (fpY I1 n1) t1 more) fun r s2 ⟨u, e, h2⟩ => ?_
      subst e
      refine thnF h2 fun _ s3 ⟨x, H3, I3, rx, yd, t3, n3⟩ => ?_
      have stay := T.obj _ _ t3
      refine thnF (g1.run _ s3 _ H3 x u _ (I3.pinned (fpY I3 n3) stay) rx (step x H3 yd)) fun _ s4 ⟨σ4, H4, I4, same, ask2⟩ => ?_
      refine thnF ((pts_nil (X := X.blk sd He sc ce fp)).run _ s4 σ4 H4 (fun b H5 => b = true ∧ H5 = H4) I4 ⟨rfl, rfl⟩) fun b s5 ⟨H5, I5, eb, eH⟩ => ?_
      subst eb eH
      show wpAny _ _ (eval ke ce) _ _ _
      refine thnF (g2.run _ s5 σ4 _ _ I5 ask2) fun ku s6 ⟨y, H6, I6, ry, ask3⟩ => ?_
      refine thnF (g3.run _ s6 σ4 H6 _ I6 ask3) fun vu s7 ⟨z, H7, I7, rz, ents, key, kb, zi, ey, ez, at1, at3, at2, new, few, nx⟩ => ?_
      subst ez
      subst ey
      cases ry
      refine entry_o (X := X.blk sd He sc ce fp) hu I7 at1 at3 at2 new few rz fun s8 I8 => ?_
      obtain ⟨m', lt, w'⟩ := next _ nx
      have pin : ∀ b ∈ fp, ∀ o, s3.heap.get? b = some o → s8.heap.get? b = some o ∧ upd H7 D (DicO X.prog X.w D (ents ++ [(key, kb, zi)])) b = none := fun b m o e => by
        have k := I8.pin (b, o) (List.mem_append_right _ (List.mem_append_right _ (mem_pinsAt m e)))
        exact ⟨k.1, k.2.1⟩
      have len : (wipe σ (own.map (·.2))).length = σ4.length := by rw [← same, wipe_length]
      refine ⟨m', lt, i + 1, _, (I8.unpinned (pins := [])).weak len (fun j v e => by rw [← same] at e; exact (wipe_some e).1), T.keep _ _ _ t3 fun b m o e => (pin b m o e).1, fun b m => ?_, w'⟩
      obtain ⟨o, e, _⟩ := stay b m
      exact (pin b m o e).2
  subst hse hce hcl hHe hsd hD
  exact codeAny_compStart_dict run (T.self X.A 0 _ _ _ te run)
theorem pe_dictT (hu : X.A.units < cLine) (calm : X.calm = true) (nd : X.N.Nodup) (src : PI X tg it wi) (ok : BlkOk X.N X.env.scope sc own)
    (pg : ∀ s H C cl fp, PG (blkX X sc s H C cl fp) tg g) (pk : ∀ s H C cl fp, PE (blkX X sc s H C cl fp) ke kt) (pv : ∀ s H C cl fp, PE (blkX X sc s H C cl fp) ve vt) (nofold : ∀ x, foldedSetIterable it X.env x = pure x := by intro _; rfl) :
    PE X (.DictComp ke ve [⟨tg, it, [], 0⟩] sc pos) (tDict X wi g kt vt (own.map (·.2))) := by
  refine ⟨fun pins s σ H Q I ask => ?_⟩
  rw [arm_eval_DictComp]
  refine dict_core hu calm nd I src ok pg pk pv nofold ask fun D C s2 m H2 I2 q ns free => ⟨m, ns, fun hp same => ?_⟩
  obtain ⟨f0, f1, f2, f3, f4, f5⟩ := free
  exact ⟨.ref D, H2, I2.turned (t' := s2.toks) (fun b o ne e => (same.2 b ne).trans e) f0 f1 f3 f4 f5, rfl, q⟩
theorem ps_setDict {i : Nat} {y : Str} {py spos : Pos} (hu : X.A.units < cLine) (calm : X.calm = true) (nd : X.N.Nodup) (hy : X.N[i]? = some y) (hyl : X.env.scope.names.lookup y = some .local) (hsw : swapsWith (.DictComp ke ve [⟨tg, it, [], 0⟩] sc pos) (some (.Name y py)) spos.line X.env = pure true)
    (src : PI X tg it wi) (ok : BlkOk X.N X.env.scope sc own)
    (pg : ∀ s H C cl fp, PG (blkX X sc s H C cl fp) tg g) (pk : ∀ s H C cl fp, PE (blkX X sc s H C cl fp) ke kt) (pv : ∀ s H C cl fp, PE (blkX X sc s H C cl fp) ve vt) (nofold : ∀ x, foldedSetIterable it X.env x = pure x := by intro _; rfl) :
    PS X (.Assign [.Name y py] (.DictComp ke ve [⟨tg, it, [], 0⟩] sc pos) spos) (tAsg (tDict X wi g kt vt (own.map (·.2))) (gName i)) := by
  refine ⟨fun pins s σ H D I h => ?_⟩
  rw [exec_Assign_Name_used _ _ _ _ hsw]
  refine wpAny_bind (wpAny_standAt (wpAny_bind ?_))
  show wpAny _ X.A (do let _ ← comprehension (.DictComp ke ve [⟨tg, it, [], 0⟩] sc pos) sc X.env (firstIterPos [⟨tg, it, [], 0⟩] pos) newDict false (eval it X.env) (some (assign (.Name y py) X.env))) _ _ s
  have h : tDict X wi g kt vt (own.map (·.2)) σ H (fun x H1 => gName i x σ H1 D.nx) := h
  refine wpAny_bind (thn (dict_core (Qf := fun _ s' => SP X pins D .next s') hu calm nd I src ok pg pk pv nofold h fun L C s' m H' I' q hn f => ?_) fun _ s' hq => wpAny_pure (wpAny_pure hq))
  show wpAny _ _ (assign (.Name y py) X.env (.ref L)) _ _ _
  refine wpAny_assign_Name (store_ok2 (v := V.ref L) I' nd hy (.inl hyl) rfl (fun s2 I2 ⟨a, sb, ha⟩ => ?_) (.inr hyl))
  obtain ⟨f0, f1, f2, f3, f4, f5⟩ := f
  have haC : C ≠ a := by
    rcases ha with z | z
    · rw [z]; exact f1
    · exact fun e => f4 y a z e.symm
  refine ⟨m, hn.sameBut sb haC, fun h3 sb3 => ?_⟩
  exact ⟨_, H', I2.turned (t' := s2.toks) (fun b o hb e => (sb3.2 b hb).trans e) f0 f1 f3 f4 f5, q⟩
theorem sw_trueD {ke ve : Expr} {gs : List Comprehension} {scope : Scope} {pos py : Pos} {y : Str} {l : Nat} {env : Env} (hk : env.scope.kind = .function) (hy : env.scope.names.lookup y = some .local) (hl : (py.line == pos.line) = true)
    (ha : (scope.names.any fun (n, k) => n == y && (k == .local || k == .cell)) = false) : swapsWith (.DictComp ke ve gs scope pos) (some (.Name y py)) l env = pure true := by
  have ky : env.kindOf y = some .local := hy
  have hb : env.blockKind = .function := by unfold Env.blockKind; rw [hk]; rfl
  unfold swapsWith
  simp only [hb, ky, ha, Expr.pos, hl]
  rfl
end
section
variable {X : Cx} {i o : Expr} {pos : Pos} {ty td : TE}
/-- what a lookup asks -/
def DAsk (X : Cx) (H : Hp) (x y : V) (r : Option Int) : Prop := ∃ a ps b ns, x = .ref a ∧ H a = some (DicO X.prog X.w a ps) ∧ (∀ p ∈ ps, SqT X.K H p.2.1 (p.1.map V.int)) ∧ y = .ref b ∧ SqT X.K H b (ns.map V.int) ∧ dlook ps ns = r
def tDNotInO (X : Cx) (ty td : TE) : TE := fun σ H Q => ty σ H fun y H1 => td σ H1 fun x H2 => ∃ r, DAsk X H2 x y r ∧ Q (.bl (!r.isSome)) H2
def tDGetO (X : Cx) (td ty : TE) : TE := fun σ H Q => td σ H fun x H1 => ty σ H1 fun y H2 => ∃ j, DAsk X H2 x y (some j) ∧ Q (.int j) H2
theorem pc_dnotinO (hu : X.A.units + 1 < cLine) (hi : PE X i ty) (ho : PE X o td) : PC X .NotIn i o (tDNotInO X ty td) := by
  refine ⟨fun pins s σ H Q I h => ?_⟩
  refine thn (hi.run pins s σ H _ I h) fun iv s1 ⟨y, H1, I1, ry, q1⟩ => thn (ho.run pins s1 σ H1 _ I1 q1) fun u s2 ⟨x, H2, I2, rx, r, ⟨a, ps, b, ns, ex, at1, hk, ey, hb, el⟩, q2⟩ => ?_
  subst ex ey
  obtain rfl : u = Value.ref a := rx
  cases (show iv = Value.ref b from ry)
  have R : DicT X.prog X.w s2.heap a ps := (I2.hok a _ at1).1
  obtain ⟨xs, hp, dd⟩ := R.full fun p m => key_sq I2 (hk p m)
  refine wpAny_notIn_heap (tupleKind_room_in1 hu) (key_sq I2 hb) R.1 dd ?_
  obtain ⟨l1, l2⟩ := dlook_at hp ns
  have q : (atKey xs (ns.map Sum.inl)).isSome = r.isSome := by
    cases r with
    | none => rw [l1 el]; rfl
    | some j => obtain ⟨p, e, _⟩ := l2 j el; rw [e]; rfl
  rw [q]
  exact ⟨.bl (!r.isSome), H2, I2.tok _, rfl, q2⟩
theorem pe_dgetO (hu : X.A.units + 1 < cLine) (ho : PE X o td) (hi : PE X i ty) (hs : NoSl i) : PE X (.Subscript o i pos) (tDGetO X td ty) := by
  refine ⟨fun pins s σ H Q I h => ?_⟩
  refine subD_of PySem.F.slot_dict_getitem.lookup hs (thn (ho.run pins s σ H _ I h) fun u s1 ⟨x, H1, I1, rx, q1⟩ => thn (hi.run pins s1 σ H1 _ I1 q1) fun iv s2 ⟨y, H2, I2, ry, j, ⟨a, ps, b, ns, ex, at1, hk, ey, hb, el⟩, q2⟩ => ?_)
  subst ex ey
  obtain rfl : u = Value.ref a := rx
  cases (show iv = Value.ref b from ry)
  have R : DicT X.prog X.w s2.heap a ps := (I2.hok a _ at1).1
  obtain ⟨xs, hp, dd⟩ := R.full fun p m => key_sq I2 (hk p m)
  obtain ⟨p, e, rp⟩ := (dlook_at hp ns).2 j el
  refine ⟨dd.typeIs, wpAny_getItem_heap (tupleKind_room_in1 hu) (key_sq I2 hb) dd e ⟨.int j, H2, I2.tok _, rp, q2⟩⟩
end
end L3

/-! Core55: objects of one's own in a slot: methods, made by a class. -/
namespace L3
open PySem PySem.Spec PyProof.Rows L2
section
variable {K : PySem.W.Frag} {Hb Hz H H' : Hp} {Γ : Slots} {σ : L2.St}
theorem ex_hides {ps qs : List Addr} (hl : Lsts H ps) (h : ∀ p ∈ ps, p ∈ qs) : Ex (hide H qs) (hide H ps) := ex_hide hide_ex hl fun p m => hide_in (h p m)
theorem EnvOk.resW {i : Nat} {ps : List Addr} {v : V} {φ : List HO → Hp → Prop} (h : EnvOk K Hb Γ σ H) (e : Γ[i]? = some (.res ps v φ)) : σ[i]? = some (some v) ∧ Lsts H (owns Γ) ∧ Lsts H ps ∧ ∃ us, Cells H ps us ∧ φ us (hide H ps) := by
  obtain ⟨h1, h2, h3, h4⟩ := h.wide
  obtain ⟨o, q, rfl, us, c, n, f⟩ := Paired.getE h3 e
  have hl : Lsts H ps := Cells.mem c
  exact ⟨q, owns_lsts h3, hl, us, c, f _ (ex_hides hl fun p m => owns_cells e p m)⟩
/-- the cells of an entry are changed, and more may stand -/
theorem EnvOk.mutEx {i : Nat} {e e' : Ent} {v : V} (h : EnvOk K Hb Γ σ H) (he : Γ[i]? = some e) (hv : σ[i]? = some (some v)) (hc : e'.cells = e.cells) (x : Ex (hide H e.cells) H') (hm : ∀ p ∈ e.cells, ∃ u, H' p = some u ∧ Mu u)
    (hok : ∀ Hz, Ex Hz H' → (∀ p ∈ e.cells, Hz p = none) → Lsts H' (owns Γ) → Ex (hide H' (owns Γ)) Hz → EntOk K Hz H' e' (some v)) : EnvOk K Hb (Γ.set i e') σ H' := by
  obtain ⟨h1, h2, h3, h4⟩ := h.wide
  have hl := owns_lsts h3
  have le : Lsts H e.cells := fun p m => hl p (owns_cells he p m)
  have x1 : Ex (hide H (owns Γ)) H' := (ex_hides le fun p m => owns_cells he p m).trans x
  have st : ∀ p u, p ∉ e.cells → H p = some u → Mu u → H' p = some u := fun p u m q mu => x.get p u (by rw [hide_out m]; exact q) mu.nt
  have l2 : Lsts H' (owns Γ) := fun p m => by
    by_cases z : p ∈ e.cells
    · exact hm p z
    · obtain ⟨u, q, mu⟩ := hl p m
      exact ⟨u, st p u z q mu, mu⟩
  have x2 : Ex (hide H (owns Γ)) (hide H' (owns Γ)) := ex_hide x1 l2 fun p m => hide_in m
  have go : ∀ {Γ' : Slots} {σ' : L2.St} {j : Nat}, Paired (EntOk K (hide H (owns Γ)) H) Γ' σ' → Γ'[j]? = some e → σ'[j]? = some (some v) → (owns Γ').Nodup → (∀ p ∈ owns Γ', p ∈ owns Γ) → Paired (EntOk K (hide H' (owns Γ)) H') (Γ'.set j e') σ' ∧ owns (Γ'.set j e') = owns Γ' := by
    have oth : ∀ {Γ' : Slots} {σ' : L2.St}, Paired (EntOk K (hide H (owns Γ)) H) Γ' σ' → (∀ p ∈ e.cells, p ∉ owns Γ') → (∀ p ∈ owns Γ', p ∈ owns Γ) → Paired (EntOk K (hide H' (owns Γ)) H') Γ' σ' := fun {Γ' σ'} k np sb => Paired.mapE k fun a b m q => by
      obtain ⟨j, hj, hmm⟩ := List.mem_iff_getElem.mp m
      have ha : Γ'[j]? = some a := by rw [List.getElem?_eq_getElem hj, hmm]
      refine q.growC x2 fun p u mc q1 mu q2 => ⟨st p u (fun z => np p z (owns_cells ha p mc)) q1 mu, hide_in (sb p (owns_cells ha p mc))⟩
    intro Γ'
    induction Γ' with
    | nil => intro σ' j _ z; simp at z
    | cons a rr ih =>
      intro σ' j k z zv nd sb
      rw [owns_cons] at nd sb
      have nd' := nodup_app.mp nd
      cases k with
      | cons k1 k2 =>
        cases j with
        | zero =>
          simp at z
          subst z
          simp at zv
          subst zv
          refine ⟨.cons (hok _ hide_ex (fun p m => hide_in (owns_cells he p m)) l2 Ex.refl) (oth k2 nd'.2.2 fun p m => sb p (List.mem_append_right _ m)), ?_⟩
          show owns (e' :: rr) = owns (a :: rr)
          rw [owns_cons, owns_cons, hc]
        | succ j =>
          have z' : rr[j]? = some e := by simpa using z
          obtain ⟨u1, u2⟩ := ih k2 z' (by simpa using zv) nd'.2.1 fun p m => sb p (List.mem_append_right _ m)
          refine ⟨.cons (k1.growC x2 fun p u mc q1 mu q2 => ⟨st p u (fun w => nd'.2.2 p mc (owns_cells z' p w)) q1 mu, hide_in (sb p (List.mem_append_left _ mc))⟩) u1, ?_⟩
          show owns (a :: rr.set j e') = owns (a :: rr)
          rw [owns_cons, owns_cons, u2]
  obtain ⟨u1, u2⟩ := go h3 he hv h4 fun p m => m
  exact ⟨_, h1.trans x2, hide_ex, u1, by rw [u2]; exact h4⟩
end
/-- the cells as they were -/
theorem ex_cells {H H' : Hp} {ps : List Addr} {us : List HO} (x : Ex (hide H ps) H') (c : Cells H ps us) (c' : Cells H' ps us) : Ex H H' := by
  have same : ∀ {ps : List Addr} {us : List HO}, Cells H ps us → Cells H' ps us → ∀ p ∈ ps, H p = H' p ∧ H p ≠ none := by
    intro ps us c c'
    induction c with
    | nil => exact fun p m => nomatch m
    | cons h r ih =>
      cases c' with
      | cons h' r' =>
        intro p m
        rcases List.mem_cons.mp m with e | m
        · rw [e, h.1, h'.1]; exact ⟨rfl, fun z => nomatch z⟩
        · exact ih r' p m
  have sm := same c c'
  refine ⟨fun a o h n => ?_, fun a n => ?_, fun P t => x.tab P (tabS_hide (Cells.mem c) t)⟩
  · by_cases z : a ∈ ps
    · rw [← (sm a z).1]; exact h
    · exact x.get a o (by rw [hide_out z]; exact h) n
  · by_cases z : a ∈ ps
    · exact absurd n (by rw [← (sm a z).1]; exact (sm a z).2)
    · have := x.fr a n
      rw [hide_out z] at this
      exact this
/-- what a method promises: a of α says which case; cells ps, what stands there ahead and behind, the arguments, the answer -/
structure MSpec (α : Type) where
  ps : α → List Addr
  self : α → V
  pre : α → List HO → Hp → Prop
  args : α → List D
  ok : α → Prop
  post : α → List HO → List HO → Hp → Prop
  res : α → D
def spM {α : Type} (K : PySem.W.Frag) (M : MSpec α) : Sp := fun vs H Q _ => TbOk K H ∧ ∃ (a : α) (us : List HO) (ws : List V), vs = M.self a :: ws ∧ Cells H (M.ps a) us ∧ M.pre a us (hide H (M.ps a)) ∧ RepAll K (hide H (M.ps a)) ws (M.args a) ∧ M.ok a ∧
  ∀ v H' us', Ex (hide H (M.ps a)) H' → Cells H' (M.ps a) us' → M.post a us us' (hide H' (M.ps a)) → Rep K (hide H' (M.ps a)) v (M.res a) → FreshD K H H' v (M.res a) → Q v H'
/-- what an __init__ promises -/
structure ISpec (α : Type) where
  args : α → List D
  ok : α → Prop
  post : α → Addr → Addr → List HO → Hp → Prop
def spI {α : Type} (K : PySem.W.Frag) (C : Addr) (M : ISpec α) : Sp := fun vs H Q _ => TbOk K H ∧ ∃ (a : α) (o dx : Addr) (ws : List V), vs = .ref o :: ws ∧ H o = some (.ins C dx []) ∧ RepAll K (hide H [o]) ws (M.args a) ∧ M.ok a ∧
  ∀ p H' us', H p = none → p ≠ o → Ex (hide H [o]) H' → Cells H' [o, p] us' → M.post a o p us' (hide H' [o, p]) → Q .non H'
section
variable {X : Cx} {Hb Hb' : Hp} {a b c e : Expr} {es : List Expr} {Γ Γ' : Slots} {pos p' p2 apos cpos : Pos} {d x y : D} {ds : List D} {Q S S' : D → Prop} {fr : Bool} {D0 : Ends} {rest sts : List Stmt} {st : Stmt}
/-- o.f, an attribute of what stands in a slot -/
theorem w_fldR {xn f : Str} {ps : List Addr} {v : V} {φ : List HO → Hp → Prop} {C : Addr} (hL : Look X.N Γ xn (.res ps v φ)) (c : Cls X.K C) (no : NoAttr X.K C f)
    (h : ∀ us Hz, φ us Hz → ∃ o dx fs w d rest r2, v = .ref o ∧ ps = o :: rest ∧ us = .ins C dx fs :: r2 ∧ fs.lookup f = some w ∧ Rep X.K Hz w d ∧ isCont d = false ∧ Q d)
    (hv : Vis X.env.scope xn := by first | exact Or.inl rfl | exact Or.inr (Or.inl rfl) | exact Or.inr (Or.inr rfl)) (hd : (xn == ("__debug__" : Str)) = false := by decide) (hcd : (xn == ("__classdict__" : Str)) = false := by decide)
    (hbase : attributeBase (.Name xn p') f X.env (eval (.Name xn p') X.env) = eval (.Name xn p') X.env := by rfl) :
    EvN X Hb (.Attribute (.Name xn p') f pos) Γ fr Q := fun σ H en Q' q => by
  obtain ⟨i, hN, hG⟩ := hL.ix
  obtain ⟨hσ, l1, l2, us, hc, hφ⟩ := en.resW hG
  obtain ⟨o, dx, fs, w, d, rest, r2, rfl, rfl, rfl, hf, r, hk, hq⟩ := h us _ hφ
  cases hc with
  | cons h1 h2 =>
    refine SemE.of (pe_fld (pe_var hN hv hd hcd) hbase) ?_
    exact ⟨_, hσ, o, C, dx, fs, w, rfl, h1.1, c, no, hf, q w H d hq Ex.refl (r.ex hide_ex) fun _ => FreshD.flat hk⟩
/-- what a method call asks of its slot -/
structure HasM (K : PySem.W.Frag) (C : Addr) (m : Str) (ps : List Addr) (v : V) (φ : List HO → Hp → Prop) : Prop where
  at_ : ∀ us Hz, φ us Hz → ∃ o dx fs rest r2, v = .ref o ∧ ps = o :: rest ∧ us = .ins C dx fs :: r2 ∧ fs.lookup m = none
/-- o.m(..), a call that changes nothing -/
theorem w_methP {α : Type} {M : MSpec α} {xn m : Str} {ps : List Addr} {v : V} {φ : List HO → Hp → Prop} {C f : Addr} {fd : FuncData} {pns : List Str} {k k' : Nat} (hL : Look X.N Γ xn (.res ps v φ)) (c : Cls X.K C) (hm : Meth X.K C m f)
    (F : FnOk X.prog X.w X.K X.mg X.base CX0 k f fd pns (spM X.K M)) (hb : Binds X.K fd pns []) (hr : Room k' X.A) (hat : HasM X.K C m ps v φ)
    (h : EvA X Hb (e :: es) Γ fun ds => D.flatAll ds = true ∧ ∃ a, M.ps a = ps ∧ M.self a = v ∧ (∀ us Hz, φ us Hz → M.pre a us Hz) ∧ M.args a = ds ∧ M.ok a ∧ (∀ us us' Hz, M.post a us us' Hz → us' = us) ∧ Q (M.res a)) (hk : k ≤ k' := by decide)
    (hv : Vis X.env.scope xn := by first | exact Or.inl rfl | exact Or.inr (Or.inl rfl) | exact Or.inr (Or.inr rfl)) (hd : (xn == ("__debug__" : Str)) = false := by decide) (hcd : (xn == ("__classdict__" : Str)) = false := by decide) {pl : Sem Bool}
    (hst : starEach (e :: es) X.env = (false, eval e X.env) :: starEach es X.env := by rfl) (hpl : (backTo pos (starEach es X.env)).any (·.1) = false := by rfl)
    (ht : eval (.Call (.Attribute (.Name xn p') m apos) (e :: es) [] pos) X.env = (do
      let ov ← eval (.Name xn p') X.env
      standAt apos.atName
      let (f, first) ← holding [ov] (getMethod ov m pl)
      callWith pos f first (backTo pos (starEach (e :: es) X.env)) (backToKw pos (keywordEach [] X.env))) := by rfl) :
    EvN X Hb (.Call (.Attribute (.Name xn p') m apos) (e :: es) [] pos) Γ fr Q := EvN.fresh fun σ H en Q' q => by
  obtain ⟨i, hN, hG⟩ := hL.ix
  obtain ⟨hσ, l1, l2, us, hc, hφ⟩ := en.resW hG
  obtain ⟨o, dx, fs, rest, r2, rfl, rfl, rfl, hf⟩ := hat.at_ us _ hφ
  cases hc with
  | cons h1 h2 =>
    refine SemE.of (pe_meth (pe_var hN hv hd hcd) c hm F (hr.mono hk) hb .nil pass0 (semA X (e :: es)) hst hpl ht) ?_
    refine ⟨_, hσ, o, dx, fs, rfl, h1.1, hf, h σ H en _ fun ws H1 ds ⟨fl, a, e1, e2, e3, e4, e5, e6, e7⟩ x1 r1 => ?_⟩
    obtain ⟨_, l1', l2', us', hc', hφ'⟩ := (en.ex x1).resW hG
    show spM X.K M (V.ref o :: (ws ++ [])) H1 _ E0
    rw [List.append_nil]
    subst e4
    refine ⟨en.tb.ex (en.base.trans x1), a, us', ws, by rw [e2], by rw [e1]; exact hc', by rw [e1]; exact e3 _ _ hφ', by rw [e1]; exact r1.hide l2' fl, e5, fun w H2 us2 x2 c2 p2 r2 f2 => ?_⟩
    rw [e1] at r2 x2 c2
    have ee := e6 _ _ _ p2
    subst ee
    exact q w H2 _ e7 (x1.trans (ex_cells x2 hc' c2)) (r2.ex hide_ex) fun _ => f2.back x1
/-- x, y = o.m(..), a call that changes what stands in the slot -/
theorem s_meth2 {α : Type} {M : MSpec α} {xn m : Str} {ps : List Addr} {v : V} {φ : List HO → Hp → Prop} {C f : Addr} {fd : FuncData} {pns : List Str} {k k' : Nat} {x1 x2 : Str} {px py pt : Pos} {kt : Nat} (hL : Look X.N Γ xn (.res ps v φ)) (c : Cls X.K C) (hm : Meth X.K C m f)
    (F : FnOk X.prog X.w X.K X.mg X.base CX0 k f fd pns (spM X.K M)) (hb : Binds X.K fd pns []) (hr : Room k' X.A) (hat : HasM X.K C m ps v φ)
    (h : EvA X Hb (e :: es) Γ fun ds => D.flatAll ds = true ∧ ∃ a ψ d1 d2, M.ps a = ps ∧ M.self a = v ∧ (∀ us Hz, φ us Hz → M.pre a us Hz) ∧ M.args a = ds ∧ M.ok a ∧ (∀ us us' H' qs Hz', M.post a us us' (hide H' ps) → Lsts H' qs → Ex (hide H' qs) Hz' → ψ us' Hz') ∧ M.res a = .tup [d1, d2] ∧ d1.flat = true ∧ d2.flat = true ∧
      Up1 X.N Γ xn (.res ps v ψ) fun Γ1 => StoreD false X.N Γ1 x1 d1 fun Γ2 => StoreD false X.N Γ2 x2 d2 fun Γ3 => Go X Hb rest D0 Γ3) (nd : X.N.Nodup) (hL1 : Has X.N x1) (hL2 : Has X.N x2) (hk : k ≤ k' := by decide)
    (hw : swappedStores [.Tuple [.Name x1 px, .Name x2 py] kt pt] (.Call (.Attribute (.Name xn p') m apos) (e :: es) [] cpos) X.env = pure none := by rfl) (hcm : X.calm = true := by rfl)
    (hx : Loc X.env.scope x1 := by first | exact Or.inl rfl | exact Or.inr rfl) (hy : Loc X.env.scope x2 := by first | exact Or.inl rfl | exact Or.inr rfl)
    (hf : X.fn x1 = true ∨ X.env.scope.names.lookup x1 = some .local := by first | exact .inl rfl | exact .inr rfl) (hf2 : X.fn x2 = true ∨ X.env.scope.names.lookup x2 = some .local := by first | exact .inl rfl | exact .inr rfl)
    (hn : (assignEach [.Name x1 px, .Name x2 py] X.env).length = 2 := by rfl) (hst' : (assignEach [.Name x1 px, .Name x2 py] X.env).findIdx? (·.1) = none := by rfl)
    (hz1 : (assignEach (.Name x1 px :: [.Name x2 py]) X.env).map (·.2) = assign (.Name x1 px) X.env :: (assignEach [.Name x2 py] X.env).map (·.2) := by rfl) (hz2 : (assignEach (.Name x2 py :: []) X.env).map (·.2) = assign (.Name x2 py) X.env :: (assignEach [] X.env).map (·.2) := by rfl)
    (hsw : swapsWithSole [.Tuple [.Name x1 px, .Name x2 py] kt pt] (.Call (.Attribute (.Name xn p') m apos) (e :: es) [] cpos) pos.line X.env = pure false := by rfl) (h1 : (assignEach [.Tuple [.Name x1 px, .Name x2 py] kt pt] X.env).map (·.2) = [assign (.Tuple [.Name x1 px, .Name x2 py] kt pt) X.env] := by rfl)
    (hv : Vis X.env.scope xn := by first | exact Or.inl rfl | exact Or.inr (Or.inl rfl) | exact Or.inr (Or.inr rfl)) (hd : (xn == ("__debug__" : Str)) = false := by decide) (hcd : (xn == ("__classdict__" : Str)) = false := by decide) {pl : Sem Bool}
    (hst : starEach (e :: es) X.env = (false, eval e X.env) :: starEach es X.env := by rfl) (hpl : (backTo cpos (starEach es X.env)).any (·.1) = false := by rfl)
    (ht : eval (.Call (.Attribute (.Name xn p') m apos) (e :: es) [] cpos) X.env = (do
      let ov ← eval (.Name xn p') X.env
      standAt apos.atName
      let (f, first) ← holding [ov] (getMethod ov m pl)
      callWith cpos f first (backTo cpos (starEach (e :: es) X.env)) (backToKw cpos (keywordEach [] X.env))) := by rfl) :
    Go X Hb (.Assign [.Tuple [.Name x1 px, .Name x2 py] kt pt] (.Call (.Attribute (.Name xn p') m apos) (e :: es) [] cpos) pos :: rest) D0 Γ := fun σ H en => by
  obtain ⟨i, hN, hG⟩ := hL.ix
  obtain ⟨i1, hi1⟩ := hL1.ix
  obtain ⟨i2, hi2⟩ := hL2.ix
  obtain ⟨hσ, l1, l2, us, hc, hφ⟩ := en.resW hG
  obtain ⟨o, dx, fs, rest, r2, rfl, rfl, rfl, hfl⟩ := hat.at_ us _ hφ
  cases hc with
  | cons c1 c2 =>
    refine SemSs.cons (ps_asg (pe_meth (pe_var hN hv hd hcd) c hm F (hr.mono hk) hb .nil pass0 (semA X (e :: es)) hst hpl ht) (pg_tup hcm (pgs_cons (pg_name nd hi1 hx hf) (pgs_cons (pg_name nd hi2 hy hf2) pgs_nil hz2) hz1) hn hst') hsw hw h1) ?_
    refine ⟨_, hσ, o, dx, fs, rfl, c1.1, hfl, h σ H en _ fun ws H1 ds ⟨fl, a, ψ, d1, d2, e1, e2, e3, e4, e5, e6, e7, e8, e9, go⟩ x1 r1 => ?_⟩
    obtain ⟨_, l1', l2', us', hc', hφ'⟩ := (en.ex x1).resW hG
    show spM X.K M (V.ref o :: (ws ++ [])) H1 _ E0
    rw [List.append_nil]
    subst e4
    refine ⟨en.tb.ex (en.base.trans x1), a, us', ws, by rw [e2], by rw [e1]; exact hc', by rw [e1]; exact e3 _ _ hφ', by rw [e1]; exact r1.hide l2' fl, e5, fun w H2 us2 x2 c2 p2 r2 f2 => ?_⟩
    rw [e1] at r2 x2 c2 p2
    rw [e7] at r2
    obtain ⟨Γ1, hu, go⟩ := go
    obtain ⟨j, hj, rfl⟩ := hu.ix
    have hij := nodup_ix nd hN hj
    subst hij
    have en2 : EnvOk X.K Hb (Γ.set i (.res (o :: rest) (.ref o) ψ)) σ H2 := (en.ex x1).mutEx (e := .res (o :: rest) (.ref o) φ) (e' := .res (o :: rest) (.ref o) ψ) hG hσ rfl x2 (fun p m => Cells.mem c2 p m) fun Hz xz nz lz ez => ⟨rfl, us2, c2, nz, fun Hz' xx => e6 _ _ _ _ _ p2 lz (ez.trans xx)⟩
    cases r2 with
    | tup hq ra =>
      cases ra with
      | cons ra rr =>
        cases rr with
        | cons rb rr =>
            cases rr
            obtain ⟨Γ2, g1, en3⟩ := go.ok (own := false) nd hi1 en2 Ex.refl (ra.ex hide_ex) fun z => nomatch z
            obtain ⟨Γ3, g2, en4⟩ := g1.ok (own := false) nd hi2 en3 Ex.refl (rb.ex hide_ex) fun z => nomatch z
            exact ⟨_, _, rfl, SqT.ex hide_ex hq, rfl, _, _, rfl, _, _, rfl, rfl, g2 _ _ en4⟩
end
end L3

/-! Core56: x, y = C(..), e; a dict of words and their places. -/
namespace L3
open PySem PySem.Spec PyProof.Rows L2
section
variable {X : Cx} {Hb : Hp} {a b e : Expr} {es : List Expr} {Γ : Slots} {pos p1 p2 p3 cpos : Pos} {ds : List D} {Q : D → Prop} {D0 : Ends} {rest : List Stmt}
/-- x, y = C(..), e -/
theorem s_make2 {α : Type} {M : ISpec α} {cn xn yn : Str} {C f : Addr} {fd : FuncData} {pns : List Str} {k k' kt k2 : Nat} {px py pt pt2 pc : Pos} (Mc : Mk X.K C f)
    (F : FnOk X.prog X.w X.K X.mg X.base CX0 k f fd pns (spI X.K C M)) (hb : Binds X.K fd pns []) (hr : Room k' X.A) (hm : X.mg cn = some (.ref C))
    (h : EvA X Hb (e :: es) Γ fun ds => D.flatAll ds = true ∧ ∃ a, M.args a = ds ∧ M.ok a ∧ EvN X Hb b Γ false fun d2 => d2.flat = true ∧ ∀ o p, Up1 X.N Γ xn (.res [o, p] (.ref o) (M.post a o p)) fun Γ1 => StoreD false X.N Γ1 yn d2 fun Γ2 => Go X Hb rest D0 Γ2) (nd : X.N.Nodup) (hL1 : Has X.N xn) (hL2 : Has X.N yn)
    (hmono : ∀ a o p us Hz Hz', M.post a o p us Hz → Ex Hz Hz' → M.post a o p us Hz')
    (hhide : ∀ a o p us H' qs, M.post a o p us (hide H' [o, p]) → Lsts H' qs → M.post a o p us (hide H' qs))
    (hk : k + 1 ≤ k' := by decide) (hg : Gl X cn := by rfl) (hdb : (cn == ("__debug__" : Str)) = false := by decide)
    (he : starEach (e :: es) X.env = (false, eval e X.env) :: starEach es X.env := by rfl) (hpl : (backTo cpos (starEach es X.env)).any (·.1) = false := by rfl)
    (hs1 : starEach (.Call (.Name cn pc) (e :: es) [] cpos :: [b]) X.env = (false, eval (.Call (.Name cn pc) (e :: es) [] cpos) X.env) :: starEach [b] X.env := by rfl) (hs2 : starEach (b :: []) X.env = (false, eval b X.env) :: starEach [] X.env := by rfl)
    (hw : swappedStores [.Tuple [.Name xn px, .Name yn py] kt pt] (.Tuple [.Call (.Name cn pc) (e :: es) [] cpos, b] k2 pt2) X.env = pure none := by rfl) (hcm : X.calm = true := by rfl)
    (hx : Loc X.env.scope xn := by first | exact Or.inl rfl | exact Or.inr rfl) (hy : Loc X.env.scope yn := by first | exact Or.inl rfl | exact Or.inr rfl)
    (hf : X.fn xn = true ∨ X.env.scope.names.lookup xn = some .local := by first | exact .inl rfl | exact .inr rfl) (hf2 : X.fn yn = true ∨ X.env.scope.names.lookup yn = some .local := by first | exact .inl rfl | exact .inr rfl)
    (hn : (assignEach [.Name xn px, .Name yn py] X.env).length = 2 := by rfl) (hst' : (assignEach [.Name xn px, .Name yn py] X.env).findIdx? (·.1) = none := by rfl)
    (hz1 : (assignEach (.Name xn px :: [.Name yn py]) X.env).map (·.2) = assign (.Name xn px) X.env :: (assignEach [.Name yn py] X.env).map (·.2) := by rfl) (hz2 : (assignEach (.Name yn py :: []) X.env).map (·.2) = assign (.Name yn py) X.env :: (assignEach [] X.env).map (·.2) := by rfl)
    (hsw : swapsWithSole [.Tuple [.Name xn px, .Name yn py] kt pt] (.Tuple [.Call (.Name cn pc) (e :: es) [] cpos, b] k2 pt2) pos.line X.env = pure false := by rfl) (h1 : (assignEach [.Tuple [.Name xn px, .Name yn py] kt pt] X.env).map (·.2) = [assign (.Tuple [.Name xn px, .Name yn py] kt pt) X.env] := by rfl) :
    Go X Hb (.Assign [.Tuple [.Name xn px, .Name yn py] kt pt] (.Tuple [.Call (.Name cn pc) (e :: es) [] cpos, b] k2 pt2) pos :: rest) D0 Γ := fun σ H en => by
  obtain ⟨i, hi⟩ := hL1.ix
  obtain ⟨j, hj⟩ := hL2.ix
  refine SemSs.cons (ps_asg (pe_tup (pa_cons (pe_make Mc F (hr.mono hk) hg hm hb .nil pass0 (semA X (e :: es)) hdb he hpl) (pa_cons (semE X b) pa_nil hs2) hs1)) (pg_tup hcm (pgs_cons (pg_name nd hi hx hf) (pgs_cons (pg_name nd hj hy hf2) pgs_nil hz2) hz1) hn hst') hsw hw h1) ?_
  refine h σ H en _ fun ws H1 ds ⟨fl, a, e1, e2, hB⟩ x1 r1 o dx no ndx hne => ?_
  have en1 := en.ex x1
  have hne' : o ≠ dx := fun z => hne z.symm
  have n2 : (upd H1 dx (.own o)) o = none := by rw [upd_ne hne']; exact no
  have x2 : Ex H1 (upd (upd H1 dx (.own o)) o (.ins C dx [])) := (Ex.new ndx).trans (Ex.new n2)
  show spI X.K C M (V.ref o :: (ws ++ [])) _ _ E0
  rw [List.append_nil]
  subst e1
  have lo : Lsts (upd (upd H1 dx (.own o)) o (.ins C dx [])) [o] := fun q m => by rw [List.mem_singleton.mp m]; exact ⟨_, upd_same, trivial⟩
  refine ⟨en.tb.ex (en.base.trans (x1.trans x2)), a, o, dx, ws, rfl, upd_same, (RepAll.ex x2 r1).hide lo fl, e2, fun p H3 us hp hpo x3 hc hpost => ⟨rfl, ?_⟩⟩
  have l3 : Lsts H3 [o, p] := Cells.mem hc
  have np1 : H1 p = none := (x2.fr p hp)
  have x13 : Ex H1 H3 := by
    have q1 : Ex H1 (hide (upd (upd H1 dx (.own o)) o (.ins C dx [])) [o]) := ex_hide x2 lo fun q m => by rw [List.mem_singleton.mp m]; exact no
    exact q1.trans x3
  have en3 := en1.ex x13
  refine hB σ H3 en3 _ fun v2 H4 d2 ⟨f2, g⟩ x4 r2 _ => ?_
  refine ⟨by show 2 ≤ sizeLine; decide, fun t ht => ?_⟩
  refine ⟨_, _, rfl, SqT.of upd_same, rfl, ?_⟩
  have x5 : Ex H4 (upd H4 t (.tup [.ref o, v2])) := Ex.new ht
  have xx : Ex H (upd H4 t (.tup [.ref o, v2])) := ((x1.trans x13).trans x4).trans x5
  have hcc : Cells (upd H4 t (.tup [.ref o, v2])) [o, p] us := Cells.on hc fun q u m hq mu => (x4.trans x5).get q u hq mu.nt
  have hhz : ∀ qs, Lsts (upd H4 t (.tup [.ref o, v2])) qs → Lsts H3 qs → M.post a o p us (hide (upd H4 t (.tup [.ref o, v2])) qs) := fun qs lq lq3 => hmono _ _ _ _ _ _ (hhide _ _ _ _ _ _ hpost lq3) ((x4.trans x5).hides lq)
  have hgo := g o p
  obtain ⟨Γ1, hu, go⟩ := hgo
  obtain ⟨i', hi', rfl⟩ := hu.ix
  have := nodup_ix nd hi hi'
  subst this
  have en' : EnvOk X.K Hb (Γ.set i (.res [o, p] (.ref o) (M.post a o p))) (σ.set i (some (.ref o))) (upd H4 t (.tup [.ref o, v2])) := by
    refine en.setNew (e := .res [o, p] (.ref o) (M.post a o p)) ?_ xx ?_ (Cells.mem hcc) ?_
    · intro q m
      rcases List.mem_cons.mp m with z | m
      · rw [z]; exact x1.fr _ no
      · rw [List.mem_singleton.mp m]; exact x1.fr _ np1
    · exact List.nodup_cons.mpr ⟨fun z => hpo (List.mem_singleton.mp z).symm, List.nodup_cons.mpr ⟨(fun z => nomatch z), List.nodup_nil⟩⟩
    · intro Hz xz nz ez
      have lq3 : Lsts H3 ([o, p] ++ owns Γ) := fun q m => by
        rcases List.mem_append.mp m with z | z
        · exact l3 q z
        · exact owns_lsts en3.wide.2.2.1 q z
      have lq : Lsts (upd H4 t (.tup [.ref o, v2])) ([o, p] ++ owns Γ) := fun q m => by
        obtain ⟨u, hq, mu⟩ := lq3 q m
        exact ⟨u, (x4.trans x5).get q u hq mu.nt, mu⟩
      exact ⟨rfl, us, hcc, nz, fun Hz' xx => hmono _ _ _ _ _ _ (hhz _ lq lq3) (ez.trans xx)⟩
  obtain ⟨Γ2, g2, en2⟩ := go.ok (own := false) nd hj en' Ex.refl (r2.ex x5) fun z => nomatch z
  exact ⟨_, _, rfl, _, _, rfl, rfl, g2 _ _ en2⟩
end
/-! ### words and their places -/
theorem flat_dTI (ns : List Int) : (dTI ns).flat = true := by
  show D.flatAll (ns.map .int) = true
  induction ns with
  | nil => rfl
  | cons n ns ih => exact Bool.and_eq_true_iff.mpr ⟨rfl, ih⟩
theorem dicO_ne {P : Program} {w : World} {D c : Addr} {ps : List DEnt} {q : Str} (h : DicO P w D ps = LamX.CodeO c q) (e : c = D) : False := by
  subst e
  have h1 : (fun h : Heap => DicT P w h c ps) = fun h => ∃ (oc : Obj) (vs : Array Value) (t : Tok), h.get? c = some oc ∧ oc.data = .fields vs ∧ vs[1]? = some (.str q t) := HO.ext.inj h
  have hg : ((⟨Array.replicate c default, {}⟩ : Heap).push { cls := .none, data := .fields #[.none, .str q default] }).get? c = some { cls := .none, data := .fields #[.none, .str q default] } := by
    have := Heap.get?_push_size (⟨Array.replicate c default, {}⟩ : Heap) (o := { cls := .none, data := .fields #[.none, .str q default] }) rfl
    rwa [show (⟨Array.replicate c default, {}⟩ : Heap).objs.size = c from Array.size_replicate] at this
  have h2 : DicT P w ((⟨Array.replicate c default, {}⟩ : Heap).push { cls := .none, data := .fields #[.none, .str q default] }) c ps := by
    rw [show DicT P w _ c ps = _ from congrFun h1 _]
    exact ⟨_, _, _, hg, rfl, rfl⟩
  obtain ⟨_, xs, _, o, es, ep, e1, _, e2, _⟩ := h2
  rw [hg] at e1
  cases e1
  cases e2
structure DicWs (ps : List DEnt) (ws : List (List Int)) : Prop where
  k : ps.map (·.1) = ws
  v : ps.map (·.2.2) = (List.range ws.length).map fun (i : Nat) => (i : Int)
theorem DicWs.at_ {ps : List DEnt} {ws : List (List Int)} (h : DicWs ps ws) {i : Nat} {p : DEnt} (e : ps[i]? = some p) : ws[i]? = some p.1 ∧ p.2.2 = (i : Int) := by
  have h1 : ws[i]? = some p.1 := by rw [← h.k, List.getElem?_map, e]; rfl
  have hi : i < ws.length := (List.getElem?_eq_some_iff.mp h1).1
  have h2 : (ps.map (·.2.2))[i]? = some p.2.2 := by rw [List.getElem?_map, e]; rfl
  rw [h.v, List.getElem?_map, List.getElem?_range hi] at h2
  exact ⟨h1, (Option.some.inj h2).symm⟩
theorem DicWs.none_ {ps : List DEnt} {ws : List (List Int)} (h : DicWs ps ws) {ns : List Int} (n : ns ∉ ws) : dlook ps ns = none := dlook_none (by rw [h.k]; exact n)
theorem DicWs.some_ {ps : List DEnt} {ws : List (List Int)} (h : DicWs ps ws) (nd : ws.Nodup) {i : Nat} {ns : List Int} (e : ws[i]? = some ns) : dlook ps ns = some (i : Int) := by
  have hi : i < ws.length := (List.getElem?_eq_some_iff.mp e).1
  cases hf : ps.find? fun p => decide (p.1 = ns) with
  | none =>
    rw [List.find?_eq_none] at hf
    have hl : ps.length = ws.length := by rw [← h.k, List.length_map]
    have hp : ps[i]? = some (ps[i]'(by omega)) := List.getElem?_eq_getElem _
    obtain ⟨h1, _⟩ := h.at_ hp
    rw [e] at h1
    exact absurd (decide_eq_true (Option.some.inj h1).symm) (hf _ (List.getElem_mem _))
  | some p =>
    have h1 := List.find?_some hf
    have h1 := of_decide_eq_true h1
    have h2 := List.mem_of_find?_eq_some hf
    obtain ⟨m, hm, hpm⟩ := List.mem_iff_getElem.mp h2
    obtain ⟨h3, h4⟩ := h.at_ (i := m) (p := p) (by rw [List.getElem?_eq_getElem hm, hpm])
    rw [h1] at h3
    have hm' : m < ws.length := (List.getElem?_eq_some_iff.mp h3).1
    have : m = i := (List.getElem_inj (h₀ := hm') (h₁ := hi) nd).mp (by rw [(List.getElem?_eq_some_iff.mp h3).2, (List.getElem?_eq_some_iff.mp e).2])
    unfold dlook
    rw [hf, ← this]
    exact congrArg some h4
section
variable {X : Cx} {Hb : Hp} {tg it : Expr} {Γ : Slots} {own : List (Str × Nat)}
/-- {word: place for place, word in enumerate(..)} -/
theorem dict_enum {ws : List (List Int)} {i j : Nat} (nd : ws.Nodup) (few : ws.length < 100000) (hij : i ≠ j) (hi : i < Γ.length) (hj : j < Γ.length) (hown : ∀ m ∈ (Tg.tp [.nm i, .nm j]).slots, m ∈ own.map (·.2))
    (hit : EvJ X Hb tg it Γ (· = (ws.map dTI).mapIdx fun i d => D.tup [.int (i : Nat), d])) : ∃ wi, PI X tg it wi ∧ ∀ σ H, EnvOk X.K Hb Γ σ H → ∀ Q : VK,
      (∀ D H' ps, Ex H H' → H' D = some (DicO X.prog X.w D ps) → (∀ p ∈ ps, SqT X.K H' p.2.1 (p.1.map V.int)) → DicWs ps ws → Q (.ref D) H') → tDict X wi (Tg.g X.K (.tp [.nm i, .nm j])) (tVar j) (tVar i) (own.map (·.2)) σ H Q := by
  obtain ⟨wi, hpi, hw⟩ := hit
  refine ⟨wi, hpi, fun σ H en Q q => ?_⟩
  refine hw σ H en _ fun J H1 ds e1 x ⟨G, Y, w, hG, hY⟩ => ?_
  subst e1
  have en1 := en.ex x
  rw [List.length_mapIdx, List.length_map] at w hY
  refine fun D hD => ⟨fun k m Hn => m = ws.length - k ∧ k ≤ ws.length ∧ Ex H1 Hn ∧ ∃ ps, Hn D = some (DicO X.prog X.w D ps) ∧ (∀ p ∈ ps, SqT X.K Hn p.2.1 (p.1.map V.int)) ∧ DicWs ps (ws.take k), ⟨_, rfl, Nat.zero_le _, Ex.new hD, [], upd_same, (fun p m => nomatch m), ⟨rfl, rfl⟩⟩, ?_⟩
  rintro k m Hn ⟨rfl, hk, xn, ps, hd, hks, hws⟩
  rcases Nat.lt_or_eq_of_le hk with hlt | heq
  · refine .inr ⟨w.goes _ _ hlt (hG _ (hide_ex.trans xn)), fun H' => k + 1 ≤ ws.length ∧ Ex H1 H' ∧ ∃ ps, H' D = some (DicO X.prog X.w D ps) ∧ (∀ p ∈ ps, SqT X.K H' p.2.1 (p.1.map V.int)) ∧ DicWs ps (ws.take (k + 1)), fun H' ⟨a, b⟩ => ⟨ws.length - (k + 1), by omega, rfl, a, b⟩, fun v H3 y => ?_⟩
    obtain ⟨x3, dx, hdx, rv⟩ := hY k Hn v H3 hlt (hide_ex.trans xn) (w.yields _ _ _ _ hlt (hG _ (hide_ex.trans xn)) y)
    rw [List.getElem?_mapIdx, List.getElem?_map, List.getElem?_eq_getElem hlt] at hdx
    have hdx := (Option.some.inj hdx).symm
    simp only at hdx
    subst hdx
    have eg : ((wipeG Γ (own.map (·.2))).set i (.dat (.int (k : Nat)))).length = Γ.length := by
      have : ∀ (l : List Nat) (G : Slots), (wipeG G l).length = G.length := fun l => by
        induction l with
        | nil => intro G; rfl
        | cons a l ih => intro G; first | (show ((wipeG G l).set a .any).length = _; rw [List.length_set, ih]) | (show (wipeG (G.set a .any) l).length = _; rw [ih, List.length_set])
      rw [List.length_set, this]
    have hput : Put (.tp [.nm i, .nm j]) (.tup [.int (k : Nat), dTI ws[k]]) (wipeG Γ (own.map (·.2))) (((wipeG Γ (own.map (·.2))).set i (.dat (.int (k : Nat)))).set j (.dat (dTI ws[k]))) :=
      ⟨_, rfl, _, _, _, rfl, ⟨.inl rfl, rfl⟩, _, _, _, rfl, ⟨.inl (flat_dTI _), rfl⟩, rfl, rfl⟩
    refine put_ok (own := own.map (·.2)) hput hown (wipe_env (en1.ex (xn.trans x3)) _) rv _ fun σ' en2 hwp => ?_
    refine ⟨hwp.trans (wipe_wipe _ _) ▸ by rw [hwp, wipe_wipe], ?_⟩
    obtain ⟨v1, s1, r1⟩ := en2.dat (i := j) (d := dTI ws[k]) (by rw [List.getElem?_set_self (by rw [eg]; exact hj)])
    obtain ⟨v2, s2, r2⟩ := en2.dat (i := i) (d := .int (k : Nat)) (by rw [List.getElem?_set_ne hij.symm, List.getElem?_set_self (by rw [List.length_set] at eg; rw [eg]; exact hi)])
    refine ⟨v1, s1, v2, s2, ?_⟩
    have hd3 : H3 D = some (DicO X.prog X.w D ps) := x3.ext hd
    have hks3 : ∀ p ∈ ps, SqT X.K H3 p.2.1 (p.1.map V.int) := fun p m => SqT.ex x3 (hks p m)
    cases r2
    cases r1 with
    | @tup b vs _ hq ra =>
      have ev := RepAll.ints ra
      subst ev
      have hdd : ∀ {c : Addr} {zs : List V}, SqT X.K H3 c zs → SqT X.K (upd H3 D (DicO X.prog X.w D (ps ++ [(ws[k], b, (k : Int))]))) c zs := fun {c zs} hc => by
        rcases hc with hc | hc
        · refine .inl ?_
          rcases hc with hc | ⟨o, hc⟩
          · exact .inl (by rw [upd_ne fun z => by rw [z, hd3] at hc; cases hc]; exact hc)
          · exact .inr ⟨o, by rw [upd_ne fun z => by rw [z, hd3] at hc; cases hc]; exact hc⟩
        · exact .inr hc
      have hlen : ps.length = k := by
        have := congrArg List.length hws.k
        rw [List.length_map, List.length_take] at this
        omega
      have etk : ws.take (k + 1) = ws.take k ++ [ws[k]] := by rw [List.take_add_one, List.getElem?_eq_getElem hlt]; rfl
      refine ⟨ps, ws[k], b, (k : Int), rfl, rfl, hd3, hks3, hq, ?_, by rw [hlen]; exact Nat.lt_of_lt_of_le hlt (Nat.le_trans (Nat.le_of_lt few) (by decide)), hlt, ?_, ps ++ [(ws[k], b, (k : Int))], upd_same, ?_, ?_⟩
      · rw [hws.k]
        intro hm
        obtain ⟨m, hm1, hm2⟩ := List.mem_iff_getElem.mp hm
        rw [List.length_take] at hm1
        rw [List.getElem_take] at hm2
        have : m = k := (List.getElem_inj (h₀ := by omega) (h₁ := hlt) nd).mp hm2
        omega
      · refine ⟨fun c o hc n => ?_, fun c hc => ?_, fun P t => ?_⟩
        · rw [upd_ne fun z => by rw [z, hD] at hc; cases hc]; exact (xn.trans x3).get c o hc n
        · by_cases z : c = D
          · rw [z]; exact hD
          · rw [upd_ne z] at hc; exact (xn.trans x3).fr c hc
        · obtain ⟨ps', t1, t2, t3⟩ := (xn.trans x3).tab P t
          refine ⟨ps', ?_, t2, fun pos cv hc => ?_⟩
          · rw [upd_ne fun z => by rw [z, hd3] at t1; cases t1]; exact t1
          · obtain ⟨c', u1, u2⟩ := t3 pos cv hc
            obtain ⟨ps0, q1, q2, q3⟩ := t
            refine ⟨c', u1, ?_⟩
            rw [upd_ne ?_]
            · exact u2
            · intro z
              have u3 := u2
              rw [z, hd3] at u3
              exact dicO_ne (Option.some.inj u3) rfl
      · intro p m
        rcases List.mem_append.mp m with m | m
        · exact hdd (hks3 p m)
        · rw [List.mem_singleton.mp m]; exact hdd hq
      · refine ⟨?_, ?_⟩
        · rw [List.map_append, hws.k, etk]; rfl
        · rw [List.map_append, hws.v, etk, List.length_append, List.length_take, Nat.min_eq_left (Nat.le_of_lt hlt)]
          show _ ++ [(k : Int)] = _
          rw [show ([ws[k]] : List (List Int)).length = 1 from rfl, List.range_succ, List.map_append]
          rfl
  · subst heq
    refine .inl ⟨w.stops _ (hG _ (hide_ex.trans xn)), ?_⟩
    rw [List.take_length] at hws
    exact q D Hn ps (x.trans xn) hd hks hws
end
end L3

/-! Core57: C(..).m(..), a new object asked and thrown away. -/
namespace L3
open PySem PySem.Spec PyProof.Rows L2
section
variable {X : Cx} {Hb : Hp} {a b e : Expr} {es bs : List Expr} {Γ : Slots} {pos p1 p2 p3 cpos apos : Pos} {ds : List D} {Q : D → Prop} {fr : Bool}
theorem w_makeMeth {α β : Type} {M : ISpec α} {N : MSpec β} {cn m : Str} {C f f2 : Addr} {fd fd2 : FuncData} {pns pns2 : List Str} {k k2 k' : Nat} {pc : Pos} (Mc : Mk X.K C f) (c : Cls X.K C) (hmt : Meth X.K C m f2)
    (F : FnOk X.prog X.w X.K X.mg X.base CX0 k f fd pns (spI X.K C M)) (hb : Binds X.K fd pns []) (F2 : FnOk X.prog X.w X.K X.mg X.base CX0 k2 f2 fd2 pns2 (spM X.K N)) (hb2 : Binds X.K fd2 pns2 []) (hr : Room k' X.A) (hm : X.mg cn = some (.ref C))
    (h : EvA X Hb (e :: es) Γ fun ds => D.flatAll ds = true ∧ ∃ a, M.args a = ds ∧ M.ok a ∧ (∀ o p us Hz, M.post a o p us Hz → ∃ dx fs r2, us = .ins C dx fs :: r2 ∧ fs.lookup m = none) ∧ EvA X Hb (b :: bs) Γ fun ds2 => D.flatAll ds2 = true ∧ ∀ o p, ∃ a2, N.ps a2 = [o, p] ∧ N.self a2 = .ref o ∧ (∀ us Hz, M.post a o p us Hz → N.pre a2 us Hz) ∧ N.args a2 = ds2 ∧ N.ok a2 ∧ isCont (N.res a2) = false ∧ Q (N.res a2))
    (hmono : ∀ a o p us Hz Hz', M.post a o p us Hz → Ex Hz Hz' → M.post a o p us Hz')
    (hk : k + 1 ≤ k' := by decide) (hk2 : k2 ≤ k' := by decide) (hg : Gl X cn := by rfl) (hdb : (cn == ("__debug__" : Str)) = false := by decide)
    (he : starEach (e :: es) X.env = (false, eval e X.env) :: starEach es X.env := by rfl) (hpl : (backTo cpos (starEach es X.env)).any (·.1) = false := by rfl)
    (hst : starEach (b :: bs) X.env = (false, eval b X.env) :: starEach bs X.env := by rfl) (hpl2 : (backTo pos (starEach bs X.env)).any (·.1) = false := by rfl) {pl : Sem Bool}
    (ht : eval (.Call (.Attribute (.Call (.Name cn pc) (e :: es) [] cpos) m apos) (b :: bs) [] pos) X.env = (do
      let ov ← eval (.Call (.Name cn pc) (e :: es) [] cpos) X.env
      standAt apos.atName
      let (f, first) ← holding [ov] (getMethod ov m pl)
      callWith pos f first (backTo pos (starEach (b :: bs) X.env)) (backToKw pos (keywordEach [] X.env))) := by rfl) :
    EvN X Hb (.Call (.Attribute (.Call (.Name cn pc) (e :: es) [] cpos) m apos) (b :: bs) [] pos) Γ fr Q := EvN.fresh fun σ H en Q' q => by
  refine SemE.of (pe_meth (pe_make Mc F (hr.mono hk) hg hm hb .nil pass0 (semA X (e :: es)) hdb he hpl) c hmt F2 (hr.mono hk2) hb2 .nil pass0 (semA X (b :: bs)) hst hpl2 ht) ?_
  refine h σ H en _ fun ws H1 ds ⟨fl, a, e1, e2, hat, hB⟩ x1 r1 o dx no ndx hne => ?_
  have en1 := en.ex x1
  have hne' : o ≠ dx := fun z => hne z.symm
  have n2 : (upd H1 dx (.own o)) o = none := by rw [upd_ne hne']; exact no
  have x2 : Ex H1 (upd (upd H1 dx (.own o)) o (.ins C dx [])) := (Ex.new ndx).trans (Ex.new n2)
  show spI X.K C M (V.ref o :: (ws ++ [])) _ _ E0
  rw [List.append_nil]
  subst e1
  have lo : Lsts (upd (upd H1 dx (.own o)) o (.ins C dx [])) [o] := fun q m => by rw [List.mem_singleton.mp m]; exact ⟨_, upd_same, trivial⟩
  refine ⟨en.tb.ex (en.base.trans (x1.trans x2)), a, o, dx, ws, rfl, upd_same, (RepAll.ex x2 r1).hide lo fl, e2, fun p H3 us hp hpo x3 hc hpost => ⟨rfl, ?_⟩⟩
  have l3 : Lsts H3 [o, p] := Cells.mem hc
  have np1 : H1 p = none := (x2.fr p hp)
  have x13 : Ex H1 H3 := by
    have q1 : Ex H1 (hide (upd (upd H1 dx (.own o)) o (.ins C dx [])) [o]) := ex_hide x2 lo fun q m => by rw [List.mem_singleton.mp m]; exact no
    exact q1.trans x3
  have en3 := en1.ex x13
  obtain ⟨dx3, fs, r2, rfl, hfl⟩ := hat o p us _ hpost
  have ho3 : H3 o = some (.ins C dx3 fs) := by cases hc with | cons a _ => exact a.1
  refine ⟨o, dx3, fs, rfl, ho3, hfl, ?_⟩
  refine hB σ H3 en3 _ fun ws2 H4 ds2 ⟨fl2, g⟩ x4 r4 => ?_
  obtain ⟨a2, g1, g2, g3, g4, g5, g6, g7⟩ := g o p
  show spM X.K N (V.ref o :: (ws2 ++ [])) H4 _ E0
  rw [List.append_nil]
  subst g4
  have hc4 : Cells H4 [o, p] (.ins C dx3 fs :: r2) := Cells.on hc fun q u m hq mu => x4.get q u hq mu.nt
  have l4 := Cells.mem hc4
  refine ⟨en.tb.ex (en.base.trans ((x1.trans x13).trans x4)), a2, _, ws2, by rw [g2], by rw [g1]; exact hc4, by rw [g1]; exact g3 _ _ (hmono _ _ _ _ _ _ hpost (x4.hides l4)), by rw [g1]; exact r4.hide l4 fl2, g5, fun v H5 us5 x5 c5 p5 r5 f5 => ?_⟩
  rw [g1] at x5 r5
  have n4 : ∀ q ∈ [o, p], H1 q = none := fun q m => by
    rcases List.mem_cons.mp m with z | m
    · rw [z]; exact no
    · rw [List.mem_singleton.mp m]; exact np1
  have x15 : Ex H1 H5 := (ex_hide (x13.trans x4) l4 n4).trans x5
  exact q v H5 _ g7 (x1.trans x15) (r5.ex hide_ex) fun _ => FreshD.flat g6
end
end L3

/-! Core58: divmod. -/
namespace L3
open PySem PySem.Spec PyProof.Rows L2
section
variable {X : Cx} {Hb : Hp} {a b e : Expr} {es : List Expr} {Γ : Slots} {pos p1 p2 p3 cpos apos : Pos} {ds : List D} {Q : D → Prop} {fr : Bool} {D0 : Ends} {rest : List Stmt}
theorem w_divmod {pn : Pos} (hm : X.mg "divmod" = none) (h : EvA X Hb [a, b] Γ fun ds => ∃ i j, ds = [.int i, .int j] ∧ CDivP i j ∧ Q (.tup [.int (i / j), .int (i % j)])) (hg : Gl X "divmod" := by rfl) (he : starEach [a, b] X.env = (false, eval a X.env) :: starEach [b] X.env := by rfl) (hpl : (backTo pos (starEach [b] X.env)).any (·.1) = false := by rfl) :
    EvN X Hb (.Call (.Name "divmod" pn) [a, b] [] pos) Γ fr Q := EvN.fresh (evn_B call_divmodW hm h (fun vs H ds Q' s r k => by
      obtain ⟨i, j, rfl, hc, hq⟩ := s
      have e := r.int2
      subst e
      exact ⟨i, j, rfl, hc, fun p hp => k _ _ _ hq (Ex.new hp) (.tup (SqT.of upd_same) (.cons (.int _) (.cons (.int _) .nil))) (FreshD.flat rfl)⟩) (by decide +kernel) hg (by decide) (by decide) he hpl)
/-- x, y = C(..), e, plain locals -/
theorem s_make2p {α : Type} {M : ISpec α} {cn xn yn : Str} {C f : Addr} {fd : FuncData} {pns : List Str} {k k' kt k2 : Nat} {px py pt pt2 pc : Pos} (Mc : Mk X.K C f)
    (F : FnOk X.prog X.w X.K X.mg X.base CX0 k f fd pns (spI X.K C M)) (hb : Binds X.K fd pns []) (hr : Room k' X.A) (hm : X.mg cn = some (.ref C))
    (h : EvA X Hb (e :: es) Γ fun ds => D.flatAll ds = true ∧ ∃ a, M.args a = ds ∧ M.ok a ∧ EvN X Hb b Γ false fun d2 => d2.flat = true ∧ ∀ o p, Up1 X.N Γ xn (.res [o, p] (.ref o) (M.post a o p)) fun Γ1 => StoreD false X.N Γ1 yn d2 fun Γ2 => Go X Hb rest D0 Γ2) (nd : X.N.Nodup) (hL1 : Has X.N xn) (hL2 : Has X.N yn)
    (hmono : ∀ a o p us Hz Hz', M.post a o p us Hz → Ex Hz Hz' → M.post a o p us Hz')
    (hhide : ∀ a o p us H' qs, M.post a o p us (hide H' [o, p]) → Lsts H' qs → M.post a o p us (hide H' qs))
    (hk : k + 1 ≤ k' := by decide) (hg : Gl X cn := by rfl) (hdb : (cn == ("__debug__" : Str)) = false := by decide)
    (he : starEach (e :: es) X.env = (false, eval e X.env) :: starEach es X.env := by rfl) (hpl : (backTo cpos (starEach es X.env)).any (·.1) = false := by rfl)
    (hs1 : starEach (.Call (.Name cn pc) (e :: es) [] cpos :: [b]) X.env = (false, eval (.Call (.Name cn pc) (e :: es) [] cpos) X.env) :: starEach [b] X.env := by rfl) (hs2 : starEach (b :: []) X.env = (false, eval b X.env) :: starEach [] X.env := by rfl)
    (hne0 : xn ≠ yn) (hw : swappedStores [.Tuple [.Name xn px, .Name yn py] kt pt] (.Tuple [.Call (.Name cn pc) (e :: es) [] cpos, b] k2 pt2) X.env = pure (some [xn, yn])) (hcm : X.calm = true := by rfl)
    (hx : X.env.scope.names.lookup xn = some .local := by rfl) (hy : X.env.scope.names.lookup yn = some .local := by rfl)
    (hsw : swapsWithSole [.Tuple [.Name xn px, .Name yn py] kt pt] (.Tuple [.Call (.Name cn pc) (e :: es) [] cpos, b] k2 pt2) pos.line X.env = pure false := by rfl) :
    Go X Hb (.Assign [.Tuple [.Name xn px, .Name yn py] kt pt] (.Tuple [.Call (.Name cn pc) (e :: es) [] cpos, b] k2 pt2) pos :: rest) D0 Γ := fun σ H en => by
  obtain ⟨i, hi⟩ := hL1.ix
  obtain ⟨j, hj⟩ := hL2.ix
  have hij : i ≠ j := fun z => by subst z; rw [hi] at hj; exact hne0 (Option.some.inj hj)
  refine SemSs.cons (ps_par hcm nd hi hj hij hx hy (pa_cons (pe_make Mc F (hr.mono hk) hg hm hb .nil pass0 (semA X (e :: es)) hdb he hpl) (pa_cons (semE X b) pa_nil hs2) hs1) hw hsw) ?_
  refine h σ H en _ fun ws H1 ds ⟨fl, a, e1, e2, hB⟩ x1 r1 o dx no ndx hne => ?_
  have en1 := en.ex x1
  have hne' : o ≠ dx := fun z => hne z.symm
  have n2 : (upd H1 dx (.own o)) o = none := by rw [upd_ne hne']; exact no
  have x2 : Ex H1 (upd (upd H1 dx (.own o)) o (.ins C dx [])) := (Ex.new ndx).trans (Ex.new n2)
  show spI X.K C M (V.ref o :: (ws ++ [])) _ _ E0
  rw [List.append_nil]
  subst e1
  have lo : Lsts (upd (upd H1 dx (.own o)) o (.ins C dx [])) [o] := fun q m => by rw [List.mem_singleton.mp m]; exact ⟨_, upd_same, trivial⟩
  refine ⟨en.tb.ex (en.base.trans (x1.trans x2)), a, o, dx, ws, rfl, upd_same, (RepAll.ex x2 r1).hide lo fl, e2, fun p H3 us hp hpo x3 hc hpost => ⟨rfl, ?_⟩⟩
  have l3 : Lsts H3 [o, p] := Cells.mem hc
  have np1 : H1 p = none := (x2.fr p hp)
  have x13 : Ex H1 H3 := by
    have q1 : Ex H1 (hide (upd (upd H1 dx (.own o)) o (.ins C dx [])) [o]) := ex_hide x2 lo fun q m => by rw [List.mem_singleton.mp m]; exact no
    exact q1.trans x3
  have en3 := en1.ex x13
  refine hB σ H3 en3 _ fun v2 H4 d2 ⟨f2, g⟩ x4 r2 _ => ?_
  refine ⟨_, _, rfl, ?_⟩
  have x5 : Ex H4 H4 := Ex.refl
  have xx : Ex H H4 := ((x1.trans x13).trans x4).trans x5
  have hcc : Cells H4 [o, p] us := Cells.on hc fun q u m hq mu => (x4.trans x5).get q u hq mu.nt
  have hhz : ∀ qs, Lsts H4 qs → Lsts H3 qs → M.post a o p us (hide H4 qs) := fun qs lq lq3 => hmono _ _ _ _ _ _ (hhide _ _ _ _ _ _ hpost lq3) ((x4.trans x5).hides lq)
  have hgo := g o p
  obtain ⟨Γ1, hu, go⟩ := hgo
  obtain ⟨i', hi', rfl⟩ := hu.ix
  have := nodup_ix nd hi hi'
  subst this
  have en' : EnvOk X.K Hb (Γ.set i (.res [o, p] (.ref o) (M.post a o p))) (σ.set i (some (.ref o))) H4 := by
    refine en.setNew (e := .res [o, p] (.ref o) (M.post a o p)) ?_ xx ?_ (Cells.mem hcc) ?_
    · intro q m
      rcases List.mem_cons.mp m with z | m
      · rw [z]; exact x1.fr _ no
      · rw [List.mem_singleton.mp m]; exact x1.fr _ np1
    · exact List.nodup_cons.mpr ⟨fun z => hpo (List.mem_singleton.mp z).symm, List.nodup_cons.mpr ⟨(fun z => nomatch z), List.nodup_nil⟩⟩
    · intro Hz xz nz ez
      have lq3 : Lsts H3 ([o, p] ++ owns Γ) := fun q m => by
        rcases List.mem_append.mp m with z | z
        · exact l3 q z
        · exact owns_lsts en3.wide.2.2.1 q z
      have lq : Lsts H4 ([o, p] ++ owns Γ) := fun q m => by
        obtain ⟨u, hq, mu⟩ := lq3 q m
        exact ⟨u, (x4.trans x5).get q u hq mu.nt, mu⟩
      exact ⟨rfl, us, hcc, nz, fun Hz' xx => hmono _ _ _ _ _ _ (hhz _ lq lq3) (ez.trans xx)⟩
  obtain ⟨Γ2, g2, en2⟩ := go.ok (own := false) nd hj en' Ex.refl (r2.ex x5) fun z => nomatch z
  exact g2 _ _ en2
variable {elt iter tg : Expr} {ifs : List Expr} {scope : Scope} {Γ2 : Slots}
/-- y = [..], some slots forgotten behind it -/
theorem s_setLcF {o : Bool} {yn : Str} {py spos : Pos} (_ho : OwnIf o yn) (h : LcX X Hb elt tg iter ifs scope Γ fun d => StoreD o X.N Γ2 yn d fun Γ' => Go X Hb rest D0 Γ') (hL : Has X.N yn) (hsw : swapsWith (.ListComp elt [⟨tg, iter, ifs, 0⟩] scope pos) (some (.Name yn py)) spos.line X.env = pure true) (hsub : Sub Γ Γ2)
    (hyl : X.env.scope.names.lookup yn = some .local := by rfl) : Go X Hb (.Assign [.Name yn py] (.ListComp elt [⟨tg, iter, ifs, 0⟩] scope pos) spos :: rest) D0 Γ := fun σ H en => by
  obtain ⟨i, hy⟩ := hL.ix
  obtain ⟨own, hc, nd, ok, hs, wi, g, tt, te, h1, h2, h3, h4, h5⟩ := h
  exact SemSs.cons (ps_setLc hc nd hy hyl hsw h1 ok h2 h3 h4 hs) (h5 σ H en _ fun v H' d s x r f => by
    obtain ⟨Γ', g, en'⟩ := s.ok nd hy (en.sub hsub) x r fun _ => f
    exact g _ H' en')
end
end L3

/-! Core59: x, (y, z) = a, b. -/
namespace L3
open PySem PySem.Spec PyProof.Rows L2
section
variable {X : Cx} {Hb : Hp} {a b e : Expr} {es : List Expr} {Γ : Slots} {pos p1 p2 p3 cpos apos : Pos} {ds : List D} {Q : D → Prop} {fr : Bool} {D0 : Ends} {rest : List Stmt}
theorem s_tupN {xn yn zn : Str} {px py pz pt pu : Pos} {kt ku k2 : Nat} {pt2 : Pos} (h : EvN X Hb a Γ false fun d1 => EvN X Hb b Γ false fun d2 => ∃ d3 d4, d2 = .tup [d3, d4] ∧ StoreD false X.N Γ xn d1 fun Γ1 => StoreD false X.N Γ1 yn d3 fun Γ2 => StoreD false X.N Γ2 zn d4 fun Γ3 => Go X Hb rest D0 Γ3)
    (nd : X.N.Nodup) (hL : Has X.N xn) (hL2 : Has X.N yn) (hL3 : Has X.N zn) (hw : swappedStores [.Tuple [.Name xn px, .Tuple [.Name yn py, .Name zn pz] ku pu] kt pt] (.Tuple [a, b] k2 pt2) X.env = pure none := by rfl) (hc : X.calm = true := by rfl)
    (hx : Loc X.env.scope xn := by first | exact Or.inl rfl | exact Or.inr rfl) (hy : Loc X.env.scope yn := by first | exact Or.inl rfl | exact Or.inr rfl) (hz : Loc X.env.scope zn := by first | exact Or.inl rfl | exact Or.inr rfl)
    (hf : X.fn xn = true ∨ X.env.scope.names.lookup xn = some .local := by first | exact .inl rfl | exact .inr rfl) (hf2 : X.fn yn = true ∨ X.env.scope.names.lookup yn = some .local := by first | exact .inl rfl | exact .inr rfl) (hf3 : X.fn zn = true ∨ X.env.scope.names.lookup zn = some .local := by first | exact .inl rfl | exact .inr rfl)
    (hn : (assignEach [.Name xn px, .Tuple [.Name yn py, .Name zn pz] ku pu] X.env).length = 2 := by rfl) (hst : (assignEach [.Name xn px, .Tuple [.Name yn py, .Name zn pz] ku pu] X.env).findIdx? (·.1) = none := by rfl)
    (hn2 : (assignEach [.Name yn py, .Name zn pz] X.env).length = 2 := by rfl) (hst2 : (assignEach [.Name yn py, .Name zn pz] X.env).findIdx? (·.1) = none := by rfl)
    (hz1 : (assignEach (.Name xn px :: [.Tuple [.Name yn py, .Name zn pz] ku pu]) X.env).map (·.2) = assign (.Name xn px) X.env :: (assignEach [.Tuple [.Name yn py, .Name zn pz] ku pu] X.env).map (·.2) := by rfl) (hz2 : (assignEach (.Tuple [.Name yn py, .Name zn pz] ku pu :: []) X.env).map (·.2) = assign (.Tuple [.Name yn py, .Name zn pz] ku pu) X.env :: (assignEach [] X.env).map (·.2) := by rfl)
    (hz3 : (assignEach (.Name yn py :: [.Name zn pz]) X.env).map (·.2) = assign (.Name yn py) X.env :: (assignEach [.Name zn pz] X.env).map (·.2) := by rfl) (hz4 : (assignEach (.Name zn pz :: []) X.env).map (·.2) = assign (.Name zn pz) X.env :: (assignEach [] X.env).map (·.2) := by rfl)
    (hsw : swapsWithSole [.Tuple [.Name xn px, .Tuple [.Name yn py, .Name zn pz] ku pu] kt pt] (.Tuple [a, b] k2 pt2) pos.line X.env = pure false := by rfl) (h1 : (assignEach [.Tuple [.Name xn px, .Tuple [.Name yn py, .Name zn pz] ku pu] kt pt] X.env).map (·.2) = [assign (.Tuple [.Name xn px, .Tuple [.Name yn py, .Name zn pz] ku pu] kt pt) X.env] := by rfl)
    (hs : starEach (a :: [b]) X.env = (false, eval a X.env) :: starEach [b] X.env := by rfl) (hs2 : starEach (b :: []) X.env = (false, eval b X.env) :: starEach [] X.env := by rfl) :
    Go X Hb (.Assign [.Tuple [.Name xn px, .Tuple [.Name yn py, .Name zn pz] ku pu] kt pt] (.Tuple [a, b] k2 pt2) pos :: rest) D0 Γ := fun σ H en => by
  obtain ⟨i, hi⟩ := hL.ix
  obtain ⟨j, hj⟩ := hL2.ix
  obtain ⟨l, hl⟩ := hL3.ix
  refine SemSs.cons (ps_asg (pe_tup (pa_cons (semE X a) (pa_cons (semE X b) pa_nil hs2) hs)) (pg_tup hc (pgs_cons (pg_name nd hi hx hf) (pgs_cons (pg_tup hc (pgs_cons (pg_name nd hj hy hf2) (pgs_cons (pg_name nd hl hz hf3) pgs_nil hz4) hz3) hn2 hst2) pgs_nil hz2) hz1) hn hst) hsw hw h1) (h σ H en _ fun v1 H1 d1 s1 x1 r1 f1 => s1 σ H1 (en.ex x1) _ fun v2 H2 d2 s2 x2 r2 f2 => ⟨by show 2 ≤ sizeLine; decide, fun T hT => ?_⟩)
  obtain ⟨d3, d4, rfl, s2⟩ := s2
  have x3 : Ex H2 (upd H2 T (.tup [v1, v2])) := Ex.new hT
  cases r2 with
  | @tup a2 vs hds hq ra =>
    cases ra with
    | cons r3 ra =>
      cases ra with
      | cons r4 ra =>
        cases ra
        obtain ⟨Γ1, g1, en1⟩ := s2.ok (own := false) nd hi ((en.ex x1).ex x2) x3 (r1.ex (x2.trans x3)) fun z => nomatch z
        obtain ⟨Γ2, g2, en2⟩ := g1.ok (own := false) nd hj en1 Ex.refl (r3.ex x3) fun z => nomatch z
        obtain ⟨Γ3, g3, en3⟩ := g2.ok (own := false) nd hl en2 Ex.refl (r4.ex x3) fun z => nomatch z
        exact ⟨T, _, rfl, SqT.of upd_same, rfl, _, _, rfl, _, _, rfl, ⟨_, _, rfl, SqT.ex x3 hq, rfl, _, _, rfl, _, _, rfl, rfl, rfl, g3 _ _ en3⟩⟩
end
end L3

/-! Core60: a new list of two new lists, kept in a slot; x[0].append(e). -/
namespace L3
open PySem PySem.Spec PyProof.Rows L2
theorem repAll_intE {K : PySem.W.Frag} {H : Hp} : ∀ {ns : List Int} {vs : List V}, RepAll K H vs (ns.map D.int) → vs = ns.map V.int
  | [], _, .nil => rfl
  | n :: ns, _, .cons (.int _) r => by rw [repAll_intE r]; rfl
theorem owns_nd : ∀ {Γ : Slots} {i : Nat} {e : Ent}, (owns Γ).Nodup → Γ[i]? = some e → e.cells.Nodup
  | [], _, _, _, h => by cases h
  | x :: r, 0, e, hn, h => by
    have : x = e := by simpa using h
    subst this
    rw [owns_cons] at hn
    exact (nodup_app.mp hn).1
  | x :: r, i + 1, e, hn, h => by
    rw [owns_cons] at hn
    exact owns_nd (nodup_app.mp hn).2.1 (by simpa using h)
/-- what stands in the three cells -/
def Nest2 (a b : Addr) (xs ys : List V) : List HO → Hp → Prop := fun us _ => us = [.lst [.ref a, .ref b], .lst xs, .lst ys]
section
variable {X : Cx} {Hb Hb' : Hp} {a b c e : Expr} {es : List Expr} {Γ Γ' : Slots} {pos p' p2 apos cpos : Pos} {d x y : D} {ds : List D} {Q S S' : D → Prop} {fr : Bool} {D0 : Ends} {rest sts : List Stmt} {st : Stmt}
/-- the slot read -/
theorem w_nest2 {xn : Str} {p qa qb : Addr} {ns1 ns2 : List Int} (hL : Look X.N Γ xn (.res [p, qa, qb] (.ref p) (Nest2 qa qb (ns1.map .int) (ns2.map .int)))) (q0 : Q (.lst [.lst (ns1.map .int), .lst (ns2.map .int)]))
    (hv : Vis X.env.scope xn := by first | exact Or.inl rfl | exact Or.inr (Or.inl rfl) | exact Or.inr (Or.inr rfl)) (hd : (xn == ("__debug__" : Str)) = false := by decide) (hcd : (xn == ("__classdict__" : Str)) = false := by decide) :
    EvN X Hb (.Name xn p') Γ false Q := fun σ H en Q' q => by
  obtain ⟨i, hN, hG⟩ := hL.ix
  obtain ⟨hσ, l1, l2, us, hc, hφ⟩ := en.resW hG
  have hu : us = [.lst [.ref qa, .ref qb], .lst (ns1.map .int), .lst (ns2.map .int)] := hφ
  subst hu
  cases hc with
  | cons h1 h2 =>
    cases h2 with
    | cons h2 h3 =>
      cases h3 with
      | cons h3 h4 =>
        refine SemE.of (pe_var hN hv hd hcd) ?_
        exact ⟨_, hσ, q _ H _ q0 Ex.refl (.lst (SqL.of h1.1) (.cons (.lst (SqL.of h2.1) (repAll_ints _)) (.cons (.lst (SqL.of h3.1) (repAll_ints _)) .nil))) fun z => nomatch z⟩
/-- x = [e1, e2], both new lists of ints -/
theorem s_setNest2 {xn : Str} {e1 e2 : Expr} {lp : Pos} (h : EvN X Hb e1 Γ true fun d1 => ∃ ns1 : List Int, d1 = .lst (ns1.map .int) ∧ EvN X Hb e2 Γ true fun d2 => ∃ ns2 : List Int, d2 = .lst (ns2.map .int) ∧ ∀ p qa qb, Up1 X.N Γ xn (.res [p, qa, qb] (.ref p) (Nest2 qa qb (ns1.map .int) (ns2.map .int))) fun Γ1 => Go X Hb rest D0 Γ1)
    (nd : X.N.Nodup) (hL : Has X.N xn) (hx : Loc X.env.scope xn := by first | exact Or.inl rfl | exact Or.inr rfl)
    (hs1 : starEach [e1, e2] X.env = (false, eval e1 X.env) :: starEach [e2] X.env := by rfl) (hs2 : starEach [e2] X.env = (false, eval e2 X.env) :: starEach [] X.env := by rfl)
    (hsw : swapsWith (.List [e1, e2] lp) (some (.Name xn p')) pos.line X.env = pure false := by rfl) (hf : X.fn xn = true ∨ X.env.scope.names.lookup xn = some .local := by first | exact .inl rfl | exact .inr rfl) : Go X Hb (.Assign [.Name xn p'] (.List [e1, e2] lp) pos :: rest) D0 Γ := fun σ H en => by
  obtain ⟨i, hi⟩ := hL.ix
  refine SemSs.cons (ps_set nd hi hx (pe_lst (pa_cons (semE X e1) (pa_cons (semE X e2) pa_nil hs2) hs1)) hsw hf) ?_
  refine h σ H en _ fun v1 H1 d1 ⟨ns1, ed1, h2⟩ x1 r1 f1 => ?_
  refine h2 σ H1 (en.ex x1) _ fun v2 H2 d2 ⟨ns2, ed2, hk⟩ x2 r2 f2 => ?_
  subst ed1 ed2
  obtain ⟨qa, xs, rfl, na, ha, ra⟩ := f1 rfl
  obtain ⟨qb, ys, rfl, nb, hb, rb⟩ := f2 rfl
  have ea := repAll_intE ra
  have eb := repAll_intE rb
  subst ea eb
  refine ⟨by show 2 ≤ _; decide, fun p hp => ?_⟩
  have ha2 : H2 qa = some (.lst (ns1.map .int)) := x2.lst ha
  have hpa : qa ≠ p := fun z => by rw [z, hp] at ha2; cases ha2
  have hpb : qb ≠ p := fun z => by rw [z, hp] at hb; cases hb
  have hab : qa ≠ qb := fun z => by rw [← z, ha] at nb; cases nb
  obtain ⟨Γ1, hu, g⟩ := hk p qa qb
  obtain ⟨j, hj, rfl⟩ := hu.ix
  have := nodup_ix nd hi hj
  subst this
  refine g _ _ ?_
  have xx : Ex H (upd H2 p (.lst [.ref qa, .ref qb])) := (x1.trans x2).trans (Ex.new hp)
  have cc : Cells (upd H2 p (.lst [.ref qa, .ref qb])) [p, qa, qb] [.lst [.ref qa, .ref qb], .lst (ns1.map .int), .lst (ns2.map .int)] := .cons ⟨upd_same, trivial⟩ (.cons ⟨by rw [upd_ne hpa]; exact ha2, trivial⟩ (.cons ⟨by rw [upd_ne hpb]; exact hb, trivial⟩ .nil))
  refine en.setNew (e := .res [p, qa, qb] (.ref p) (Nest2 qa qb (ns1.map .int) (ns2.map .int))) ?_ xx ?_ (Cells.mem cc) ?_
  · intro q m
    rcases List.mem_cons.mp m with z | m
    · rw [z]; exact x1.fr _ (x2.fr _ hp)
    · rcases List.mem_cons.mp m with z | m
      · rw [z]; exact na
      · rw [List.mem_singleton.mp m]; exact x1.fr _ nb
  · exact List.nodup_cons.mpr ⟨fun z => by
      rcases List.mem_cons.mp z with z | z
      · exact hpa z.symm
      · exact hpb (List.mem_singleton.mp z).symm, List.nodup_cons.mpr ⟨fun z => hab (List.mem_singleton.mp z), List.nodup_cons.mpr ⟨(fun z => nomatch z), List.nodup_nil⟩⟩⟩
  · intro Hz xz nz ez
    exact ⟨rfl, _, cc, nz, fun _ _ => rfl⟩
/-- x[0].append(None) -/
theorem s_appNest0 {xn : Str} {p qa qb : Addr} {xs ys : List V} {ix : Expr} {p1 p2 : Pos} (hL : Look X.N Γ xn (.res [p, qa, qb] (.ref p) (Nest2 qa qb xs ys))) (hix : EvN X Hb ix Γ false fun d => d = .int 0) (he : EvN X Hb e Γ false fun d => d = .non) (hlen : xs.length ≤ 100000)
    (h : Up1 X.N Γ xn (.res [p, qa, qb] (.ref p) (Nest2 qa qb (xs ++ [V.non]) ys)) fun Γ1 => Go X Hb rest D0 Γ1) (nd : X.N.Nodup) (hpx : PlainIx ix := by intro _ _; rfl)
    (hv : Vis X.env.scope xn := by first | exact Or.inl rfl | exact Or.inr (Or.inl rfl) | exact Or.inr (Or.inr rfl)) (hd : (xn == ("__debug__" : Str)) = false := by decide) (hcd : (xn == ("__classdict__" : Str)) = false := by decide)
    (hbase : attributeBase (.Subscript (.Name xn p1) ix p2) "append" X.env (eval (.Subscript (.Name xn p1) ix p2) X.env) = eval (.Subscript (.Name xn p1) ix p2) X.env := by rfl)
    (hfew : ((backTo cpos (starEach (e :: []) X.env)).all (fun x => !x.1) && (backToKw cpos (keywordEach [] X.env)).all (fun x => x.1.isSome) && decide ((e :: []).length + ([] : List Keyword).length + (if ([] : List Keyword).isEmpty then 0 else 1) < 30)) = true := by rfl)
    (hline : (apos.endLine == cpos.line) = true := by rfl) (hs : starEach (e :: []) X.env = (false, eval e X.env) :: starEach [] X.env := by rfl) (hplain : (backTo cpos (starEach [] X.env)).any (·.1) = false := by rfl)
    (hsw : swapsWith (.Call (.Attribute (.Subscript (.Name xn p1) ix p2) "append" apos) [e] [] cpos) none pos.line X.env = pure false := by rfl) :
    Go X Hb (.Expr (.Call (.Attribute (.Subscript (.Name xn p1) ix p2) "append" apos) [e] [] cpos) pos :: rest) D0 Γ := fun σ H en => by
  obtain ⟨i, hN, hG⟩ := hL.ix
  obtain ⟨Γ1, hu, g⟩ := h
  obtain ⟨j, hj, rfl⟩ := hu.ix
  have := nodup_ix nd hN hj
  subst this
  have rd : ∀ {H' : Hp}, EnvOk X.K Hb Γ σ H' → σ[i]? = some (some (.ref p)) ∧ H' p = some (.lst [.ref qa, .ref qb]) ∧ H' qa = some (.lst xs) ∧ H' qb = some (.lst ys) := fun {H'} en' => by
    obtain ⟨hσ, _, _, us, hc, hφ⟩ := en'.resW hG
    have hu : us = [.lst [.ref qa, .ref qb], .lst xs, .lst ys] := hφ
    subst hu
    cases hc with
    | cons h1 h2 =>
      cases h2 with
      | cons h2 h3 =>
        cases h3 with
        | cons h3 h4 => exact ⟨hσ, h1.1, h2.1, h3.1⟩
  have pe : PE X (.Subscript (.Name xn p1) ix p2) (tOp (rSemIx X ix) (SemE X (.Name xn p1)) (SemE X ix)) := by
    refine ⟨fun pins s σ H Q I h => ?_⟩
    exact Subscript_ (binT (semE X (.Name xn p1)) (semE X ix) I h fun v u s2 x y H2 I2 rx ry q => q (.Name xn p1) pins s2 σ v u I2 rx ry (hpx _ _))
  refine SemSs.cons (ps_expr (pe_bm PySem.F.plainAttrs_list PySem.F.slot_list_append PySem.F.type_list_append mt_append (semE X (.Subscript (.Name xn p1) ix p2)) (pa_cons (semE X e) pa_nil hs) hbase hfew hline hs hplain) hsw) ?_
  refine SemE.of pe (SemE.of (pe_var hN hv hd hcd) ⟨_, (rd en).1, ?_⟩)
  refine hix σ H en _ fun w H2 d2 e2 x2 r2 _ => fun value pins s σ' v' u' I rx ry hsub => ?_
  subst e2
  cases r2
  have en2 := en.ex x2
  obtain ⟨hσ, c1, c2, c3⟩ := rd en2
  refine ix_list value ix pins s σ' H2 (.ref p) (.int 0) v' u' _ I rx ry ⟨_, _, 0, .ref qa, rfl, rfl, SqL.of c1, rfl, ?_⟩ hsub
  refine ⟨.inl ⟨rfl, _, SqL.of c2⟩, he σ H2 en2 _ fun w H3 d3 e3 x3 r3 _ => ?_⟩
  subst e3
  cases r3
  have en3 := en2.ex x3
  obtain ⟨hσ3, d1, d2, d3⟩ := rd en3
  refine ⟨qa, xs, .non, rfl, rfl, d2, Nat.lt_of_le_of_lt hlen (by decide), ?_⟩
  have hne : [p, qa, qb].Nodup := by
    exact owns_nd en3.wide.2.2.2 hG
  have n1 : p ≠ qa := fun z => (List.nodup_cons.mp hne).1 (by rw [z]; simp)
  have n2 : p ≠ qb := fun z => (List.nodup_cons.mp hne).1 (by rw [z]; simp)
  have n3 : qa ≠ qb := fun z => (List.nodup_cons.mp (List.nodup_cons.mp hne).2).1 (by rw [z]; simp)
  have cc : Cells (upd H3 qa (.lst (xs ++ [V.non]))) [p, qa, qb] [.lst [.ref qa, .ref qb], .lst (xs ++ [V.non]), .lst ys] := .cons ⟨by rw [upd_ne n1]; exact d1, trivial⟩ (.cons ⟨upd_same, trivial⟩ (.cons ⟨by rw [upd_ne n3.symm]; exact d3, trivial⟩ .nil))
  refine g σ _ (en3.mutEx (e := .res [p, qa, qb] (.ref p) (Nest2 qa qb xs ys)) (e' := .res [p, qa, qb] (.ref p) (Nest2 qa qb (xs ++ [V.non]) ys)) hG hσ3 rfl (Ex.mut hide_ex (hide_in (show qa ∈ [p, qa, qb] by simp)) (by rw [d2]; trivial)) (fun q m => Cells.mem cc q m) fun Hz xz nz lz ez => ⟨rfl, _, cc, nz, fun _ _ => rfl⟩)
/-- x[1].append(None) -/
theorem s_appNest1 {xn : Str} {p qa qb : Addr} {xs ys : List V} {ix : Expr} {p1 p2 : Pos} (hL : Look X.N Γ xn (.res [p, qa, qb] (.ref p) (Nest2 qa qb xs ys))) (hix : EvN X Hb ix Γ false fun d => d = .int 1) (he : EvN X Hb e Γ false fun d => d = .non) (hlen : ys.length ≤ 100000)
    (h : Up1 X.N Γ xn (.res [p, qa, qb] (.ref p) (Nest2 qa qb xs (ys ++ [V.non]))) fun Γ1 => Go X Hb rest D0 Γ1) (nd : X.N.Nodup) (hpx : PlainIx ix := by intro _ _; rfl)
    (hv : Vis X.env.scope xn := by first | exact Or.inl rfl | exact Or.inr (Or.inl rfl) | exact Or.inr (Or.inr rfl)) (hd : (xn == ("__debug__" : Str)) = false := by decide) (hcd : (xn == ("__classdict__" : Str)) = false := by decide)
    (hbase : attributeBase (.Subscript (.Name xn p1) ix p2) "append" X.env (eval (.Subscript (.Name xn p1) ix p2) X.env) = eval (.Subscript (.Name xn p1) ix p2) X.env := by rfl)
    (hfew : ((backTo cpos (starEach (e :: []) X.env)).all (fun x => !x.1) && (backToKw cpos (keywordEach [] X.env)).all (fun x => x.1.isSome) && decide ((e :: []).length + ([] : List Keyword).length + (if ([] : List Keyword).isEmpty then 0 else 1) < 30)) = true := by rfl)
    (hline : (apos.endLine == cpos.line) = true := by rfl) (hs : starEach (e :: []) X.env = (false, eval e X.env) :: starEach [] X.env := by rfl) (hplain : (backTo cpos (starEach [] X.env)).any (·.1) = false := by rfl)
    (hsw : swapsWith (.Call (.Attribute (.Subscript (.Name xn p1) ix p2) "append" apos) [e] [] cpos) none pos.line X.env = pure false := by rfl) :
    Go X Hb (.Expr (.Call (.Attribute (.Subscript (.Name xn p1) ix p2) "append" apos) [e] [] cpos) pos :: rest) D0 Γ := fun σ H en => by
  obtain ⟨i, hN, hG⟩ := hL.ix
  obtain ⟨Γ1, hu, g⟩ := h
  obtain ⟨j, hj, rfl⟩ := hu.ix
  have := nodup_ix nd hN hj
  subst this
  have rd : ∀ {H' : Hp}, EnvOk X.K Hb Γ σ H' → σ[i]? = some (some (.ref p)) ∧ H' p = some (.lst [.ref qa, .ref qb]) ∧ H' qa = some (.lst xs) ∧ H' qb = some (.lst ys) := fun {H'} en' => by
    obtain ⟨hσ, _, _, us, hc, hφ⟩ := en'.resW hG
    have hu : us = [.lst [.ref qa, .ref qb], .lst xs, .lst ys] := hφ
    subst hu
    cases hc with
    | cons h1 h2 =>
      cases h2 with
      | cons h2 h3 =>
        cases h3 with
        | cons h3 h4 => exact ⟨hσ, h1.1, h2.1, h3.1⟩
  have pe : PE X (.Subscript (.Name xn p1) ix p2) (tOp (rSemIx X ix) (SemE X (.Name xn p1)) (SemE X ix)) := by
    refine ⟨fun pins s σ H Q I h => ?_⟩
    exact Subscript_ (binT (semE X (.Name xn p1)) (semE X ix) I h fun v u s2 x y H2 I2 rx ry q => q (.Name xn p1) pins s2 σ v u I2 rx ry (hpx _ _))
  refine SemSs.cons (ps_expr (pe_bm PySem.F.plainAttrs_list PySem.F.slot_list_append PySem.F.type_list_append mt_append (semE X (.Subscript (.Name xn p1) ix p2)) (pa_cons (semE X e) pa_nil hs) hbase hfew hline hs hplain) hsw) ?_
  refine SemE.of pe (SemE.of (pe_var hN hv hd hcd) ⟨_, (rd en).1, ?_⟩)
  refine hix σ H en _ fun w H2 d2 e2 x2 r2 _ => fun value pins s σ' v' u' I rx ry hsub => ?_
  subst e2
  cases r2
  have en2 := en.ex x2
  obtain ⟨hσ, c1, c2, c3⟩ := rd en2
  refine ix_list value ix pins s σ' H2 (.ref p) (.int 1) v' u' _ I rx ry ⟨_, _, 1, .ref qb, rfl, rfl, SqL.of c1, rfl, ?_⟩ hsub
  refine ⟨.inl ⟨rfl, _, SqL.of c3⟩, he σ H2 en2 _ fun w H3 d3 e3 x3 r3 _ => ?_⟩
  subst e3
  cases r3
  have en3 := en2.ex x3
  obtain ⟨hσ3, d1, d2, d3⟩ := rd en3
  refine ⟨qb, ys, .non, rfl, rfl, d3, Nat.lt_of_le_of_lt hlen (by decide), ?_⟩
  have hne : [p, qa, qb].Nodup := by
    exact owns_nd en3.wide.2.2.2 hG
  have n1 : p ≠ qa := fun z => (List.nodup_cons.mp hne).1 (by rw [z]; simp)
  have n2 : p ≠ qb := fun z => (List.nodup_cons.mp hne).1 (by rw [z]; simp)
  have n3 : qa ≠ qb := fun z => (List.nodup_cons.mp (List.nodup_cons.mp hne).2).1 (by rw [z]; simp)
  have cc : Cells (upd H3 qb (.lst (ys ++ [V.non]))) [p, qa, qb] [.lst [.ref qa, .ref qb], .lst xs, .lst (ys ++ [V.non])] := .cons ⟨by rw [upd_ne n2]; exact d1, trivial⟩ (.cons ⟨by rw [upd_ne n3]; exact d2, trivial⟩ (.cons ⟨upd_same, trivial⟩ .nil))
  refine g σ _ (en3.mutEx (e := .res [p, qa, qb] (.ref p) (Nest2 qa qb xs ys)) (e' := .res [p, qa, qb] (.ref p) (Nest2 qa qb xs (ys ++ [V.non]))) hG hσ3 rfl (Ex.mut hide_ex (hide_in (show qb ∈ [p, qa, qb] by simp)) (by rw [d3]; trivial)) (fun q m => Cells.mem cc q m) fun Hz xz nz lz ez => ⟨rfl, _, cc, nz, fun _ _ => rfl⟩)
end
end L3

/-! Core61: a def that returns a new list of two new lists of ints; x, y = f(..), e. -/
namespace L3
open PySem PySem.Spec PyProof.Rows L2
theorem own_ne : ∀ {Γ : Slots} {i j : Nat} {p q : Addr} {ds es : List D}, (owns Γ).Nodup → Γ[i]? = some (.own p ds) → Γ[j]? = some (.own q es) → i ≠ j → p ≠ q
  | [], _, _, _, _, _, _, _, h, _, _ => by cases h
  | x :: r, 0, 0, _, _, _, _, _, _, _, h => absurd rfl h
  | x :: r, 0, j + 1, p, q, ds, es, hn, h, h2, _ => fun z => by
    have : x = .own p ds := by simpa using h
    subst this
    rw [owns_cons] at hn
    exact (nodup_app.mp hn).2.2 p (List.mem_singleton.mpr rfl) (owns_cells (Γ := r) (i := j) (by simpa using h2) p (by rw [z]; exact List.mem_singleton.mpr rfl))
  | x :: r, i + 1, 0, p, q, ds, es, hn, h, h2, _ => fun z => by
    have : x = .own q es := by simpa using h2
    subst this
    rw [owns_cons] at hn
    exact (nodup_app.mp hn).2.2 q (List.mem_singleton.mpr rfl) (owns_cells (Γ := r) (i := i) (by simpa using h) q (by rw [← z]; exact List.mem_singleton.mpr rfl))
  | x :: r, i + 1, j + 1, p, q, ds, es, hn, h, h2, hij => by
    rw [owns_cons] at hn
    exact own_ne (nodup_app.mp hn).2.1 (by simpa using h) (by simpa using h2) fun z => hij (by rw [z])
/-- a new list of two new ones -/
def RtN2 (H : Hp) (ns1 ns2 : List Int) (v : V) (H' : Hp) : Prop := ∃ p qa qb, v = .ref p ∧ [p, qa, qb].Nodup ∧ (∀ q ∈ [p, qa, qb], H q = none) ∧ Ex H H' ∧ Cells H' [p, qa, qb] [.lst [.ref qa, .ref qb], .lst (ns1.map .int), .lst (ns2.map .int)]
def spT2 (K : PySem.W.Frag) (R : List D → List Int → List Int → Prop) : Sp := fun vs H Q _ => TbOk K H ∧ ∃ ds ns1 ns2, RepAll K H vs ds ∧ R ds ns1 ns2 ∧ ∀ v H', RtN2 H ns1 ns2 v H' → Q v H'
structure FnT2 (P : Program) (w : World) (K : PySem.W.Frag) (mg : Str → Option Value) (base : Heap) (x : Str) (k : Nat) (R : List D → List Int → List Int → Prop) : Prop where
  ex : ∃ (f : Addr) (fd : FuncData) (ps : List Str), FnOk P w K mg base CX0 k f fd ps (spT2 K R) ∧ mg x = some (.ref f) ∧ PySem.W.keepIn K (.ref f) = true ∧ Binds K fd ps []
section
variable {P : Program} {w : World} {K : PySem.W.Frag} {mg : Str → Option Value} {base : Heap}
theorem fnT2_of {α : Type} {args : α → List D} {pre : α → Prop} {r1 r2 : α → List Int} {x qual : Str} {st : Stmt} {f : Addr} {fd : FuncData} {N ps : List Str} {k : Nat} (F : Fun K x qual st f fd) (Sc : FnScope N ps (defScope st)) (hm : mg x = some (.ref f)) (hb : Binds K fd ps []) (har : ∀ a, pre a → (args a).length = ps.length)
    (hbody : ∀ (cdv : Value) (A : Around) (outer : List Env) (s : Shared) (H : Hp) (E : XK), Room k (A.deeper (envOfC qual (defScope st) s.heap.objs.size f cdv)) → N.Nodup → ∀ a, pre a →
      Go (bodyCx P w K mg base N qual (defScope st) f cdv A outer s H E) H (defBody st) { nx := fun _ _ => False, rt := RtN2 H (r1 a) (r2 a) } (slots0 N (args a))) : FnT2 P w K mg base x (k + 1) (fun ds ns1 ns2 => ∃ a, ds = args a ∧ pre a ∧ ns1 = r1 a ∧ ns2 = r2 a) := by
  refine ⟨f, fd, ps, F.ok Sc (fun vs H Q' E h => ?_) (fun cdv A outer s H vs Q' E hr h => ?_), hm, F.kp, hb⟩
  · obtain ⟨_, ds, ns1, ns2, r, ⟨a, e, ha, _⟩, _⟩ := h
    rw [r.length, e]
    exact har a ha
  · obtain ⟨tb, ds, ns1, ns2, r, ⟨a, e, ha, e1, e2⟩, hk⟩ := h
    subst e e1 e2
    refine ⟨_, semSs _ _, ?_⟩
    have go := hbody cdv A outer s H E hr Sc.nd a ha _ _ (env_start (N := N) r tb)
    exact go.mono (fun _ _ h => h.elim) (fun v H' q => hk v H' q) (fun _ _ h => h) fun _ _ h => h
end
section
variable {X : Cx} {Hb Hb' : Hp} {a b c e : Expr} {es : List Expr} {Γ Γ' : Slots} {pos p' p2 apos cpos : Pos} {d x y : D} {ds : List D} {Q S S' : D → Prop} {fr : Bool} {D0 : Ends} {rest sts : List Stmt} {st : Stmt}
/-- return [x, y], two lists of one's own -/
theorem s_retN2 {xn yn : Str} {qa qb : Addr} {ns1 ns2 : List Int} {H0 : Hp} {px py lp : Pos} (hL : Look X.N Γ xn (.own qa (ns1.map .int))) (hL2 : Look X.N Γ yn (.own qb (ns2.map .int))) (hxy : xn ≠ yn) (ex : Ex H0 Hb) (hD : D0.rt = RtN2 H0 ns1 ns2 := by rfl)
    (hv : Vis X.env.scope xn := by first | exact Or.inl rfl | exact Or.inr (Or.inl rfl) | exact Or.inr (Or.inr rfl)) (hd : (xn == ("__debug__" : Str)) = false := by decide) (hcd : (xn == ("__classdict__" : Str)) = false := by decide)
    (hv2 : Vis X.env.scope yn := by first | exact Or.inl rfl | exact Or.inr (Or.inl rfl) | exact Or.inr (Or.inr rfl)) (hd2 : (yn == ("__debug__" : Str)) = false := by decide) (hcd2 : (yn == ("__classdict__" : Str)) = false := by decide)
    (hs1 : starEach [.Name xn px, .Name yn py] X.env = (false, eval (.Name xn px) X.env) :: starEach [.Name yn py] X.env := by rfl) (hs2 : starEach [.Name yn py] X.env = (false, eval (.Name yn py) X.env) :: starEach [] X.env := by rfl) :
    Go X Hb (.Return (some (.List [.Name xn px, .Name yn py] lp)) pos :: rest) D0 Γ := fun σ H en => by
  obtain ⟨i, hN, hG⟩ := hL.ix
  obtain ⟨j, hN2, hG2⟩ := hL2.ix
  obtain ⟨hσ, na, xs, hla, ra⟩ := en.own hG
  obtain ⟨hσ2, nb, ys, hlb, rb⟩ := en.own hG2
  have ea := repAll_intE ra
  have eb := repAll_intE rb
  subst ea eb
  have hij : i ≠ j := fun z => by
    rw [z, hN2] at hN
    exact hxy (Option.some.inj hN).symm
  have hab : qa ≠ qb := own_ne en.wide.2.2.2 hG hG2 hij
  refine SemSs.cons (ps_ret (pe_lst (pa_cons (pe_var hN hv hd hcd) (pa_cons (pe_var hN2 hv2 hd2 hcd2) pa_nil hs2) hs1))) ?_
  refine ⟨_, hσ, _, hσ2, by show 2 ≤ _; decide, fun p hp => ?_⟩
  rw [hD]
  have hpa : qa ≠ p := fun z => by rw [z, hp] at hla; cases hla
  have hpb : qb ≠ p := fun z => by rw [z, hp] at hlb; cases hlb
  refine ⟨p, qa, qb, rfl, ?_, ?_, (ex.trans en.base).trans (Ex.new hp), .cons ⟨upd_same, trivial⟩ (.cons ⟨by rw [upd_ne hpa]; exact hla, trivial⟩ (.cons ⟨by rw [upd_ne hpb]; exact hlb, trivial⟩ .nil))⟩
  · exact List.nodup_cons.mpr ⟨fun z => by
      rcases List.mem_cons.mp z with z | z
      · exact hpa z.symm
      · exact hpb (List.mem_singleton.mp z).symm, List.nodup_cons.mpr ⟨fun z => hab (List.mem_singleton.mp z), List.nodup_cons.mpr ⟨(fun z => nomatch z), List.nodup_nil⟩⟩⟩
  · intro q m
    rcases List.mem_cons.mp m with z | m
    · rw [z]; exact ex.fr _ (en.base.fr _ hp)
    · rcases List.mem_cons.mp m with z | m
      · rw [z]; exact ex.fr _ na
      · rw [List.mem_singleton.mp m]; exact ex.fr _ nb
/-- x, y = f(..), e -/
theorem s_callN2 {R : List D → List Int → List Int → Prop} {fn xn yn : Str} {k k' kt k2 : Nat} {px py pt pt2 pc : Pos} (F : FnT2 X.prog X.w X.K X.mg X.base fn k R) (hr : Room k' X.A)
    (h : EvA X Hb (e :: es) Γ fun ds => ∃ ns1 ns2, R ds ns1 ns2 ∧ EvN X Hb b Γ false fun d2 => ∀ p qa qb, Up1 X.N Γ xn (.res [p, qa, qb] (.ref p) (Nest2 qa qb (ns1.map .int) (ns2.map .int))) fun Γ1 => StoreD false X.N Γ1 yn d2 fun Γ2 => Go X Hb rest D0 Γ2) (nd : X.N.Nodup) (hL1 : Has X.N xn) (hL2 : Has X.N yn)
    (hk : k ≤ k' := by decide) (hg : Gl X fn := by rfl) (hdb : (fn == ("__debug__" : Str)) = false := by decide)
    (he : starEach (e :: es) X.env = (false, eval e X.env) :: starEach es X.env := by rfl) (hpl : (backTo cpos (starEach es X.env)).any (·.1) = false := by rfl)
    (hs1 : starEach (.Call (.Name fn pc) (e :: es) [] cpos :: [b]) X.env = (false, eval (.Call (.Name fn pc) (e :: es) [] cpos) X.env) :: starEach [b] X.env := by rfl) (hs2 : starEach (b :: []) X.env = (false, eval b X.env) :: starEach [] X.env := by rfl)
    (hw : swappedStores [.Tuple [.Name xn px, .Name yn py] kt pt] (.Tuple [.Call (.Name fn pc) (e :: es) [] cpos, b] k2 pt2) X.env = pure none := by rfl) (hcm : X.calm = true := by rfl)
    (hx : Loc X.env.scope xn := by first | exact Or.inl rfl | exact Or.inr rfl) (hy : Loc X.env.scope yn := by first | exact Or.inl rfl | exact Or.inr rfl)
    (hf : X.fn xn = true ∨ X.env.scope.names.lookup xn = some .local := by first | exact .inl rfl | exact .inr rfl) (hf2 : X.fn yn = true ∨ X.env.scope.names.lookup yn = some .local := by first | exact .inl rfl | exact .inr rfl)
    (hn : (assignEach [.Name xn px, .Name yn py] X.env).length = 2 := by rfl) (hst' : (assignEach [.Name xn px, .Name yn py] X.env).findIdx? (·.1) = none := by rfl)
    (hz1 : (assignEach (.Name xn px :: [.Name yn py]) X.env).map (·.2) = assign (.Name xn px) X.env :: (assignEach [.Name yn py] X.env).map (·.2) := by rfl) (hz2 : (assignEach (.Name yn py :: []) X.env).map (·.2) = assign (.Name yn py) X.env :: (assignEach [] X.env).map (·.2) := by rfl)
    (hsw : swapsWithSole [.Tuple [.Name xn px, .Name yn py] kt pt] (.Tuple [.Call (.Name fn pc) (e :: es) [] cpos, b] k2 pt2) pos.line X.env = pure false := by rfl) (h1 : (assignEach [.Tuple [.Name xn px, .Name yn py] kt pt] X.env).map (·.2) = [assign (.Tuple [.Name xn px, .Name yn py] kt pt) X.env] := by rfl) :
    Go X Hb (.Assign [.Tuple [.Name xn px, .Name yn py] kt pt] (.Tuple [.Call (.Name fn pc) (e :: es) [] cpos, b] k2 pt2) pos :: rest) D0 Γ := fun σ H en => by
  obtain ⟨i, hi⟩ := hL1.ix
  obtain ⟨j, hj⟩ := hL2.ix
  obtain ⟨f, fd, ps, G, hm, hkp, hb⟩ := F.ex
  refine SemSs.cons (ps_asg (pe_tup (pa_cons (pe_call G (hr.mono hk) hg hm hkp hb .nil pass0 (semA X (e :: es)) hdb he hpl) (pa_cons (semE X b) pa_nil hs2) hs1)) (pg_tup hcm (pgs_cons (pg_name nd hi hx hf) (pgs_cons (pg_name nd hj hy hf2) pgs_nil hz2) hz1) hn hst') hsw hw h1) ?_
  refine h σ H en _ fun ws H1 ds ⟨ns1, ns2, hR, hB⟩ x1 r1 => ?_
  have en1 := en.ex x1
  show spT2 X.K R (ws ++ []) _ _ E0
  rw [List.append_nil]
  refine ⟨en.tb.ex (en.base.trans x1), ds, ns1, ns2, r1, hR, fun v H2 ⟨p, qa, qb, ev, hnd, hnew, x2, hc⟩ => ?_⟩
  subst ev
  have en2 := en1.ex x2
  refine hB σ H2 en2 _ fun v2 H3 d2 hgo x3 r2 _ => ?_
  refine ⟨by show 2 ≤ sizeLine; decide, fun t ht => ?_⟩
  refine ⟨_, _, rfl, SqT.of upd_same, rfl, ?_⟩
  have x4 : Ex H3 (upd H3 t (.tup [.ref p, v2])) := Ex.new ht
  have hcc : Cells (upd H3 t (.tup [.ref p, v2])) [p, qa, qb] [.lst [.ref qa, .ref qb], .lst (ns1.map .int), .lst (ns2.map .int)] := Cells.on hc fun q u m hq mu => (x3.trans x4).get q u hq mu.nt
  obtain ⟨Γ1, hu, go⟩ := hgo p qa qb
  obtain ⟨i', hi', rfl⟩ := hu.ix
  have := nodup_ix nd hi hi'
  subst this
  have en' : EnvOk X.K Hb (Γ.set i (.res [p, qa, qb] (.ref p) (Nest2 qa qb (ns1.map .int) (ns2.map .int)))) (σ.set i (some (.ref p))) (upd H3 t (.tup [.ref p, v2])) := by
    refine en1.setNew (e := .res [p, qa, qb] (.ref p) (Nest2 qa qb (ns1.map .int) (ns2.map .int))) hnew ((x2.trans x3).trans x4) hnd (Cells.mem hcc) ?_
    intro Hz xz nz ez
    exact ⟨rfl, _, hcc, nz, fun _ _ => rfl⟩
  obtain ⟨Γ2, g2, en3⟩ := go.ok (own := false) nd hj en' Ex.refl (r2.ex x4) fun z => nomatch z
  exact ⟨_, _, rfl, _, _, rfl, rfl, g2 _ _ en3⟩
/-- x, y = f(..), e, plain locals -/
theorem s_callN2p {R : List D → List Int → List Int → Prop} {fn xn yn : Str} {k k' kt k2 : Nat} {px py pt pt2 pc : Pos} (F : FnT2 X.prog X.w X.K X.mg X.base fn k R) (hr : Room k' X.A)
    (h : EvA X Hb (e :: es) Γ fun ds => ∃ ns1 ns2, R ds ns1 ns2 ∧ EvN X Hb b Γ false fun d2 => ∀ p qa qb, Up1 X.N Γ xn (.res [p, qa, qb] (.ref p) (Nest2 qa qb (ns1.map .int) (ns2.map .int))) fun Γ1 => StoreD false X.N Γ1 yn d2 fun Γ2 => Go X Hb rest D0 Γ2) (nd : X.N.Nodup) (hL1 : Has X.N xn) (hL2 : Has X.N yn)
    (hk : k ≤ k' := by decide) (hg : Gl X fn := by rfl) (hdb : (fn == ("__debug__" : Str)) = false := by decide)
    (he : starEach (e :: es) X.env = (false, eval e X.env) :: starEach es X.env := by rfl) (hpl : (backTo cpos (starEach es X.env)).any (·.1) = false := by rfl)
    (hs1 : starEach (.Call (.Name fn pc) (e :: es) [] cpos :: [b]) X.env = (false, eval (.Call (.Name fn pc) (e :: es) [] cpos) X.env) :: starEach [b] X.env := by rfl) (hs2 : starEach (b :: []) X.env = (false, eval b X.env) :: starEach [] X.env := by rfl)
    (hne0 : xn ≠ yn) (hw : swappedStores [.Tuple [.Name xn px, .Name yn py] kt pt] (.Tuple [.Call (.Name fn pc) (e :: es) [] cpos, b] k2 pt2) X.env = pure (some [xn, yn])) (hcm : X.calm = true := by rfl)
    (hx : X.env.scope.names.lookup xn = some .local := by rfl) (hy : X.env.scope.names.lookup yn = some .local := by rfl)
    (hsw : swapsWithSole [.Tuple [.Name xn px, .Name yn py] kt pt] (.Tuple [.Call (.Name fn pc) (e :: es) [] cpos, b] k2 pt2) pos.line X.env = pure false := by rfl) :
    Go X Hb (.Assign [.Tuple [.Name xn px, .Name yn py] kt pt] (.Tuple [.Call (.Name fn pc) (e :: es) [] cpos, b] k2 pt2) pos :: rest) D0 Γ := fun σ H en => by
  obtain ⟨i, hi⟩ := hL1.ix
  obtain ⟨j, hj⟩ := hL2.ix
  obtain ⟨f, fd, ps, G, hm, hkp, hb⟩ := F.ex
  have hij : i ≠ j := fun z => by subst z; rw [hi] at hj; exact hne0 (Option.some.inj hj)
  refine SemSs.cons (ps_par hcm nd hi hj hij hx hy (pa_cons (pe_call G (hr.mono hk) hg hm hkp hb .nil pass0 (semA X (e :: es)) hdb he hpl) (pa_cons (semE X b) pa_nil hs2) hs1) hw hsw) ?_
  refine h σ H en _ fun ws H1 ds ⟨ns1, ns2, hR, hB⟩ x1 r1 => ?_
  have en1 := en.ex x1
  show spT2 X.K R (ws ++ []) _ _ E0
  rw [List.append_nil]
  refine ⟨en.tb.ex (en.base.trans x1), ds, ns1, ns2, r1, hR, fun v H2 ⟨p, qa, qb, ev, hnd, hnew, x2, hc⟩ => ?_⟩
  subst ev
  have en2 := en1.ex x2
  refine hB σ H2 en2 _ fun v2 H3 d2 hgo x3 r2 _ => ?_
  refine ⟨_, _, rfl, ?_⟩
  have x4 : Ex H3 H3 := Ex.refl
  have hcc : Cells H3 [p, qa, qb] [.lst [.ref qa, .ref qb], .lst (ns1.map .int), .lst (ns2.map .int)] := Cells.on hc fun q u m hq mu => (x3.trans x4).get q u hq mu.nt
  obtain ⟨Γ1, hu, go⟩ := hgo p qa qb
  obtain ⟨i', hi', rfl⟩ := hu.ix
  have := nodup_ix nd hi hi'
  subst this
  have en' : EnvOk X.K Hb (Γ.set i (.res [p, qa, qb] (.ref p) (Nest2 qa qb (ns1.map .int) (ns2.map .int)))) (σ.set i (some (.ref p))) H3 := by
    refine en1.setNew (e := .res [p, qa, qb] (.ref p) (Nest2 qa qb (ns1.map .int) (ns2.map .int))) hnew ((x2.trans x3).trans x4) hnd (Cells.mem hcc) ?_
    intro Hz xz nz ez
    exact ⟨rfl, _, hcc, nz, fun _ _ => rfl⟩
  obtain ⟨Γ2, g2, en3⟩ := go.ok (own := false) nd hj en' Ex.refl (r2.ex x4) fun z => nomatch z
  exact g2 _ _ en3
end
end L3

/-! Core62: for x, y in ..: a loop with a state that is one of some. -/
namespace L3
open PySem PySem.Spec PyProof.Rows L2
section
variable {X : Cx} {Hb : Hp} {a b e : Expr} {Γ : Slots} {pos pn p' p1 p2 p3 : Pos} {D0 : Ends} {rest : List Stmt}
/-- for x, y in ..: behind i turns the state is one of I i -/
theorem s_stJ2 {α β : Type} {body : List Stmt} {xn yn : Str} {kt : Nat} {Γ1 Γe : β → α → Slots} {i j : Nat} (f1 f2 : α → D) (xs : List α) (G : β → Slots) (I : Nat → β → Prop) (s0 : β) (h0 : I 0 s0) (hit : EvJ X Hb (.Tuple [.Name xn p1, .Name yn p2] kt p3) e (G s0) (· = xs.map fun a => .tup [f1 a, f2 a]))
    (hs : ∀ Hb', Ex Hb Hb' → ∀ n a s, xs[n]? = some a → I n s → Go X Hb' body { D0 with nx := Btw X Hb' (fun Γ' => ∃ s', I (n + 1) s' ∧ Γ' = G s'), ct := Btw X Hb' (fun Γ' => ∃ s', I (n + 1) s' ∧ Γ' = G s'), bk := fun σ H => SemSs X rest D0 σ H } (Γe s a))
    (hd : ∀ s, I xs.length s → Go X Hb rest D0 (G s)) (hsub : Sub Γ (G s0) := by walk_at "sub") (hi : At X.N xn i := by walk_at "ati") (hj : At X.N yn j := by walk_at "ati") (hu : ∀ s a, Up X.N (G s) xn (.dat (f1 a)) (Γ1 s a) := by intro _ _; walk_at "up") (hu2 : ∀ s a, Up X.N (Γ1 s a) yn (.dat (f2 a)) (Γe s a) := by intro _ _; walk_at "up")
    (hst : ∀ s a, a ∈ xs → Sto (G s) (f1 a) ∧ Sto (Γ1 s a) (f2 a) := by intro _ _ _; exact ⟨by walk_at "sto", by walk_at "sto"⟩) (nd : X.N.Nodup := by assumption)
    (hp : PassesOwn (model X.prog X.w) X.A X.env X.xe := by exact PassesOwn.never) (hc : X.calm = true := by rfl)
    (hg : PG X (.Tuple [.Name xn p1, .Name yn p2] kt p3) (Tg.g X.K (.tp [.nm i, .nm j])) := by exact pg_two rfl (pg_name (by assumption) rfl (by first | exact Or.inl rfl | exact Or.inr rfl)) (pg_name (by assumption) rfl (by first | exact Or.inl rfl | exact Or.inr rfl)))
    (hfs : ∀ x, foldedSetIterable e X.env x = pure x := by intro _; rfl) :
    Go X Hb (.For (.Tuple [.Name xn p1, .Name yn p2] kt p3) e body [] pos :: rest) D0 Γ := by
  refine go_weak (fun _ _ h => h.sub hsub) (go_forJ (.tp [.nm i, .nm j]) (fun _ n Γ' => ∃ s, I n s ∧ Γ' = G s) hit (fun _ _ => ⟨s0, h0, rfl⟩) (fun Hb' eb ds n x Γ' es hx' hI => ?_) (fun ds Γ' es hI => ?_) hp hc hg hfs)
  · subst es
    obtain ⟨s, hI, rfl⟩ := hI
    rw [List.getElem?_map] at hx'
    obtain ⟨a, ha, rfl⟩ : ∃ a, xs[n]? = some a ∧ x = .tup [f1 a, f2 a] := by
      cases z : xs[n]? with
      | none => rw [z] at hx'; cases hx'
      | some a => rw [z] at hx'; cases hx'; exact ⟨a, rfl, rfl⟩
    have hm := List.mem_of_getElem? ha
    exact ⟨Γe s a, ⟨_, rfl, _, _, _, rfl, ⟨(hst s a hm).1, (up_set nd hi.ix (hu s a)).symm⟩, _, _, _, rfl, ⟨(hst s a hm).2, (up_set nd hj.ix (hu2 s a)).symm⟩, rfl, rfl⟩, hs Hb' eb n a s ha hI⟩
  · subst es
    obtain ⟨s, hI, rfl⟩ := hI
    rw [List.length_map] at hI
    exact hd s hI
end
end L3

/-! Core63: zip of three lists. -/
namespace L3
local macro_rules | `(tactic| walk_at "nx") => `(tactic| first | omega | (show @Ne Nat _ _; omega))
open PySem PySem.Spec PyProof.Rows L2
abbrev Zp (h : Heap) (n : Nat) (f0 : Value) : Prop := h.get? (n + 5) = some { cls := .type "zip", dict := none, data := .fields #[f0, .bool false, .bool false, .ref (n + 3), .ref (n + 4)], slots := #[] }
abbrev Tr3 (h : Heap) (T : Addr) (a b c : Value) : Prop := h.get? T = some { cls := .type "tuple", data := .seq #[a, b, c] }
/-- nothing else changed -/
def Kp (n : Nat) (h h' : Heap) : Prop := ∀ c o, c ≠ n + 5 → c ≠ n + 4 → c ≠ n → c ≠ n + 1 → c ≠ n + 2 → h.get? c = some o → h'.get? c = some o
structure Z3 (h : Heap) (n l1 l2 l3 k : Nat) (f0 : Value) : Prop where
  z : Zp h n f0
  ti : Tr3 h (n + 3) (.ref n) (.ref (n + 1)) (.ref (n + 2))
  to : ∃ a b c, Tr3 h (n + 4) a b c
  i1 : h.IsListIter n l1 k
  i2 : h.IsListIter (n + 1) l2 k
  i3 : h.IsListIter (n + 2) l3 k
structure Lt3 (n l1 l2 l3 : Nat) : Prop where
  a : l1 < n
  b : l2 < n
  c : l3 < n
section
variable {prog : Program} {w : World} {A : Around} {E : Value → Shared → Prop} {s : Shared} {n l1 l2 l3 k : Nat}
theorem upd_tr3 {T : Addr} {a b c x : Value} {j : Nat} {Q : Unit → Shared → Prop} (hT : Tr3 s.heap T a b c)
    (h : ∀ h', h'.get? T = some { cls := .type "tuple", data := .seq ((#[a, b, c] : Array Value).setIfInBounds j x) } → Heap.SameBut T s.heap h' → Q () { s with heap := h' }) :
    wpAny (model prog w) A (updateSeq T (fun v => v.setIfInBounds j x)) Q E s := by
  refine wpAny_updateSeq hT rfl (h _ ?_ (Heap.SameBut.update ..)); rw [Heap.get?_update_self _ hT rfl]; simp [Obj.mapSeq]
theorem z3_item {xs ys us : Array Value} {x y u : Value} {Q : Value → Shared → Prop} (L : Lt3 n l1 l2 l3) (Z : Z3 s.heap n l1 l2 l3 k .none) (g1 : s.heap.IsList l1 xs) (g2 : s.heap.IsList l2 ys) (g3 : s.heap.IsList l3 us)
    (hx : xs[k]? = some x) (hy : ys[k]? = some y) (hu : us[k]? = some u)
    (hQ : ∀ h', Z3 h' n l1 l2 l3 (k + 1) (rawInt s.heap.objs.size) → Tr3 h' s.heap.objs.size x y u → h'.objs.size = s.heap.objs.size + 1 → Kp n s.heap h' → Q (.ref s.heap.objs.size) { s with heap := h' }) :
    wpAny (model prog w) A (Builtin.«zip.__next__» ⟨[.ref (n + 5)], []⟩) (fun fin s' => ∃ v, fin = .done (.ret v) ∧ Q v s') E s := by
  obtain ⟨hZ, hI, ⟨a, b, c, hO⟩, h1, h2, h3⟩ := Z
  obtain ⟨q1, q2, q3⟩ := L
  show wpAny _ _ (field (.ref (n + 5)) 2 >>= _) _ _ _
  refine wpAny_bind (wpAny_field hZ rfl (x := .bool false) rfl ?_); show wpAny _ _ (field (.ref (n + 5)) 3 >>= _) _ _ _
  refine wpAny_bind (wpAny_field hZ rfl (x := .ref (n + 3)) rfl ?_); refine wpAny_bind (wpAny_seqItems hI rfl ?_)
  show wpAny _ _ (Builtin.SmallTypes.ownedTupleIsFree (.ref (n + 5)) >>= _) _ _ _
  refine wpAny_bind ?_; unfold Builtin.SmallTypes.ownedTupleIsFree
  refine wpAny_bind (wpAny_field hZ rfl (x := .none) rfl (wpAny_pure ?_)); simp only [if_true]
  refine wpAny_bind (wpAny_rule ?_); refine wpAny_bind (wpAny_field hZ rfl (x := .ref (n + 4)) rfl ?_)
  refine wpAny_bind (wpAny_setField_rec hZ (by simp) fun w1 hZ1 e1 => ?_); replace hZ1 : Zp w1 n .ellipsis := hZ1
  refine wpAny_bind ?_; simp only [List.zipIdx_cons, List.zipIdx_nil, List.forIn_cons, List.forIn_nil]
  -- the first one
  refine wpAny_bind (wpAny_bind (wpAny_onRaise ?_)); show wpAny _ _ (Builtin.SmallTypes.nextOf (.ref n) >>= _) _ _ _
  refine wpAny_bind (wpAny_nextOf_list_item (h1.at fun o e => e1.extBut _ o (by walk_at "nx") e) (g1.at fun o e => e1.extBut _ o (by walk_at "nx") e) hx fun w2 j1 e2 => wpAny_pure ?_)
  have hO2 : Tr3 w2 (n + 4) a b c := e2.extBut _ _ (by walk_at "nx") (e1.extBut _ _ (by walk_at "nx") hO)
  refine wpAny_bind (wpAny_seqItems hO2 rfl ?_); refine wpAny_bind (upd_tr3 hO2 fun w3 hO3 e3 => ?_)
  replace hO3 : Tr3 w3 (n + 4) x b c := hO3
  refine wpAny_bind (wpAny_letGo (wpAny_pure ?_))
  -- the second one
  refine wpAny_bind (wpAny_bind (wpAny_onRaise ?_)); show wpAny _ _ (Builtin.SmallTypes.nextOf (.ref (n + 1)) >>= _) _ _ _
  have k3 : ∀ c' o, c' ≠ n + 5 → c' ≠ n → c' ≠ n + 4 → s.heap.get? c' = some o → w3.get? c' = some o := fun c' o z1 z2 z3 e => e3.extBut _ o z3 (e2.extBut _ o z2 (e1.extBut _ o z1 e))
  refine wpAny_bind (wpAny_nextOf_list_item (h2.at fun o e => k3 _ o (by walk_at "nx") (by walk_at "nx") (by walk_at "nx") e) (g2.at fun o e => k3 _ o (by walk_at "nx") (by walk_at "nx") (by walk_at "nx") e) hy fun w4 j2 e4 => wpAny_pure ?_)
  have hO4 : Tr3 w4 (n + 4) x b c := e4.extBut _ _ (by walk_at "nx") hO3
  refine wpAny_bind (wpAny_seqItems hO4 rfl ?_); refine wpAny_bind (upd_tr3 hO4 fun w5 hO5 e5 => ?_)
  replace hO5 : Tr3 w5 (n + 4) x y c := hO5
  refine wpAny_bind (wpAny_letGo (wpAny_pure ?_))
  -- the third one
  refine wpAny_bind (wpAny_bind (wpAny_onRaise ?_)); show wpAny _ _ (Builtin.SmallTypes.nextOf (.ref (n + 2)) >>= _) _ _ _
  have k5 : ∀ c' o, c' ≠ n + 5 → c' ≠ n → c' ≠ n + 4 → c' ≠ n + 1 → s.heap.get? c' = some o → w5.get? c' = some o := fun c' o z1 z2 z3 z4 e => e5.extBut _ o z3 (e4.extBut _ o z4 (k3 _ o z1 z2 z3 e))
  refine wpAny_bind (wpAny_nextOf_list_item (h3.at fun o e => k5 _ o (by walk_at "nx") (by walk_at "nx") (by walk_at "nx") (by walk_at "nx") e) (g3.at fun o e => k5 _ o (by walk_at "nx") (by walk_at "nx") (by walk_at "nx") (by walk_at "nx") e) hu fun w6 j3 e6 => wpAny_pure ?_)
  have hO6 : Tr3 w6 (n + 4) x y c := e6.extBut _ _ (by walk_at "nx") hO5
  refine wpAny_bind (wpAny_seqItems hO6 rfl ?_); refine wpAny_bind (upd_tr3 hO6 fun w7 hO7 e7 => ?_)
  replace hO7 : Tr3 w7 (n + 4) x y u := hO7
  refine wpAny_bind (wpAny_letGo (wpAny_pure (wpAny_pure ?_)))
  -- the new tuple
  refine wpAny_bind (wpAny_seqItems hO7 rfl ?_); refine wpAny_bind (wpAny_newTuple ?_)
  have hsz : w7.objs.size = s.heap.objs.size := by rw [e7.1, e6.1, e5.1, e4.1, e3.1, e2.1, e1.1]
  have k7 : Kp n s.heap w7 := fun c' o z1 z2 z3 z4 z5 e => e7.extBut _ o z2 (e6.extBut _ o z5 (k5 _ o z1 z3 z2 z4 e))
  have hZ7 : Zp w7 n .ellipsis := e7.extBut _ _ (by walk_at "nx") (e6.extBut _ _ (by walk_at "nx") (e5.extBut _ _ (by walk_at "nx") (e4.extBut _ _ (by walk_at "nx") (e3.extBut _ _ (by walk_at "nx") (e2.extBut _ _ (by walk_at "nx") hZ1)))))
  have hI7 : Tr3 w7 (n + 3) (.ref n) (.ref (n + 1)) (.ref (n + 2)) := k7 _ _ (by walk_at "nx") (by walk_at "nx") (by walk_at "nx") (by walk_at "nx") (by walk_at "nx") hI
  have i17 : w7.IsListIter n l1 (k + 1) := j1.at fun o e => e7.extBut _ o (by walk_at "nx") (e6.extBut _ o (by walk_at "nx") (e5.extBut _ o (by walk_at "nx") (e4.extBut _ o (by walk_at "nx") (e3.extBut _ o (by walk_at "nx") e))))
  have i27 : w7.IsListIter (n + 1) l2 (k + 1) := j2.at fun o e => e7.extBut _ o (by walk_at "nx") (e6.extBut _ o (by walk_at "nx") (e5.extBut _ o (by walk_at "nx") e))
  have i37 : w7.IsListIter (n + 2) l3 (k + 1) := j3.at fun o e => e7.extBut _ o (by walk_at "nx") e
  have hlt : n + 5 < w7.objs.size := Heap.lt_size hZ7
  show wpAny _ _ (Builtin.SmallTypes.ownedTupleHandOut (.ref (n + 5)) (.ref w7.objs.size) >>= _) _ _ _
  refine wpAny_bind ?_; unfold Builtin.SmallTypes.ownedTupleHandOut
  have hZ8 : Zp (w7.push { cls := .type "tuple", data := .seq #[x, y, u] }) n .ellipsis := Heap.get?_push_of_some _ hZ7
  refine wpAny_bind (wpAny_setField_rec hZ8 (by simp) fun w9 hZ9 e9 => ?_); replace hZ9 : Zp w9 n (rawInt w7.objs.size) := hZ9
  refine wpAny_setField_rec hZ9 (by simp) fun v hZv ev => ?_; replace hZv : Zp v n (rawInt w7.objs.size) := hZv
  have up : ∀ c' o, c' ≠ n + 5 → w7.get? c' = some o → v.get? c' = some o := fun c' o z1 e => ev.extBut _ _ z1 (e9.extBut _ _ z1 (Heap.get?_push_of_some _ e))
  have hTv : Tr3 v w7.objs.size x y u := ev.extBut _ _ (Nat.ne_of_gt hlt) (e9.extBut _ _ (Nat.ne_of_gt hlt) (Heap.get?_push_size _ rfl))
  have hsv : v.objs.size = w7.objs.size + 1 := by rw [ev.1, e9.1, Heap.size_push]
  rw [hsz] at hZv hTv hsv
  refine wpAny_pure ⟨_, rfl, ?_⟩; show Q (.ref w7.objs.size) _
  rw [hsz]
  exact hQ v ⟨hZv, up _ _ (by walk_at "nx") hI7, ⟨_, _, _, up _ _ (by walk_at "nx") hO7⟩, i17.at fun o e => up _ o (by walk_at "nx") e, i27.at fun o e => up _ o (by walk_at "nx") e, i37.at fun o e => up _ o (by walk_at "nx") e⟩ hTv hsv fun c' o z1 z2 z3 z4 z5 e => up c' o z1 (k7 c' o z1 z2 z3 z4 z5 e)
theorem z3_end {xs : Array Value} {Q : Fin → Shared → Prop} (hh : A.handled = none) (L : Lt3 n l1 l2 l3) (Z : Z3 s.heap n l1 l2 l3 k .none) (g1 : s.heap.IsList l1 xs) (hx : xs[k]? = none)
    (hE : ∀ h' e, Kp n s.heap h' → (∃ o, h'.get? e = some o ∧ o.cls = .type "StopIteration") → E (.ref e) { s with heap := h' }) :
    wpAny (model prog w) A (Builtin.«zip.__next__» ⟨[.ref (n + 5)], []⟩) Q E s := by
  obtain ⟨hZ, hI, ⟨a, b, c, hO⟩, h1, h2, h3⟩ := Z
  obtain ⟨q1, q2, q3⟩ := L
  show wpAny _ _ (field (.ref (n + 5)) 2 >>= _) _ _ _
  refine wpAny_bind (wpAny_field hZ rfl (x := .bool false) rfl ?_); show wpAny _ _ (field (.ref (n + 5)) 3 >>= _) _ _ _
  refine wpAny_bind (wpAny_field hZ rfl (x := .ref (n + 3)) rfl ?_); refine wpAny_bind (wpAny_seqItems hI rfl ?_)
  show wpAny _ _ (Builtin.SmallTypes.ownedTupleIsFree (.ref (n + 5)) >>= _) _ _ _
  refine wpAny_bind ?_; unfold Builtin.SmallTypes.ownedTupleIsFree
  refine wpAny_bind (wpAny_field hZ rfl (x := .none) rfl (wpAny_pure ?_)); simp only [if_true]
  refine wpAny_bind (wpAny_rule ?_); refine wpAny_bind (wpAny_field hZ rfl (x := .ref (n + 4)) rfl ?_)
  refine wpAny_bind (wpAny_setField_rec hZ (by simp) fun w1 hZ1 e1 => ?_); replace hZ1 : Zp w1 n .ellipsis := hZ1
  refine wpAny_bind ?_; simp only [List.zipIdx_cons, List.zipIdx_nil, List.forIn_cons, List.forIn_nil]
  refine wpAny_bind (wpAny_bind (wpAny_onRaise ?_)); show wpAny _ _ (Builtin.SmallTypes.nextOf (.ref n) >>= _) _ _ _
  refine wpAny_bind (wpAny_nextOf_list_end hh (h1.at fun o e => e1.extBut _ o (by walk_at "nx") e) (g1.at fun o e => e1.extBut _ o (by walk_at "nx") e) hx fun w2 e e2 he => ?_)
  obtain ⟨oe, ho, hc⟩ := he
  have hZ2 : Zp w2 n .ellipsis := e2 _ _ (by walk_at "nx") hZ1
  have hne : e ≠ n + 5 := fun z => by subst z; rw [hZ2] at ho; cases ho; simp at hc
  exact wpAny_setField_rec hZ2 (by simp) fun w3 _ e3 => hE w3 e (fun c' o z1 z2 z3 z4 z5 q => e3.extBut _ _ z1 (e2 _ _ z3 (e1.extBut _ _ z1 q))) ⟨oe, e3.extBut _ _ hne ho, hc⟩
theorem next3_item {xs ys us : Array Value} {x y u : Value} {Q : Option Value → Shared → Prop} (L : Lt3 n l1 l2 l3) (Z : Z3 s.heap n l1 l2 l3 k .none) (g1 : s.heap.IsList l1 xs) (g2 : s.heap.IsList l2 ys) (g3 : s.heap.IsList l3 us)
    (hx : xs[k]? = some x) (hy : ys[k]? = some y) (hu : us[k]? = some u)
    (hQ : ∀ h', Z3 h' n l1 l2 l3 (k + 1) (rawInt s.heap.objs.size) → Tr3 h' s.heap.objs.size x y u → h'.objs.size = s.heap.objs.size + 1 → Kp n s.heap h' → Q (some (.ref s.heap.objs.size)) { s with heap := h' }) :
    wpAny (model prog w) A (pyNext (.ref (n + 5))) Q E s := by
  have hT : s.TypeIs (.ref (n + 5)) "zip" := ⟨_, Z.z, rfl⟩
  unfold pyNext
  exact wpAny_bind (wpAny_attempt (wpAny_callSpecial?_slot (name := Str.ofString "__next__") hT F.slot_zip_next (wpAny_call_entry F.slot_zip_next hT F.entry_zip_next (z3_item L Z g1 g2 g3 hx hy hu fun h' a1 a2 a3 a4 => wpAny_pure (hQ h' a1 a2 a3 a4)) (F.args_zip_next_1 _))))
theorem next3_end {xs : Array Value} {Q : Option Value → Shared → Prop} (hh : A.handled = none) (L : Lt3 n l1 l2 l3) (Z : Z3 s.heap n l1 l2 l3 k .none) (g1 : s.heap.IsList l1 xs) (hx : xs[k]? = none)
    (hQ : ∀ h', Kp n s.heap h' → Q none { s with heap := h' }) : wpAny (model prog w) A (pyNext (.ref (n + 5))) Q E s := by
  have hT : s.TypeIs (.ref (n + 5)) "zip" := ⟨_, Z.z, rfl⟩
  unfold pyNext
  refine wpAny_bind (wpAny_attempt (wpAny_callSpecial?_slot (name := Str.ofString "__next__") hT F.slot_zip_next (wpAny_call_entry F.slot_zip_next hT F.entry_zip_next (z3_end hh L Z g1 hx fun h' e hk he => ?_) (F.args_zip_next_1 _))))
  obtain ⟨o, ho, hc⟩ := he
  refine wpAny_bind (wpAny_isInstance (T := "StopIteration") (b := true) ⟨o, ho, hc⟩ isSubtype_stop (wpAny_pure (hQ _ hk)))
end
/-! the call -/
theorem type3 (a b c : Value) : checkTypeCall "zip" ⟨[a, b, c], []⟩ = pure () := by kernel_rfl
theorem new3 (a b c : Value) : checkBuiltinCall "zip.__new__" ⟨[.type "zip", a, b, c], []⟩ = pure () := by kernel_rfl
theorem init4 (a b c d : Value) : argsOk "object.__init__" ⟨[a, b, c, d], []⟩ := by unfold argsOk; rw [signature?_of (id := "object.__init__") (n := ['_', '_', 't', 'i', 'n', 'i', '_', '_']) (o := ['t', 'c', 'e', 'j', 'b', 'o']) (by kernel_rfl) F.owner_object]; kernel_rfl
def liO (l : Addr) : Obj := { cls := .type "list_iterator", data := .fields #[.ref l, .int 0 0] }
def heap3 (h : Heap) (l1 l2 l3 : Addr) : Heap := (((((h.push (liO l1)).push (liO l2)).push (liO l3)).push { cls := .type "tuple", data := .seq #[.ref h.objs.size, .ref (h.push (liO l1)).objs.size, .ref ((h.push (liO l1)).push (liO l2)).objs.size] }).push { cls := .type "tuple", data := .seq #[.none, .none, .none] }).push
  { cls := .type "zip", data := .fields #[.none, .bool false, .bool false, .ref (((h.push (liO l1)).push (liO l2)).push (liO l3)).objs.size, .ref ((((h.push (liO l1)).push (liO l2)).push (liO l3)).push { cls := .type "tuple", data := .seq #[.ref h.objs.size, .ref (h.push (liO l1)).objs.size, .ref ((h.push (liO l1)).push (liO l2)).objs.size] }).objs.size] }
def top3 (h : Heap) (l1 l2 l3 : Addr) : Nat := (((((h.push (liO l1)).push (liO l2)).push (liO l3)).push { cls := .type "tuple", data := .seq #[.ref h.objs.size, .ref (h.push (liO l1)).objs.size, .ref ((h.push (liO l1)).push (liO l2)).objs.size] }).push { cls := .type "tuple", data := .seq #[.none, .none, .none] }).objs.size
theorem meets3 (l1 l2 l3 : Addr) (xs ys us : Array Value) : Meets (Builtin.«zip.__new__» ⟨[.type "zip", .ref l1, .ref l2, .ref l3], []⟩) (fun _ R s => s.heap.IsList l1 xs ∧ s.heap.IsList l2 ys ∧ s.heap.IsList l3 us ∧ R (.ok (.ret (.ref (top3 s.heap l1 l2 l3)))) { s with heap := heap3 s.heap l1 l2 l3 }) :=
  .of_wp fun prog w A R s h => by
    obtain ⟨hp, g, d, tk, os⟩ := s
    obtain ⟨g1, g2, g3, h⟩ := h
    have hsub := sub_zip
    have G1 : Heap.IsList (Shared.heap ⟨hp, g, d, tk, os⟩) l1 xs := g1
    have G2 : Heap.IsList (Shared.heap ⟨hp.push { cls := .type "list_iterator", data := .fields #[.ref l1, .int 0 0] }, g, d, tk, os⟩) l2 ys := Heap.IsList.push g2 _
    have G3 : Heap.IsList (Shared.heap ⟨(hp.push { cls := .type "list_iterator", data := .fields #[.ref l1, .int 0 0] }).push { cls := .type "list_iterator", data := .fields #[.ref l2, .int 0 0] }, g, d, tk, os⟩) l3 us := Heap.IsList.push (Heap.IsList.push g3 _) _
    wp_walk using wpAny_pyIter_list G1, wpAny_pyIter_list G2, wpAny_pyIter_list G3
    exact ⟨_, rfl, h⟩
end L3

namespace L3
local macro_rules | `(tactic| walk_at "nx") => `(tactic| first | omega | (show @Ne Nat _ _; omega))
open PySem PySem.Spec PyProof.Rows L2
section
variable {prog : Program} {w : World} {A : Around} {E : Value → Shared → Prop} {s : Shared} {l1 l2 l3 : Nat}
theorem call3 {xs ys us : Array Value} {Q : Value → Shared → Prop} (g1 : s.heap.IsList l1 xs) (g2 : s.heap.IsList l2 ys) (g3 : s.heap.IsList l3 us)
    (h : ∀ h', Z3 h' s.heap.objs.size l1 l2 l3 0 .none → (∀ c o, s.heap.get? c = some o → h'.get? c = some o) → Q (.ref (s.heap.objs.size + 5)) { s with heap := h' }) :
    wpAny (model prog w) A (call (.type "zip") [.ref l1, .ref l2, .ref l3]) Q E s := by
  refine callType_new F.called_zip (by decide) (type3 _ _ _) (new3 _ _ _) (fun obj => init4 obj _ _ _) F.entry_zip_new (meets3 l1 l2 l3 xs ys us) ⟨g1, g2, g3, ?_⟩
  obtain ⟨B1, b1⟩ : ∃ B, B = s.heap.push (liO l1) := ⟨_, rfl⟩
  obtain ⟨B2, b2⟩ : ∃ B, B = B1.push (liO l2) := ⟨_, rfl⟩
  obtain ⟨B3, b3⟩ : ∃ B, B = B2.push (liO l3) := ⟨_, rfl⟩
  have z1 : B1.objs.size = s.heap.objs.size + 1 := by rw [b1, Heap.size_push]
  have z2 : B2.objs.size = s.heap.objs.size + 2 := by rw [b2, Heap.size_push, z1]
  have z3 : B3.objs.size = s.heap.objs.size + 3 := by rw [b3, Heap.size_push, z2]
  obtain ⟨B4, b4⟩ : ∃ B, B = B3.push { cls := .type "tuple", data := .seq #[.ref s.heap.objs.size, .ref (s.heap.objs.size + 1), .ref (s.heap.objs.size + 2)] } := ⟨_, rfl⟩
  have z4 : B4.objs.size = s.heap.objs.size + 4 := by rw [b4, Heap.size_push, z3]
  obtain ⟨B5, b5⟩ : ∃ B, B = B4.push { cls := .type "tuple", data := .seq #[.none, .none, .none] } := ⟨_, rfl⟩
  have z5 : B5.objs.size = s.heap.objs.size + 5 := by rw [b5, Heap.size_push, z4]
  obtain ⟨B6, b6⟩ : ∃ B, B = B5.push { cls := .type "zip", data := .fields #[.none, .bool false, .bool false, .ref (s.heap.objs.size + 3), .ref (s.heap.objs.size + 4)] } := ⟨_, rfl⟩
  have eT : top3 s.heap l1 l2 l3 = s.heap.objs.size + 5 := by unfold top3; rw [← b1, ← b2, ← b3, z1, z2, ← b4, ← b5, z5]
  have eH : heap3 s.heap l1 l2 l3 = B6 := by unfold heap3; rw [← b1, ← b2, ← b3, z1, z2, ← b4, ← b5, z3, z4, ← b6]
  rw [eT, eH]
  have g6 : Zp B6 s.heap.objs.size .none := by show B6.get? (s.heap.objs.size + 5) = _; rw [b6, ← z5]; exact Heap.get?_push_size _ rfl
  have f5 : Tr3 B6 (s.heap.objs.size + 4) .none .none .none := by show B6.get? (s.heap.objs.size + 4) = _; rw [b6, b5, ← z4]; exact Heap.get?_push_of_some _ (Heap.get?_push_size _ rfl)
  have f4 : Tr3 B6 (s.heap.objs.size + 3) (.ref s.heap.objs.size) (.ref (s.heap.objs.size + 1)) (.ref (s.heap.objs.size + 2)) := by show B6.get? (s.heap.objs.size + 3) = _; rw [b6, b5, b4, ← z3]; exact Heap.get?_push_of_some _ (Heap.get?_push_of_some _ (Heap.get?_push_size _ rfl))
  have up : ∀ c o, B3.get? c = some o → B6.get? c = some o := fun c o e => by rw [b6, b5, b4]; exact Heap.get?_push_of_some _ (Heap.get?_push_of_some _ (Heap.get?_push_of_some _ e))
  have f3 : B6.get? (s.heap.objs.size + 2) = some (liO l3) := up _ _ (by rw [b3, ← z2]; exact Heap.get?_push_size _ rfl)
  have f2 : B6.get? (s.heap.objs.size + 1) = some (liO l2) := up _ _ (by rw [b3, b2, ← z1]; exact Heap.get?_push_of_some _ (Heap.get?_push_size _ rfl))
  have f1 : B6.get? s.heap.objs.size = some (liO l1) := up _ _ (by rw [b3, b2, b1]; exact Heap.get?_push_of_some _ (Heap.get?_push_of_some _ (Heap.get?_push_size _ rfl)))
  show _ ∧ _
  exact ⟨⟨_, g6, rfl⟩, h B6 ⟨g6, f4, ⟨_, _, _, f5⟩, ⟨_, f1, rfl, rfl⟩, ⟨_, f2, rfl, rfl⟩, ⟨_, f3, rfl, rfl⟩⟩ fun c o e => up c o (by rw [b3, b2, b1]; exact Heap.get?_push_of_some _ (Heap.get?_push_of_some _ (Heap.get?_push_of_some _ e)))⟩
end
end L3

namespace L3
local macro_rules | `(tactic| walk_at "nx") => `(tactic| first | omega | (show @Ne Nat _ _; omega))
open PySem PySem.Spec PyProof.Rows L2
/-- the lists at a, b, c as they stand at each turn, the items in new tuples of three; of one length -/
def It3 (K : PySem.W.Frag) (a b c : Addr) : It where
  go := fun i H => ∃ (xs ys us : List V) (x y u : V), (SqL K H a xs ∧ SqL K H b ys ∧ SqL K H c us) ∧ xs[i]? = some x ∧ ys[i]? = some y ∧ us[i]? = some u
  yld := fun i H v H' => ∃ T x y u, v = .ref T ∧ H T = none ∧ H' = upd H T (.tup [x, y, u]) ∧ (∀ xs, SqL K H a xs → xs[i]? = some x) ∧ (∀ ys, SqL K H b ys → ys[i]? = some y) ∧ ∀ us, SqL K H c us → us[i]? = some u
  stop := fun i H => ∃ xs : List V, SqL K H a xs ∧ xs.length ≤ i
theorem fp3 {n : Nat} {c : Addr} (h : c ∈ [n + 5, n + 3, n + 4, n, n + 1, n + 2]) : n ≤ c ∧ (c = n + 5 ∨ c = n + 3 ∨ c = n + 4 ∨ c = n ∨ c = n + 1 ∨ c = n + 2) := by
  have e : c = n + 5 ∨ c = n + 3 ∨ c = n + 4 ∨ c = n ∨ c = n + 1 ∨ c = n + 2 := by simpa using h
  refine ⟨?_, e⟩
  rcases e with e | e | e | e | e | e <;> rw [e] <;> first | exact Nat.le_refl _ | exact Nat.le_add_right _ _
theorem turn3 {P : Program} {w : World} {K : PySem.W.Frag} {elts : List Expr} {kk : Nat} {tpos : Pos} {a b c : Addr} {n : Nat} (L : Lt3 n a b c) :
    Turn P w K (.Tuple elts kk tpos) (It3 K a b c) [n + 5, n + 3, n + 4, n, n + 1, n + 2] (n + 5) (fun i h => Z3 h n a b c i .none) where
  mem := by simp
  obj := fun i h st d hd => by
    obtain ⟨hZ, hI, ⟨x, y, u, hO⟩, ⟨o1, e1, _, d1⟩, ⟨o2, e2, _, d2⟩, o3, e3, _, d3⟩ := st
    rcases (fp3 hd).2 with q | q | q | q | q | q <;> rw [q]
    · exact ⟨_, hZ, fun v q => nomatch q⟩
    · exact ⟨_, hI, fun v q => nomatch q⟩
    · exact ⟨_, hO, fun v q => nomatch q⟩
    · exact ⟨o1, e1, fun v q => by rw [d1] at q; cases q⟩
    · exact ⟨o2, e2, fun v q => by rw [d2] at q; cases q⟩
    · exact ⟨o3, e3, fun v q => by rw [d3] at q; cases q⟩
  keep := fun i h h' st k => by
    obtain ⟨hZ, hI, ⟨x, y, u, hO⟩, h1, h2, h3⟩ := st
    exact ⟨k _ (by simp) _ hZ, k _ (by simp) _ hI, ⟨x, y, u, k _ (by simp) _ hO⟩, h1.at fun o q => k _ (by simp) o q, h2.at fun o q => k _ (by simp) o q, h3.at fun o q => k _ (by simp) o q⟩
  item := by
    intro X hP hw hK hc i pins s σ H E I hf st hg
    subst hP hw hK
    obtain ⟨xs, ys, us, x, y, u, ⟨q1, q2, q3⟩, hx, hy, hu⟩ := hg
    obtain ⟨t1, r1, p1, _⟩ := I.list q1
    obtain ⟨t2, r2, p2, _⟩ := I.list q2
    obtain ⟨t3, r3, p3, _⟩ := I.list q3
    obtain ⟨v1, hv1, rv1⟩ := r1.get hx
    obtain ⟨v2, hv2, rv2⟩ := r2.get hy
    obtain ⟨v3, hv3, rv3⟩ := r3.get hu
    have hzl : n + 5 < s.heap.objs.size := Heap.lt_size st.z
    refine next3_item (x := v1) (y := v2) (u := v3) L st p1.isList p2.isList p3.isList (by simpa using hv1) (by simpa using hv2) (by simpa using hv3) fun h' z' hT hsz hk => ?_
    refine ⟨_, rfl, wpAny_letOwnedTupleGo_zip (s := { s with heap := h' }) z'.z fun h2 z2 sb => ?_⟩
    have hT2 : Tr3 h2 s.heap.objs.size v1 v2 v3 := (sb.2 _ (Nat.ne_of_gt hzl)).trans hT
    have new : ObjOk X.prog X.w (upd H s.heap.objs.size (.tup [x, y, u])) h2 s.heap.objs.size (.tup [x, y, u]) := ⟨by show 3 ≤ sizeLine; decide, [v1, v2, v3], .cons rv1 (.cons rv2 (.cons rv3 .nil)), ⟨_, hT2, rfl, _, rfl⟩⟩
    have I1 := I.turnedNew (h' := h2) (t' := s.toks) (ch := [n + 5, n + 3, n + 4, n, n + 1, n + 2]) (fun c' o hb q => (sb.2 c' (fun z => hb (by simp [z]))).trans (hk c' o (fun z => hb (by simp [z])) (fun z => hb (by simp [z])) (fun z => hb (by simp [z])) (fun z => hb (by simp [z])) (fun z => hb (by simp [z])) q)) hf (Nat.le_refl _) new
    refine ⟨.ref s.heap.objs.size, _, I1, rfl, ⟨_, x, y, u, rfl, I.hok.fresh (Nat.le_refl _), rfl, fun l hl => by rw [I.list_inj hl q1]; exact hx, fun l hl => by rw [I.list_inj hl q2]; exact hy, fun l hl => by rw [I.list_inj hl q3]; exact hu⟩, ?_, fun d hd => ?_⟩
    · obtain ⟨a1, a2, ⟨y1, y2, y3, a3⟩, a4, a5, a6⟩ := z'
      exact ⟨z2, (sb.2 _ (by walk_at "nx")).trans a2, ⟨y1, y2, y3, (sb.2 _ (by walk_at "nx")).trans a3⟩, a4.at fun o q => (sb.2 _ (by walk_at "nx")).trans q, a5.at fun o q => (sb.2 _ (by walk_at "nx")).trans q, a6.at fun o q => (sb.2 _ (by walk_at "nx")).trans q⟩
    · have hlt : d < s.heap.objs.size := by
        have hz2 : n + 5 < s.heap.objs.size := hzl
        have hle : d ≤ n + 5 := by
          rcases (fp3 hd).2 with e | e | e | e | e | e <;> rw [e] <;> first | exact Nat.le_refl _ | exact Nat.add_le_add_left (by decide) _ | exact Nat.le_add_right _ _
        exact Nat.lt_of_le_of_lt hle hz2
      rw [upd_ne (Nat.ne_of_lt hlt)]
      exact (hf d hd).1
  done := by
    intro X hP hw hK hc i pins s σ H E I hf st hg
    subst hP hw hK
    obtain ⟨xs, q1, hend⟩ := hg
    obtain ⟨t1, r1, p1, _⟩ := I.list q1
    have l1 := r1.length
    exact next3_end (I.ok.hd hc) L st p1.isList (by simp; omega) fun h' hk => ⟨rfl, I.turnedL (t' := s.toks) (ch := [n + 5, n + 3, n + 4, n, n + 1, n + 2]) (fun c' o hb q => hk c' o (fun z => hb (by simp [z])) (fun z => hb (by simp [z])) (fun z => hb (by simp [z])) (fun z => hb (by simp [z])) (fun z => hb (by simp [z])) q) hf⟩
  self := fun A i s Q E st h => wpAny_pyIter_zip st.z h
def iZip3 (K : PySem.W.Frag) (ta : TA) : TI := fun σ H R => ta σ H fun vs H1 => ∃ a b c xs ys us, vs = [.ref a, .ref b, .ref c] ∧ (SqL K H1 a xs ∧ SqL K H1 b ys ∧ SqL K H1 c us) ∧ R (It3 K a b c) H1
theorem pi_zip3 {X : Cx} {e e2 e3 : Expr} {ta : TA} {p pos tpos : Pos} {elts : List Expr} {kk : Nat} (hg : Gl X "zip") (hm : X.mg "zip" = none) (ha : PA X [e, e2, e3] ta)
    (hs : starEach [e, e2, e3] X.env = (false, eval e X.env) :: starEach [e2, e3] X.env := by rfl) (hpl : (backTo pos (starEach [e2, e3] X.env)).any (·.1) = false := by rfl) : PI X (.Tuple elts kk tpos) (.Call (.Name "zip" p) [e, e2, e3] [] pos) (iZip3 X.K ta) := by
  refine ⟨fun pins s σ H R I h => ?_⟩
  refine Call_ (ld_blt I hg hm PyProof.Rows.boot_zip (PyProof.Rows.callWith_type1 (thn (ha.run pos pins s σ H _ I h) fun us s1 ⟨vs, H1, I1, r1, q1⟩ => ?_) hs hpl))
  obtain ⟨a, b, c, xs, ys, zs, ex, ⟨hx, hy, hz⟩, q⟩ := q1
  subst ex
  cases r1 with
  | cons r rr =>
  cases rr with
  | cons r' rr =>
  cases rr with
  | cons r'' rr =>
    cases rr; cases r; cases r'; cases r''
    obtain ⟨_, _, p1, _⟩ := I1.list hx
    obtain ⟨_, _, p2, _⟩ := I1.list hy
    obtain ⟨_, _, p3, _⟩ := I1.list hz
    refine call3 p1.isList p2.isList p3.isList fun h' Z hk => wpAny_pyIter_zip Z.z ?_
    exact ⟨_, _, _, _, H1, rfl, I1.kept (t' := s1.toks) hk, turn3 ⟨p1.lt, p2.lt, p3.lt⟩, Z, fun d hd => I1.fpOk (fp3 hd).1 (I1.hok.fresh (fp3 hd).1), q⟩
end L3

/-! Core66: a loop over zip of three lists. -/
namespace L3
open PySem PySem.Spec PyProof.Rows L2
def Yld3 (xs ys us : List V) : Nat → Hp → V → Hp → Prop := fun i H v H' => ∃ T x y u, v = .ref T ∧ H T = none ∧ H' = upd H T (.tup [x, y, u]) ∧ xs[i]? = some x ∧ ys[i]? = some y ∧ us[i]? = some u
theorem walk_zip3 {K : PySem.W.Frag} {a b c : Addr} {xs ys us : List V} (h1 : ys.length = xs.length) (h2 : us.length = xs.length) : Walk (It3 K a b c) xs.length (fun H => SqL K H a xs ∧ SqL K H b ys ∧ SqL K H c us) (Yld3 xs ys us) := by
  refine ⟨fun i _ hi q => ?_, fun _ q => ⟨xs, q.1, Nat.le_refl _⟩, fun i H v H' _ q y => ?_⟩
  · have e1 : i < ys.length := by omega
    have e2 : i < us.length := by omega
    exact ⟨xs, ys, us, xs[i], ys[i], us[i], q, by simp [hi], by simp [e1], by simp [e2]⟩
  · obtain ⟨T, x, z, u, k1, k2, k3, k4, k5, k6⟩ := y
    exact ⟨T, x, z, u, k1, k2, k3, k4 xs q.1, k5 ys q.2.1, k6 us q.2.2⟩
theorem jt_zip3 {α : Type} {f g e : α → D} {l : List α} {K : PySem.W.Frag} {Hz : Hp} {p q r : Addr} {vs ws us : List V} (hq : SqL K Hz p vs) (ra : RepAll K Hz vs (l.map f)) (hq2 : SqL K Hz q ws) (ra2 : RepAll K Hz ws (l.map g)) (hq3 : SqL K Hz r us) (ra3 : RepAll K Hz us (l.map e)) :
    Jt K Hz (It3 K p q r) (l.map fun a => D.tup [f a, g a, e a]) := by
  have n1 := ra.length
  have n2 := ra2.length
  have n3 := ra3.length
  rw [List.length_map] at n1 n2 n3
  have W := walk_zip3 (K := K) (a := p) (b := q) (c := r) (xs := vs) (ys := ws) (us := us) (by omega) (by omega)
  rw [show vs.length = (l.map fun a => D.tup [f a, g a, e a]).length from by rw [List.length_map]; exact n1] at W
  refine ⟨_, _, W, fun H2 x => ⟨SqL.ex x hq, SqL.ex x hq2, SqL.ex x hq3⟩, fun i H2 v H3 hi x y => ?_⟩
  obtain ⟨T, a, b, c, rfl, hT, rfl, ha, hb, hc⟩ := y
  obtain ⟨d, hd, r1⟩ := ra.get' ha
  obtain ⟨d2, hd2, r2⟩ := ra2.get' hb
  obtain ⟨d3, hd3, r3⟩ := ra3.get' hc
  rw [List.getElem?_map] at hd hd2 hd3
  cases hz : l[i]? with
  | none => rw [hz] at hd; cases hd
  | some w =>
    rw [hz] at hd hd2 hd3
    cases hd
    cases hd2
    cases hd3
    exact ⟨Ex.new hT, .tup [f w, g w, e w], by rw [List.getElem?_map, hz]; rfl, .tup (SqT.of upd_same) (.cons ((r1.ex x).ex (Ex.new hT)) (.cons ((r2.ex x).ex (Ex.new hT)) (.cons ((r3.ex x).ex (Ex.new hT)) .nil)))⟩
section
variable {X : Cx} {Hb : Hp} {a b c : Expr} {Γ : Slots} {pos p' : Pos}
/-- over zip of three lists of one length -/
theorem wj_zip3 {α : Type} {f g e : α → D} (l : List α) {pn tpos : Pos} {elts : List Expr} {kk : Nat} (hm : X.mg "zip" = none) (h : EvI X Hb a Γ (· = l.map f)) (h2 : EvI X Hb b Γ (· = l.map g)) (h3 : EvI X Hb c Γ (· = l.map e)) (hg : Gl X "zip" := by rfl)
    (hs : starEach [a, b, c] X.env = (false, eval a X.env) :: starEach [b, c] X.env := by rfl) (hs2 : starEach [b, c] X.env = (false, eval b X.env) :: starEach [c] X.env := by rfl) (hs3 : starEach [c] X.env = [(false, eval c X.env)] := by rfl) (hpl : (backTo pos (starEach [b, c] X.env)).any (·.1) = false := by rfl) :
    EvJ X Hb (.Tuple elts kk tpos) (.Call (.Name "zip" pn) [a, b, c] [] pos) Γ (· = l.map fun a => D.tup [f a, g a, e a]) :=
  ⟨_, pi_zip3 hg hm (pa_cons (semE X a) (pa_cons (semE X b) (pa_cons (semE X c) pa_nil hs3) hs2) hs) hs hpl, fun σ H en R q => h σ H en _ fun a vs H1 ds s x hq ra => h2 σ H1 (en.ex x) _ fun b ws H2 es s2 x2 hq2 ra2 => h3 σ H2 ((en.ex x).ex x2) _ fun c us H3 fs s3 x3 hq3 ra3 => by
    subst s s2 s3
    have xa : Ex (hide H1 (owns Γ)) (hide H2 (owns Γ)) := x2.hides (owns_lsts ((en.ex x).ex x2).wide.2.2.1)
    have xb : Ex (hide H2 (owns Γ)) (hide H3 (owns Γ)) := x3.hides (owns_lsts (((en.ex x).ex x2).ex x3).wide.2.2.1)
    exact ⟨a, b, c, vs, ws, us, rfl, ⟨SqL.ex x3 (SqL.ex x2 (SqL.ex hide_ex hq)), SqL.ex x3 (SqL.ex hide_ex hq2), SqL.ex hide_ex hq3⟩, q _ H3 _ rfl ((x.trans x2).trans x3) (jt_zip3 (SqL.ex xb (SqL.ex xa hq)) ((ra.ex xa).ex xb) (SqL.ex xb hq2) (ra2.ex xb) hq3 ra3)⟩⟩
end
end L3

/-! Core67: a comprehension of new lists. -/
namespace L3
open PySem PySem.Spec PyProof.Rows L2
theorem soFar_moreF {K : PySem.W.Frag} {H1 H H' : Hp} {L : Addr} {R R' : List D → Prop} {v : V} {es : List D} (hL : H1 L = none) (h : SoFar K H1 L R H) (x : Ex H H') (fd : FreshD K H H' v (.lst es)) (f : D.flatAll es = true) (hl : ∀ ys, R ys → ys.length < 100000) (hR : ∀ ys, R ys → R' (ys ++ [.lst es])) :
    ∃ acc, H' L = some (.lst acc) ∧ acc.length < sizeLine ∧ SoFar K H1 L R' (upd H' L (.lst (acc ++ [v]))) := by
  obtain ⟨e, acc, ys, h1, h2, h3⟩ := h
  obtain ⟨p, vs, rfl, hp, hv, ra⟩ := fd
  have h4 := x.lst h1
  have hpL : p ∉ [L] := fun z => by
    rw [List.mem_singleton.mp z, h1] at hp
    cases hp
  refine ⟨acc, h4, by rw [h2.length]; exact Nat.lt_of_lt_of_le (hl ys h3) (by decide), Ex.mut (e.trans x) hL (by rw [h4]; trivial), acc ++ [.ref p], ys ++ [.lst es], upd_same, ?_, hR ys h3⟩
  rw [hide1_upd]
  have ra2 : RepAll K (hide H' [L]) vs es := RepAll.hide (ps := [L]) (fun q m => ⟨.lst acc, by rw [List.mem_singleton.mp m]; exact h4, (trivial : Mu (.lst acc))⟩) ra f
  exact (h2.ex (hide1_ex x h4)).append (.cons (.lst (SqL.of (by rw [hide_out hpL]; exact hv)) ra2) .nil)
section
variable {X : Cx} {Hb Hb' : Hp} {a b c e elt iter tg : Expr} {es ifs : List Expr} {Γ : Slots} {pos p' apos cpos : Pos} {d x y : D} {ds : List D} {Q S S' : D → Prop} {fr : Bool} {scope : Scope} {own : List (Str × Nat)}
/-- [elt for t in xs], each one a new flat list -/
theorem lcJF {α : Type} (t : Tg) (f : α → D) (g : α → List D) (xs : List α) (Γe : α → Slots) (hit : EvJ X Hb tg iter Γ (· = xs.map f)) (hput : ∀ a ∈ xs, Put t (f a) (wipeG Γ (own.map (·.2))) (Γe a))
    (he : ∀ a ∈ xs, AllIn X scope fun Y => EvN Y Hb elt (Γe a) true (fun d => d = .lst (g a))) (hfl : ∀ a, D.flatAll (g a) = true) (hlen : xs.length < 100000)
    (hc : X.calm = true) (nd : X.N.Nodup) (ok : BlkOk X.N X.env.scope scope own) (hown : ∀ i ∈ t.slots, i ∈ own.map (·.2))
    (hg : AllIn X scope fun Y => PG Y tg (t.g X.K)) (hs : ∀ x, foldedSetIterable iter X.env x = pure x := by intro _; rfl) :
    LcEv X Hb elt tg iter [] scope own Γ (fun z => z = .lst (xs.map fun a => .lst (g a))) := by
  obtain ⟨wi, hpi, hw⟩ := hit
  refine ⟨hc, nd, ok, hs, _, _, _, tIn X scope elt, hpi, hg, (fun s H C cl fp => pts_nil), fun s H C cl fp => ⟨fun pins s' σ H' Q I h => (h s H C cl fp).run pins s' I⟩, fun σ H en Q q => ?_⟩
  refine hw σ H en _ fun J H1 ds e1 x ⟨G, Y, w, hG, hY⟩ => ?_
  subst e1
  have en1 := en.ex x
  rw [List.length_map] at w hY
  refine fun L hL => lc_it w (fun i H => SoFar X.K H1 L (fun ys => ys = (xs.take i).map fun a => .lst (g a)) H) (soFar_start hL rfl) (fun i H2 _ h => hG _ (hide_ex.trans h.1)) ?_ ?_
  · intro i v H2 H3 hi sf y
    obtain ⟨x3, dx, hd, rv⟩ := hY i H2 v H3 hi (hide_ex.trans sf.1) y
    rw [List.getElem?_map] at hd
    obtain ⟨ax, hax, rfl⟩ : ∃ ax, xs[i]? = some ax ∧ dx = f ax := by
      cases z : xs[i]? with
      | none => rw [z] at hd; cases hd
      | some ax => rw [z] at hd; cases hd; exact ⟨ax, rfl, rfl⟩
    have hm := List.mem_of_getElem? hax
    have et : xs.take (i + 1) = xs.take i ++ [ax] := by rw [List.take_add_one, hax]; rfl
    have sf3 : SoFar X.K H1 L (fun ys => ys = (xs.take i).map fun a => .lst (g a)) H3 := by
      obtain ⟨e, acc, ys, h1, h2, h3⟩ := sf
      exact ⟨e.trans x3, acc, ys, x3.lst h1, h2.ex (hide1_ex x3 (x3.lst h1)), h3⟩
    refine put_ok (own := own.map (·.2)) (hput ax hm) hown (wipe_env (en1.ex sf3.1) _) rv _ fun σ' en2 hwp => ?_
    refine ⟨hwp.trans (wipe_wipe _ _) ▸ by rw [hwp, wipe_wipe], ?_⟩
    refine yes_of (L2.iteT ?_)
    intro s0 H0 C cl fp
    refine he ax hm s0 H0 C cl fp _ H3 en2 _ fun w H4 dw sw x4 rw4 ff => ?_
    subst sw
    refine soFar_moreF hL sf3 x4 (ff rfl) (hfl ax) (fun ys h => ?_) fun ys h => ?_
    · rw [h, List.length_map, List.length_take]
      omega
    · rw [et, List.map_append, h]
      rfl
  · intro H2 sf
    rw [List.take_length] at sf
    obtain ⟨ys, h1, h2, h3, h4⟩ := soFar_done hL x sf
    exact q _ _ _ (by rw [h1]) h2 h3 h4
/-- [elt for x in xs], each one a new flat list -/
theorem lc1F {α : Type} {xn : Str} {Γe : α → Slots} {i : Nat} (f : α → D) (xs : List α) (g : α → List D) (hit : EvJ X Hb (.Name xn p') iter Γ (· = xs.map f))
    (he : ∀ a ∈ xs, ∀ (s : Shared) (H : Hp) (C : Addr) (cl : List (Str × Addr)) (fp : List Addr), EvN (inCx X scope s H C cl fp) Hb elt (Γe a) true (fun d => d = .lst (g a))) (q : Q (.lst (xs.map fun a => .lst (g a)))) (hlen : xs.length < 100000) (hfl : ∀ a, D.flatAll (g a) = true)
    (hi : At X.N xn i := by walk_at "ati") (hu : ∀ a, Up X.N Γ xn (.dat (f a)) (Γe a) := by intro _; walk_at "up") (hst : ∀ a ∈ xs, Sto Γ (f a) := by intro _ _; walk_at "sto")
    (nd : X.N.Nodup := by assumption) (hc : X.calm = true := by rfl) (ok : blkC X.N X.env.scope scope [(xn, i)] = true := by walk_at "blk")
    (hg : AllIn X scope fun Y => PG Y (.Name xn p') (gName i) := by exact fun _ _ _ _ _ => pg_name (by assumption) rfl (Or.inl rfl)) (hs : ∀ x, foldedSetIterable iter X.env x = pure x := by intro _; rfl) :
    LcX X Hb elt (.Name xn p') iter [] scope Γ Q := by
  refine ⟨_, (lcJF (own := [(xn, i)]) (.nm i) f g xs Γe hit (fun a ha => up_wipe nd hi.ix (hu a) (sto_sub (hst a ha))) (fun a ha s H C cl fp => he a ha s H C cl fp) hfl hlen hc nd (blkOk_by ok) (fun j m => m) hg hs).imp ?_⟩
  rintro z rfl
  exact q
end
end L3

/-! Core68: what stands apart from one's own lists; x.append of such a thing. -/
namespace L3
open PySem PySem.Spec PyProof.Rows L2
/-- the value stands apart from the lists of one's own -/
def EvH (X : Cx) (Hb : Hp) (e : Expr) (Γ : Slots) (S : D → Prop) : Prop := ∀ σ H, EnvOk X.K Hb Γ σ H → ∀ Q : VK, (∀ v H' d, S d → Ex H H' → Rep X.K (hide H' (owns Γ)) v d → Q v H') → SemE X e σ H Q
section
variable {X : Cx} {Hb Hb' : Hp} {a b c e : Expr} {es : List Expr} {Γ Γ' : Slots} {pos p' p2 apos cpos : Pos} {d x y : D} {ds : List D} {Q S S' S1 S2 : D → Prop} {fr : Bool} {D0 : Ends} {rest : List Stmt}
theorem EvH.imp (h : EvH X Hb e Γ S) (f : ∀ d, S d → S' d) : EvH X Hb e Γ S' := fun σ H en Q q => h σ H en Q fun v H' d s => q v H' d (f d s)
theorem evh_flat (h : EvN X Hb e Γ fr fun d => d.flat = true ∧ S d) : EvH X Hb e Γ S := fun σ H en Q q =>
  SemE.of (semE X e) (h σ H en _ fun v H' d s x r _ => q v H' d s.2 x (r.hide (owns_lsts (en.ex x).wide.2.2.1) s.1))
theorem evh_new (h : EvN X Hb e Γ true fun z => ∃ ds, z = .lst ds ∧ D.flatAll ds = true ∧ S (.lst ds)) : EvH X Hb e Γ S := fun σ H en Q q =>
  SemE.of (semE X e) (h σ H en _ fun v H' d ⟨ds, e, f, s⟩ x r ff => by
    subst e
    obtain ⟨p, vs, rfl, hp, hv, ra⟩ := ff rfl
    have en' := en.ex x
    have hpo : p ∉ owns Γ := fun z => by
      obtain ⟨u, hu, _⟩ := (owns_lsts en.wide.2.2.1) p z
      rw [hp] at hu
      cases hu
    exact q _ H' _ s x (.lst (SqL.of (by rw [hide_out hpo]; exact hv)) (ra.hide (owns_lsts en'.wide.2.2.1) f)))
theorem evh_tup2 {x1 : Nat} (h : EvH X Hb a Γ S1) (h2 : EvH X Hb b Γ S2) (hs1 : starEach [a, b] X.env = (false, eval a X.env) :: starEach [b] X.env := by rfl) (hs2 : starEach [b] X.env = (false, eval b X.env) :: starEach [] X.env := by rfl) :
    EvH X Hb (.Tuple [a, b] x1 pos) Γ (fun z => ∃ x y, z = .tup [x, y] ∧ S1 x ∧ S2 y) := fun σ H en Q q =>
  SemE.of (pe_tup (pa_cons (semE X a) (pa_cons (semE X b) pa_nil hs2) hs1)) (h σ H en _ fun v1 H1 d1 s1 x1 r1 => h2 σ H1 (en.ex x1) _ fun v2 H2 d2 s2 x2 r2 => by
    refine ⟨by show 2 ≤ sizeLine; decide, fun t ht => ?_⟩
    have xa : Ex (hide H1 (owns Γ)) (hide H2 (owns Γ)) := x2.hides (owns_lsts ((en.ex x1).ex x2).wide.2.2.1)
    have xt : Ex H2 (upd H2 t (.tup [v1, v2])) := Ex.new ht
    have xb : Ex (hide H2 (owns Γ)) (hide (upd H2 t (.tup [v1, v2])) (owns Γ)) := xt.hides (owns_lsts (((en.ex x1).ex x2).ex xt).wide.2.2.1)
    have hto : t ∉ owns Γ := fun z => by
      obtain ⟨u, hu, _⟩ := (owns_lsts ((en.ex x1).ex x2).wide.2.2.1) t z
      rw [ht] at hu
      cases hu
    exact q _ _ _ ⟨d1, d2, rfl, s1, s2⟩ ((x1.trans x2).trans xt) (.tup (SqT.of (by rw [hide_out hto]; exact upd_same)) (.cons ((r1.ex xa).ex xb) (.cons (r2.ex xb) .nil))))
/-- x.append(e), the thing stands apart -/
theorem s_appendH {p : Addr} {xn : Str} (hL : Look X.N Γ xn (.own p ds)) (h : EvH X Hb e Γ fun d => Up1 X.N Γ xn (.own p (ds ++ [d])) fun Γ' => Go X Hb rest D0 Γ') (nd : X.N.Nodup) (hl : ds.length ≤ 100000)
    (hv : Vis X.env.scope xn := by first | exact Or.inl rfl | exact Or.inr (Or.inl rfl) | exact Or.inr (Or.inr rfl)) (hdb : (xn == ("__debug__" : Str)) = false := by decide) (hcd : (xn == ("__classdict__" : Str)) = false := by decide)
    (hbase : attributeBase (.Name xn p') "append" X.env (eval (.Name xn p') X.env) = eval (.Name xn p') X.env := by rfl)
    (hfew : ((backTo cpos (starEach (e :: []) X.env)).all (fun x => !x.1) && (backToKw cpos (keywordEach [] X.env)).all (fun x => x.1.isSome) && decide ((e :: []).length + ([] : List Keyword).length + (if ([] : List Keyword).isEmpty then 0 else 1) < 30)) = true := by rfl)
    (hline : (apos.endLine == cpos.line) = true := by rfl) (hs : starEach (e :: []) X.env = (false, eval e X.env) :: starEach [] X.env := by rfl) (hplain : (backTo cpos (starEach [] X.env)).any (·.1) = false := by rfl)
    (hsw : swapsWith (.Call (.Attribute (.Name xn p') "append" apos) [e] [] cpos) none pos.line X.env = pure false := by rfl) :
    Go X Hb (.Expr (.Call (.Attribute (.Name xn p') "append" apos) [e] [] cpos) pos :: rest) D0 Γ := fun σ H en => by
  obtain ⟨i, hN, hG⟩ := hL.ix
  obtain ⟨hσ, vs, hl1, _, _⟩ := en.ownW hG
  refine SemSs.cons (ps_expr (pe_bm PySem.F.plainAttrs_list PySem.F.slot_list_append PySem.F.type_list_append mt_append (pe_var hN hv hdb hcd) (pa_cons (semE X e) pa_nil hs) hbase hfew hline hs hplain) hsw) ?_
  refine ⟨_, hσ, .inl ⟨rfl, _, SqL.of hl1⟩, h σ H en _ fun v H' d ⟨Γ1, hu, g⟩ x r => ?_⟩
  have en' := en.ex x
  obtain ⟨_, ws, hl2, rw, ls⟩ := en'.ownW hG
  obtain ⟨j, hj, rfl⟩ := hu.ix
  have := nodup_ix nd hN hj
  subst this
  refine ⟨p, ws, v, rfl, rfl, hl2, by rw [rw.length]; exact Nat.lt_of_le_of_lt hl (by decide), ?_⟩
  exact g σ _ (en'.mutOwn hG (rw.append (.cons r .nil)))
end
end L3

/-! Core69: texts: len, slices, in, int(..), str(..), f'..', a loop over the signs. -/
namespace L3
open PySem PySem.Spec PyProof.Rows L2
section
variable {X : Cx} {Hb Hb' : Hp} {a b c e : Expr} {es : List Expr} {Γ Γ' : Slots} {pos p' p2 pn apos cpos : Pos} {d x y : D} {ds : List D} {Q S' : D → Prop} {S : Bool → Prop} {fr : Bool} {D0 : Ends} {rest : List Stmt}
/-- len of a text -/
theorem w_lenS (hm : X.mg "len" = none) (h : EvA X Hb [a] Γ fun ds => ∃ s : Str, ds = [.str s] ∧ s.length ≤ 10000 ∧ Q (.int s.length)) (hg : Gl X "len" := by rfl) (he : starEach (a :: []) X.env = (false, eval a X.env) :: starEach [] X.env := by rfl) (hpl : (backTo pos (starEach [] X.env)).any (·.1) = false := by rfl) :
    EvN X Hb (.Call (.Name "len" pn) [a] [] pos) Γ fr Q := EvN.fresh <|
  evn_B call_len hm h (fun vs H ds' Q' ⟨s, e1, hl, q⟩ r k => by
    subst e1
    cases r with
    | cons r1 r2 =>
      cases r1
      cases r2
      exact ⟨.str s, s.length, rfl, ⟨Nat.le_trans hl (by decide), rfl⟩, k _ _ _ q Ex.refl (.int _) (FreshD.flat rfl)⟩) (by decide +kernel) hg (by decide) (by decide) he hpl
/-- int of a text -/
theorem w_intS (hm : X.mg "int" = none) (h : EvA X Hb [a] Γ fun ds => ∃ (s : Str) (n : Int), ds = [.str s] ∧ (PySem.intText? s = some n ∧ s.length ≤ 640) ∧ Q (.int n)) (hg : Gl X "int" := by rfl) (he : starEach (a :: []) X.env = (false, eval a X.env) :: starEach [] X.env := by rfl) (hpl : (backTo pos (starEach [] X.env)).any (·.1) = false := by rfl) :
    EvN X Hb (.Call (.Name "int" pn) [a] [] pos) Γ fr Q := EvN.fresh <|
  evn_Ty call_int_str hm h (fun vs H ds' Q' ⟨s, n, e1, hl, q⟩ r k => by
    subst e1
    cases r with
    | cons r1 r2 =>
      cases r1
      cases r2
      exact ⟨s, n, rfl, hl.1, hl.2, k _ _ _ q Ex.refl (.int _) (FreshD.flat rfl)⟩) (by decide +kernel) hg (by decide) (by decide) he hpl
/-- str of an int -/
theorem w_strI (hm : X.mg "str" = none) (h : EvA X Hb [a] Γ fun ds => ∃ i : Int, ds = [.int i] ∧ i.natAbs.log2 < 1920 ∧ Q (.str (toString i))) (hg : Gl X "str" := by rfl) (he : starEach (a :: []) X.env = (false, eval a X.env) :: starEach [] X.env := by rfl) (hpl : (backTo pos (starEach [] X.env)).any (·.1) = false := by rfl) :
    EvN X Hb (.Call (.Name "str" pn) [a] [] pos) Γ fr Q := EvN.fresh <|
  evn_Ty call_str_int hm h (fun vs H ds' Q' ⟨i, e1, hl, q⟩ r k => by
    subst e1
    cases r with
    | cons r1 r2 =>
      cases r1
      cases r2
      exact ⟨i, rfl, hl, k _ _ _ q Ex.refl (.str _) (FreshD.flat rfl)⟩) (by decide +kernel) hg (by decide) (by decide) he hpl
/-- a text within a text -/
theorem cmp_inS {i j : Str} (q : S (!(Builtin.Str.occurrences j i 0 j.length 1).isEmpty)) : CmpD X .In (.str i) (.str j) S := CmpD.of op_in_str fun x y H Q' r1 r2 k => by
  cases r1
  cases r2
  exact ⟨i, j, rfl, rfl, k _ q⟩
/-- a part of a text -/
theorem sl_S {s : Str} {o o' : Option Int} (q : Q (.str (cutS s o o'))) (hl : s.length ≤ 10000) : SlD X (.str s) o o' Q := ⟨_, sl_str, fun x H Q' r k => by
  cases r
  exact ⟨s, rfl, Nat.le_trans hl (by decide), k _ _ _ q Ex.refl (.str _) (FreshD.flat rfl)⟩⟩
/-- f'{..}sep{..}' of two ints -/
theorem w_fII {s : Str} {q1 q2 q3 : Pos} {jj : _} (h : EvN X Hb a Γ false fun d => ∃ i : Int, d = .int i ∧ (i.natAbs.log2 < 1000 ∧ (Str.empty ++ toString i).length ≤ 10000 ∧ (Str.empty ++ toString i ++ s).length ≤ 10000) ∧ EvN X Hb b Γ false fun d2 => ∃ j : Int, d2 = .int j ∧ (j.natAbs.log2 < 1000 ∧ (Str.empty ++ toString i ++ s ++ toString j).length ≤ 10000) ∧ Q (.str (Str.empty ++ toString i ++ s ++ toString j))) :
    EvN X Hb (.JoinedStr [.FormattedValue a (-1) none q1, .Constant (.str s) jj q2, .FormattedValue b (-1) none q3] pos) Γ fr Q := EvN.fresh fun σ H en Q' q =>
  SemE.of (pe_joined (.cons (pe_fmt (semE X a)) (.cons pe_str (.cons (pe_fmt (semE X b)) .nil)))) (h σ H en _ fun v H1 d ⟨i, e1, hi, h2⟩ x1 r1 _ => by
    subst e1
    cases r1
    refine .inr ⟨i, rfl, Nat.lt_trans hi.1 (by decide), _, rfl, Nat.le_trans hi.2.1 (by decide), _, rfl, Nat.le_trans hi.2.2 (by decide), ?_⟩
    refine h2 σ H1 (en.ex x1) _ fun v2 H2 d2 ⟨j, e2, hj, qq⟩ x2 r2 _ => ?_
    subst e2
    cases r2
    exact .inr ⟨j, rfl, Nat.lt_trans hj.1 (by decide), _, rfl, Nat.le_trans hj.2 (by decide), q _ H2 _ qq (x1.trans x2) (.str _) fun _ => FreshD.flat rfl⟩)
theorem repAll_strs {K : PySem.W.Frag} {H : Hp} : ∀ ys : List Str, RepAll K H (ys.map V.str) (ys.map D.str)
  | [] => .nil
  | y :: ys => .cons (.str y) (repAll_strs ys)
/-- x.split(sep) -/
theorem w_split (h : EvN X Hb a Γ false fun d => ∃ s : Str, d = .str s ∧ EvN X Hb b Γ false fun d2 => ∃ t : Str, d2 = .str t ∧ ((t.length == 0) = false ∧ s.length ≤ 10000) ∧ Q (.lst ((Txt.split s t).map .str)))
    (hbase : attributeBase a "split" X.env (eval a X.env) = eval a X.env := by rfl)
    (hfew : ((backTo cpos (starEach (b :: []) X.env)).all (fun x => !x.1) && (backToKw cpos (keywordEach [] X.env)).all (fun x => x.1.isSome) && decide ((b :: []).length + ([] : List Keyword).length + (if ([] : List Keyword).isEmpty then 0 else 1) < 30)) = true := by rfl)
    (hline : (apos.endLine == cpos.line) = true := by rfl) (hs : starEach (b :: []) X.env = (false, eval b X.env) :: starEach [] X.env := by rfl) (hplain : (backTo cpos (starEach [] X.env)).any (·.1) = false := by rfl) :
    EvN X Hb (.Call (.Attribute a "split" apos) [b] [] cpos) Γ true Q := fun σ H en Q' q =>
  SemE.of (pe_bm PySem.F.plainAttrs_str PySem.F.slot_str_split PySem.F.type_str_split mt_split (semE X a) (pa_cons (semE X b) pa_nil hs) hbase hfew hline hs hplain) (h σ H en _ fun v H1 d ⟨s, e1, h2⟩ x1 r1 _ => by
    subst e1
    cases r1
    refine ⟨?_, h2 σ H1 (en.ex x1) _ fun v2 H2 d2 ⟨t, e2, hz, qq⟩ x2 r2 _ => ?_⟩
    · rfl
    subst e2
    cases r2
    exact ⟨s, t, rfl, rfl, hz.1, Nat.le_trans (Nat.add_le_add_right hz.2 2) (by decide), fun p hp => q _ _ _ qq ((x1.trans x2).trans (Ex.new hp)) (.lst (SqL.of upd_same) (repAll_strs _)) fun _ => ⟨p, _, rfl, (x1.trans x2).free hp, upd_same, repAll_strs _⟩⟩)
/-- over the signs of a text -/
theorem evj_str {tg : Expr} {s : Str} (h : EvN X Hb e Γ fr (fun d => d = .str s)) : EvJ X Hb tg e Γ (· = s.cps.toList.map fun c => D.str ⟨#[c]⟩) :=
  ⟨_, pi_str (semE X e), fun σ H en R q => h σ H en _ fun v H' d ed x r _ => by
    subst ed
    cases r
    refine ⟨s, rfl, q _ H' _ rfl x ⟨_, _, by rw [List.length_map, Array.length_toList]; exact walk_str, fun _ _ => trivial, fun i H2 w H3 hi _ y => ?_⟩⟩
    obtain ⟨rfl, c, hc, rfl⟩ := y
    exact ⟨Ex.refl, _, by rw [List.getElem?_map, Array.getElem?_toList, hc]; rfl, .str _⟩⟩
end
end L3

namespace My
open PySem PySem.Spec PyProof.Rows L2 L3
def topS (i : Nat) : Stmt := PySem.Challenge.pw_fairflows_k09_fractions_and_saws_by_name.main.body.getD i (.Pass ⟨0, 0, 0, 0⟩)
abbrev s_is_integer : Stmt := topS 7
abbrev N_is_integer : List Str := ["value"]
theorem sc_is_integer : FnScope N_is_integer ["value"] (defScope s_is_integer) := ⟨rfl, rfl, rfl, by decide +kernel, rfl, by decide +kernel, by decide +kernel⟩
abbrev s_divisor : Stmt := topS 8
abbrev N_divisor : List Str := ["first", "second"]
theorem sc_divisor : FnScope N_divisor ["first", "second"] (defScope s_divisor) := ⟨rfl, rfl, rfl, by decide +kernel, rfl, by decide +kernel, by decide +kernel⟩
abbrev s_is_fraction : Stmt := topS 9
abbrev N_is_fraction : List Str := ["value"]
theorem sc_is_fraction : FnScope N_is_fraction ["value"] (defScope s_is_fraction) := ⟨rfl, rfl, rfl, by decide +kernel, rfl, by decide +kernel, by decide +kernel⟩
abbrev s_is_above : Stmt := topS 10
abbrev N_is_above : List Str := ["value"]
theorem sc_is_above : FnScope N_is_above ["value"] (defScope s_is_above) := ⟨rfl, rfl, rfl, by decide +kernel, rfl, by decide +kernel, by decide +kernel⟩
abbrev s_reduced : Stmt := topS 11
abbrev N_reduced : List Str := ["top", "bottom", "shared"]
theorem sc_reduced : FnScope N_reduced ["top", "bottom"] (defScope s_reduced) := ⟨rfl, rfl, rfl, by decide +kernel, rfl, by decide +kernel, by decide +kernel⟩
abbrev s_plus : Stmt := topS 12
abbrev N_plus : List Str := ["first", "second"]
theorem sc_plus : FnScope N_plus ["first", "second"] (defScope s_plus) := ⟨rfl, rfl, rfl, by decide +kernel, rfl, by decide +kernel, by decide +kernel⟩
abbrev s_minus : Stmt := topS 13
abbrev N_minus : List Str := ["first", "second"]
theorem sc_minus : FnScope N_minus ["first", "second"] (defScope s_minus) := ⟨rfl, rfl, rfl, by decide +kernel, rfl, by decide +kernel, by decide +kernel⟩
abbrev s_times : Stmt := topS 14
abbrev N_times : List Str := ["first", "second"]
theorem sc_times : FnScope N_times ["first", "second"] (defScope s_times) := ⟨rfl, rfl, rfl, by decide +kernel, rfl, by decide +kernel, by decide +kernel⟩
abbrev s_divided : Stmt := topS 15
abbrev N_divided : List Str := ["first", "second"]
theorem sc_divided : FnScope N_divided ["first", "second"] (defScope s_divided) := ⟨rfl, rfl, rfl, by decide +kernel, rfl, by decide +kernel, by decide +kernel⟩
abbrev s_is_less : Stmt := topS 16
abbrev N_is_less : List Str := ["first", "second"]
theorem sc_is_less : FnScope N_is_less ["first", "second"] (defScope s_is_less) := ⟨rfl, rfl, rfl, by decide +kernel, rfl, by decide +kernel, by decide +kernel⟩
abbrev s_floor : Stmt := topS 17
abbrev N_floor : List Str := ["value"]
theorem sc_floor : FnScope N_floor ["value"] (defScope s_floor) := ⟨rfl, rfl, rfl, by decide +kernel, rfl, by decide +kernel, by decide +kernel⟩
abbrev s_fraction_text : Stmt := topS 18
abbrev N_fraction_text : List Str := ["value"]
theorem sc_fraction_text : FnScope N_fraction_text ["value"] (defScope s_fraction_text) := ⟨rfl, rfl, rfl, by decide +kernel, rfl, by decide +kernel, by decide +kernel⟩
abbrev s_number_of : Stmt := topS 19
abbrev N_number_of : List Str := ["word", "digits", "sign"]
theorem sc_number_of : FnScope N_number_of ["word"] (defScope s_number_of) := ⟨rfl, rfl, rfl, by decide +kernel, rfl, by decide +kernel, by decide +kernel⟩
abbrev s_fraction_of : Stmt := topS 20
abbrev N_fraction_of : List Str := ["text", "parts", "numbers", "value", "part"]
theorem sc_fraction_of : FnScope N_fraction_of ["text"] (defScope s_fraction_of) := ⟨rfl, rfl, rfl, by decide +kernel, rfl, by decide +kernel, by decide +kernel⟩
abbrev s_read_fraction : Stmt := topS 21
abbrev N_read_fraction : List Str := ["text", "value"]
theorem sc_read_fraction : FnScope N_read_fraction ["text"] (defScope s_read_fraction) := ⟨rfl, rfl, rfl, by decide +kernel, rfl, by decide +kernel, by decide +kernel⟩
abbrev s_is_saw : Stmt := topS 23
abbrev N_is_saw : List Str := ["value", "part"]
theorem sc_is_saw : FnScope N_is_saw ["value"] (defScope s_is_saw) := ⟨rfl, rfl, rfl, by decide +kernel, rfl, by decide +kernel, by decide +kernel⟩
abbrev s_next_rate : Stmt := topS 24
abbrev N_next_rate : List Str := ["saw", "rate"]
theorem sc_next_rate : FnScope N_next_rate ["saw", "rate"] (defScope s_next_rate) := ⟨rfl, rfl, rfl, by decide +kernel, rfl, by decide +kernel, by decide +kernel⟩
abbrev s_rates : Stmt := topS 25
abbrev N_rates : List Str := ["saw", "rate", "rounds", "found", "number"]
theorem sc_rates : FnScope N_rates ["saw", "rate", "rounds"] (defScope s_rates) := ⟨rfl, rfl, rfl, by decide +kernel, rfl, by decide +kernel, by decide +kernel⟩
abbrev s_rounds_to_loss : Stmt := topS 26
abbrev N_rounds_to_loss : List Str := ["saw", "rate"]
theorem sc_rounds_to_loss : FnScope N_rounds_to_loss ["saw", "rate"] (defScope s_rounds_to_loss) := ⟨rfl, rfl, rfl, by decide +kernel, rfl, by decide +kernel, by decide +kernel⟩
abbrev s_after : Stmt := topS 27
abbrev N_after : List Str := ["saw", "rate", "rounds"]
theorem sc_after : FnScope N_after ["saw", "rate", "rounds"] (defScope s_after) := ⟨rfl, rfl, rfl, by decide +kernel, rfl, by decide +kernel, by decide +kernel⟩
abbrev s_losses : Stmt := topS 28
abbrev N_losses : List Str := ["saw", "rate", "number", "found", "place", "loss", "rounds"]
theorem sc_losses : FnScope N_losses ["saw", "rate", "number"] (defScope s_losses) := ⟨rfl, rfl, rfl, by decide +kernel, rfl, by decide +kernel, by decide +kernel⟩
abbrev s_counts : Stmt := topS 29
abbrev N_counts : List Str := ["saw", "rate", "number", "found", "first", "second"]
theorem sc_counts : FnScope N_counts ["saw", "rate", "number"] (defScope s_counts) := ⟨rfl, rfl, rfl, by decide +kernel, rfl, by decide +kernel, by decide +kernel⟩
abbrev s_reached : Stmt := topS 30
abbrev N_reached : List Str := ["saw", "rate", "place", "begin", "number", "rounds"]
theorem sc_reached : FnScope N_reached ["saw", "rate", "place"] (defScope s_reached) := ⟨rfl, rfl, rfl, by decide +kernel, rfl, by decide +kernel, by decide +kernel⟩
abbrev s_rate_in : Stmt := topS 31
abbrev N_rate_in : List Str := ["saw", "rate", "place"]
theorem sc_rate_in : FnScope N_rate_in ["saw", "rate", "place"] (defScope s_rate_in) := ⟨rfl, rfl, rfl, by decide +kernel, rfl, by decide +kernel, by decide +kernel⟩
abbrev s__law_draw : Stmt := topS 33
abbrev N__law_draw : List Str := ["_law_stream", "_law_size", "_law_found"]
theorem sc__law_draw : FnScope N__law_draw ["_law_stream", "_law_size"] (defScope s__law_draw) := ⟨rfl, rfl, rfl, by decide +kernel, rfl, by decide +kernel, by decide +kernel⟩
abbrev s__law_source : Stmt := topS 34
abbrev N__law_source : List Str := ["_law_script", "_law_begun", "_law_seed", "_law_entry"]
theorem sc__law_source : FnScope N__law_source ["_law_script", "_law_begun"] (defScope s__law_source) := ⟨rfl, rfl, rfl, by decide +kernel, rfl, by decide +kernel, by decide +kernel⟩
abbrev s_law : Stmt := topS 35
abbrev N_law : List Str := ["_law_script", "_law_begun", "_law_stream", "_law_one", "_law_two", "_law_tooth", "_law_height", "_law_both", "_law_pair"]
theorem sc_law : FnScope N_law ["_law_script"] (defScope s_law) := ⟨rfl, rfl, rfl, by decide +kernel, rfl, by decide +kernel, by decide +kernel⟩
local macro_rules | `(tactic| walk_at "look") => `(tactic| first | (refine Look.z' ?_; with_reducible rfl) | (refine Look.s ?_; walk_at "look"))
local macro_rules | `(tactic| walk_at "has") => `(tactic| first | (refine Has.z ?_; with_reducible rfl) | (refine Has.s ?_; walk_at "has"))
local macro_rules | `(tactic| walk_at "up") => `(tactic| first | (apply Up.z'; with_reducible rfl) | (apply Up.s; walk_at "up"))
local macro_rules | `(tactic| walk_at "sub") => `(tactic| first | exact Sub.nil | ((with_reducible apply Sub.keep); walk_at "sub") | (apply Sub.drop; walk_at "sub") | (refine Sub.eq (by walk_at "same") ?_; walk_at "sub"))
local macro_rules | `(tactic| walk_at "same") => `(tactic| first | exact ownNil | assumption | rfl)
local macro_rules | `(tactic| walk_at "ati") => `(tactic| first | (apply At.z; with_reducible rfl) | (apply At.s; walk_at "ati"))
local macro_rules | `(tactic| walk_at "flat1") => `(tactic| first | rfl | assumption | walk_at "flat")
local macro_rules | `(tactic| walk_at "blk") => `(tactic| first | rfl | decide +kernel)
local macro_rules | `(tactic| walk_at "hint") => `(tactic| first | exact OwnIf.t (by assumption) | exact OwnIf.f)
local macro_rules | `(tactic| walk_at "flat") => `(tactic| first | rfl | exact flat_map (fun _ => rfl) _ | assumption | (refine flat_app ?_ ?_ <;> walk_at "flat"))
local macro_rules | `(tactic| walk_at "sto") => `(tactic| first | exact .inl rfl | exact .inr rfl | exact .inl (by walk_at "flat") | assumption)
local macro_rules | `(tactic| walk_at "side") => `(tactic| first | assumption | rfl | omega | decide)
local macro_rules | `(tactic| walk_at "mul") => `(tactic| first | assumption | exact IntMulOk.of_left (by decide) | exact IntMulOk.of_right (by decide) | exact mulOk_bits (a := 62) (b := 62) (by omega) (by omega) (by decide))
local macro_rules | `(tactic| walk_at "div") => `(tactic| first | assumption | exact divX (n := 62) (by omega) (by omega) (by decide) (by decide))
local macro_rules | `(tactic| walk_at "pow") => `(tactic| first | assumption | exact ⟨by decide, by decide⟩)
local macro_rules | `(tactic| walk_at "at") => `(tactic| first | rfl | assumption)
local macro_rules | `(tactic| walk_at "len") => `(tactic| first | assumption | (simp only [List.length_map, List.length_append, List.length_cons, List.length_nil]; omega))
local macro_rules | `(tactic| walk_at "cl") => `(tactic| fail)
local macro_rules | `(tactic| walk_at "reps") => `(tactic| first | assumption | exact ⟨by omega, by omega, by simp; omega⟩ | exact ⟨by omega, by omega, by decide⟩)
local macro_rules | `(tactic| walk_at "sh") => `(tactic| assumption)
local macro_rules | `(tactic| walk_at "kit") => `(tactic| first | with_reducible exact kd_tt | with_reducible exact kd_lt | with_reducible exact kd_it | with_reducible exact kd_bt | with_reducible exact kd_nt | with_reducible exact kd_tl | with_reducible exact kd_ll | with_reducible exact kd_il | with_reducible exact kd_ti | with_reducible exact kd_li | with_reducible exact kd_ii | with_reducible exact kd_bi | with_reducible exact kd_ni | with_reducible exact kd_tb | with_reducible exact kd_lb | with_reducible exact kd_ib | with_reducible exact kd_bb | with_reducible exact kd_nb | assumption)
local macro_rules | `(tactic| walk_at "range") => `(tactic| refine s_range _ (by assumption) (by walk_at "go"; first | exact ⟨rfl, by omega⟩ | omega | exact ⟨by omega, by omega⟩) (fun _ _ => ?_) ?_)
local macro_rules | `(tactic| walk_at "callb") => `(tactic| fail)
local macro_rules | `(tactic| walk_at "e") => `(tactic| first
  | (with_reducible show EvN _ _ (Expr.Name _ _) _ _ _); walk_at "name"
  | (with_reducible show EvN _ _ (Expr.Constant (Const.int _) _ _) _ _ _); refine w_int ?_
  | (with_reducible show EvN _ _ (Expr.BinOp (Expr.List _ _) Operator.Mult _ _) _ _ _); refine w_repL ?_
  | (with_reducible show EvN _ _ (Expr.BinOp _ _ _ _) _ _ _); refine w_bin ?_
  | (with_reducible show EvN _ _ (Expr.Subscript _ (Expr.Slice _ _ _ _) _) _ _ _); refine w_slice ?_
  | (with_reducible show EvN _ _ (Expr.Subscript _ _ _) _ _ _); first | refine w_ix ?_ | refine w_scal ?_
  | (with_reducible show EvN _ _ (Expr.Call _ _ _ _) _ _ _); walk_at "call"
  | (with_reducible show EvN _ _ (Expr.Compare _ [CmpOp.In] _ _) _ _ _); refine w_cmp ?_ rfl
  | (with_reducible show EvN _ _ (Expr.Compare _ [CmpOp.NotIn] _ _) _ _ _); refine w_cmp ?_ rfl
  | (with_reducible show EvN _ _ (Expr.Compare _ [_] _ _) _ _ _); refine w_cmp ?_
  | (with_reducible show EvN _ _ (Expr.Compare _ [CmpOp.LtE, CmpOp.LtE] [_, _] _) _ _ _); refine w_chain op_le op_le (by walk_at "go") (by walk_at "go") (by walk_at "go") ?_
  | (with_reducible show EvN _ _ (Expr.Compare _ [CmpOp.LtE, CmpOp.Lt] [_, _] _) _ _ _); refine w_chain op_le op_lt (by walk_at "go") (by walk_at "go") (by walk_at "go") ?_
  | (with_reducible show EvN _ _ (Expr.Compare _ [CmpOp.Lt, CmpOp.LtE] [_, _] _) _ _ _); refine w_chain op_lt op_le (by walk_at "go") (by walk_at "go") (by walk_at "go") ?_
  | (with_reducible show EvN _ _ (Expr.Compare _ [CmpOp.Lt, CmpOp.Lt] [_, _] _) _ _ _); refine w_chain op_lt op_lt (by walk_at "go") (by walk_at "go") (by walk_at "go") ?_
  | (with_reducible show EvN _ _ (Expr.Tuple _ _ _) _ _ _); refine w_tup ?_
  | (with_reducible show EvN _ _ (Expr.List _ _) _ _ _); refine w_lst ?_
  | (with_reducible show EvN _ _ (Expr.Constant (Const.bool _) _ _) _ _ _); refine w_bl ?_
  | (with_reducible show EvN _ _ (Expr.Constant Const.none _ _) _ _ _); refine w_non ?_
  | (with_reducible show EvN _ _ (Expr.Constant (Const.str _) _ _) _ _ _); refine w_str ?_
  | (with_reducible show EvN _ _ (Expr.UnaryOp UnaryOp.USub _ _) _ _ _); refine w_neg ?_
  | (with_reducible show EvN _ _ (Expr.UnaryOp UnaryOp.Not _ _) _ _ _); refine w_not ?_
  | (with_reducible show EvN _ _ (Expr.BoolOp BoolOp.And [_] _) _ _ _); refine w_and1 ?_
  | (with_reducible show EvN _ _ (Expr.BoolOp BoolOp.Or [_] _) _ _ _); refine w_or1 ?_
  | (with_reducible show EvN _ _ (Expr.BoolOp BoolOp.And _ _) _ _ _); refine w_and (by walk_at "go") (fun _ => by walk_at "go") ?_
  | (with_reducible show EvN _ _ (Expr.BoolOp BoolOp.Or _ _) _ _ _); refine w_or (by walk_at "go") (fun _ => by walk_at "go") ?_
  | (with_reducible show EvN _ _ (Expr.ListComp _ [_] _ _) _ _ _); refine w_lc ?_
  | (with_reducible show EvN _ _ (Expr.IfExp _ _ _ _) _ _ _); first | refine w_ifI (by walk_at "go") (fun _ => by walk_at "go") (fun _ => by walk_at "go") ?_ | refine w_if (by walk_at "go") (fun _ => by walk_at "go") (fun _ => by walk_at "go") ?_)
local macro_rules | `(tactic| walk_at "name") => `(tactic| first | refine w_name (by walk_at "look") ?_ | refine w_own (by walk_at "look") ?_ | refine w_gv (by assumption) ?_ | refine w_scal ?_)
local macro_rules | `(tactic| walk_at "call") => `(tactic| first
  | (with_reducible show EvN _ _ (Expr.Call (Expr.Name (Str.ofString "len") _) [_] [] _) _ _ _); refine w_len (by assumption) ?_
  | (with_reducible show EvN _ _ (Expr.Call (Expr.Name (Str.ofString "max") _) [_, _] [] _) _ _ _); refine w_max2 (by assumption) ?_
  | (with_reducible show EvN _ _ (Expr.Call (Expr.Name (Str.ofString "min") _) [_, _] [] _) _ _ _); refine w_min2 (by assumption) ?_
  | (with_reducible show EvN _ _ (Expr.Call (Expr.Name (Str.ofString "abs") _) [_] [] _) _ _ _); refine w_abs (by assumption) ?_
  | (with_reducible show EvN _ _ (Expr.Call (Expr.Name (Str.ofString "int") _) [_] [] _) _ _ _); refine w_toInt (by assumption) ?_
  | (with_reducible show EvN _ _ (Expr.Call (Expr.Name (Str.ofString "list") _) [_] [] _) _ _ _); refine w_list (by assumption) ?_
  | (with_reducible show EvN _ _ (Expr.Call (Expr.Name (Str.ofString "tuple") _) [_] [] _) _ _ _); refine w_tuple (by assumption) ?_
  | (with_reducible show EvN _ _ (Expr.Call (Expr.Name (Str.ofString "max") _) [_] [] _) _ _ _); refine w_maxL (by assumption) ?_
  | (with_reducible show EvN _ _ (Expr.Call (Expr.Name (Str.ofString "min") _) [_] [] _) _ _ _); refine w_minL (by assumption) ?_
  | (with_reducible show EvN _ _ (Expr.Call (Expr.Name (Str.ofString "any") _) [_] [] _) _ _ _); refine w_any (by assumption) ?_
  | (with_reducible show EvN _ _ (Expr.Call (Expr.Name (Str.ofString "all") _) [_] [] _) _ _ _); refine w_all (by assumption) ?_
  | (with_reducible show EvN _ _ (Expr.Call (Expr.Name (Str.ofString "sum") _) [_] [] _) _ _ _); refine w_sum (by assumption) ?_
  | (with_reducible show EvN _ _ (Expr.Call (Expr.Name (Str.ofString "isinstance") _) [_, Expr.Name (Str.ofString "tuple") _] [] _) _ _ _); refine w_isI (Ts := "tuple") (by assumption) (by assumption) ?_
  | (with_reducible show EvN _ _ (Expr.Call (Expr.Name (Str.ofString "isinstance") _) [_, Expr.Name (Str.ofString "int") _] [] _) _ _ _); refine w_isI (Ts := "int") (by assumption) (by assumption) ?_
  | (with_reducible show EvN _ _ (Expr.Call (Expr.Name (Str.ofString "isinstance") _) [_, Expr.Name (Str.ofString "bool") _] [] _) _ _ _); refine w_isI (Ts := "bool") (by assumption) (by assumption) ?_
  | (with_reducible show EvN _ _ (Expr.Call (Expr.Name (Str.ofString "isinstance") _) [_, Expr.Name (Str.ofString "list") _] [] _) _ _ _); refine w_isI (Ts := "list") (by assumption) (by assumption) ?_
  | (with_reducible show EvN _ _ (Expr.Call (Expr.Name (Str.ofString "repr") _) [_] [] _) _ _ _); refine w_repr (by assumption) (by assumption) (by assumption) ?_
  | (with_reducible show EvN _ _ (Expr.Call (Expr.Name _ _) [] (_ :: _) _) _ _ _); refine w_callK (by assumption) (by assumption) (by assumption) ?_
  | walk_at "callb"
  | refine w_call (by assumption) (by assumption) ?_
  | refine w_callL (by assumption) (by assumption) ?_
  | refine w_callG (by assumption) (by assumption) (by assumption) ?_)
local macro_rules | `(tactic| walk_at "t") => `(tactic| first
  | (with_reducible show EvT _ _ (Expr.Compare _ [CmpOp.In] _ _) _ _); refine wt_cmp ?_ rfl
  | (with_reducible show EvT _ _ (Expr.Compare _ [CmpOp.NotIn] _ _) _ _); refine wt_cmp ?_ rfl
  | (with_reducible show EvT _ _ (Expr.Compare _ [_] _ _) _ _); refine wt_cmp ?_
  | (with_reducible show EvT _ _ (Expr.Compare _ [CmpOp.LtE, CmpOp.LtE] [_, _] _) _ _); refine wt_chain op_le op_le (by walk_at "go") (by walk_at "go") (by walk_at "go") ?_
  | (with_reducible show EvT _ _ (Expr.Compare _ [CmpOp.LtE, CmpOp.Lt] [_, _] _) _ _); refine wt_chain op_le op_lt (by walk_at "go") (by walk_at "go") (by walk_at "go") ?_
  | (with_reducible show EvT _ _ (Expr.Compare _ [CmpOp.Lt, CmpOp.LtE] [_, _] _) _ _); refine wt_chain op_lt op_le (by walk_at "go") (by walk_at "go") (by walk_at "go") ?_
  | (with_reducible show EvT _ _ (Expr.Compare _ [CmpOp.Lt, CmpOp.Lt] [_, _] _) _ _); refine wt_chain op_lt op_lt (by walk_at "go") (by walk_at "go") (by walk_at "go") ?_
  | (with_reducible show EvT _ _ (Expr.UnaryOp UnaryOp.Not _ _) _ _); refine wt_not ?_
  | (with_reducible show EvT _ _ (Expr.BoolOp BoolOp.And _ _) _ _); refine wt_and (by walk_at "go") (fun _ => by walk_at "go") ?_
  | (with_reducible show EvT _ _ (Expr.BoolOp BoolOp.Or _ _) _ _); refine wt_or (by walk_at "go") (fun _ => by walk_at "go") ?_
  | (with_reducible show EvW _ _ (Expr.BoolOp BoolOp.And [_] _) _ _); refine ww_and1 ?_
  | (with_reducible show EvW _ _ (Expr.BoolOp BoolOp.Or [_] _) _ _); refine ww_or1 ?_
  | (with_reducible show EvW _ _ (Expr.BoolOp BoolOp.And _ _) _ _); refine ww_and (by walk_at "go") (fun _ => by walk_at "go") ?_
  | (with_reducible show EvW _ _ (Expr.BoolOp BoolOp.Or _ _) _ _); refine ww_or (by walk_at "go") (fun _ => by walk_at "go") ?_
  | (with_reducible show EvT _ _ (_) _ _); refine wt_val ?_)
local macro_rules | `(tactic| walk_at "v") => `(tactic| first
  | (with_reducible show Up1 _ _ _ _ _); refine up1 (by walk_at "up") ?_
  | (with_reducible show StoreD false _ _ _ _ _); first | refine sto_dat ?_ (by walk_at "sto") | refine sto_dat ?_ ?_
  | (with_reducible show StoreD true _ _ _ _ _); first | refine sto_own (fun _ => ?_) (by walk_at "flat") | refine sto_own (fun _ => ?_) ?_
  | (with_reducible show EvA _ _ [] _ _); refine wa_nil ?_
  | (with_reducible show EvA _ _ (_ :: _) _ _); refine wa_cons ?_
  | (with_reducible show OpD _ (binaryOp Operator.Add) _ _ _); first | refine opd_add ?_ | refine opd_catT ?_ (by walk_at "len") | refine opd_catT ?_ ?_ | refine opd_catL ?_ (by walk_at "len") | refine opd_catL ?_ ?_
  | (with_reducible show OpD _ (binaryOp Operator.Sub) _ _ _); refine opd_sub ?_
  | (with_reducible show OpD _ (binaryOp Operator.Mult) _ _ _); first | refine opd_mul ?_ (by walk_at "mul") | refine opd_mul ?_ ?_ | refine opd_repT ?_ ?_
  | (with_reducible show OpD _ (binaryOp Operator.FloorDiv) _ _ _); first | refine opd_fdiv ?_ (by walk_at "div") | refine opd_fdiv ?_ ?_
  | (with_reducible show OpD _ (binaryOp Operator.Mod) _ _ _); first | refine opd_mod ?_ (by walk_at "side") | refine opd_mod ?_ ?_
  | (with_reducible show OpD _ (binaryOp Operator.Pow) _ _ _); first | refine opd_pow ?_ (by walk_at "pow") | refine opd_pow ?_ ?_
  | (with_reducible show OpD _ (inplaceOp Operator.Add) _ _ _); refine iop_add ?_
  | (with_reducible show OpD _ (inplaceOp Operator.Sub) _ _ _); refine iop_sub ?_
  | (with_reducible show IxD _ _ _ _); walk_at "ix"
  | (with_reducible show CmpD _ CmpOp.Lt _ _ _); refine cmp_lt ?_
  | (with_reducible show CmpD _ CmpOp.LtE _ _ _); refine cmp_le ?_
  | (with_reducible show CmpD _ CmpOp.Gt _ _ _); refine cmp_gt ?_
  | (with_reducible show CmpD _ CmpOp.GtE _ _ _); refine cmp_ge ?_
  | (with_reducible show CmpD _ CmpOp.Eq _ _ _); walk_at "eq"
  | (with_reducible show CmpD _ CmpOp.NotEq _ _ _); walk_at "ne"
  | (with_reducible show CmpD _ CmpOp.In _ (D.lst _) _); first | refine cmp_inL (by assumption) ?_ (by walk_at "shp") | refine cmp_inL (by assumption) ?_ ?_
  | (with_reducible show CmpD _ CmpOp.In _ (D.tup _) _); first | refine cmp_inT (by assumption) ?_ (by walk_at "shp") | refine cmp_inT (by assumption) ?_ ?_
  | (with_reducible show CmpD _ CmpOp.Is _ D.non _); refine cmp_isN ?_
  | (with_reducible show CmpD _ CmpOp.IsNot _ D.non _); refine cmp_notN ?_
  | (with_reducible show CmpD _ CmpOp.Is _ (D.bl _) _); refine cmp_isB ?_
  | (with_reducible show CmpD _ CmpOp.IsNot _ (D.bl _) _); refine cmp_notB ?_
  | (with_reducible show SlD _ _ _ _ _); first | refine sl_L ?_ | refine sl_T ?_
  | (with_reducible show RetD _ _ _ _); first | refine ret_fn ?_ (by first | exact Ex.refl | assumption) | refine ret_law ?_
  | (with_reducible show RetL _ _ _ _); refine ret_fnL ?_ (by first | exact Ex.refl | assumption)
  | (with_reducible show EvP _ _ none _ _); refine wo_none ?_
  | (with_reducible show EvP _ _ (some _) _ _); refine wo_some ?_
  | (with_reducible show Cl _ _ _); walk_at "cl"
  | (with_reducible show _ = _); with_reducible exact rfl
  | (with_reducible show KitD _ _ _); refine kitd ?_ (by walk_at "kit") (by first | rfl | assumption | exact ok_mapT (fun _ => rfl) _ | exact ok_mapL (fun _ => rfl) _)
  | (with_reducible show Sh _ _ _ ∧ _); first | refine and2 ?_ (by walk_at "sh") | refine and2 ?_ ?_
  | (with_reducible show LenQ _ _); first | with_reducible refine lenML ?_ | with_reducible refine lenMT ?_ | refine lenL ?_ | refine lenT ?_
  | (with_reducible show ∃ _, ixN _ _ = some _ ∧ _); refine ⟨_, by assumption, ?_⟩
  | (with_reducible show ∃ _, _ ∧ _); first | refine ⟨_, rfl, ?_⟩ | refine ⟨_, .inl rfl, ?_⟩ | refine ⟨_, .inr rfl, ?_⟩
  | (with_reducible show ∃ _, ∃ _, _ ∧ _); first | refine ⟨_, _, rfl, ?_⟩ | refine ⟨_, _, rfl, rfl, ?_⟩
  | (with_reducible show ∃ _, ∃ _, ∃ _, _ ∧ _); refine ⟨_, _, _, rfl, ?_⟩
  | (with_reducible show (_ < 100000 ∧ _) ∧ _); refine and2 ?_ (by walk_at "reps")
  | (with_reducible show _ = _ ∧ _); refine ⟨rfl, ?_⟩
  | (with_reducible show List.length _ ≤ 100000 ∧ _); refine and2 ?_ (by walk_at "len")
  | (with_reducible show List.length _ ≤ 1000 ∧ _); refine and2 ?_ (by exact Nat.le_of_ble_eq_true rfl)
  | (with_reducible show isCont _ = false ∧ _); refine and2 ?_ (by first | rfl | assumption)
  | (with_reducible show (D.flat _ = true ∧ D.flat _ = true) ∧ _); refine and2 ?_ (by exact ⟨by walk_at "flat1", by walk_at "flat1"⟩)
  | (with_reducible show ixN _ _ = some _ ∧ _); first | refine and2 ?_ (by assumption) | refine and2 ?_ ?_
  | (with_reducible show EvK _ _ [] _ _); refine wk_nil ?_
  | (with_reducible show EvK _ _ (_ :: _) _ _); refine wk_cons ?_
  | (with_reducible show L3.Cl _ _ _ ∧ _); refine ⟨?_, rfl⟩; first | with_reducible refine cput0 ?_ | with_reducible refine cput01 ?_ | with_reducible refine cput10 ?_ | with_reducible refine cput012 ?_ | with_reducible refine cput021 ?_ | with_reducible refine cput102 ?_ | with_reducible refine cput120 ?_ | with_reducible refine cput201 ?_ | with_reducible refine cput210 ?_ | with_reducible refine cput0123 ?_ | with_reducible refine cput1032 ?_ | with_reducible refine cput2301 ?_ | with_reducible refine cput3210 ?_
  | (with_reducible show D.flat _ = true ∧ _); refine and2 ?_ (by first | rfl | assumption)
  | (with_reducible show IntMulOk _ _ ∧ _); refine and2 ?_ (by walk_at "mul"))
local macro_rules | `(tactic| walk_at "ix") => `(tactic| first | refine ix_T (by walk_at "at") ?_ | refine ix_L (by walk_at "at") ?_ | refine ix_T ?_ ?_ | refine ix_L ?_ ?_)
local macro_rules | `(tactic| walk_at "eq") => `(tactic| first | refine cmp_eqI ?_ | refine cmp_eqS ?_ | refine cmp_eqB ?_ | refine cmp_eq0L (by assumption) ?_ | refine cmp_eq0T (by assumption) ?_ | refine cmp_eqD (by assumption) ?_ (by walk_at "shp") | refine cmp_eqD (by assumption) ?_ ?_)
local macro_rules | `(tactic| walk_at "ne") => `(tactic| first | refine cmp_neI ?_ | refine cmp_neS ?_ | refine cmp_neB ?_ | refine cmp_ne0L (by assumption) ?_ | refine cmp_ne0T (by assumption) ?_ | refine cmp_neD (by assumption) ?_ (by walk_at "shp") | refine cmp_neD (by assumption) ?_ ?_)
local macro_rules | `(tactic| walk_at "shp") => `(tactic| first | assumption | exact ⟨⟨rfl, rfl⟩, rfl, rfl⟩)
local macro_rules | `(tactic| walk_at "st") => `(tactic| first
  | (with_reducible show Go _ _ (Stmt.Assign [Expr.Name _ _] (Expr.ListComp _ _ _ _) _ :: _) _ _); refine s_setLc (by walk_at "hint") ?_ (by walk_at "has") (sw_true rfl rfl rfl (by decide +kernel))
  | (with_reducible show Go _ _ (Stmt.Assign [Expr.Name _ _] _ _ :: _) _ _); refine s_set (by walk_at "hint") ?_ (by assumption) (by walk_at "has")
  | (with_reducible show Go _ _ (Stmt.Assign [Expr.Tuple [Expr.Name _ _, Expr.Name _ _] _ _] (Expr.Tuple [_, _] _ _) _ :: _) _ _); first | refine s_par (by walk_at "hint") (by walk_at "hint") ?_ (by assumption) (by walk_at "has") (by walk_at "has") (by decide +kernel) rfl | refine s_tup2 (by walk_at "hint") (by walk_at "hint") ?_ (by assumption) (by walk_at "has") (by walk_at "has")
  | (with_reducible show Go _ _ (Stmt.Assign [Expr.Tuple [Expr.Name _ _, Expr.Name _ _, Expr.Name _ _] _ _] (Expr.Tuple [_, _, _] _ _) _ :: _) _ _); first | refine s_par3 (by walk_at "hint") (by walk_at "hint") (by walk_at "hint") ?_ (by assumption) (by walk_at "has") (by walk_at "has") (by walk_at "has") (by decide +kernel) rfl | refine s_tup3 (by walk_at "hint") (by walk_at "hint") (by walk_at "hint") ?_ (by assumption) (by walk_at "has") (by walk_at "has") (by walk_at "has")
  | (with_reducible show Go _ _ (Stmt.Assign [Expr.Tuple [Expr.Name _ _, Expr.Name _ _, Expr.Name _ _, Expr.Name _ _] _ _] (Expr.Tuple [_, _, _, _] _ _) _ :: _) _ _); refine s_tup4 (by walk_at "hint") (by walk_at "hint") (by walk_at "hint") (by walk_at "hint") ?_ (by assumption) (by walk_at "has") (by walk_at "has") (by walk_at "has") (by walk_at "has")
  | (with_reducible show Go _ _ (Stmt.Assign [Expr.Tuple [Expr.Name _ _, Expr.Name _ _] _ _] _ _ :: _) _ _); refine s_unp2 ?_ (by assumption) (by walk_at "has") (by walk_at "has")
  | (with_reducible show Go _ _ (Stmt.Assign [Expr.Tuple [Expr.Name _ _, Expr.Name _ _, Expr.Name _ _] _ _] _ _ :: _) _ _); refine s_unp3 ?_ (by assumption) (by walk_at "has") (by walk_at "has") (by walk_at "has")
  | (with_reducible show Go _ _ (Stmt.Assign [Expr.Tuple [Expr.Subscript (Expr.Name _ _) _ _, Expr.Subscript (Expr.Name _ _) _ _] _ _] _ _ :: _) _ _); refine s_setTwo (by walk_at "look") ?_ (by assumption)
  | (with_reducible show Go _ _ (Stmt.Assign [Expr.Tuple [Expr.Subscript (Expr.Name _ _) _ _, Expr.Name _ _] _ _] _ _ :: _) _ _); refine s_setNm (by walk_at "look") ?_ (by assumption) (by walk_at "has")
  | (with_reducible show Go _ _ (Stmt.AugAssign (Expr.Name _ _) _ _ _ :: _) _ _); refine s_aug (by walk_at "look") ?_ (by assumption)
  | (with_reducible show Go _ _ (Stmt.Return (some (Expr.Name _ _)) _ :: _) _ _); first | refine s_retOwn (by walk_at "look") ?_ | walk_at "ret"
  | (with_reducible show Go _ _ (Stmt.Return (some _) _ :: _) _ _); walk_at "ret"
  | (with_reducible show Go _ _ (Stmt.Expr (Expr.Call (Expr.Attribute (Expr.Call _ _ _ _) (Str.ofString "append") _) [_] [] _) _ :: _) _ _); refine s_appendNew ?_
  | (with_reducible show Go _ _ (Stmt.Expr (Expr.Call (Expr.Attribute (Expr.Name _ _) (Str.ofString "append") _) [_] [] _) _ :: _) _ _); first | refine s_append (by walk_at "look") ?_ (by assumption) (by walk_at "len") | refine s_append (by walk_at "look") ?_ (by assumption) ?_
  | (with_reducible show Go _ _ (Stmt.Pass _ :: _) _ _); refine s_pass ?_
  | (with_reducible show Go _ _ [] _ _); first | refine s_join ?_ | exact s_end)
local macro_rules | `(tactic| walk_at "ret") => `(tactic| refine s_ret ?_)
local macro_rules | `(tactic| walk_at "s") => `(tactic| first
  | (with_reducible show Go _ _ _ _ _); walk_at "st"
  | (with_reducible show EvN _ _ _ _ _ _); walk_at "e"
  | (with_reducible show EvT _ _ _ _ _); walk_at "t"
  | (with_reducible show EvW _ _ _ _ _); walk_at "t"
  | walk_at "v")
local macro_rules | `(tactic| walk_at "go") => `(tactic| repeat walk_at "s")
local macro_rules | `(tactic| walk_at "if") => `(tactic| refine s_if (by walk_at "go") ?_ ?_)
local macro_rules | `(tactic| walk_at "ifF") => `(tactic| refine s_ifF (by walk_at "go") ?_ ?_)
local macro_rules | `(tactic| walk_at "ifT") => `(tactic| refine s_ifT (by walk_at "go") ?_ ?_)

/-! ### the law's draws -/
section
variable {P : Program} {w : World} {K : PySem.W.Frag} {mg : Str → Option Value} {base : Heap}


def seedStep (s c : Int) : Int := ((s * 40127 + c) ^ (3 : Int).toNat).fmod 2147483629 + 1
theorem seed_range (l : List Int) (s : Int) (h0 : 0 ≤ s ∧ s ≤ 2147483629) : 0 ≤ l.foldl seedStep s ∧ l.foldl seedStep s ≤ 2147483629 := by
  induction l generalizing s with
  | nil => exact h0
  | cons c r ih =>
    refine ih _ ?_
    have := fmod_range (i := (s * 40127 + c) ^ (3 : Int).toNat) (j := 2147483629) (by decide)
    unfold seedStep
    omega
def P_stream : Pr := fun ds S => ∃ (ns : List Int) (st : Int), ds = [.lst (ns.map .int), .int st] ∧ ScriptB ns ∧ 0 ≤ st ∧ st ≤ 1000 ∧ S = (· = dDraw)
theorem ok_source {f : Addr} {fd : FuncData} (F : Fun K "_law_source" "_law_source" s__law_source f fd) (hm : mg "_law_source" = some (.ref f)) (hb : Binds K fd (N__law_source.take 2) []) (m_int : mg "int" = none) : FnP P w K mg base "_law_source" 1 P_stream := by
  refine fnP_of (N := N__law_source) F sc__law_source hm hb (fun ds S h => ?_) (fun cdv A outer s H E hr ds S h => ?_)
  · obtain ⟨ns, st, e, _⟩ := h
    rw [e]; rfl
  · obtain ⟨ns, st, e1, hbits, h0, h1, e2⟩ := h
    subst e1 e2
    show Go _ H _ _ [.dat (.lst (ns.map .int)), .dat (.int st), .any, .any]
    have hB : bigB = 1100000 := rfl
    refine go_set 2 (ev_add ev_int (ev_dat 1)) (.inl rfl) ?_ sc__law_source.nd
    refine go_fold 3 D.int ns (fun s => [.dat (.lst (ns.map .int)), .dat (.int st), .dat (.int s), .any]) seedStep (113 + st) (evi_dat 0) rfl (fun _ _ _ => .inl rfl) ?_ ?_ PassesOwn.never rfl sc__law_source.nd
    · rintro Hb' eb pre c post he
      have hs := seed_range pre (113 + st) (by omega)
      have hc : c.natAbs < 2 ^ (bigB - 1) := hbits c (by rw [he]; simp)
      have hs2 : (pre.foldl seedStep (113 + st) * 40127 + c).natAbs < 2 ^ bigB := by
        have : (pre.foldl seedStep (113 + st) * 40127).natAbs < 2 ^ (bigB - 1) := natAbs_mono (n := 50) (by rw [hB]; decide) (by omega)
        exact natAbs_add_lt this hc
      refine go_set 2 (ev_add (ev_mod (ev_pow (ev_add (ev_mul (ev_dat 2) ev_int (mulOk_bits (a := 32) (b := 32) (by omega) (by decide) (by decide))) (ev_toInt m_int (eva_cons (ev_dat 3) eva_nil))) ev_int (by decide) ?_) ev_int (by decide)) ev_int) (.inl rfl) (go_endF 3 rfl) sc__law_source.nd
      have := intBits_le hs2
      rw [hB] at this
      have e : (2 : Int) ^ 27 = 134217728 := by decide
      rw [e]
      omega
    · have hs := seed_range ns (113 + st) (by omega)
      generalize ns.foldl seedStep (113 + st) = sd at hs ⊢
      have b1 : DrawB 1 sd := ⟨hs.1, .inr ⟨rfl, by omega⟩⟩
      exact go_retDraw (S1 := fun _ => True) (S2 := fun _ => True) ((eva_cons ev_int (eva_cons (ev_dat 2) eva_nil)).imp fun _ z => ⟨0, sd, z, ⟨by decide, .inl ⟨rfl, Nat.two_pow_pos _⟩⟩, b1⟩) fun v H' h => ⟨_, rfl, h⟩
def P_draw : Pr := fun ds S => ∃ n : Int, ds = [dDraw, .int n] ∧ 0 < n ∧ n.natAbs < 2 ^ 2000 ∧ S = fun z => ∃ i, z = .int i ∧ 0 ≤ i ∧ i < n
theorem ok_draw {f : Addr} {fd : FuncData} (F : Fun K "_law_draw" "_law_draw" s__law_draw f fd) (hm : mg "_law_draw" = some (.ref f)) (hb : Binds K fd (N__law_draw.take 2) []) (m_int : mg "int" = none) : FnP P w K mg base "_law_draw" 1 P_draw := by
  refine fnP_of (N := N__law_draw) F sc__law_draw hm hb (fun ds S h => ?_) (fun cdv A outer s H E hr ds S h => ?_)
  · obtain ⟨n, e, _⟩ := h
    rw [e]; rfl
  · obtain ⟨n, e1, hn, hnb, e2⟩ := h
    subst e1 e2
    show Go _ H _ _ [.dat dDraw, .dat (.int n), .any]
    have hB : bigB = 1100000 := rfl
    refine go_ifN (S := fun _ => True) ?_ (fun _ => ?_) (fun _ => go_join ?_)
    · exact evt_cmpN op_ge (nomark _) (evn_drawIx (ev_dat 0) ev_int (.inl rfl)) (EvN.int1 (ev_dat 1)) fun _ _ _ _ => trivial
    · refine go_setN 2 (evi_mod (S3 := fun i => 0 ≤ i ∧ i < n) (evi_toInt m_int (evn_drawIx (ev_dat 0) ev_int (.inl rfl))) (EvN.int1 (ev_dat 1)) fun i j _ e => by subst e; exact ⟨by omega, fmod_range hn⟩) (fun d ⟨i, e, _⟩ => by rw [e]; exact .inl rfl) (fun d ⟨i, e, hi⟩ => ?_) sc__law_draw.nd
      subst e
      refine go_drawSet (k := 0) (evi_fdiv (evn_drawIx (ev_dat 0) ev_int (.inl rfl)) (EvN.int1 (ev_dat 1)) fun i j b e => ?_) (ev_dat 0) ev_int (.inl rfl) ?_
      · subst e
        obtain ⟨h1, h2⟩ := b
        have h3 := fdiv_natAbs h1 hn
        refine ⟨divX (by omega) hnb (by decide) (by decide), h3.1, .inl ⟨rfl, ?_⟩⟩
        rcases h2 with ⟨_, h2⟩ | ⟨z, _⟩
        · exact Nat.lt_of_le_of_lt h3.2 h2
        · cases z
      · exact go_ret (ev_dat 2) (.inl rfl) fun v H' h => ⟨_, ⟨i, rfl, hi⟩, h⟩
    · refine go_drawSet (k := 1) (evi_mod (evi_add (S3 := fun _ => True) (evi_mul (S3 := fun _ => True) (evi_toInt m_int (evn_drawIx (ev_dat 0) ev_int (.inr rfl))) (EvN.int1 ev_int) ?_) (EvN.int1 ev_int) fun _ _ _ _ => trivial) (EvN.int1 ev_int) ?_) (ev_dat 0) ev_int (.inr rfl) ?_
      · rintro i j ⟨h1, h2⟩ e
        subst e
        rcases h2 with ⟨z, _⟩ | ⟨_, h2⟩
        · cases z
        · exact ⟨mulOk_bits (a := 32) (b := 32) (by omega) (by decide) (by decide), trivial⟩
      · rintro i j _ e
        subst e
        have := fmod_range (i := i) (j := 2147483647) (by decide)
        exact ⟨by decide, this.1, .inr ⟨rfl, by omega⟩⟩
      · refine go_retN (evi_mod (S3 := fun i => 0 ≤ i ∧ i < n) (evi_fdiv (S3 := fun _ => True) (evi_mod (S3 := fun i => 0 ≤ i ∧ i < 1000000007) (evi_pow (S3 := fun _ => True) (evi_mod (S3 := fun i => 0 ≤ i ∧ i < 2147483629) (evi_pow (S3 := fun _ => True) (evi_toInt m_int (evn_drawIx (ev_dat 0) ev_int (.inr rfl))) (EvN.int1 ev_int) ?_) (EvN.int1 ev_int) ?_) (EvN.int1 ev_int) ?_) (EvN.int1 ev_int) ?_) (EvN.int1 ev_int) ?_) (EvN.int1 (ev_dat 1)) ?_) ?_
        · rintro i j ⟨h1, h2⟩ e
          subst e
          rcases h2 with ⟨z, _⟩ | ⟨_, h2⟩
          · cases z
          · have := intBits_le (a := i) (k := 32) (by omega)
            have e : (2 : Int) ^ 27 = 134217728 := by decide
            rw [e]
            exact ⟨⟨by decide, by omega⟩, trivial⟩
        · rintro i j _ e
          subst e
          exact ⟨by decide, fmod_range (by decide)⟩
        · rintro i j h e
          subst e
          have := intBits_le (a := i) (k := 32) (by omega)
          have e : (2 : Int) ^ 27 = 134217728 := by decide
          rw [e]
          exact ⟨⟨by decide, by omega⟩, trivial⟩
        · rintro i j _ e
          subst e
          exact ⟨by decide, fmod_range (by decide)⟩
        · rintro i j _ e
          subst e
          exact ⟨divX (n := 4) (by decide) (by decide) (by decide) (by decide), trivial⟩
        · rintro i j _ e
          subst e
          exact ⟨by omega, fmod_range hn⟩
        · rintro v H' d ⟨i, e, hi⟩ x r f
          subst e
          exact ⟨_, ⟨i, rfl, hi⟩, x, r, trivial⟩
end

/-! ### fractions -/
abbrev dq (q : Rat) : D := .tup [.int q.num, .int (q.den : Int)]
def Sz (n : Nat) (q : Rat) : Prop := q.num.natAbs < 2 ^ n ∧ q.den < 2 ^ n
theorem Sz.mono {n m : Nat} {q : Rat} (h : Sz n q) (hm : n ≤ m) : Sz m q := ⟨Nat.lt_of_lt_of_le h.1 (Nat.pow_le_pow_right (by decide) hm), Nat.lt_of_lt_of_le h.2 (Nat.pow_le_pow_right (by decide) hm)⟩
theorem Sz.den {n : Nat} {q : Rat} (h : Sz n q) : (q.den : Int).natAbs < 2 ^ n := by rw [Int.natAbs_natCast]; exact h.2
theorem den_ne (q : Rat) : (q.den : Int) ≠ 0 := by have := q.den_nz; omega
theorem rat_self (q : Rat) : q = Rat.divInt q.num q.den := (Rat.num_divInt_den q).symm
theorem sz_divInt {t b : Int} {n : Nat} (ht : t.natAbs < 2 ^ n) (hb : b.natAbs < 2 ^ n) (h0 : b ≠ 0) : Sz n (Rat.divInt t b) := by
  refine ⟨?_, ?_⟩
  · rw [Rat.num_divInt]
    refine Nat.lt_of_le_of_lt (Int.natAbs_ediv_le_natAbs _ _) ?_
    rw [Int.natAbs_mul, Int.natAbs_sign_of_ne_zero h0, Nat.one_mul]
    exact ht
  · rw [Rat.den_divInt, if_neg h0]
    exact Nat.lt_of_le_of_lt (Nat.div_le_self _ _) hb
theorem add_q (p q : Rat) : Rat.divInt (p.num * q.den + q.num * p.den) (p.den * q.den) = p + q := by
  rw [← Rat.divInt_add_divInt _ _ (den_ne p) (den_ne q), ← rat_self, ← rat_self]
theorem neg_q (q : Rat) : Rat.divInt (-q.num) q.den = -q := by
  rw [← Rat.neg_divInt, ← rat_self]
theorem sub_q (p q : Rat) : Rat.divInt (p.num * q.den - q.num * p.den) (p.den * q.den) = p - q := by
  have h := add_q p (-q)
  rw [Rat.neg_num, Rat.neg_den] at h
  rw [Rat.sub_eq_add_neg, ← h]
  congr 1
  rw [Int.neg_mul, Int.sub_eq_add_neg]
theorem mul_q (p q : Rat) : Rat.divInt (p.num * q.num) (p.den * q.den) = p * q := by
  rw [← Rat.divInt_mul_divInt, ← rat_self, ← rat_self]
theorem div_q (p q : Rat) : Rat.divInt (p.num * q.den) (p.den * q.num) = p / q := by
  rw [Rat.div_def, Rat.inv_def, ← Rat.divInt_mul_divInt, ← rat_self]
theorem bits_mul {a b : Int} {n m : Nat} (ha : a.natAbs < 2 ^ n) (hb : b.natAbs < 2 ^ m) : (a * b).natAbs < 2 ^ (n + m) := natAbs_mul_lt ha hb
theorem bits_add {a b : Int} {n : Nat} (ha : a.natAbs < 2 ^ n) (hb : b.natAbs < 2 ^ n) : (a + b).natAbs < 2 ^ (n + 1) := natAbs_add_lt ha hb
theorem bits_sub {a b : Int} {n : Nat} (ha : a.natAbs < 2 ^ n) (hb : b.natAbs < 2 ^ n) : (a - b).natAbs < 2 ^ (n + 1) := by
  rw [Int.sub_eq_add_neg]
  exact natAbs_add_lt ha (by rw [Int.natAbs_neg]; exact hb)
theorem add_bits {p q : Rat} {n m : Nat} (hp : Sz n p) (hq : Sz m q) : (p.num * q.den + q.num * p.den).natAbs < 2 ^ (n + m + 1) ∧ ((p.den : Int) * q.den).natAbs < 2 ^ (n + m + 1) :=
  ⟨bits_add (natAbs_mul_lt hp.1 hq.den) (by rw [Nat.add_comm]; exact natAbs_mul_lt hq.1 hp.den), natAbs_mono (Nat.le_succ _) (natAbs_mul_lt hp.den hq.den)⟩
theorem sub_bits {p q : Rat} {n m : Nat} (hp : Sz n p) (hq : Sz m q) : (p.num * q.den - q.num * p.den).natAbs < 2 ^ (n + m + 1) :=
  bits_sub (natAbs_mul_lt hp.1 hq.den) (by rw [Nat.add_comm]; exact natAbs_mul_lt hq.1 hp.den)
theorem dd_ne (p q : Rat) : (p.den : Int) * q.den ≠ 0 := Int.mul_ne_zero (den_ne p) (den_ne q)
theorem num_ne {q : Rat} (h : q ≠ 0) : q.num ≠ 0 := fun z => h (Rat.num_eq_zero.mp z)
theorem dn_ne (p : Rat) {q : Rat} (h : q ≠ 0) : (p.den : Int) * q.num ≠ 0 := Int.mul_ne_zero (den_ne p) (num_ne h)
theorem Sz.add {p q : Rat} {n m : Nat} (hp : Sz n p) (hq : Sz m q) : Sz (n + m + 1) (p + q) := by
  rw [← add_q]; exact sz_divInt (add_bits hp hq).1 (add_bits hp hq).2 (dd_ne p q)
theorem Sz.sub {p q : Rat} {n m : Nat} (hp : Sz n p) (hq : Sz m q) : Sz (n + m + 1) (p - q) := by
  rw [← sub_q]; exact sz_divInt (sub_bits hp hq) (add_bits hp hq).2 (dd_ne p q)
theorem Sz.mul {p q : Rat} {n m : Nat} (hp : Sz n p) (hq : Sz m q) : Sz (n + m) (p * q) := by
  rw [← mul_q]; exact sz_divInt (natAbs_mul_lt hp.1 hq.1) (natAbs_mul_lt hp.den hq.den) (dd_ne p q)
theorem Sz.div {p q : Rat} {n m : Nat} (hp : Sz n p) (hq : Sz m q) (h : q ≠ 0) : Sz (n + m) (p / q) := by
  rw [← div_q]; exact sz_divInt (natAbs_mul_lt hp.1 hq.den) (natAbs_mul_lt hp.den hq.1) (dn_ne p h)
theorem Sz.neg {q : Rat} {n : Nat} (h : Sz n q) : Sz n (-q) := ⟨by rw [Rat.neg_num, Int.natAbs_neg]; exact h.1, by rw [Rat.neg_den]; exact h.2⟩
theorem sz_int {i : Int} {n : Nat} (h : i.natAbs < 2 ^ n) (hn : 0 < n) : Sz n (i : Rat) := ⟨by rw [Rat.num_intCast]; exact h, by rw [Rat.den_intCast]; exact Nat.one_lt_two_pow (by omega)⟩
theorem dq_int (i : Int) : dq (i : Rat) = .tup [.int i, .int 1] := by
  show D.tup [D.int ((i : Rat).num), D.int ((i : Rat).den : Int)] = _
  rw [Rat.num_intCast, Rat.den_intCast]
  rfl
theorem gcd_fmod (a b : Int) : Int.gcd b (a.fmod b) = Int.gcd a b := by
  rw [Int.fmod_def, Int.gcd_sub_mul_left_right, Int.gcd_comm]
theorem fmod_lt {a b : Int} (h : b ≠ 0) : (a.fmod b).natAbs < b.natAbs := by
  rcases Int.lt_or_gt_of_ne h with h1 | h1
  · have h2 := Int.fmod_nonneg_of_pos (-a) (b := -b) (by omega)
    have h3 := Int.fmod_lt_of_pos (-a) (b := -b) (by omega)
    rw [Int.neg_fmod_neg] at h2 h3
    omega
  · have h2 := Int.fmod_nonneg_of_pos a h1
    have h3 := Int.fmod_lt_of_pos a h1
    omega
theorem fdiv_dvd {a b : Int} (h : b ∣ a) : a.fdiv b = a / b := Int.fdiv_eq_ediv_of_dvd h
/-- in lowest terms, by the divisor with a sign -/
theorem red_num {t b : Int} (h0 : b ≠ 0) (s : Int) (hs : s = b.sign * (Int.gcd t b : Nat)) : t.fdiv s = (Rat.divInt t b).num ∧ b.fdiv s = ((Rat.divInt t b).den : Int) := by
  have hg : (Int.gcd t b : Int) ∣ t := Int.gcd_dvd_left ..
  have hgb : (Int.gcd t b : Int) ∣ b := Int.gcd_dvd_right ..
  have hg0 : Int.gcd t b ≠ 0 := fun z => h0 (Int.gcd_eq_zero_iff.mp z).2
  rw [Rat.num_divInt, Rat.den_divInt, if_neg h0, Int.gcd_comm b t]
  rcases Int.lt_or_gt_of_ne h0 with h1 | h1
  · rw [Int.sign_eq_neg_one_of_neg h1] at hs ⊢
    rw [hs, Int.neg_one_mul, Int.neg_one_mul, fdiv_dvd (Int.neg_dvd.mpr hg), fdiv_dvd (Int.neg_dvd.mpr hgb), Int.ediv_neg, Int.ediv_neg, Int.neg_ediv_of_dvd hg]
    refine ⟨rfl, ?_⟩
    rw [Int.natCast_ediv, show ((b.natAbs : Nat) : Int) = -b from by omega, Int.neg_ediv_of_dvd hgb]
  · rw [Int.sign_eq_one_of_pos h1] at hs ⊢
    rw [hs, Int.one_mul, Int.one_mul, fdiv_dvd hg, fdiv_dvd hgb]
    refine ⟨rfl, ?_⟩
    rw [Int.natCast_ediv, show ((b.natAbs : Nat) : Int) = b from by omega]
theorem gcd_bits {t b : Int} {n : Nat} (h0 : b ≠ 0) (hb : b.natAbs < 2 ^ n) : ((Int.gcd t b : Nat) : Int).natAbs < 2 ^ n := by
  rw [Int.natAbs_natCast]
  refine Nat.lt_of_le_of_lt (Nat.le_of_dvd (by omega) ?_) hb
  exact Int.gcd_dvd_natAbs_right ..
section
variable {P : Program} {w : World} {K : PySem.W.Frag} {mg : Str → Option Value} {base : Heap}
def R_divisor : List D → D → Prop := fun ds d => ∃ a b : Int, ds = [.int a, .int b] ∧ d = .int (Int.gcd a b : Nat)
def R_reduced : List D → D → Prop := fun ds d => ∃ t b : Int, ds = [.int t, .int b] ∧ b ≠ 0 ∧ b.natAbs < 2 ^ 8000 ∧ d = dq (Rat.divInt t b)
def R_cut : List D → D → Prop := fun ds d => ∃ t b : Int, ds = [.int t, .int b] ∧ 0 < b ∧ b.natAbs < 2 ^ 8000 ∧ d = dq (Rat.divInt t b)
theorem dd_pos (p q : Rat) : 0 < (p.den : Int) * q.den := by
  have := p.den_pos
  have := q.den_pos
  exact Int.mul_pos (by omega) (by omega)
def R_qq (f : Rat → Rat → Rat) : List D → D → Prop := fun ds d => ∃ (p q : Rat), ds = [dq p, dq q] ∧ Sz 4000 p ∧ Sz 4000 q ∧ d = dq (f p q)
def R_div : List D → D → Prop := fun ds d => ∃ (p q : Rat), ds = [dq p, dq q] ∧ Sz 4000 p ∧ Sz 4000 q ∧ q ≠ 0 ∧ d = dq (p / q)
def R_less : List D → D → Prop := fun ds d => ∃ (p q : Rat), ds = [dq p, dq q] ∧ Sz 4000 p ∧ Sz 4000 q ∧ d = .bl (decide (p < q))
def R_floor : List D → D → Prop := fun ds d => ∃ p : Rat, ds = [dq p] ∧ Sz 8000 p ∧ d = .int p.floor
theorem mk4 {a b : Int} (ha : a.natAbs < 2 ^ 4000) (hb : b.natAbs < 2 ^ 4000) : IntMulOk a b := mulOk_bits ha hb (by decide)
theorem ok_divisor {f : Addr} {fd : FuncData} (F : Fun K "divisor" "divisor" s_divisor f fd) (hm : mg "divisor" = some (.ref f)) (hb : Binds K fd (N_divisor.take 2) []) (m_abs : mg "abs" = none) : FnP P w K mg base "divisor" 1 (det R_divisor) := by
  refine fnP_of (N := N_divisor) F sc_divisor hm hb (fun ds S h => ?_) (fun cdv A outer s H E hr ds S h => ?_)
  · obtain ⟨d, ⟨a, b, h, _⟩, _⟩ := h
    rw [h]; rfl
  · obtain ⟨d, ⟨a, b, e1, e2⟩, e3⟩ := h
    subst e1 e2 e3
    show Go _ H _ _ [.dat (.int a), .dat (.int b)]
    refine go_while (fun m Γ => ∃ x y : Int, Γ = [.dat (.int x), .dat (.int y)] ∧ Int.gcd x y = Int.gcd a b ∧ m = y.natAbs) ⟨_, a, b, rfl, rfl, rfl⟩ ?_ PassesOwn.never
    rintro m Γ ⟨x, y, rfl, hg, rfl⟩
    refine ⟨_, evt_neI (ev_dat 1) ev_int, fun hk => ?_, fun hk => ?_⟩
    · have hy : y ≠ 0 := fun z => by simp [z] at hk
      refine go_par 0 1 (eva_cons (ev_dat 1) (eva_cons (ev_mod (ev_dat 0) (ev_dat 1) hy) eva_nil)) (.inl rfl) (.inl rfl) ?_ rfl sc_divisor.nd rfl
      exact go_turn (I := fun m Γ => ∃ x y : Int, Γ = [.dat (.int x), .dat (.int y)] ∧ Int.gcd x y = Int.gcd a b ∧ m = y.natAbs) (fun _ _ h => h) ⟨y, x.fmod y, rfl, (gcd_fmod x y).trans hg, rfl⟩ (fmod_lt hy) fun _ _ h => h
    · have hy : y = 0 := by simpa using hk.symm
      subst hy
      refine go_ret (ev_abs m_abs (eva_cons (ev_dat 0) eva_nil)) (.inl rfl) fun v H' h => ⟨_, ?_, h⟩
      rw [← hg, Int.gcd_zero_right]
theorem ok_reduced {f : Addr} {fd : FuncData} (F : Fun K "reduced" "reduced" s_reduced f fd) (hm : mg "reduced" = some (.ref f)) (hb : Binds K fd (N_reduced.take 2) []) (G : FnP P w K mg base "divisor" 1 (det R_divisor)) : FnP P w K mg base "reduced" 2 (det R_reduced) := by
  refine fnP_of (N := N_reduced) F sc_reduced hm hb (fun ds S h => ?_) (fun cdv A outer s H E hr ds S h => ?_)
  · obtain ⟨d, ⟨a, b, h, _⟩, _⟩ := h
    rw [h]; rfl
  · obtain ⟨d, ⟨t, b, e1, h0, hbb, e2⟩, e3⟩ := h
    subst e1 e2 e3
    show Go _ H _ _ [.dat (.int t), .dat (.int b), .any]
    have hg0 : Int.gcd t b ≠ 0 := fun z => h0 (Int.gcd_eq_zero_iff.mp z).2
    have hgb := gcd_bits (t := t) h0 hbb
    refine go_set 2 (ev_call G hr (eva_cons (ev_dat 0) (eva_cons (ev_dat 1) eva_nil)) ⟨t, b, rfl, rfl⟩) (.inl rfl) ?_ sc_reduced.nd
    refine go_if (evt_lt (ev_dat 1) ev_int) (fun hk => ?_) (fun hk => go_join ?_)
    · have h1 : b < 0 := of_decide_eq_true hk
      have hs : -((Int.gcd t b : Nat) : Int) = b.sign * (Int.gcd t b : Nat) := by rw [Int.sign_eq_neg_one_of_neg h1, Int.neg_one_mul]
      refine go_set 2 (ev_neg (ev_dat 2)) (.inl rfl) (go_join ?_) sc_reduced.nd
      obtain ⟨e1, e2⟩ := red_num h0 _ hs
      rw [show dq (Rat.divInt t b) = .tup [.int (t.fdiv (-((Int.gcd t b : Nat) : Int))), .int (b.fdiv (-((Int.gcd t b : Nat) : Int)))] from by rw [e1, e2]]
      have cx : ∀ i : Int, CDivX i (-((Int.gcd t b : Nat) : Int)) := fun i => divX (n := 8000) (by omega) (by rw [Int.natAbs_neg]; exact hgb) (by decide) (by decide)
      exact go_ret (ev_tup (eva_cons (ev_fdiv (ev_dat 0) (ev_dat 2) (cx _)) (eva_cons (ev_fdiv (ev_dat 1) (ev_dat 2) (cx _)) eva_nil))) (.inl rfl) fun v H' h => ⟨_, rfl, h⟩
    · have h1 : 0 < b := by have := of_decide_eq_false hk; omega
      have hs : ((Int.gcd t b : Nat) : Int) = b.sign * (Int.gcd t b : Nat) := by rw [Int.sign_eq_one_of_pos h1, Int.one_mul]
      obtain ⟨e1, e2⟩ := red_num h0 _ hs
      rw [show dq (Rat.divInt t b) = .tup [.int (t.fdiv ((Int.gcd t b : Nat) : Int)), .int (b.fdiv ((Int.gcd t b : Nat) : Int))] from by rw [e1, e2]]
      have cx : ∀ i : Int, CDivX i ((Int.gcd t b : Nat) : Int) := fun i => divX (n := 8000) (by omega) hgb (by decide) (by decide)
      exact go_ret (ev_tup (eva_cons (ev_fdiv (ev_dat 0) (ev_dat 2) (cx _)) (eva_cons (ev_fdiv (ev_dat 1) (ev_dat 2) (cx _)) eva_nil))) (.inl rfl) fun v H' h => ⟨_, rfl, h⟩
theorem ok_plus {f : Addr} {fd : FuncData} (F : Fun K "plus" "plus" s_plus f fd) (hm : mg "plus" = some (.ref f)) (hb : Binds K fd (N_plus.take 2) []) (G : FnP P w K mg base "reduced" 2 (det R_reduced)) : FnP P w K mg base "plus" 3 (det (R_qq (· + ·))) := by
  refine fnP_of (N := N_plus) F sc_plus hm hb (fun ds S h => ?_) (fun cdv A outer s H E hr ds S h => ?_)
  · obtain ⟨d, ⟨a, b, h, _⟩, _⟩ := h
    rw [h]; rfl
  · obtain ⟨d, ⟨p, q, e1, hp, hq, e2⟩, e3⟩ := h
    subst e1 e2 e3
    show Go _ H _ _ [.dat (dq p), .dat (dq q)]
    refine go_ret (ev_call G hr (eva_cons (ev_add (ev_mul (ev_ixT (ev_dat 0) ev_int rfl) (ev_ixT (ev_dat 1) ev_int rfl) (mk4 hp.1 hq.den)) (ev_mul (ev_ixT (ev_dat 1) ev_int rfl) (ev_ixT (ev_dat 0) ev_int rfl) (mk4 hq.1 hp.den)))
      (eva_cons (ev_mul (ev_ixT (ev_dat 0) ev_int rfl) (ev_ixT (ev_dat 1) ev_int rfl) (mk4 hp.den hq.den)) eva_nil)) ⟨_, _, rfl, dd_ne p q, natAbs_mul_lt hp.den hq.den, by rw [add_q]⟩) (.inl rfl) fun v H' h => ⟨_, rfl, h⟩
theorem ok_minus {f : Addr} {fd : FuncData} (F : Fun K "minus" "minus" s_minus f fd) (hm : mg "minus" = some (.ref f)) (hb : Binds K fd (N_minus.take 2) []) (G : FnP P w K mg base "reduced" 2 (det R_reduced)) : FnP P w K mg base "minus" 3 (det (R_qq (· - ·))) := by
  refine fnP_of (N := N_minus) F sc_minus hm hb (fun ds S h => ?_) (fun cdv A outer s H E hr ds S h => ?_)
  · obtain ⟨d, ⟨a, b, h, _⟩, _⟩ := h
    rw [h]; rfl
  · obtain ⟨d, ⟨p, q, e1, hp, hq, e2⟩, e3⟩ := h
    subst e1 e2 e3
    show Go _ H _ _ [.dat (dq p), .dat (dq q)]
    refine go_ret (ev_call G hr (eva_cons (ev_sub (ev_mul (ev_ixT (ev_dat 0) ev_int rfl) (ev_ixT (ev_dat 1) ev_int rfl) (mk4 hp.1 hq.den)) (ev_mul (ev_ixT (ev_dat 1) ev_int rfl) (ev_ixT (ev_dat 0) ev_int rfl) (mk4 hq.1 hp.den)))
      (eva_cons (ev_mul (ev_ixT (ev_dat 0) ev_int rfl) (ev_ixT (ev_dat 1) ev_int rfl) (mk4 hp.den hq.den)) eva_nil)) ⟨_, _, rfl, dd_ne p q, natAbs_mul_lt hp.den hq.den, by rw [sub_q]⟩) (.inl rfl) fun v H' h => ⟨_, rfl, h⟩
theorem ok_times {f : Addr} {fd : FuncData} (F : Fun K "times" "times" s_times f fd) (hm : mg "times" = some (.ref f)) (hb : Binds K fd (N_times.take 2) []) (G : FnP P w K mg base "reduced" 2 (det R_reduced)) : FnP P w K mg base "times" 3 (det (R_qq (· * ·))) := by
  refine fnP_of (N := N_times) F sc_times hm hb (fun ds S h => ?_) (fun cdv A outer s H E hr ds S h => ?_)
  · obtain ⟨d, ⟨a, b, h, _⟩, _⟩ := h
    rw [h]; rfl
  · obtain ⟨d, ⟨p, q, e1, hp, hq, e2⟩, e3⟩ := h
    subst e1 e2 e3
    show Go _ H _ _ [.dat (dq p), .dat (dq q)]
    refine go_ret (ev_call G hr (eva_cons (ev_mul (ev_ixT (ev_dat 0) ev_int rfl) (ev_ixT (ev_dat 1) ev_int rfl) (mk4 hp.1 hq.1))
      (eva_cons (ev_mul (ev_ixT (ev_dat 0) ev_int rfl) (ev_ixT (ev_dat 1) ev_int rfl) (mk4 hp.den hq.den)) eva_nil)) ⟨_, _, rfl, dd_ne p q, natAbs_mul_lt hp.den hq.den, by rw [mul_q]⟩) (.inl rfl) fun v H' h => ⟨_, rfl, h⟩
theorem ok_divided {f : Addr} {fd : FuncData} (F : Fun K "divided" "divided" s_divided f fd) (hm : mg "divided" = some (.ref f)) (hb : Binds K fd (N_divided.take 2) []) (G : FnP P w K mg base "reduced" 2 (det R_reduced)) : FnP P w K mg base "divided" 3 (det (R_div)) := by
  refine fnP_of (N := N_divided) F sc_divided hm hb (fun ds S h => ?_) (fun cdv A outer s H E hr ds S h => ?_)
  · obtain ⟨d, ⟨a, b, h, _⟩, _⟩ := h
    rw [h]; rfl
  · obtain ⟨d, ⟨p, q, e1, hp, hq, h0, e2⟩, e3⟩ := h
    subst e1 e2 e3
    show Go _ H _ _ [.dat (dq p), .dat (dq q)]
    refine go_ret (ev_call G hr (eva_cons (ev_mul (ev_ixT (ev_dat 0) ev_int rfl) (ev_ixT (ev_dat 1) ev_int rfl) (mk4 hp.1 hq.den))
      (eva_cons (ev_mul (ev_ixT (ev_dat 0) ev_int rfl) (ev_ixT (ev_dat 1) ev_int rfl) (mk4 hp.den hq.1)) eva_nil)) ⟨_, _, rfl, dn_ne p h0, natAbs_mul_lt hp.den hq.1, by rw [div_q]⟩) (.inl rfl) fun v H' h => ⟨_, rfl, h⟩
theorem ok_is_less {f : Addr} {fd : FuncData} (F : Fun K "is_less" "is_less" s_is_less f fd) (hm : mg "is_less" = some (.ref f)) (hb : Binds K fd (N_is_less.take 2) []) : FnP P w K mg base "is_less" 1 (det R_less) := by
  refine fnP_of (N := N_is_less) F sc_is_less hm hb (fun ds S h => ?_) (fun cdv A outer s H E hr ds S h => ?_)
  · obtain ⟨d, ⟨a, b, h, _⟩, _⟩ := h
    rw [h]; rfl
  · obtain ⟨d, ⟨p, q, e1, hp, hq, e2⟩, e3⟩ := h
    subst e1 e2 e3
    show Go _ H _ _ [.dat (dq p), .dat (dq q)]
    refine go_ret (ev_lt (ev_mul (ev_ixT (ev_dat 0) ev_int rfl) (ev_ixT (ev_dat 1) ev_int rfl) (mk4 hp.1 hq.den)) (ev_mul (ev_ixT (ev_dat 1) ev_int rfl) (ev_ixT (ev_dat 0) ev_int rfl) (mk4 hq.1 hp.den))) (.inl rfl) fun v H' h => ⟨_, ?_, h⟩
    rw [decide_eq_decide.mpr (Rat.lt_iff p q)]
theorem ok_floor {f : Addr} {fd : FuncData} (F : Fun K "floor" "floor" s_floor f fd) (hm : mg "floor" = some (.ref f)) (hb : Binds K fd (N_floor.take 1) []) : FnP P w K mg base "floor" 1 (det R_floor) := by
  refine fnP_of (N := N_floor) F sc_floor hm hb (fun ds S h => ?_) (fun cdv A outer s H E hr ds S h => ?_)
  · obtain ⟨d, ⟨a, h, _⟩, _⟩ := h
    rw [h]; rfl
  · obtain ⟨d, ⟨p, e1, hp, e2⟩, e3⟩ := h
    subst e1 e2 e3
    show Go _ H _ _ [.dat (dq p)]
    refine go_ret (ev_fdiv (ev_ixT (ev_dat 0) ev_int rfl) (ev_ixT (ev_dat 0) ev_int rfl) (divX (n := 8000) (den_ne p) hp.den (by decide) (by decide))) (.inl rfl) fun v H' h => ⟨_, ?_, h⟩
    rw [Rat.floor_def, Int.fdiv_eq_ediv_of_nonneg _ (by omega)]
end

/-! ### the law's own fractions -/
section
variable {P : Program} {w : World} {K : PySem.W.Frag} {mg : Str → Option Value} {base : Heap}
theorem gcd_abs (t b : Int) : Int.gcd (t.natAbs : Int) (b.natAbs : Int) = Int.gcd t b := by
  unfold Int.gcd
  rw [Int.natAbs_natCast, Int.natAbs_natCast]
end

/-! ### calls, by what is wanted behind -/
theorem c_draw {n : Int} {Q : D → Prop} (q : ∀ i : Int, 0 ≤ i → i < n → Q (.int i)) (h : 0 < n ∧ n.natAbs < 2 ^ 2000) : Cl P_draw [dDraw, .int n] Q := ⟨_, ⟨n, rfl, h.1, h.2, rfl⟩, fun d ⟨i, e, h0, h1⟩ => by rw [e]; exact q i h0 h1⟩
theorem c_stream {ns : List Int} {st : Int} {Q : D → Prop} (q : Q dDraw) (h : ScriptB ns ∧ 0 ≤ st ∧ st ≤ 1000) : Cl P_stream [.lst (ns.map .int), .int st] Q := ⟨_, ⟨ns, st, rfl, h.1, h.2.1, h.2.2, rfl⟩, fun d e => by rw [e]; exact q⟩
theorem small2000 {n : Int} (h0 : 0 < n) (h : n < 2 ^ 62) : 0 < n ∧ n.natAbs < 2 ^ 2000 := ⟨h0, Nat.lt_of_lt_of_le (m := 2 ^ 62) (by omega) (Nat.pow_le_pow_right (by decide) (by decide))⟩
theorem dq_neg' (q : Rat) : D.tup [.int (0 - q.num), .int (q.den : Int)] = dq (-q) := by rw [Int.zero_sub]; rfl
theorem dq_int' (i : Int) : D.tup [.int i, .int 1] = dq (i : Rat) := (dq_int i).symm
theorem Rat.pos_ne {q : Rat} (h : 0 < q) : q ≠ 0 := fun z => by rw [z] at h; exact Rat.lt_irrefl h
theorem rat_num_pos {q : Rat} (h : 0 < q) : 0 < q.num := by
  have h1 : 0 ≤ q.num := Rat.num_nonneg.mpr (Rat.le_of_lt h)
  have h2 : q.num ≠ 0 := fun z => by rw [Rat.num_eq_zero.mp z] at h; exact Rat.lt_irrefl h
  omega
theorem dq_inv' {q : Rat} (h : 0 < q) : D.tup [.int (q.den : Int), .int q.num] = dq q⁻¹ := by
  have h1 : 0 < q.num := rat_num_pos h
  show _ = D.tup [.int (q⁻¹).num, .int ((q⁻¹).den : Int)]
  rw [Rat.num_inv, Rat.den_inv, if_neg (by omega), Int.sign_eq_one_of_pos h1, Int.one_mul, Int.natAbs_of_nonneg (by omega)]
theorem c_qq {f : Rat → Rat → Rat} {p q : Rat} {d1 d2 : D} {Q : D → Prop} (e1 : d1 = dq p) (e2 : d2 = dq q) (k : Q (dq (f p q))) (h : Sz 4000 p ∧ Sz 4000 q) : Cl (det (R_qq f)) [d1, d2] Q := by
  subst e1 e2
  exact cl_det ⟨p, q, rfl, h.1, h.2, rfl⟩ k
theorem c_div {p q : Rat} {d1 d2 : D} {Q : D → Prop} (e1 : d1 = dq p) (e2 : d2 = dq q) (k : Q (dq (p / q))) (h : Sz 4000 p ∧ Sz 4000 q ∧ q ≠ 0) : Cl (det R_div) [d1, d2] Q := by
  subst e1 e2
  exact cl_det ⟨p, q, rfl, h.1, h.2.1, h.2.2, rfl⟩ k
theorem c_less {p q : Rat} {d1 d2 : D} {Q : D → Prop} (e1 : d1 = dq p) (e2 : d2 = dq q) (k : Q (.bl (decide (p < q)))) (h : Sz 4000 p ∧ Sz 4000 q) : Cl (det R_less) [d1, d2] Q := by
  subst e1 e2
  exact cl_det ⟨p, q, rfl, h.1, h.2, rfl⟩ k
theorem c_floor {p : Rat} {d1 : D} {Q : D → Prop} (e1 : d1 = dq p) (k : Q (.int p.floor)) (h : Sz 8000 p) : Cl (det R_floor) [d1] Q := by
  subst e1
  exact cl_det ⟨p, rfl, h, rfl⟩ k
theorem c_reduced {t b : Int} {Q : D → Prop} (k : Q (dq (Rat.divInt t b))) (h : b ≠ 0 ∧ b.natAbs < 2 ^ 8000) : Cl (det R_reduced) [.int t, .int b] Q := cl_det ⟨t, b, rfl, h.1, h.2, rfl⟩ k
theorem c_cut {t b : Int} {Q : D → Prop} (k : Q (dq (Rat.divInt t b))) (h : 0 < b ∧ b.natAbs < 2 ^ 8000) : Cl (det R_cut) [.int t, .int b] Q := cl_det ⟨t, b, rfl, h.1, h.2, rfl⟩ k
theorem sz_one {n : Nat} : Sz (n + 1) 1 := Sz.mono (n := 1) ⟨by decide, by decide⟩ (Nat.le_add_left _ _)
theorem Sz.pow {q : Rat} {a : Nat} (h : Sz a q) : ∀ i : Nat, Sz (a * i + 1) (q ^ i)
  | 0 => by rw [Rat.pow_zero]; exact sz_one
  | i + 1 => by rw [Rat.pow_succ]; exact Sz.mono (Sz.mul (Sz.pow h i) h) (by rw [Nat.mul_succ]; omega)
theorem bits8000 {b : Int} (h : b.natAbs < 2 ^ 62) : b.natAbs < 2 ^ 8000 := Nat.lt_of_lt_of_le h (Nat.pow_le_pow_right (by decide) (by decide))
theorem sz_lit {t b : Int} {n : Nat} (h : t.natAbs < 2 ^ n ∧ b.natAbs < 2 ^ n ∧ b ≠ 0) : Sz n (Rat.divInt t b) := sz_divInt h.1 h.2.1 h.2.2
theorem shpN_dq (q : Rat) : ShpN 1 (dq q) := ⟨rfl, rfl, Nat.le_refl _⟩
theorem flat_dqs (qs : List Rat) : D.flatAll (qs.map dq) = true := flat_map (fun _ => rfl) qs

local macro_rules | `(tactic| walk_at "cl") => `(tactic| first | refine c_draw (fun _ _ _ => ?_) (by first | assumption | exact small2000 (by omega) (by omega) | exact small2000 (by decide +kernel) (by decide +kernel)) | refine c_draw (fun _ _ _ => ?_) ?_ | fail)
local macro_rules | `(tactic| walk_at "cl") => `(tactic| first | refine c_stream ?_ ⟨by assumption, by omega, by omega⟩ | fail)
local macro_rules | `(tactic| walk_at "dq") => `(tactic| first | with_reducible exact rfl | assumption | exact dq_int' _ | exact dq_neg' _ | (refine dq_inv' ?_; assumption) | fail)
local macro_rules | `(tactic| walk_at "szr") => `(tactic| first | assumption | (with_reducible show Sz _ (_ + _); exact Sz.add (by walk_at "szr") (by walk_at "szr")) | (with_reducible show Sz _ (_ - _); exact Sz.sub (by walk_at "szr") (by walk_at "szr")) | (with_reducible show Sz _ (_ * _); exact Sz.mul (by walk_at "szr") (by walk_at "szr")) | (with_reducible show Sz _ (-_); exact Sz.neg (by walk_at "szr")) | exact sz_int (n := 62) (by omega) (by decide) | fail)
local macro_rules | `(tactic| walk_at "sz") => `(tactic| first | assumption | exact Sz.mono (by walk_at "szr") (by first | decide | omega) | fail)
local macro_rules | `(tactic| walk_at "sz2") => `(tactic| first | exact ⟨by walk_at "sz", by walk_at "sz"⟩ | fail)
local macro_rules | `(tactic| walk_at "cl") => `(tactic| first | refine c_qq (by walk_at "dq") (by walk_at "dq") ?_ (by walk_at "sz2") | refine c_qq (by walk_at "dq") (by walk_at "dq") ?_ ?_ | fail)
local macro_rules | `(tactic| walk_at "cl") => `(tactic| first | refine c_div (by walk_at "dq") (by walk_at "dq") ?_ ⟨by walk_at "sz", by walk_at "sz", by assumption⟩ | refine c_div (by walk_at "dq") (by walk_at "dq") ?_ ?_ | fail)
local macro_rules | `(tactic| walk_at "cl") => `(tactic| first | refine c_less (by walk_at "dq") (by walk_at "dq") ?_ (by walk_at "sz2") | refine c_less (by walk_at "dq") (by walk_at "dq") ?_ ?_ | fail)
local macro_rules | `(tactic| walk_at "cl") => `(tactic| first | refine c_floor (by walk_at "dq") ?_ (by walk_at "sz") | refine c_floor (by walk_at "dq") ?_ ?_ | fail)
local macro_rules | `(tactic| walk_at "cl") => `(tactic| first | refine c_reduced ?_ (by assumption) | refine c_cut ?_ (by assumption) | refine c_cut ?_ ⟨by omega, bits8000 (by omega)⟩ | refine c_reduced ?_ ⟨by omega, bits8000 (by omega)⟩ | refine c_reduced ?_ ?_ | refine c_cut ?_ ?_ | fail)

/-! ### written fractions, written ints -/
def P01 (d : D) : Prop := ∃ q : Rat, d = dq q ∧ Sz 8 q ∧ 0 < q ∧ q < 1
def Pq (n : Nat) (d : D) : Prop := ∃ q : Rat, d = dq q ∧ Sz n q ∧ 0 < q
def PI (lo hi : Int) (d : D) : Prop := ∃ i : Int, d = .int i ∧ lo ≤ i ∧ i ≤ hi
theorem lit_num {n d : Int} (hd : 0 < d) (h : Int.gcd n d = 1) : D.tup [.int n, .int d] = dq (Rat.divInt n d) := by
  show _ = D.tup [.int (Rat.divInt n d).num, .int ((Rat.divInt n d).den : Int)]
  rw [Rat.num_divInt, Rat.den_divInt, if_neg (by omega), Int.gcd_comm d n, h, Int.sign_eq_one_of_pos hd, Int.one_mul]
  simp only [Int.natCast_one, Int.ediv_one, Nat.div_one]
  rw [Int.natAbs_of_nonneg (Int.le_of_lt hd)]
theorem divInt_pos' {n d : Int} (hn : 0 < n) (hd : 0 < d) : 0 < Rat.divInt n d := by
  rw [Rat.lt_iff, Rat.num_divInt, Int.sign_eq_one_of_pos hd, Int.one_mul]
  show 0 * _ < n / _ * 1
  rw [Int.zero_mul, Int.mul_one]
  have hg : (Int.gcd d n : Int) ∣ n := Int.gcd_dvd_right ..
  have hg0 : 0 < (Int.gcd d n : Int) := by
    have : Int.gcd d n ≠ 0 := fun z => by have := (Int.gcd_eq_zero_iff.mp z).2; omega
    omega
  exact Int.ediv_pos_of_pos_of_dvd hn (Int.le_of_lt hg0) hg
theorem litq {m : Nat} {n d : Int} (h : ((0 < n ∧ n.natAbs < 2 ^ m) ∧ (0 < d ∧ d.natAbs < 2 ^ m)) ∧ Int.gcd n d = 1) : Pq m (.tup [.int n, .int d]) :=
  ⟨_, lit_num h.1.2.1 h.2, sz_divInt h.1.1.2 h.1.2.2 (by have := h.1.2.1; omega), divInt_pos' h.1.1.1 h.1.2.1⟩
theorem lit01 {n d : Int} (h : ((0 < n ∧ n < d) ∧ d < 256) ∧ Int.gcd n d = 1) : P01 (.tup [.int n, .int d]) := by
  obtain ⟨⟨⟨h1, h2⟩, h3⟩, h4⟩ := h
  refine ⟨_, lit_num (by omega) h4, sz_divInt (n := 8) (by omega) (by omega) (by omega), divInt_pos' h1 (by omega), ?_⟩
  have e := lit_num (by omega : 0 < d) h4
  have e1 : n = (Rat.divInt n d).num ∧ d = ((Rat.divInt n d).den : Int) := by
    have : D.tup [.int n, .int d] = D.tup [.int (Rat.divInt n d).num, .int ((Rat.divInt n d).den : Int)] := e
    injection this with this
    injection this with a b
    injection a with a
    injection b with b c
    injection b with b
    exact ⟨a, b⟩
  rw [Rat.lt_iff, ← e1.1, ← e1.2]
  show n * 1 < 1 * d
  omega
theorem litI {lo hi i : Int} (h : lo ≤ i ∧ i ≤ hi) : PI lo hi (.int i) := ⟨i, rfl, h⟩
theorem lits {P : D → Prop} {xs : List D} {d : D} (hd : d ∈ xs) (h : ∀ x ∈ xs, P x) : P d := h d hd
/-- a drawn saw -/
structure SawB (sp st k : Rat) : Prop where
  spz : Sz 8 sp
  stz : Sz 8 st
  kz : Sz 8 k
  kpos : 0 < k
  klt : k < 1
  spos : 0 < st
  pos : 0 < sp

/-! ### fractions as texts -/
theorem sh_dq {q : Rat} {n : Nat} (h : Sz n q) (h0 : 0 < n) (hn : n ≤ 1900) : Sh 1 10000 (dq q) := by
  refine Sh.mono (sh_tup (n := 0) (c := n + 1) (fun d m => ?_) (.inl rfl)) (Nat.le_refl _) (by simp only [List.length_cons, List.length_nil]; omega)
  simp only [List.mem_cons, List.not_mem_nil, or_false] at m
  rcases m with rfl | rfl
  · exact sh_int h.1 h0 (by omega)
  · exact sh_int h.den h0 (by omega)
theorem noDct_dqs : ∀ qs : List Rat, D.noDctAll (qs.map dq) = true
  | [] => rfl
  | q :: qs => by
    show (D.noDct (dq q) && D.noDctAll (qs.map dq)) = true
    rw [noDct_dqs qs]
    rfl
theorem sh_dqs {qs : List Rat} {n : Nat} (h : ∀ q ∈ qs, Sz n q) (h0 : 0 < n) (hn : n ≤ 1900) : Sh 2 (10002 * qs.length + 3) (.lst (qs.map dq)) := by
  refine Sh.mono (sh_lst (n := 1) (c := 10000) (fun d m => ?_) (noDct_dqs qs)) (by decide) (by rw [List.length_map]; exact Nat.le_refl _)
  obtain ⟨q, hq, rfl⟩ := List.mem_map.mp m
  exact sh_dq (h q hq) h0 hn
def IsQ (n : Nat) (z : D) : Prop := ∃ q : Rat, z = dq q ∧ Sz n q

/-! ### kinds of values -/
def isTupD : D → Bool
  | .tup _ => true
  | _ => false
def isIntD : D → Bool
  | .int _ | .bl _ => true
  | _ => false
def isBoolD : D → Bool
  | .bl _ => true
  | _ => false
theorem kit_tup {d : D} (h : d.ok = true) : kitB (tyD d) "tuple" = some (isTupD d) := match d, h with
  | .non, _ => kit_nt
  | .bl _, _ => kit_bt
  | .int _, _ => kit_it
  | .str _, _ => kit_st
  | .lst _, _ => kit_lt
  | .tup _, _ => kit_tt
  | .dct _, _ => kit_dt
theorem kit_int {d : D} (h : d.ok = true) : kitB (tyD d) "int" = some (isIntD d) := match d, h with
  | .non, _ => kit_ni
  | .bl _, _ => kit_bi
  | .int _, _ => kit_ii
  | .str _, _ => kit_si
  | .lst _, _ => kit_li
  | .tup _, _ => kit_ti
  | .dct _, _ => kit_di
theorem kit_bool {d : D} (h : d.ok = true) : kitB (tyD d) "bool" = some (isBoolD d) := match d, h with
  | .non, _ => kit_nb
  | .bl _, _ => kit_bb
  | .int _, _ => kit_ib
  | .str _, _ => kit_sb
  | .lst _, _ => kit_lb
  | .tup _, _ => kit_tb
  | .dct _, _ => kit_db
theorem neg_nn (i : Int) : decide (i < 0) = !decide (0 ≤ i) := by
  by_cases h : 0 ≤ i
  · rw [decide_eq_true h, decide_eq_false (by omega)]; rfl
  · rw [decide_eq_false h, decide_eq_true (by omega)]; rfl
def isInt : D → Bool
  | .int _ => true
  | _ => false
theorem isInt_eq (d : D) : (isIntD d && !isBoolD d) = isInt d := by cases d <;> rfl
def smallX : D → Bool
  | .int i => decide (i.natAbs < 2 ^ 400)
  | _ => true
def askB (d : D) : Bool := d.ok && match d with
  | .tup xs => decide (xs.length ≤ 1000) && xs.all fun x => x.ok && smallX x
  | _ => true
def okB (d : D) : Bool := d.ok && (d.noDct || d.noLst) && d.py.showable && decide (d.py.depth ≤ 3) && decide (d.py.shown.length ≤ 300) && askB d
/-- what may be asked about: ints within are not too great -/
def AskF (d : D) : Prop := d.ok = true ∧ ∀ xs, d = .tup xs → xs.length ≤ 1000 ∧ ∀ x ∈ xs, x.ok = true ∧ ∀ i, x = .int i → i.natAbs < 2 ^ 400
theorem ask_of {d : D} (h : askB d = true) : AskF d := by
  unfold askB at h
  obtain ⟨h1, h2⟩ := Bool.and_eq_true_iff.mp h
  refine ⟨h1, fun xs e => ?_⟩
  subst e
  obtain ⟨h3, h4⟩ := Bool.and_eq_true_iff.mp h2
  refine ⟨of_decide_eq_true h3, fun x m => ?_⟩
  obtain ⟨h5, h6⟩ := Bool.and_eq_true_iff.mp (List.all_eq_true.mp h4 x m)
  refine ⟨h5, fun i e => ?_⟩
  subst e
  exact of_decide_eq_true h6
theorem sh_of {d : D} (h : okB d = true) : Sh 3 300 d ∧ AskF d := by
  unfold okB at h
  obtain ⟨h, h6⟩ := Bool.and_eq_true_iff.mp h
  obtain ⟨h, h5⟩ := Bool.and_eq_true_iff.mp h
  obtain ⟨h, h4⟩ := Bool.and_eq_true_iff.mp h
  obtain ⟨h, h3⟩ := Bool.and_eq_true_iff.mp h
  obtain ⟨h1, h2⟩ := Bool.and_eq_true_iff.mp h
  exact ⟨⟨h1, Bool.or_eq_true_iff.mp h2, h3, of_decide_eq_true h4, of_decide_eq_true h5⟩, ask_of h6⟩
theorem okB_all {xs : List D} (h : xs.all okB = true) : ∀ x ∈ xs, Sh 3 300 x ∧ AskF x := fun x m => sh_of (List.all_eq_true.mp h x m)
section
variable {P : Program} {w : World} {K : PySem.W.Frag} {mg : Str → Option Value} {base : Heap}
def P_chooseL : Pr := fun ds S => ∃ xs : List D, ds = [dDraw, .lst xs] ∧ 0 < xs.length ∧ xs.length < 1000 ∧ S = fun z => z ∈ xs
end

/-! ### is it a fraction -/
def isFrac : D → Bool
  | .tup [.int a, .int b] => decide (1 ≤ b) && decide ((Int.gcd a b : Int) = 1)
  | _ => false
theorem low_eq {a b : Int} (h : 0 < b) : PyData.eqv (dq (Rat.divInt a b)).py (D.tup [.int a, .int b]).py = decide ((Int.gcd a b : Int) = 1) := by
  have e1 : (Rat.divInt a b).num = a / (Int.gcd a b : Nat) := by rw [Rat.num_divInt, Int.sign_eq_one_of_pos h, Int.one_mul, Int.gcd_comm]
  have e2 : (Rat.divInt a b).den = b.natAbs / Int.gcd a b := by rw [Rat.den_divInt, if_neg (by omega), Int.gcd_comm]
  have hg : (Int.gcd a b) ∣ b.natAbs := Int.gcd_dvd_natAbs_right ..
  show PyData.eqv (.tuple [.int _, .int _]) (.tuple [.int _, .int _]) = _
  have ev : ∀ x y x' y' : Int, PyData.eqv (.tuple [.int x, .int y]) (.tuple [.int x', .int y']) = (decide (x = x') && decide (y = y')) := fun x y x' y' => by
    by_cases h1 : x = x' <;> by_cases h2 : y = y' <;> simp [PyData.eqv, PyData.eqvAll, h1, h2]
  rw [ev, e1, e2]
  by_cases z : Int.gcd a b = 1
  · rw [z]
    simp
    omega
  · rw [decide_eq_false (p := (Int.gcd a b : Int) = 1) (by omega)]
    have : ¬ (((b.natAbs / Int.gcd a b : Nat) : Int) = b) := fun e => by
      have h1 : b.natAbs / Int.gcd a b = b.natAbs := by omega
      have h2 : 0 < Int.gcd a b := Nat.pos_of_dvd_of_pos hg (by omega)
      have h3 := Nat.div_mul_cancel hg
      rw [h1] at h3
      have h4 : b.natAbs * Int.gcd a b = b.natAbs * 1 := by omega
      exact z (Nat.eq_of_mul_eq_mul_left (by omega) h4)
    rw [decide_eq_false this, Bool.and_false]
section
variable {P : Program} {w : World} {K : PySem.W.Frag} {mg : Str → Option Value} {base : Heap}
def R_isint : List D → D → Prop := fun ds z => ∃ d : D, ds = [d] ∧ d.ok = true ∧ z = .bl (isInt d)
def R_isfrac : List D → D → Prop := fun ds z => ∃ d : D, ds = [d] ∧ AskF d ∧ z = .bl (isFrac d)
theorem ok_is_integer {f : Addr} {fd : FuncData} (F : Fun K "is_integer" "is_integer" s_is_integer f fd) (hm : mg "is_integer" = some (.ref f)) (hb : Binds K fd (N_is_integer.take 1) []) (m_isinstance : mg "isinstance" = none) (m_int : mg "int" = none) (m_bool : mg "bool" = none) : FnP P w K mg base "is_integer" 1 (det R_isint) := by
  refine fnP_of (N := N_is_integer) F sc_is_integer hm hb (fun ds S h => ?_) (fun cdv A outer s H E hr ds S h => ?_)
  · obtain ⟨_, ⟨d, e, _⟩, _⟩ := h
    rw [e]; rfl
  · obtain ⟨_, ⟨d, e1, ho, e2⟩, e3⟩ := h
    subst e1 e2 e3
    show Go _ H _ _ [.dat d]
    exact go_ret (ev_andD (ev_isI (d := d) (Ts := "int") (k := isIntD d) m_isinstance m_int (ev_dat 0) ho (kit_int ho)) fun _ => ev_one (ev_not (ev_isI (d := d) (Ts := "bool") (k := isBoolD d) m_isinstance m_bool (ev_dat 0) ho (kit_bool ho)))) (.inl rfl) fun v H' h => ⟨_, by rw [isInt_eq], h⟩
theorem tup_cases {d : D} (h : isTupD d = true) : ∃ xs, d = .tup xs := by cases d <;> first | exact ⟨_, rfl⟩ | cases h
theorem frac_len {xs : List D} (h : xs.length ≠ 2) : isFrac (.tup xs) = false := by
  match xs, h with
  | [], _ => rfl
  | [_], _ => unfold isFrac; split <;> first | rfl | (rename_i e; cases e)
  | [_, _], h => exact absurd rfl h
  | _ :: _ :: _ :: _, _ => unfold isFrac; split <;> first | rfl | (rename_i e; cases e)
theorem frac_not {x y : D} (h : (!isInt x || !isInt y) = true) : isFrac (.tup [x, y]) = false := by
  cases x <;> first | rfl | (cases y <;> first | rfl | cases h)
theorem ints_both {x y : D} (h : (!isInt x || !isInt y) = false) : ∃ a b, x = .int a ∧ y = .int b := by
  cases x <;> first | (cases y <;> first | exact ⟨_, _, rfl, rfl⟩ | cases h) | cases h
theorem ok_isfrac {f : Addr} {fd : FuncData} (F : Fun K "is_fraction" "is_fraction" s_is_fraction f fd) (hm : mg "is_fraction" = some (.ref f)) (hb : Binds K fd (N_is_fraction.take 1) []) (m_isinstance : mg "isinstance" = none) (m_tuple : mg "tuple" = none) (m_len : mg "len" = none) (G : FnP P w K mg base "is_integer" 1 (det R_isint)) (Gd : FnP P w K mg base "divisor" 1 (det R_divisor)) : FnP P w K mg base "is_fraction" 2 (det R_isfrac) := by
  refine fnP_of (N := N_is_fraction) F sc_is_fraction hm hb (fun ds S h => ?_) (fun cdv A outer s H E hr ds S h => ?_)
  · obtain ⟨_, ⟨d, e, _⟩, _⟩ := h
    rw [e]; rfl
  · obtain ⟨_, ⟨d, e1, ⟨ho, htl⟩, e2⟩, e3⟩ := h
    subst e1 e2 e3
    show Go _ H _ _ [.dat d]
    cases htd : isTupD d with
    | false =>
      refine go_ifN (S := (· = true)) (EvW.t (evw_or (S1 := (· = true)) ((evt_notD (evt_valD (ev_isI (d := d) (Ts := "tuple") (k := isTupD d) m_isinstance m_tuple (ev_dat 0) ho (kit_tup ho)))).imp fun k e => by rw [e, htd]; rfl) (fun z => nomatch z) fun _ => rfl)) (fun _ => ?_) (fun hk => by cases hk)
      refine go_ret ev_bl (.inl rfl) fun v H' h => ⟨_, ?_, h⟩
      cases d <;> first | rfl | cases htd
    | true =>
      obtain ⟨xs, rfl⟩ := tup_cases htd
      obtain ⟨hl, hx⟩ := htl xs rfl
      by_cases h2 : xs.length = 2
      · obtain ⟨x, y, rfl⟩ : ∃ x y, xs = [x, y] := by
          match xs, h2 with
          | [x, y], _ => exact ⟨x, y, rfl⟩
        have hxo := hx x (by simp)
        have hyo := hx y (by simp)
        refine go_if (EvW.t (evw_orD (evt_notD (evt_valD (ev_isI (d := .tup [x, y]) (Ts := "tuple") (k := true) m_isinstance m_tuple (ev_dat 0) ho kit_tt))) fun _ => evw_orD (evt_neI (ev_len m_len (eva_cons (ev_dat 0) eva_nil) (.inr rfl)) ev_int) fun _ => evw_orD (evt_notD (evt_valD (ev_call G hr (eva_cons (ev_ixT (ev_dat 0) ev_int rfl) eva_nil) ⟨x, rfl, hxo.1, rfl⟩))) fun _ => evw_or1 (evt_notD (evt_valD (ev_call G hr (eva_cons (ev_ixT (ev_dat 0) ev_int rfl) eva_nil) ⟨y, rfl, hyo.1, rfl⟩))))) (fun hk => ?_) (fun hk => go_join ?_)
        · refine go_ret ev_bl (.inl rfl) fun v H' h => ⟨_, ?_, h⟩
          rw [frac_not (by simpa using hk)]
        · obtain ⟨a, b, rfl, rfl⟩ := ints_both (x := x) (y := y) (by simpa using hk)
          refine go_ret (ev_andD (ev_ge (ev_ixT (ev_dat 0) ev_int rfl) ev_int) fun _ => ev_one (ev_eqI (ev_call Gd hr (eva_cons (ev_ixT (ev_dat 0) ev_int rfl) (eva_cons (ev_ixT (ev_dat 0) ev_int rfl) eva_nil)) ⟨a, b, rfl, rfl⟩) ev_int)) (.inl rfl) fun v H' h => ⟨_, rfl, h⟩
      · refine go_ifN (S := (· = true)) (EvW.t (evw_or (S1 := (· = false)) ((evt_notD (evt_valD (ev_isI (d := .tup xs) (Ts := "tuple") (k := true) m_isinstance m_tuple (ev_dat 0) ho kit_tt)))) (fun _ => evw_or (S1 := (· = true)) ((evt_neI (ev_len m_len (eva_cons (ev_dat 0) eva_nil) (.inr rfl)) ev_int).imp fun k e => by rw [e, decide_eq_false (by omega)]; rfl) (fun z => nomatch z) fun _ => rfl) fun z => nomatch z)) (fun _ => ?_) (fun hk => by cases hk)
        refine go_ret ev_bl (.inl rfl) fun v H' h => ⟨_, ?_, h⟩
        rw [frac_len h2]
end

local macro_rules | `(tactic| walk_at "lit") => `(tactic| first | exact alln | (refine allc (lit01 (by decide +kernel)) ?_; walk_at "lit") | (refine allc (litq (by decide +kernel)) ?_; walk_at "lit") | (refine allc (litI (by first | decide | omega)) ?_; walk_at "lit") | fail)

/-! rows -/
local macro_rules | `(tactic| walk_at "cl") => `(tactic| first | refine c_drawN (fun _ _ => ?_) (by first | assumption | exact small2000 (by omega) (by omega) | exact small2000 (by decide +kernel) (by decide +kernel)) | refine c_drawN (fun _ _ => ?_) ?_ | fail)
local macro_rules | `(tactic| walk_at "le") => `(tactic| first | with_reducible exact dcut_le | ((with_reducible show List.length (_ ++ _) ≤ _); exact le_app (by walk_at "le") (by walk_at "le")) | exact Nat.le_refl _)
local macro_rules | `(tactic| walk_at "len") => `(tactic| first | (refine le_add (by walk_at "le") (by walk_at "le") ?_; simp only [List.length_map, List.length_cons, List.length_nil]; omega) | fail)
local macro_rules | `(tactic| walk_at "at") => `(tactic| first | (refine at_int ?_; omega) | fail)
local macro_rules | `(tactic| walk_at "v") => `(tactic| first | ((with_reducible show ∃ _, ixN _ _ = some _ ∧ _); refine ⟨_, ixN_nt (by omega), ?_⟩) | fail)
local macro_rules | `(tactic| walk_at "flat") => `(tactic| first | ((with_reducible refine flat_dcut ?_); walk_at "flat") | ((with_reducible show D.flat (D.tup (dcut _ _ _)) = true); refine flat_dcut ?_; walk_at "flat") | ((with_reducible show D.flat (D.tup (_ ++ _)) = true); refine flat_app ?_ ?_ <;> walk_at "flat") | fail)

local macro_rules | `(tactic| walk_at "cl") => `(tactic| first | refine c_speeds (by walk_at "dq") (by walk_at "dq") (by walk_at "dq") ?_ (by assumption) | refine c_side (by walk_at "dsaw") (by walk_at "dq") ?_ (by assumption) | fail)
local macro_rules | `(tactic| walk_at "dsaw") => `(tactic| first | with_reducible exact rfl | assumption)
local macro_rules | `(tactic| walk_at "call") => `(tactic| first | ((with_reducible show EvN _ _ (Expr.Call (Expr.Name (Str.ofString "int") _) [Expr.Call (Expr.Name (Str.ofString "is_less") _) _ _ _] [] _) _ _ _); refine w_toIntB (by assumption) ?_) | ((with_reducible show EvN _ _ (Expr.Call (Expr.Name (Str.ofString "int") _) [Expr.Call (Expr.Name (Str.ofString "_law_below") _) _ _ _] [] _) _ _ _); refine w_toIntB (by assumption) ?_) | fail)

/-! ### texts of fractions, at one fraction -/
section
variable {P : Program} {w : World} {K : PySem.W.Frag} {mg : Str → Option Value} {base : Heap}
def wd (b : Bool) : Str := if b then "3" else "7"
def wn (b : Bool) : Int := if b then 3 else 7
abbrev P_ftext : Pr := detP (fun (_ : Unit) => [.tup [.int 3, .int 7]]) (fun _ => True) fun _ => .str "3/7"
abbrev P_number : Pr := detP (fun (b : Bool) => [.str (wd b)]) (fun _ => True) fun b => .int (wn b)
theorem wd_facts (b : Bool) : ((wd b).length ≤ 640 ∧ PySem.intText? (wd b) = some (wn b)) ∧ ((wd b).length = 1 ∧ toString (wn b) = wd b) := by
  cases b <;> decide +kernel
theorem ok_ftext {f : Addr} {fd : FuncData} (F : Fun K "fraction_text" "fraction_text" s_fraction_text f fd) (hm : mg "fraction_text" = some (.ref f)) (hb : Binds K fd (N_fraction_text.take 1) []) (m_str : mg "str" = none) : FnP P w K mg base "fraction_text" 1 P_ftext :=
  fnP_det F sc_fraction_text hm hb (fun _ _ => rfl) fun cdv A outer s H E hr nd _ _ => by
    show Go _ H (_ :: _) _ [.dat (.tup [.int 3, .int 7])]
    refine s_ret (w_if (k := false) (d1 := .non) (d2 := .str "3/7") ?_ (fun z => nomatch z) (fun _ => ?_) ?_)
    · walk_at "go"
      rfl
    · refine w_fII ?_
      walk_at "go"
      refine ⟨by decide +kernel, ?_⟩
      walk_at "go"
      exact ⟨by decide +kernel, congrArg D.str (by decide +kernel)⟩
    · walk_at "go"
      rfl
local macro_rules | `(tactic| walk_at "call") => `(tactic| first | ((with_reducible show EvN _ _ (Expr.Call (Expr.Name (Str.ofString "str") _) [_] [] _) _ _ _); refine w_strI (by assumption) ?_) | ((with_reducible show EvN _ _ (Expr.Call (Expr.Name (Str.ofString "int") _) [_] [] _) _ _ _); refine w_intS (by assumption) ?_) | ((with_reducible show EvN _ _ (Expr.Call (Expr.Name (Str.ofString "len") _) [_] [] _) _ _ _); refine w_lenS (by assumption) ?_) | fail)
theorem ok_number {f : Addr} {fd : FuncData} (F : Fun K "number_of" "number_of" s_number_of f fd) (hm : mg "number_of" = some (.ref f)) (hb : Binds K fd (N_number_of.take 1) []) (m_str : mg "str" = none) (m_int : mg "int" = none) (m_len : mg "len" = none) (m_all : mg "all" = none) (v_MOST : Gv K mg "MOST_DIGITS" (.int 30)) (v_DIG : Gv K mg "DIGITS" (.str "0123456789")) : FnP P w K mg base "number_of" 1 P_number :=
  fnP_det F sc_number_of hm hb (fun _ _ => rfl) fun cdv A outer s H E hr nd b _ => by
    obtain ⟨⟨h1, h2⟩, h3, h4⟩ := wd_facts b
    show Go _ H (_ :: _) _ [.dat (.str (wd b)), .any, .any]
    walk_at "go"
    have e1 : cutS (wd b) none (some 1) ≠ ("-" : Str) := by cases b <;> decide +kernel
    have e2 : ∀ c ∈ (wd b).cps.toList, (!(Builtin.Str.occurrences ("0123456789" : Str) ⟨#[c]⟩ 0 ("0123456789" : Str).length 1).isEmpty) = true := by cases b <;> decide +kernel
    have e3 : (wn b).natAbs.log2 < 1920 := by cases b <;> decide +kernel
    have hl : (wd b).length ≤ 10000 := by omega
    refine w_if (k := false) (d1 := .str (wd b)) (d2 := .str (wd b)) ?_ (fun z => nomatch z) (fun _ => ?_) ?_
    · walk_at "go"
      refine sl_S ?_ hl
      walk_at "go"
      exact decide_eq_false e1
    · walk_at "go"
    show StoreD false _ _ _ (.str (wd b)) _
    walk_at "go"
    refine s_ifF (k := false || false) (EvW.t (evw_orD (k := false) (k' := false) ?_ fun _ => evw_or1 ?_)) rfl ?_
    · refine wt_not ?_
      refine wt_chain (i := 1) (j := ((wd b).length : Int)) (k := 30) op_le op_le (by walk_at "go") ?_ (by walk_at "go") ?_
      · walk_at "go"
        exact ⟨hl, rfl⟩
      · rw [h3]
        decide
    · refine wt_not ?_
      walk_at "go"
      refine lc1 (fun (c : Nat) => D.str ⟨#[c]⟩) (wd b).cps.toList (fun _ => .bl true) (evj_str (fr := false) (by walk_at "go")) (fun c hc s H C cl fp => ?_) ?_ (by rw [Array.length_toList]; show (wd b).length < 100000; omega)
      · walk_at "go"
        refine cmp_inS ?_
        rw [e2 c hc]
      · walk_at "go"
        refine ⟨(wd b).cps.toList.map fun _ => true, by rw [List.map_map]; rfl, true, ?_, rfl⟩
        rw [List.all_eq_true.mpr (fun x m => by obtain ⟨_, _, e⟩ := List.mem_map.mp m; rw [← e]; rfl)]
    refine s_join ?_
    refine s_ret (w_if (k := true) (d1 := .int (wn b)) (d2 := .non) ?_ (fun _ => ?_) (fun z => nomatch z) ?_)
    · walk_at "go"
      refine ⟨_, _, rfl, ⟨h2, h1⟩, ?_⟩
      walk_at "go"
      rw [show Str.ofString (toString (wn b)) = wd b from h4]
      walk_at "go"
      refine ⟨e3, ?_⟩
      walk_at "go"
      simp
    · refine w_intS (by assumption) ?_
      walk_at "go"
      exact ⟨_, _, rfl, ⟨h2, h1⟩, rfl⟩
    · walk_at "go"
      rfl
end
section
variable {P : Program} {w : World} {K : PySem.W.Frag} {mg : Str → Option Value} {base : Heap}
abbrev P_fof : Pr := detP (fun (_ : Unit) => [.str "3/7"]) (fun _ => True) fun _ => .tup [.int 3, .int 7]
theorem c_number {b : Bool} {Q : D → Prop} (q : Q (.int (wn b))) : Cl P_number [.str (wd b)] Q := cl_detP b q trivial
theorem c_ftext {Q : D → Prop} (q : Q (.str "3/7")) : Cl P_ftext [.tup [.int 3, .int 7]] Q := cl_detP () q trivial
theorem c_fof {Q : D → Prop} (q : Q (.tup [.int 3, .int 7])) : Cl P_fof [.str "3/7"] Q := cl_detP () q trivial
theorem ok_fof {f : Addr} {fd : FuncData} (F : Fun K "fraction_of" "fraction_of" s_fraction_of f fd) (hm : mg "fraction_of" = some (.ref f)) (hb : Binds K fd (N_fraction_of.take 1) []) (m_len : mg "len" = none) (G1 : FnP P w K mg base "number_of" 1 P_number) (G2 : FnP P w K mg base "is_fraction" 2 (det R_isfrac)) (G3 : FnP P w K mg base "fraction_text" 1 P_ftext) : FnP P w K mg base "fraction_of" 3 P_fof :=
  fnP_det F sc_fraction_of hm hb (fun _ _ => rfl) fun cdv A outer s H E hr nd _ _ => by
    show Go _ H (_ :: _) _ [.dat (.str "3/7"), .any, .any, .any, .any]
    have e1 : Txt.split ("3/7" : Str) ("/" : Str) = [wd true, wd false] := by decide +kernel
    walk_at "go"
    refine EvN.fresh (w_split ?_)
    walk_at "go"
    refine ⟨⟨by decide +kernel, by decide +kernel⟩, ?_⟩
    rw [e1]
    show StoreD false _ _ _ (.lst [.str (wd true), .str (wd false)]) _
    walk_at "go"
    refine lc1 (fun (b : Bool) => D.str (wd b)) [true, false] (fun b => .int (wn b)) (wj_i (wi_dat (by walk_at "look"))) (fun b hb s H C cl fp => ?_) ?_ (Nat.le_of_ble_eq_true rfl)
    · walk_at "go"
      refine c_number ?_
      walk_at "go"
    show StoreD false _ _ _ (.lst [.int 3, .int 7]) _
    walk_at "go"
    refine s_ifF (k := false || false) (EvW.t (evw_orD (k := false) (k' := false) ?_ fun _ => evw_or1 ?_)) rfl ?_
    · walk_at "go"
      rfl
    · walk_at "go"
      rfl
    refine s_join ?_
    walk_at "go"
    show EvN _ _ _ [.dat (.str "3/7"), _, _, .dat (.tup [.int 3, .int 7]), .any] true _
    refine w_if (k := true) (d1 := .tup [.int 3, .int 7]) (d2 := .non) ?_ (fun _ => ?_) (fun z => nomatch z) ?_
    · refine EvW.t (evw_andD (k := true) (k' := true) ?_ fun _ => evw_and1 ?_)
      · walk_at "go"
        refine cl_det ⟨_, rfl, ask_of (by decide +kernel), rfl⟩ ?_
        walk_at "go"
        rfl
      · walk_at "go"
        refine c_ftext ?_
        walk_at "go"
        simp
    · walk_at "go"
    · walk_at "go"
      rfl
abbrev P_read : Pr := detP (fun (_ : Unit) => [.str "3/7"]) (fun _ => True) fun _ => .tup [.int 3, .int 7]
theorem ok_read {f : Addr} {fd : FuncData} (F : Fun K "read_fraction" "read_fraction" s_read_fraction f fd) (hm : mg "read_fraction" = some (.ref f)) (hb : Binds K fd (N_read_fraction.take 1) []) (m_isinstance : mg "isinstance" = none) (m_str : mg "str" = none) (G1 : FnP P w K mg base "fraction_of" 3 P_fof) : FnP P w K mg base "read_fraction" 4 P_read :=
  fnP_det F sc_read_fraction hm hb (fun _ _ => rfl) fun cdv A outer s H E hr nd _ _ => by
    show Go _ H (_ :: _) _ [.dat (.str "3/7"), .any]
    walk_at "go"
    refine w_if (k := true) (d1 := .tup [.int 3, .int 7]) (d2 := .non) ?_ (fun _ => ?_) (fun z => nomatch z) ?_
    · refine wt_val ?_
      refine w_isI (Ts := "str") (by assumption) (by assumption) ?_
      walk_at "go"
      exact kitd ⟨true, rfl, rfl⟩ (by decide +kernel) rfl
    · walk_at "go"
      refine c_fof ?_
      walk_at "go"
    show StoreD false _ _ _ (.tup [.int 3, .int 7]) _
    walk_at "go"
    refine s_ifF (k := false) ?_ rfl ?_
    · walk_at "go"
      rfl
    walk_at "go"
end

/-! ### saws -/
def r2l (sp st r : Rat) : Int := if sp < r then 0 else ((sp - r) / st).floor + 1
def aft (sp st r : Rat) : Rat := r + st * (r2l sp st r : Rat)
theorem divInt_one (n : Int) : Rat.divInt n 1 = (n : Rat) := by rw [Rat.divInt_eq_div]; grind
theorem sz_nat {q : Rat} {n : Nat} (h : Sz n q) (h0 : 0 ≤ q) : 0 ≤ q.floor ∧ q.floor.natAbs < 2 ^ n := by
  have h1 : 0 ≤ q.num := Rat.num_nonneg.mpr h0
  have h2 := q.den_pos
  rw [Rat.floor_def]
  have h3 := Int.ediv_nonneg h1 (by omega : (0 : Int) ≤ (q.den : Int))
  have h4 : q.num / (q.den : Int) ≤ q.num := Int.ediv_le_self _ h1
  have := h.1
  exact ⟨h3, by omega⟩
theorem sub_nn {a b : Rat} (h : ¬ a < b) : 0 ≤ a - b := by grind
theorem div_nn {a b : Rat} (ha : 0 ≤ a) (hb : 0 < b) : 0 ≤ a / b := by
  rw [Rat.div_def]
  exact Rat.mul_nonneg ha (Rat.le_of_lt (Rat.inv_pos.mpr hb))
theorem r2l_sz {sp st r : Rat} {a b c : Nat} (h1 : Sz a sp) (h2 : Sz b st) (h3 : Sz c r) (h0 : 0 < st) : 0 ≤ r2l sp st r ∧ (r2l sp st r).natAbs < 2 ^ (a + c + 1 + b + 1) := by
  unfold r2l
  split
  · exact ⟨by decide, Nat.two_pow_pos _⟩
  · rename_i h
    have h4 := sz_nat (Sz.div (Sz.sub h1 h3) h2 (Rat.pos_ne h0)) (div_nn (sub_nn h) h0)
    have : (2 : Nat) ^ (a + c + 1 + b + 1) = 2 ^ (a + c + 1 + b) * 2 := Nat.pow_succ ..
    have := Nat.two_pow_pos (a + c + 1 + b)
    omega
theorem r2l_step {sp st r : Rat} (h0 : 0 < st) (h : ¬ sp < r) : r2l sp st r = r2l sp st (r + st) + 1 ∧ aft sp st r = aft sp st (r + st) := by
  have key : r2l sp st r = r2l sp st (r + st) + 1 := by
    unfold r2l
    rw [if_neg h]
    have e : (sp - (r + st)) / st = (sp - r) / st - 1 := by
      rw [Rat.div_def, Rat.div_def]
      have := Rat.mul_inv_cancel st (Rat.pos_ne h0)
      grind
    by_cases h2 : sp < r + st
    · rw [if_pos h2]
      have h3 : 0 ≤ (sp - r) / st := div_nn (sub_nn h) h0
      have h4 : (sp - r) / st < 1 := by
        rw [Rat.div_def]
        have h5 : (sp - r) < st := by grind
        have h6 := Rat.mul_lt_mul_of_pos_right h5 (Rat.inv_pos.mpr h0)
        rwa [Rat.mul_inv_cancel st (Rat.pos_ne h0)] at h6
      have h5 : ((sp - r) / st).floor = 0 := by
        have a1 : (0 : Int) ≤ ((sp - r) / st).floor := Rat.le_floor_iff.mpr h3
        have a2 := Rat.floor_le ((sp - r) / st)
        have a3 : ((((sp - r) / st).floor : Int) : Rat) < ((1 : Int) : Rat) := by grind
        have a4 := Rat.intCast_lt_intCast.mp a3
        omega
      omega
    · rw [if_neg h2, e]
      have : ((sp - r) / st - 1).floor = ((sp - r) / st).floor - 1 := by
        refine Int.le_antisymm ?_ ?_
        · have a1 := Rat.floor_le ((sp - r) / st - 1)
          have a2 : (((sp - r) / st - 1).floor + 1 : Int) ≤ ((sp - r) / st).floor := Rat.le_floor_iff.mpr (by rw [Rat.intCast_add]; grind)
          omega
        · refine Rat.le_floor_iff.mpr ?_
          have a1 := Rat.floor_le ((sp - r) / st)
          rw [Rat.intCast_sub]
          grind
      omega
  refine ⟨key, ?_⟩
  unfold aft
  rw [key, Rat.intCast_add]
  grind
theorem aft_in {sp st r : Rat} (h0 : 0 < st) : (sp < r → aft sp st r = r ∧ r2l sp st r = 0) ∧ (¬ sp < r → sp < aft sp st r ∧ aft sp st r ≤ sp + st) := by
  unfold aft r2l
  refine ⟨fun h => ?_, fun h => ?_⟩
  · rw [if_pos h]
    exact ⟨by grind, rfl⟩
  · rw [if_neg h]
    have h1 := Rat.floor_le ((sp - r) / st)
    have h2 := Rat.lt_floor_add_one ((sp - r) / st)
    have e : st * ((sp - r) / st) = sp - r := by rw [Rat.mul_comm, Rat.div_mul_cancel (Rat.pos_ne h0)]
    have h3 := Rat.mul_lt_mul_of_pos_left h2 h0
    have h4 := Rat.mul_le_mul_of_nonneg_left h1 (Rat.le_of_lt h0)
    rw [e] at h3 h4
    rw [Rat.intCast_add] at h3 ⊢
    generalize (((sp - r) / st).floor : Rat) = F at h3 h4 ⊢
    have e1 : ((1 : Int) : Rat) = 1 := rfl
    rw [e1] at h3 ⊢
    constructor <;> grind
/-- rates at losses -/
def lossR (sp st k r : Rat) : Nat → Rat
  | 0 => aft sp st r
  | i + 1 => aft sp st (k * lossR sp st k r i)
/-- losses: their places and excesses -/
def lossS (sp st k : Rat) : Nat → Int → Rat → List (Int × Rat)
  | 0, _, _ => []
  | n + 1, p, r => (p + r2l sp st r, aft sp st r - sp) :: lossS sp st k n (p + r2l sp st r + 1) (k * aft sp st r)
theorem lossR_shift (sp st k r : Rat) : ∀ i, lossR sp st k r (i + 1) = lossR sp st k (k * aft sp st r) i
  | 0 => rfl
  | i + 1 => by
    show aft sp st (k * lossR sp st k r (i + 1)) = aft sp st (k * lossR sp st k (k * aft sp st r) i)
    rw [lossR_shift sp st k r i]
theorem lossS_snd (sp st k : Rat) : ∀ (n : Nat) (p : Int) (r : Rat), (lossS sp st k n p r).map (·.2) = (List.range n).map fun i => lossR sp st k r i - sp
  | 0, _, _ => rfl
  | n + 1, p, r => by
    show (aft sp st r - sp) :: _ = _
    rw [lossS_snd sp st k n, List.range_succ_eq_map, List.map_cons, List.map_map]
    refine congrArg _ (List.map_congr_left fun i _ => ?_)
    show lossR sp st k (k * aft sp st r) i - sp = lossR sp st k r (i + 1) - sp
    rw [lossR_shift]
theorem lossS_len (sp st k : Rat) : ∀ (n : Nat) (p : Int) (r : Rat), (lossS sp st k n p r).length = n
  | 0, _, _ => rfl
  | n + 1, p, r => congrArg (· + 1) (lossS_len sp st k n _ _)
section
variable {P : Program} {w : World} {K : PySem.W.Frag} {mg : Str → Option Value} {base : Heap}
abbrev dSaw (sp st k : Rat) : D := .tup [dq sp, dq st, dq k]
abbrev P_r2l : Pr := detP (fun (a : (Rat × Rat × Rat) × Rat) => [dSaw a.1.1 a.1.2.1 a.1.2.2, dq a.2]) (fun a => (Sz 300 a.1.1 ∧ Sz 300 a.1.2.1) ∧ Sz 2200 a.2 ∧ 0 < a.1.2.1) fun a => .int (r2l a.1.1 a.1.2.1 a.2)
abbrev P_after : Pr := detP (fun (a : (Rat × Rat × Rat) × Rat × Int) => [dSaw a.1.1 a.1.2.1 a.1.2.2, dq a.2.1, .int a.2.2]) (fun a => Sz 300 a.1.2.1 ∧ Sz 3800 a.2.1 ∧ a.2.2.natAbs < 2 ^ 3500) fun a => dq (a.2.1 + a.1.2.1 * (a.2.2 : Rat))
theorem c_r2l {sp st k r : Rat} {Q : D → Prop} (q : Q (.int (r2l sp st r))) (h : (Sz 300 sp ∧ Sz 300 st) ∧ Sz 2200 r ∧ 0 < st) : Cl P_r2l [dSaw sp st k, dq r] Q := cl_detP ((sp, st, k), r) q h
theorem c_after {sp st k r : Rat} {n : Int} {Q : D → Prop} (q : Q (dq (r + st * (n : Rat)))) (h : Sz 300 st ∧ Sz 3800 r ∧ n.natAbs < 2 ^ 3500) : Cl P_after [dSaw sp st k, dq r, .int n] Q := cl_detP ((sp, st, k), r, n) q h
theorem ok_r2l {f : Addr} {fd : FuncData} (F : Fun K "rounds_to_loss" "rounds_to_loss" s_rounds_to_loss f fd) (hm : mg "rounds_to_loss" = some (.ref f)) (hb : Binds K fd (N_rounds_to_loss.take 2) [])
    (G1 : FnP P w K mg base "is_less" 1 (det R_less)) (G2 : FnP P w K mg base "minus" 3 (det (R_qq (· - ·)))) (G3 : FnP P w K mg base "divided" 3 (det R_div)) (G4 : FnP P w K mg base "floor" 1 (det R_floor)) : FnP P w K mg base "rounds_to_loss" 4 P_r2l :=
  fnP_det F sc_rounds_to_loss hm hb (fun _ _ => rfl) fun cdv A outer s H E hr nd ⟨⟨sp, st, k⟩, r⟩ ⟨⟨hsp, hst⟩, hrz, h0⟩ => by
    simp only at hsp hst hrz h0
    have hne := Rat.pos_ne h0
    show Go _ H (_ :: _) _ [.dat (dSaw sp st k), .dat (dq r)]
    have s1 : Sz 2501 (sp - r) := Sz.sub hsp hrz
    have s2 : Sz 2801 ((sp - r) / st) := Sz.div s1 hst hne
    refine s_if (by walk_at "go") (fun hk => ?_) (fun hk => ?_)
    · walk_at "go"
      show D.int 0 = .int (r2l sp st r)
      unfold r2l
      rw [if_pos (of_decide_eq_true hk)]
    · walk_at "go"
      show _ = D.int (r2l sp st r)
      unfold r2l
      rw [if_neg (of_decide_eq_false hk)]
theorem ok_after {f : Addr} {fd : FuncData} (F : Fun K "after" "after" s_after f fd) (hm : mg "after" = some (.ref f)) (hb : Binds K fd (N_after.take 3) [])
    (G1 : FnP P w K mg base "plus" 3 (det (R_qq (· + ·)))) (G2 : FnP P w K mg base "times" 3 (det (R_qq (· * ·)))) (G3 : FnP P w K mg base "reduced" 2 (det R_reduced)) : FnP P w K mg base "after" 4 P_after :=
  fnP_det F sc_after hm hb (fun _ _ => rfl) fun cdv A outer s H E hr nd ⟨⟨sp, st, k⟩, r, n⟩ ⟨hst, hrz, hn⟩ => by
    simp only at hst hrz hn
    show Go _ H (_ :: _) _ [.dat (dSaw sp st k), .dat (dq r), .dat (.int n)]
    have s1 : Sz 3500 (n : Rat) := sz_int hn (by decide)
    have h1 : (1 : Int) ≠ 0 ∧ (1 : Int).natAbs < 2 ^ 8000 := ⟨by decide, bits8000 (by decide)⟩
    have e1 : Rat.divInt n 1 = (n : Rat) := divInt_one n
    have s2 : Sz 3500 (Rat.divInt n 1) := by rw [e1]; exact s1
    have s3 : Sz 3800 (st * Rat.divInt n 1) := Sz.mul hst s2
    walk_at "go"
    rw [e1]
/-- what near_loss asks -/
structure NearOk (sp st k r : Rat) (N : Nat) : Prop where
  st0 : 0 < st
  spz : Sz 100 sp
  stz : Sz 100 st
  kz : Sz 100 k
  rz : Sz 2000 r
  top : ¬ (sp + st < lossR sp st k r N)
  below : ∀ i, i < N → sp + st < lossR sp st k r i
  sz : ∀ i, i ≤ N → Sz 2000 (lossR sp st k r i)
end

/-! ### saws -/
theorem dq_lit (q : Rat) {a b : Int} (h1 : q.num = a) (h2 : (q.den : Int) = b) : D.tup [.int a, .int b] = dq q := by unfold dq; rw [h1, h2]
/-- a drawn fraction above 0 -/
def FracB (most : Int) (q : Rat) : Prop := 0 < q ∧ q ≤ (most : Rat) ∧ Sz 60 q
theorem q_div_pos {a b : Rat} (h : 0 < a) (hb : 0 < b) : 0 < a / b := by
  rw [Rat.div_def]
  exact (Rat.mul_pos_iff_of_pos_left h).mpr (Rat.inv_pos.mpr hb)
theorem q_div_le {a b c : Rat} (hb : 0 < b) (h : a ≤ c * b) : a / b ≤ c := by
  have h1 : a / b * b = a := Rat.div_mul_cancel (fun z => by rw [z] at hb; exact absurd hb (by decide +kernel))
  refine Rat.not_lt.mp fun z => ?_
  have h2 : c * b < a / b * b := (Rat.mul_lt_mul_right hb).mpr z
  rw [h1] at h2
  exact Rat.not_lt.mpr h h2
theorem divInt_pos {t b : Int} (ht : 0 < t) (hb : 0 < b) : 0 < Rat.divInt t b := by
  rw [Rat.divInt_eq_div]
  exact q_div_pos (by exact_mod_cast ht) (by exact_mod_cast hb)
theorem divInt_le {t b m : Int} (hb : 0 < b) (h : t ≤ m * b) : Rat.divInt t b ≤ (m : Rat) := by
  rw [Rat.divInt_eq_div]
  exact q_div_le (by exact_mod_cast hb) (by exact_mod_cast h)
section
variable {P : Program} {w : World} {K : PySem.W.Frag} {mg : Str → Option Value} {base : Heap}
def P_frac : Pr := fun ds S => ∃ (most : Int) (bs : List Int), ds = [dDraw, .int most, .lst (bs.map .int)] ∧ 0 < most ∧ most ≤ 1000000 ∧ 0 < bs.length ∧ bs.length < 1000 ∧ (∀ b ∈ bs, 0 < b ∧ b ≤ 1000000) ∧ S = fun z => ∃ q, z = dq q ∧ FracB most q
end

/-! ### is it a saw -/
def posD : D → Bool
  | .tup (.int a :: _) => decide (0 < a)
  | _ => false
def lowD : D → Bool
  | .tup [.int a, .int b] => decide (a < b)
  | _ => false
def isSaw : D → Bool
  | .tup [x, y, z] => isFrac x && isFrac y && isFrac z && (posD x && (posD y && (posD z && lowD z)))
  | _ => false
def AskS (d : D) : Prop := d.ok = true ∧ ∀ xs, d = .tup xs → xs.length ≤ 1000 ∧ ∀ x ∈ xs, AskF x
theorem isFrac_form {d : D} (h : isFrac d = true) : ∃ a b, d = .tup [.int a, .int b] ∧ 1 ≤ b ∧ (Int.gcd a b : Int) = 1 := by
  unfold isFrac at h
  split at h
  · rename_i a b
    obtain ⟨h1, h2⟩ := Bool.and_eq_true_iff.mp h
    exact ⟨a, b, rfl, of_decide_eq_true h1, of_decide_eq_true h2⟩
  · cases h
theorem low_dq {a b : Int} (hb : 1 ≤ b) (hg : (Int.gcd a b : Int) = 1) : D.tup [.int a, .int b] = dq (Rat.divInt a b) := by
  have hg' : Int.gcd a b = 1 := by omega
  refine dq_lit _ ?_ ?_
  · rw [Rat.num_divInt, Int.sign_eq_one_of_pos (by omega), Int.gcd_comm, hg', Int.one_mul]
    simp
  · rw [Rat.den_divInt, if_neg (by omega), Int.gcd_comm, hg', Nat.div_one]
    omega
theorem saw_len {xs : List D} (h : xs.length ≠ 3) : isSaw (.tup xs) = false := by
  unfold isSaw
  split <;> first | rfl | (rename_i e; cases e; exact absurd rfl h)
section
variable {P : Program} {w : World} {K : PySem.W.Frag} {mg : Str → Option Value} {base : Heap}
def R_above : List D → D → Prop := fun ds z => ∃ d : D, ds = [d] ∧ AskF d ∧ z = .bl (isFrac d && posD d)
def R_issaw : List D → D → Prop := fun ds z => ∃ d : D, ds = [d] ∧ AskS d ∧ z = .bl (isSaw d)
theorem ok_above {f : Addr} {fd : FuncData} (F : Fun K "is_above" "is_above" s_is_above f fd) (hm : mg "is_above" = some (.ref f)) (hb : Binds K fd (N_is_above.take 1) []) (G : FnP P w K mg base "is_fraction" 2 (det R_isfrac)) : FnP P w K mg base "is_above" 3 (det R_above) := by
  refine fnP_of (N := N_is_above) F sc_is_above hm hb (fun ds S h => ?_) (fun cdv A outer s H E hr ds S h => ?_)
  · obtain ⟨_, ⟨d, e, _⟩, _⟩ := h
    rw [e]; rfl
  · obtain ⟨_, ⟨d, e1, ha, e2⟩, e3⟩ := h
    subst e1 e2 e3
    show Go _ H _ _ [.dat d]
    refine go_ret (ev_andD (ev_call G hr (eva_cons (ev_dat 0) eva_nil) ⟨d, rfl, ha, rfl⟩) fun hk => ev_one ?_) (.inl rfl) fun v H' h => ⟨_, rfl, h⟩
    obtain ⟨a, b, rfl, _⟩ := isFrac_form hk
    exact ev_gt (ev_ixT (ev_dat 0) ev_int rfl) ev_int
theorem ok_issaw {f : Addr} {fd : FuncData} (F : Fun K "is_saw" "is_saw" s_is_saw f fd) (hm : mg "is_saw" = some (.ref f)) (hb : Binds K fd (N_is_saw.take 1) []) (m_isinstance : mg "isinstance" = none) (m_tuple : mg "tuple" = none) (m_len : mg "len" = none) (m_all : mg "all" = none) (vOne : Gv K mg "ONE" (.tup [.int 1, .int 1])) (G : FnP P w K mg base "is_fraction" 2 (det R_isfrac)) (Ga : FnP P w K mg base "is_above" 3 (det R_above)) (Gl : FnP P w K mg base "is_less" 1 (det R_less)) : FnP P w K mg base "is_saw" 4 (det R_issaw) := by
  refine fnP_of (N := N_is_saw) F sc_is_saw hm hb (fun ds S h => ?_) (fun cdv A outer s H E hr ds S h => ?_)
  · obtain ⟨_, ⟨d, e, _⟩, _⟩ := h
    rw [e]; rfl
  · obtain ⟨_, ⟨d, e1, ⟨ho, htl⟩, e2⟩, e3⟩ := h
    subst e1 e2 e3
    show Go _ H _ _ [.dat d, .any]
    cases htd : isTupD d with
    | false =>
      refine go_ifN (S := (· = true)) (EvW.t (evw_or (S1 := (· = true)) ((evt_notD (evt_valD (ev_isI (d := d) (Ts := "tuple") (k := isTupD d) m_isinstance m_tuple (ev_dat 0) ho (kit_tup ho)))).imp fun k e => by rw [e, htd]; rfl) (fun z => nomatch z) fun _ => rfl)) (fun _ => ?_) (fun hk => by cases hk)
      refine go_ret ev_bl (.inl rfl) fun v H' h => ⟨_, ?_, h⟩
      cases d <;> first | rfl | cases htd
    | true =>
      obtain ⟨xs, rfl⟩ := tup_cases htd
      obtain ⟨hl, hx⟩ := htl xs rfl
      refine go_if (EvW.t (evw_orD (evt_notD (evt_valD (ev_isI (d := .tup xs) (Ts := "tuple") (k := true) m_isinstance m_tuple (ev_dat 0) ho kit_tt))) fun _ => evw_orD (evt_neI (ev_len m_len (eva_cons (ev_dat 0) eva_nil) (.inr rfl)) ev_int) fun _ => evw_or1 (evt_notD (evt_valD (ev_all (ns := xs.map isFrac) rfl m_all (eva_cons ((LcEv.ev (lcJ (fr := true) (own := [("part", 1)]) (.nm 1) id (fun a z => z = .bl (isFrac a)) xs (fun a => [.dat (.tup xs), .dat a]) (evj_t (by rw [List.map_id]; exact evit_dat 0)) (fun a _ => ⟨.inr rfl, rfl⟩) (fun a ha s0 H0 C cl fp => ev_call G hr (eva_cons (ev_dat 1) eva_nil) ⟨a, rfl, hx a ha, rfl⟩) (fun _ _ e => by rw [e]; rfl) (by omega) rfl sc_is_saw.nd
          (blkOk_by (own := [("part", 1)]) (N := N_is_saw) (sc := defScope s_is_saw) (by decide +kernel)) (fun i m => m) (fun _ _ _ _ _ => pg_name (i := 1) sc_is_saw.nd rfl (Or.inl rfl)))).imp ?_) eva_nil)))))) (fun hk => ?_) (fun hk => go_join ?_)
      · rintro z ⟨ys, rfl, hp⟩
        rw [paired_det hp, List.map_map]
        rfl
      · refine go_ret ev_bl (.inl rfl) fun v H' h => ⟨_, ?_, h⟩
        by_cases h3 : xs.length = 3
        · match xs, h3 with
          | [x, y, z], _ =>
            have : (isFrac x && isFrac y && isFrac z) = false := by cases h1 : isFrac x <;> cases h2 : isFrac y <;> cases h4 : isFrac z <;> simp [h1, h2, h4] at hk ⊢
            show D.bl false = D.bl (isFrac x && isFrac y && isFrac z && _)
            rw [this]; rfl
        · rw [saw_len h3]
      · have h3 : xs.length = 3 := by
          by_cases h3 : xs.length = 3
          · exact h3
          · rw [decide_eq_false (by omega)] at hk; cases hk
        match xs, h3, hl, hx, ho, htd, htl, hk with
        | [x, y, z], _, hl, hx, ho, htd, htl, hk =>
          obtain ⟨fx, fy, fz⟩ : isFrac x = true ∧ isFrac y = true ∧ isFrac z = true := by simpa using hk
          obtain ⟨a, b, rfl, hb1, hg⟩ := isFrac_form fz
          have zb := (hx _ (by simp : D.tup [.int a, .int b] ∈ [x, y, D.tup [.int a, .int b]])).2 _ rfl
          have ab := (zb.2 (.int a) (by simp)).2 a rfl
          have bb := (zb.2 (.int b) (by simp)).2 b rfl
          have e3 := low_dq hb1 hg
          have o3 : D.tup [.int 1, .int 1] = dq 1 := rfl
          refine go_ret (d := .bl (isSaw (.tup [x, y, .tup [.int a, .int b]]))) ((ev_andD (k' := (isFrac y && posD y) && ((isFrac (.tup [.int a, .int b]) && posD (.tup [.int a, .int b])) && lowD (.tup [.int a, .int b]))) (ev_call Ga hr (eva_cons (ev_ixT (ev_dat 0) ev_int rfl) eva_nil) ⟨x, rfl, hx x (by simp), rfl⟩) fun _ => ev_andD (k' := (isFrac (.tup [.int a, .int b]) && posD (.tup [.int a, .int b])) && lowD (.tup [.int a, .int b])) (ev_call Ga hr (eva_cons (ev_ixT (ev_dat 0) ev_int rfl) eva_nil) ⟨y, rfl, hx y (by simp), rfl⟩) fun _ =>
            ev_andD (k' := lowD (.tup [.int a, .int b])) (ev_call Ga hr (eva_cons (ev_ixT (ev_dat 0) ev_int rfl) eva_nil) ⟨_, rfl, hx _ (by simp), rfl⟩) fun _ => ev_one ((ev_call Gl hr (eva_cons (ev_ixT (ev_dat 0) ev_int rfl) (eva_cons (ev_gv vOne) eva_nil)) ⟨Rat.divInt a b, 1, by rw [e3, o3], (sz_divInt ab bb (by omega)).mono (by decide), sz_int (i := 1) (by decide +kernel) (by decide), rfl⟩).imp fun w e => ?_)).imp fun w e => ?_) (.inl rfl) fun v H' h => ⟨_, rfl, h⟩
          · rw [e]
            show D.bl _ = D.bl (decide (a < b))
            have n1 : (Rat.divInt a b).num = a := by have h := e3; unfold dq at h; injection h with h; injection h with h _; injection h with h; exact h.symm
            have n2 : ((Rat.divInt a b).den : Int) = b := by have h := e3; unfold dq at h; injection h with h; injection h with _ h; injection h with h _; injection h with h; exact h.symm
            congr 1
            rw [decide_eq_decide, Rat.lt_iff, n1, n2]
            show a * ((1 : Nat) : Int) < 1 * b ↔ a < b
            omega
          · rw [e]
            show D.bl _ = D.bl (isFrac x && isFrac y && isFrac (.tup [.int a, .int b]) && _)
            rw [fx, fy, fz]
            rfl
end

/-! ### walks -/
/-- a rate whose bottom divides E -/
def On (E : Nat) (q : Rat) : Prop := ∃ z : Int, q * ((E : Int) : Rat) = (z : Rat)
theorem On.add {E : Nat} {p q : Rat} (hp : On E p) (hq : On E q) : On E (p + q) := by
  obtain ⟨a, ha⟩ := hp
  obtain ⟨b, hb⟩ := hq
  exact ⟨a + b, by rw [Rat.intCast_add, ← ha, ← hb]; grind⟩
theorem On.int {E : Nat} {q : Rat} (h : On E q) (n : Int) : On E (q * (n : Rat)) := by
  obtain ⟨a, ha⟩ := h
  exact ⟨a * n, by rw [Rat.intCast_mul, ← ha]; grind⟩
theorem num_den (q : Rat) : q * ((q.den : Int) : Rat) = (q.num : Rat) := by
  have h := rat_self q
  rw [Rat.divInt_eq_div] at h
  have hd : ((q.den : Int) : Rat) ≠ 0 := Rat.pos_ne (Rat.intCast_pos.mpr (by have := q.den_pos; omega))
  have h2 : (q.num : Rat) / ((q.den : Int) : Rat) * ((q.den : Int) : Rat) = (q.num : Rat) := Rat.div_mul_cancel hd
  rw [← h] at h2
  exact h2
theorem On.k {E : Nat} {q : Rat} (k : Rat) (h : On E q) : On (E * k.den) (k * q) := by
  obtain ⟨a, ha⟩ := h
  refine ⟨k.num * a, ?_⟩
  rw [Rat.intCast_mul, ← ha, ← num_den k, Int.natCast_mul, Rat.intCast_mul]
  grind
theorem On.up {E : Nat} {q : Rat} (n : Nat) (h : On E q) : On (E * n) q := by
  obtain ⟨a, ha⟩ := h
  refine ⟨a * n, ?_⟩
  rw [Rat.intCast_mul, ← ha, Int.natCast_mul, Rat.intCast_mul]
  grind
theorem On.self (q : Rat) (n : Nat) : On (q.den * n) q := On.up n ⟨q.num, num_den q⟩
theorem On.self' (q : Rat) (n : Nat) : On (n * q.den) q := by rw [Nat.mul_comm]; exact On.self q n
theorem On.dvd {E : Nat} {q : Rat} (h : On E q) : q.den ∣ E := by
  obtain ⟨z, hz⟩ := h
  have h1 : ((q.num * (E : Int) : Int) : Rat) = ((z * (q.den : Int) : Int) : Rat) := by
    rw [Rat.intCast_mul, Rat.intCast_mul, ← hz, ← num_den q]
    grind
  have h2 : q.num * (E : Int) = z * (q.den : Int) := Rat.intCast_inj.mp h1
  have h3 : (q.den : Nat) ∣ q.num.natAbs * E := by
    have := congrArg Int.natAbs h2
    rw [Int.natAbs_mul, Int.natAbs_mul, Int.natAbs_natCast, Int.natAbs_natCast] at this
    exact ⟨z.natAbs, by rw [this, Nat.mul_comm]⟩
  exact Nat.Coprime.dvd_of_dvd_mul_left q.reduced.symm h3
theorem On.sz {E e m : Nat} {q : Rat} (h : On E q) (h0 : 0 ≤ q) (hB : q ≤ (((2 ^ m : Nat) : Int) : Rat)) (hE0 : 0 < E) (hE : E < 2 ^ e) : Sz (e + m) q := by
  have hd := Nat.le_of_dvd hE0 h.dvd
  have hm := Nat.two_pow_pos m
  refine ⟨?_, ?_⟩
  · rw [Rat.le_iff, Rat.num_intCast, Rat.den_intCast] at hB
    have h1 : q.num * 1 ≤ ((2 ^ m : Nat) : Int) * (q.den : Int) := hB
    have h2 : 0 ≤ q.num := Rat.num_nonneg.mpr h0
    have h3 : q.num.natAbs ≤ 2 ^ m * q.den := by
      have : ((q.num.natAbs : Nat) : Int) ≤ ((2 ^ m * q.den : Nat) : Int) := by rw [Int.natCast_mul]; omega
      omega
    have h4 : 2 ^ m * q.den < 2 ^ m * 2 ^ e := Nat.mul_lt_mul_of_pos_left (by omega) hm
    rw [Nat.pow_add, Nat.mul_comm (2 ^ e)]
    exact Nat.lt_of_le_of_lt h3 h4
  · have h4 : 2 ^ e * 1 ≤ 2 ^ e * 2 ^ m := Nat.mul_le_mul_left _ hm
    rw [Nat.pow_add]
    omega
def nextR (sp st k r : Rat) : Rat := if sp < r then k * r else r + st
def walkAt (sp st k : Rat) : Nat → Rat → Rat
  | 0, r => r
  | n + 1, r => walkAt sp st k n (nextR sp st k r)
def cntAt (sp st k : Rat) : Nat → Rat → Nat
  | 0, _ => 0
  | n + 1, r => (if sp < r then 1 else 0) + cntAt sp st k n (nextR sp st k r)
theorem walkAt_succ (sp st k : Rat) : ∀ (n : Nat) (r : Rat), walkAt sp st k (n + 1) r = nextR sp st k (walkAt sp st k n r)
  | 0, _ => rfl
  | n + 1, r => walkAt_succ sp st k n (nextR sp st k r)
def walkL (sp st k : Rat) (n : Nat) (r : Rat) : List Rat := (List.range n).map fun i => walkAt sp st k i r
theorem walkL_succ (sp st k : Rat) (n : Nat) (r : Rat) : walkL sp st k (n + 1) r = walkL sp st k n r ++ [walkAt sp st k n r] := by
  unfold walkL
  rw [List.range_succ, List.map_append]
  rfl
theorem walkL_cons (sp st k : Rat) (n : Nat) (r : Rat) : walkL sp st k (n + 1) r = r :: walkL sp st k n (nextR sp st k r) := by
  unfold walkL
  rw [List.range_succ_eq_map, List.map_cons, List.map_map]
  rfl
theorem walkL_len (sp st k : Rat) (n : Nat) (r : Rat) : (walkL sp st k n r).length = n := by
  unfold walkL
  rw [List.length_map, List.length_range]
/-- many rounds without a loss -/
theorem walk_far {sp st k : Rat} (h0 : 0 < st) : ∀ (n : Nat) (r : Rat), (n : Int) ≤ r2l sp st r → walkAt sp st k n r = r + st * ((n : Int) : Rat) ∧ cntAt sp st k n r = 0
  | 0, r, _ => ⟨by show r = r + st * 0; grind, rfl⟩
  | n + 1, r, h => by
    have hc : ¬ sp < r := fun hc => by
      have := ((aft_in (r := r) h0).1 hc).2
      omega
    have e : nextR sp st k r = r + st := if_neg hc
    have h1 := (r2l_step h0 hc).1
    obtain ⟨a, b⟩ := walk_far (sp := sp) (k := k) h0 n (r + st) (by omega)
    refine ⟨?_, ?_⟩
    · show walkAt sp st k n (nextR sp st k r) = _
      rw [e, a, Int.natCast_succ, Rat.intCast_add]
      have : ((1 : Int) : Rat) = 1 := rfl
      grind
    · show (if sp < r then 1 else 0) + cntAt sp st k n (nextR sp st k r) = 0
      rw [if_neg hc, e, b]
/-- past the next loss -/
theorem walk_past {sp st k : Rat} (h0 : 0 < st) : ∀ (m : Nat) (r : Rat), r2l sp st r = m → ∀ j, walkAt sp st k (m + 1 + j) r = walkAt sp st k j (k * aft sp st r) ∧ cntAt sp st k (m + 1 + j) r = 1 + cntAt sp st k j (k * aft sp st r)
  | 0, r, h, j => by
    have hc : sp < r := by
      rcases Classical.em (sp < r) with z | z
      · exact z
      · have h1 := (r2l_step h0 z).1
        have : 0 ≤ r2l sp st (r + st) := by
          unfold r2l
          split
          · exact Int.le_refl _
          · rename_i h
            have := Rat.le_floor_iff.mpr (div_nn (sub_nn h) h0 : ((0 : Int) : Rat) ≤ (sp - (r + st)) / st)
            omega
        omega
    have e : nextR sp st k r = k * r := if_pos hc
    rw [((aft_in (r := r) h0).1 hc).1, show 0 + 1 + j = j + 1 from by omega]
    refine ⟨?_, ?_⟩
    · show walkAt sp st k j (nextR sp st k r) = _
      rw [e]
    · show (if sp < r then 1 else 0) + cntAt sp st k j (nextR sp st k r) = _
      rw [if_pos hc, e]
  | m + 1, r, h, j => by
    have hc : ¬ sp < r := fun hc => by
      have := ((aft_in (r := r) h0).1 hc).2
      omega
    have e : nextR sp st k r = r + st := if_neg hc
    obtain ⟨h1, h2⟩ := r2l_step h0 hc
    obtain ⟨a, b⟩ := walk_past (sp := sp) (k := k) h0 m (r + st) (by omega) j
    rw [show m + 1 + 1 + j = (m + 1 + j) + 1 from by omega, h2]
    refine ⟨?_, ?_⟩
    · show walkAt sp st k (m + 1 + j) (nextR sp st k r) = _
      rw [e, a]
    · show (if sp < r then 1 else 0) + cntAt sp st k (m + 1 + j) (nextR sp st k r) = _
      rw [if_neg hc, e, b, Nat.zero_add]
/-- the law's losses, read from a walk -/
def lossW (sp : Rat) : Int → List Rat → List (Int × Rat)
  | _, [] => []
  | p, x :: xs => if sp < x then (p, x - sp) :: lossW sp (p + 1) xs else lossW sp (p + 1) xs
theorem lossW_walk {sp st k : Rat} (h0 : 0 < st) : ∀ (n : Nat) (p : Int) (r : Rat), lossW sp p (walkL sp st k n r) = lossS sp st k (lossW sp p (walkL sp st k n r)).length p r
  | 0, _, _ => rfl
  | n + 1, p, r => by
    rw [walkL_cons]
    by_cases hc : sp < r
    · have e : nextR sp st k r = k * r := if_pos hc
      obtain ⟨e1, e2⟩ := (aft_in (r := r) h0).1 hc
      have ih := lossW_walk (sp := sp) (k := k) h0 n (p + 1) (k * r)
      rw [e]
      show (if sp < r then (p, r - sp) :: lossW sp (p + 1) (walkL sp st k n (k * r)) else _) = lossS sp st k (if sp < r then (p, r - sp) :: lossW sp (p + 1) (walkL sp st k n (k * r)) else _).length p r
      rw [if_pos hc]
      generalize lossW sp (p + 1) (walkL sp st k n (k * r)) = l at ih ⊢
      show _ = (p + r2l sp st r, aft sp st r - sp) :: lossS sp st k l.length (p + r2l sp st r + 1) (k * aft sp st r)
      rw [e1, e2, Int.add_zero, ← ih]
    · have e : nextR sp st k r = r + st := if_neg hc
      obtain ⟨e1, e2⟩ := r2l_step h0 hc
      have ih := lossW_walk (sp := sp) (k := k) h0 n (p + 1) (r + st)
      rw [e]
      show (if sp < r then (p, r - sp) :: lossW sp (p + 1) (walkL sp st k n (r + st)) else lossW sp (p + 1) (walkL sp st k n (r + st))) = lossS sp st k (if sp < r then (p, r - sp) :: lossW sp (p + 1) (walkL sp st k n (r + st)) else lossW sp (p + 1) (walkL sp st k n (r + st))).length p r
      rw [if_neg hc]
      generalize lossW sp (p + 1) (walkL sp st k n (r + st)) = l at ih ⊢
      rw [ih]
      generalize l.length = m
      cases m with
      | zero => rfl
      | succ m =>
        rw [lossS_len]
        show (p + 1 + r2l sp st (r + st), aft sp st (r + st) - sp) :: lossS sp st k m (p + 1 + r2l sp st (r + st) + 1) (k * aft sp st (r + st)) = (p + r2l sp st r, aft sp st r - sp) :: lossS sp st k m (p + r2l sp st r + 1) (k * aft sp st r)
        rw [e1, ← e2, show p + (r2l sp st (r + st) + 1) = p + 1 + r2l sp st (r + st) from by omega]
theorem lossS_take (sp st k : Rat) : ∀ (n m : Nat) (p : Int) (r : Rat), m ≤ n → (lossS sp st k n p r).take m = lossS sp st k m p r
  | _, 0, _, _, _ => by rw [List.take_zero]; rfl
  | 0, m + 1, _, _, h => absurd h (by omega)
  | n + 1, m + 1, p, r, h => by
    show ((p + r2l sp st r, aft sp st r - sp) :: lossS sp st k n (p + r2l sp st r + 1) (k * aft sp st r)).take (m + 1) = (p + r2l sp st r, aft sp st r - sp) :: lossS sp st k m (p + r2l sp st r + 1) (k * aft sp st r)
    rw [List.take_succ_cons, lossS_take sp st k n m _ _ (by omega)]
/-- the rate, and the place, behind so many losses -/
def rateB (sp st k r : Rat) : Nat → Rat
  | 0 => r
  | i + 1 => k * aft sp st (rateB sp st k r i)
def placeB (sp st k r : Rat) (p : Int) : Nat → Int
  | 0 => p
  | i + 1 => placeB sp st k r p i + r2l sp st (rateB sp st k r i) + 1
theorem rateB_shift (sp st k r : Rat) : ∀ i, rateB sp st k r (i + 1) = rateB sp st k (k * aft sp st r) i
  | 0 => rfl
  | i + 1 => by
    show k * aft sp st (rateB sp st k r (i + 1)) = k * aft sp st (rateB sp st k (k * aft sp st r) i)
    rw [rateB_shift sp st k r i]
theorem placeB_shift (sp st k r : Rat) (p : Int) : ∀ i, placeB sp st k r p (i + 1) = placeB sp st k (k * aft sp st r) (p + r2l sp st r + 1) i
  | 0 => rfl
  | i + 1 => by
    show placeB sp st k r p (i + 1) + r2l sp st (rateB sp st k r (i + 1)) + 1 = placeB sp st k (k * aft sp st r) (p + r2l sp st r + 1) i + r2l sp st (rateB sp st k (k * aft sp st r) i) + 1
    rw [placeB_shift sp st k r p i, rateB_shift]
theorem lossS_succ (sp st k : Rat) : ∀ (n : Nat) (p : Int) (r : Rat), lossS sp st k (n + 1) p r = lossS sp st k n p r ++ [(placeB sp st k r p n + r2l sp st (rateB sp st k r n), aft sp st (rateB sp st k r n) - sp)]
  | 0, _, _ => rfl
  | n + 1, p, r => by
    show (p + r2l sp st r, aft sp st r - sp) :: lossS sp st k (n + 1) (p + r2l sp st r + 1) (k * aft sp st r) = _
    rw [lossS_succ sp st k n, rateB_shift, placeB_shift]
    rfl
/-- gaps between losses -/
def gapL (l : List (Int × Rat)) : List Int := (l.zip (l.drop 1)).map fun p => p.2.1 - p.1.1 - 1
theorem zip_take {α β : Type} : ∀ (n : Nat) (l : List α) (m : List β), (l.zip m).take n = (l.take n).zip (m.take n)
  | 0, _, _ => by simp
  | n + 1, [], _ => by simp
  | n + 1, _ :: _, [] => by simp
  | n + 1, a :: l, b :: m => by
    simp only [List.zip_cons_cons, List.take_succ_cons]
    rw [zip_take n l m]
theorem zip_left {α β : Type} : ∀ (l : List α) (m : List β) (n : Nat), m.length ≤ n → (l.take n).zip m = l.zip m
  | [], _, n, _ => by rw [List.take_nil]
  | _ :: _, [], _, _ => by rw [List.zip_nil_right, List.zip_nil_right]
  | a :: l, b :: m, 0, h => absurd h (by simp)
  | a :: l, b :: m, n + 1, h => by
    rw [List.take_succ_cons, List.zip_cons_cons, List.zip_cons_cons, zip_left l m n (by simp at h; omega)]
theorem gapL_take (l : List (Int × Rat)) (n : Nat) : gapL (l.take (n + 1)) = (gapL l).take n := by
  unfold gapL
  rw [← List.map_take, zip_take, show (l.take (n + 1)).drop 1 = (l.drop 1).take n from by rw [List.drop_take]; rfl]
  congr 1
  have e : l.take n = (l.take (n + 1)).take n := by rw [List.take_take, Nat.min_eq_left (Nat.le_succ n)]
  rw [e, zip_left _ _ n (by rw [List.length_take]; omega)]
theorem gapL_len (l : List (Int × Rat)) : (gapL l).length = l.length - 1 := by
  unfold gapL
  rw [List.length_map, List.length_zip, List.length_drop]
  omega
/-- what a walk asks -/
structure Walks (sp st k r : Rat) (E n : Nat) : Prop where
  spos : 0 < st
  pos : 0 < sp
  kpos : 0 < k
  klt : k < 1
  nn : 0 ≤ r
  top : r ≤ (((2 ^ 60 : Nat) : Int) : Rat)
  top2 : sp + st ≤ (((2 ^ 60 : Nat) : Int) : Rat)
  onr : On E r
  ons : On E st
  e0 : 0 < E
  small : E * k.den ^ n < 2 ^ 1500
  spz : Sz 300 sp
  stz : Sz 300 st
  kz : Sz 300 k
theorem Walks.esmall {sp st k r : Rat} {E n : Nat} (h : Walks sp st k r E n) : E < 2 ^ 1500 :=
  Nat.lt_of_le_of_lt (Nat.le_trans (Nat.le_of_eq (Nat.mul_one E).symm) (Nat.mul_le_mul_left E (Nat.pow_pos k.den_pos))) h.small
theorem Walks.rz {sp st k r : Rat} {E n : Nat} (h : Walks sp st k r E n) : Sz 1560 r := h.onr.sz h.nn h.top h.e0 h.esmall
theorem Walks.mono {sp st k r : Rat} {E n m : Nat} (h : Walks sp st k r E n) (hm : m ≤ n) : Walks sp st k r E m :=
  { h with small := Nat.lt_of_le_of_lt (Nat.mul_le_mul_left E (Nat.pow_le_pow_right k.den_pos hm)) h.small }
theorem Walks.kr {sp st k r : Rat} {E n : Nat} (h : Walks sp st k r E (n + 1)) : Walks sp st k (k * r) (E * k.den) n :=
  { h with
    nn := Rat.mul_nonneg (Rat.le_of_lt h.kpos) h.nn
    top := by
      have := Rat.mul_le_mul_of_nonneg_right (Rat.le_of_lt h.klt) h.nn
      rw [Rat.one_mul] at this
      exact Rat.le_trans this h.top
    onr := h.onr.k k
    ons := h.ons.up _
    e0 := Nat.mul_pos h.e0 k.den_pos
    small := by have := h.small; rw [Nat.pow_succ, Nat.mul_comm (k.den ^ n), ← Nat.mul_assoc] at this; exact this }
theorem Walks.step {sp st k r : Rat} {E n : Nat} (h : Walks sp st k r E n) (hc : ¬ sp < r) : Walks sp st k (r + st) E n :=
  { h with
    nn := by have := h.nn; have := h.spos; grind
    top := Rat.le_trans (by grind) h.top2
    onr := h.onr.add h.ons }
theorem Walks.aft {sp st k r : Rat} {E n : Nat} (h : Walks sp st k r E n) : Walks sp st k (aft sp st r) E n := by
  obtain ⟨a, b⟩ := aft_in (sp := sp) (r := r) h.spos
  by_cases hc : sp < r
  · rw [(a hc).1]; exact h
  · obtain ⟨b1, b2⟩ := b hc
    exact { h with
      nn := by have := h.pos; grind
      top := Rat.le_trans b2 h.top2
      onr := h.onr.add (h.ons.int _) }
theorem Walks.next {sp st k r : Rat} {E n : Nat} (h : Walks sp st k r E (n + 1)) : ∃ E', Walks sp st k (nextR sp st k r) E' n := by
  by_cases hc : sp < r
  · rw [show nextR sp st k r = k * r from if_pos hc]; exact ⟨_, h.kr⟩
  · rw [show nextR sp st k r = r + st from if_neg hc]; exact ⟨_, (h.step hc).mono (Nat.le_succ n)⟩
theorem Walks.at {sp st k : Rat} : ∀ {i n E : Nat} {r : Rat}, Walks sp st k r E n → i ≤ n → ∃ E', Walks sp st k (walkAt sp st k i r) E' (n - i)
  | 0, _, _, _, h, _ => ⟨_, h⟩
  | i + 1, 0, _, _, _, z => absurd z (by omega)
  | i + 1, n + 1, _, _, h, z => by
    obtain ⟨E', h'⟩ := h.next
    rw [Nat.add_sub_add_right]
    exact Walks.at h' (by omega)
theorem Walks.behind {sp st k : Rat} : ∀ {i n E : Nat} {r : Rat}, Walks sp st k r E n → i ≤ n → ∃ E', Walks sp st k (rateB sp st k r i) E' (n - i)
  | 0, _, _, _, h, _ => ⟨_, h⟩
  | i + 1, 0, _, _, _, z => absurd z (by omega)
  | i + 1, n + 1, _, _, h, z => by
    rw [rateB_shift, Nat.add_sub_add_right]
    exact Walks.behind h.aft.kr (by omega)
theorem r2l_nn {sp st r : Rat} (h0 : 0 < st) : 0 ≤ r2l sp st r := by
  unfold r2l
  split
  · exact Int.le_refl _
  · rename_i h
    have := Rat.le_floor_iff.mpr (div_nn (sub_nn h) h0 : ((0 : Int) : Rat) ≤ (sp - r) / st)
    omega
theorem dcut_tail {α : Type} (f : α → D) (xs : List α) : dcut (xs.map f) (some 1) none = (xs.drop 1).map f := by
  unfold dcut
  have e : HT.sIx (xs.map f).length 0 (some 1) = min 1 (xs.map f).length := HT.sIx_nat _ _ 1
  rw [e, HT.sIx_none, List.take_of_length_le (by rw [List.length_drop]; omega), List.map_drop]
  cases xs with
  | nil => rfl
  | cons a l =>
    show List.drop (min 1 (l.length + 1 - 0)) _ = _
    first | rw [List.length_map] | skip
    congr 1
theorem dcut_take {α : Type} (f : α → D) (xs : List α) (n : Nat) (h : n ≤ xs.length) : dcut (xs.map f) none (some (n : Int)) = (xs.take n).map f := by
  unfold dcut
  rw [HT.sIx_nat, HT.sIx_none, List.length_map, Nat.min_eq_left h]
  show List.take (n - 0) (List.drop 0 _) = _
  rw [List.drop_zero, List.map_take, Nat.sub_zero]
abbrev dL (p : Int × Rat) : D := .tup [.int p.1, dq p.2]

/-! ### the walks' defs -/
section
variable {P : Program} {w : World} {K : PySem.W.Frag} {mg : Str → Option Value} {base : Heap}
abbrev P_next : Pr := detP (fun (a : (Rat × Rat × Rat) × Rat) => [dSaw a.1.1 a.1.2.1 a.1.2.2, dq a.2]) (fun a => ((Sz 300 a.1.1 ∧ Sz 300 a.1.2.1) ∧ Sz 300 a.1.2.2) ∧ Sz 2200 a.2) fun a => dq (nextR a.1.1 a.1.2.1 a.1.2.2 a.2)
theorem c_next {sp st k r : Rat} {Q : D → Prop} (q : Q (dq (nextR sp st k r))) (h : ((Sz 300 sp ∧ Sz 300 st) ∧ Sz 300 k) ∧ Sz 2200 r) : Cl P_next [dSaw sp st k, dq r] Q := cl_detP ((sp, st, k), r) q h
theorem next_if {sp st k r : Rat} : (if decide (sp < r) = true then dq (k * r) else dq (r + st)) = dq (nextR sp st k r) := by
  unfold nextR
  by_cases h : sp < r
  · rw [if_pos h, decide_eq_true h, if_pos rfl]
  · rw [if_neg h, decide_eq_false h, if_neg (by decide)]
theorem ok_next {f : Addr} {fd : FuncData} (F : Fun K "next_rate" "next_rate" s_next_rate f fd) (hm : mg "next_rate" = some (.ref f)) (hb : Binds K fd (N_next_rate.take 2) [])
    (G1 : FnP P w K mg base "is_less" 1 (det R_less)) (G2 : FnP P w K mg base "times" 3 (det (R_qq (· * ·)))) (G3 : FnP P w K mg base "plus" 3 (det (R_qq (· + ·)))) : FnP P w K mg base "next_rate" 4 P_next :=
  fnP_det F sc_next_rate hm hb (fun _ _ => rfl) fun cdv A outer s H E hr nd ⟨⟨sp, st, k⟩, r⟩ ⟨⟨⟨hsp, hst⟩, hk⟩, hrz⟩ => by
    simp only at hsp hst hk hrz
    show Go _ H (_ :: _) _ [.dat (dSaw sp st k), .dat (dq r)]
    walk_at "go"
    exact next_if
abbrev P_rates : Pr := detP (fun (a : (Rat × Rat × Rat) × Rat × Nat × Nat) => [dSaw a.1.1 a.1.2.1 a.1.2.2, dq a.2.1, .int a.2.2.1]) (fun a => Walks a.1.1 a.1.2.1 a.1.2.2 a.2.1 a.2.2.2 a.2.2.1 ∧ a.2.2.1 ≤ 1000) fun a => .lst ((walkL a.1.1 a.1.2.1 a.1.2.2 a.2.2.1 a.2.1).map dq)
local macro_rules | `(tactic| walk_at "cl") => `(tactic| first | refine c_r2l ?_ (by assumption) | refine c_after ?_ (by assumption) | refine c_next ?_ (by assumption) | fail)
theorem ok_rates {f : Addr} {fd : FuncData} (F : Fun K "rates" "rates" s_rates f fd) (hm : mg "rates" = some (.ref f)) (hb : Binds K fd (N_rates.take 3) []) (m_range : mg "range" = none)
    (G : FnP P w K mg base "next_rate" 4 P_next) : FnP P w K mg base "rates" 5 P_rates :=
  fnP_det F sc_rates hm hb (fun _ _ => rfl) fun cdv A outer s H E hr nd ⟨⟨sp, st, k⟩, r, n, E0⟩ ⟨h, hn⟩ => by
    simp only at h hn
    have o1 : Own "found" := ⟨⟩
    show Go _ H (_ :: _) _ [.dat (dSaw sp st k), .dat (dq r), .dat (.int n), .any, .any]
    walk_at "go"
    rename_i pa
    refine s_forG 0 n (fun i => [.dat (dSaw sp st k), .dat (dq (walkAt sp st k i r)), .dat (.int n), .own pa ((walkL sp st k i r).map dq), .any]) (wr_1 (by assumption) (by walk_at "go"; exact rng_nat (by omega))) (fun i hi => ?_) (by walk_at "go")
    obtain ⟨E', h'⟩ := h.at (Nat.le_of_lt hi)
    have hp : ((Sz 300 sp ∧ Sz 300 st) ∧ Sz 300 k) ∧ Sz 2200 (walkAt sp st k i r) := ⟨⟨⟨h.spz, h.stz⟩, h.kz⟩, h'.rz.mono (by decide)⟩
    have e1 : Ent.own pa ((walkL sp st k i r).map dq ++ [dq (walkAt sp st k i r)]) = .own pa ((walkL sp st k (i + 1) r).map dq) := by rw [walkL_succ, List.map_append]; rfl
    have e2 : Ent.dat (dq (nextR sp st k (walkAt sp st k i r))) = .dat (dq (walkAt sp st k (i + 1) r)) := by rw [walkAt_succ]
    have hl : ((walkL sp st k i r).map dq).length ≤ 100000 := by rw [List.length_map, walkL_len]; omega
    walk_at "go"
theorem Walks.p1 {sp st k r : Rat} {E n : Nat} (h : Walks sp st k r E n) : (Sz 300 sp ∧ Sz 300 st) ∧ Sz 2200 r ∧ 0 < st := ⟨⟨h.spz, h.stz⟩, h.rz.mono (by decide), h.spos⟩
theorem Walks.p2 {sp st k r : Rat} {E n : Nat} (h : Walks sp st k r E n) : Sz 300 st ∧ Sz 3800 r ∧ (r2l sp st r).natAbs < 2 ^ 3500 := ⟨h.stz, h.rz.mono (by decide), Nat.lt_of_lt_of_le (r2l_sz h.spz h.stz h.rz h.spos).2 (Nat.pow_le_pow_right (by decide) (by decide))⟩
theorem Walks.az {sp st k r : Rat} {E n : Nat} (h : Walks sp st k r E n) : Sz 1560 (r + st * (r2l sp st r : Rat)) := h.aft.rz
abbrev P_losses : Pr := detP (fun (a : (Rat × Rat × Rat) × Rat × Nat × Nat) => [dSaw a.1.1 a.1.2.1 a.1.2.2, dq a.2.1, .int a.2.2.1]) (fun a => Walks a.1.1 a.1.2.1 a.1.2.2 a.2.1 a.2.2.2 a.2.2.1 ∧ a.2.2.1 ≤ 1000) fun a => .lst ((lossS a.1.1 a.1.2.1 a.1.2.2 a.2.2.1 0 a.2.1).map dL)
theorem ok_losses {f : Addr} {fd : FuncData} (F : Fun K "losses" "losses" s_losses f fd) (hm : mg "losses" = some (.ref f)) (hb : Binds K fd (N_losses.take 3) []) (m_range : mg "range" = none)
    (G1 : FnP P w K mg base "rounds_to_loss" 4 P_r2l) (G2 : FnP P w K mg base "after" 4 P_after) (G3 : FnP P w K mg base "minus" 3 (det (R_qq (· - ·)))) (G4 : FnP P w K mg base "times" 3 (det (R_qq (· * ·)))) : FnP P w K mg base "losses" 5 P_losses :=
  fnP_det F sc_losses hm hb (fun _ _ => rfl) fun cdv A outer s H E hr nd ⟨⟨sp, st, k⟩, r, n, E0⟩ ⟨h, hn⟩ => by
    simp only at h hn
    have o1 : Own "found" := ⟨⟩
    have hsp := h.spz
    have hk := h.kz
    show Go _ H (_ :: _) _ [.dat (dSaw sp st k), .dat (dq r), .dat (.int n), .any, .any, .any, .any]
    walk_at "go"
    rename_i pa
    refine s_forG 0 n (fun i => [.dat (dSaw sp st k), .dat (dq (rateB sp st k r i)), .dat (.int n), .own pa ((lossS sp st k i 0 r).map dL), .dat (.int (placeB sp st k r 0 i)), .any, .any]) (wr_1 (by assumption) (by walk_at "go"; exact rng_nat (by omega))) (fun i hi => ?_) (by walk_at "go")
    obtain ⟨E', h'⟩ := h.behind (Nat.le_of_lt hi)
    have b1 := h'.p1
    have b2 := h'.p2
    have b3 := h'.az
    have e1 : Ent.own pa ((lossS sp st k i 0 r).map dL ++ [.tup [.int (placeB sp st k r 0 i + r2l sp st (rateB sp st k r i)), dq (rateB sp st k r i + st * (r2l sp st (rateB sp st k r i) : Rat) - sp)]]) = .own pa ((lossS sp st k (i + 1) 0 r).map dL) := by rw [lossS_succ, List.map_append]; rfl
    have e2 : Ent.dat (.int (placeB sp st k r 0 i + (r2l sp st (rateB sp st k r i) + 1))) = .dat (.int (placeB sp st k r 0 (i + 1))) := by rw [← Int.add_assoc]; rfl
    have hl : ((lossS sp st k i 0 r).map dL).length ≤ 100000 := by rw [List.length_map, lossS_len]; omega
    walk_at "go"
abbrev P_counts : Pr := detP (fun (a : (Rat × Rat × Rat) × Rat × Nat × Nat) => [dSaw a.1.1 a.1.2.1 a.1.2.2, dq a.2.1, .int a.2.2.1]) (fun a => Walks a.1.1 a.1.2.1 a.1.2.2 a.2.1 a.2.2.2 (a.2.2.1 + 1) ∧ a.2.2.1 ≤ 999) fun a => .lst ((gapL (lossS a.1.1 a.1.2.1 a.1.2.2 (a.2.2.1 + 1) 0 a.2.1)).map .int)
theorem ok_counts {f : Addr} {fd : FuncData} (F : Fun K "counts" "counts" s_counts f fd) (hm : mg "counts" = some (.ref f)) (hb : Binds K fd (N_counts.take 3) []) (m_zip : mg "zip" = none)
    (G : FnP P w K mg base "losses" 5 P_losses) : FnP P w K mg base "counts" 6 P_counts :=
  fnP_det F sc_counts hm hb (fun _ _ => rfl) fun cdv A outer s H E hr nd ⟨⟨sp, st, k⟩, r, n, E0⟩ ⟨h, hn⟩ => by
    simp only at h hn
    show Go _ H (_ :: _) _ [.dat (dSaw sp st k), .dat (dq r), .dat (.int n), .any, .any, .any]
    walk_at "go"
    refine cl_detP ((sp, st, k), r, n + 1, E0) ?_ ⟨h, by show n + 1 ≤ 1000; omega⟩
    dsimp only
    walk_at "go"
    generalize hl : lossS sp st k (n + 1) 0 r = l
    have hlen : l.length = n + 1 := by rw [← hl, lossS_len]
    refine lc2 (fun p => dL p.1) (fun p => dL p.2) (l.zip (l.drop 1)) (fun p => .int (p.2.1 - p.1.1 - 1)) (wj_zip (f := dL) (g := dL) (by assumption) (wi_dat (by walk_at "look")) (wi_free (fr := true) ?_)) (fun p hp s H C cl fp => ?_) ?_ ?_
    · walk_at "go"
      exact dcut_tail dL l
    · walk_at "go"
    · walk_at "go"
      show D.lst _ = D.lst _
      rw [gapL, List.map_map]
      rfl
    · rw [List.length_zip, hlen]; omega
theorem place_nn {sp st k r : Rat} (h0 : 0 < st) : ∀ i, 0 ≤ placeB sp st k r 0 i
  | 0 => Int.le_refl _
  | i + 1 => by
    have := place_nn (sp := sp) (k := k) (r := r) h0 i
    have := r2l_nn (sp := sp) (r := rateB sp st k r i) h0
    show 0 ≤ placeB sp st k r 0 i + r2l sp st (rateB sp st k r i) + 1
    omega
abbrev P_reached : Pr := detP (fun (a : (Rat × Rat × Rat) × Rat × Nat × Nat × Nat) => [dSaw a.1.1 a.1.2.1 a.1.2.2, dq a.2.1, .int a.2.2.1]) (fun a => Walks a.1.1 a.1.2.1 a.1.2.2 a.2.1 a.2.2.2.1 a.2.2.2.2 ∧ cntAt a.1.1 a.1.2.1 a.1.2.2 a.2.2.1 a.2.1 ≤ a.2.2.2.2) fun a => .tup [dq (walkAt a.1.1 a.1.2.1 a.1.2.2 a.2.2.1 a.2.1), .int (cntAt a.1.1 a.1.2.1 a.1.2.2 a.2.2.1 a.2.1)]
abbrev P_ratein : Pr := detP (fun (a : (Rat × Rat × Rat) × Rat × Nat × Nat × Nat) => [dSaw a.1.1 a.1.2.1 a.1.2.2, dq a.2.1, .int a.2.2.1]) (fun a => Walks a.1.1 a.1.2.1 a.1.2.2 a.2.1 a.2.2.2.1 a.2.2.2.2 ∧ cntAt a.1.1 a.1.2.1 a.1.2.2 a.2.2.1 a.2.1 ≤ a.2.2.2.2) fun a => dq (walkAt a.1.1 a.1.2.1 a.1.2.2 a.2.2.1 a.2.1)
theorem ok_reached {f : Addr} {fd : FuncData} (F : Fun K "reached" "reached" s_reached f fd) (hm : mg "reached" = some (.ref f)) (hb : Binds K fd (N_reached.take 3) [])
    (G1 : FnP P w K mg base "rounds_to_loss" 4 P_r2l) (G2 : FnP P w K mg base "after" 4 P_after) (G4 : FnP P w K mg base "times" 3 (det (R_qq (· * ·)))) : FnP P w K mg base "reached" 5 P_reached :=
  fnP_det F sc_reached hm hb (fun _ _ => rfl) fun cdv A outer s H E hr nd ⟨⟨sp, st, k⟩, r, place, E0, n⟩ ⟨h, hn⟩ => by
    simp only at h hn
    have hk := h.kz
    show Go _ H (_ :: _) _ [.dat (dSaw sp st k), .dat (dq r), .dat (.int place), .any, .any, .any]
    have b0 := h.p1
    walk_at "go"
    refine s_while (fun m Γ => ∃ i, placeB sp st k r 0 i ≤ place ∧ walkAt sp st k place r = walkAt sp st k ((place : Int) - placeB sp st k r 0 i).toNat (rateB sp st k r i) ∧ cntAt sp st k place r = i + cntAt sp st k ((place : Int) - placeB sp st k r 0 i).toNat (rateB sp st k r i) ∧ m = ((place : Int) - placeB sp st k r 0 i).toNat ∧ Γ = [.dat (dSaw sp st k), .dat (dq (rateB sp st k r i)), .dat (.int place), .dat (.int (placeB sp st k r 0 i)), .dat (.int i), .dat (.int (r2l sp st (rateB sp st k r i)))]) ⟨_, 0, by show (0 : Int) ≤ (place : Int); omega, by show _ = walkAt sp st k ((place : Int) - 0).toNat r; rw [Int.sub_zero, Int.toNat_natCast], by show _ = 0 + cntAt sp st k ((place : Int) - 0).toNat r; rw [Int.sub_zero, Int.toNat_natCast, Nat.zero_add], rfl, rfl⟩ ?_
    rintro m Γ ⟨i, hp, hw, hc, rfl, rfl⟩
    have hi : i ≤ n := by omega
    obtain ⟨E', h'⟩ := h.behind hi
    have b1 := h'.p1
    have b2 := h'.p2
    have b3 := h'.az
    have hnn := r2l_nn (sp := sp) (r := rateB sp st k r i) h.spos
    refine ⟨_, by walk_at "go", fun hk => ?_, fun hk => ?_⟩
    · have hlt := of_decide_eq_true hk
      obtain ⟨m, hm⟩ : ∃ m : Nat, r2l sp st (rateB sp st k r i) = m := ⟨_, (Int.toNat_of_nonneg hnn).symm⟩
      have e : ((place : Int) - placeB sp st k r 0 i).toNat = m + 1 + ((place : Int) - placeB sp st k r 0 (i + 1)).toNat := by
        show _ = m + 1 + ((place : Int) - (placeB sp st k r 0 i + r2l sp st (rateB sp st k r i) + 1)).toNat
        omega
      obtain ⟨w1, w2⟩ := walk_past (sp := sp) (k := k) h.spos m (rateB sp st k r i) hm ((place : Int) - placeB sp st k r 0 (i + 1)).toNat
      rw [e] at hw hc
      rw [w1] at hw
      rw [w2] at hc
      have hi2 : i + 1 ≤ n := by omega
      obtain ⟨E2, h2⟩ := h.behind hi2
      have b4 : (Sz 300 sp ∧ Sz 300 st) ∧ Sz 2200 (k * (rateB sp st k r i + st * (r2l sp st (rateB sp st k r i) : Rat))) ∧ 0 < st := h2.p1
      walk_at "go"
      refine s_turn (I := fun m Γ => ∃ i, placeB sp st k r 0 i ≤ place ∧ walkAt sp st k place r = walkAt sp st k ((place : Int) - placeB sp st k r 0 i).toNat (rateB sp st k r i) ∧ cntAt sp st k place r = i + cntAt sp st k ((place : Int) - placeB sp st k r 0 i).toNat (rateB sp st k r i) ∧ m = ((place : Int) - placeB sp st k r 0 i).toNat ∧ Γ = [.dat (dSaw sp st k), .dat (dq (rateB sp st k r i)), .dat (.int place), .dat (.int (placeB sp st k r 0 i)), .dat (.int i), .dat (.int (r2l sp st (rateB sp st k r i)))]) (m := ((place : Int) - placeB sp st k r 0 i).toNat) (m' := ((place : Int) - placeB sp st k r 0 (i + 1)).toNat) ⟨i + 1, ?_, hw, hc.trans (Nat.add_assoc i 1 _).symm, rfl, ?_⟩ ?_
      · show placeB sp st k r 0 i + r2l sp st (rateB sp st k r i) + 1 ≤ place
        omega
      · show _ = [Ent.dat (dSaw sp st k), .dat (dq (rateB sp st k r (i + 1))), .dat (.int place), .dat (.int (placeB sp st k r 0 i + r2l sp st (rateB sp st k r i) + 1)), .dat (.int ((i : Int) + 1)), .dat (.int (r2l sp st (rateB sp st k r (i + 1))))]
        rw [Int.add_assoc]
        rfl
      · rw [e]; omega
    · have hge := of_decide_eq_false hk
      obtain ⟨w1, w2⟩ := walk_far (sp := sp) (k := k) h.spos ((place : Int) - placeB sp st k r 0 i).toNat (rateB sp st k r i) (by omega)
      have e : ((((place : Int) - placeB sp st k r 0 i).toNat : Nat) : Int) = (place : Int) - placeB sp st k r 0 i := by omega
      rw [e] at w1
      have b5 : Sz 300 st ∧ Sz 3800 (rateB sp st k r i) ∧ ((place : Int) - placeB sp st k r 0 i).natAbs < 2 ^ 3500 := ⟨b2.1, b2.2.1, by have := b2.2.2; omega⟩
      walk_at "go"
      show D.tup [_, _] = D.tup [_, _]
      rw [hw, w1, hc, w2]
      rfl
theorem ok_ratein {f : Addr} {fd : FuncData} (F : Fun K "rate_in" "rate_in" s_rate_in f fd) (hm : mg "rate_in" = some (.ref f)) (hb : Binds K fd (N_rate_in.take 3) [])
    (G : FnP P w K mg base "reached" 5 P_reached) : FnP P w K mg base "rate_in" 6 P_ratein :=
  fnP_det F sc_rate_in hm hb (fun _ _ => rfl) fun cdv A outer s H E hr nd ⟨⟨sp, st, k⟩, r, place, E0, n⟩ ⟨h, hn⟩ => by
    simp only at h hn
    show Go _ H (_ :: _) _ [.dat (dSaw sp st k), .dat (dq r), .dat (.int place)]
    walk_at "go"
    refine cl_detP ((sp, st, k), r, place, E0, n) ?_ ⟨h, hn⟩
    dsimp only
    walk_at "go"
end

/-! ### k09 -/
theorem gcd11 : ∀ a : Nat, a < 9 → Int.gcd (1 + (a : Int)) 11 = 1 ∧ (Rat.divInt (1 + (a : Int)) 11).floor = 0 := by decide +kernel
theorem gcd11i {i : Int} (h0 : 0 ≤ i) (h1 : i < 9) : Int.gcd (1 + i) 11 = 1 ∧ (Rat.divInt (1 + i) 11).floor = 0 := by
  obtain ⟨a, rfl⟩ := Int.eq_ofNat_of_zero_le h0
  exact gcd11 a (by omega)
theorem gcd1 (a : Int) : Int.gcd a 1 = 1 := by simp
theorem lit_saw {a b c d e f : Int} (h : ((0 < b ∧ Int.gcd a b = 1) ∧ (0 < d ∧ Int.gcd c d = 1)) ∧ 0 < f ∧ Int.gcd e f = 1) : D.tup [.tup [.int a, .int b], .tup [.int c, .int d], .tup [.int e, .int f]] = dSaw (Rat.divInt a b) (Rat.divInt c d) (Rat.divInt e f) := by
  rw [lit_num h.1.1.1 h.1.1.2, lit_num h.1.2.1 h.1.2.2, lit_num h.2.1 h.2.2]
theorem walks9 {t h : Int} (t0 : 0 ≤ t) (t1 : t < 9) (h0 : 0 ≤ h) (h1 : h < 9) (n : Nat) (hn : n ≤ 300) : Walks (Rat.divInt (5 + t) 1) (Rat.divInt 1 1) (Rat.divInt 1 2) ((h : Int) : Rat) 1 n := by
  have e1 : Rat.divInt (5 + t) 1 = ((5 + t : Int) : Rat) := by rw [Rat.divInt_eq_div]; have : ((1 : Int) : Rat) = 1 := rfl; grind
  have e2 : Rat.divInt 1 1 = 1 := by rw [Rat.divInt_eq_div]; grind
  have e3 : Rat.divInt 1 2 = 1 / 2 := Rat.divInt_eq_div 1 2
  have e4 : (((2 ^ 60 : Nat) : Int) : Rat) = 1152921504606846976 := rfl
  have h3 : ((h : Int) : Rat) ≤ ((9 : Int) : Rat) := Rat.intCast_le_intCast.mpr (by omega)
  have h4 : ((5 + t : Int) : Rat) ≤ ((14 : Int) : Rat) := Rat.intCast_le_intCast.mpr (by omega)
  have e5 : ((9 : Int) : Rat) = 9 := rfl
  have e7 : ((14 : Int) : Rat) = 14 := rfl
  have e6 : (((1 : Nat) : Int) : Rat) = 1 := rfl
  refine ⟨divInt_pos' (by decide) (by decide), divInt_pos' (by omega) (by decide), divInt_pos' (by decide) (by decide), by rw [e3]; grind, Rat.intCast_nonneg.mpr h0, by grind, by rw [e1, e2]; grind, ⟨h, by rw [e6, Rat.mul_one]⟩, ⟨1, by rw [e6, e2]; grind⟩, by decide, ?_, sz_divInt (by omega) (by decide) (by decide), sz_divInt (by decide) (by decide) (by decide), sz_divInt (by decide) (by decide) (by decide)⟩
  rw [Nat.one_mul]
  exact Nat.lt_of_le_of_lt (Nat.pow_le_pow_right (n := 2) (by decide) hn) (Nat.pow_lt_pow_right (by decide) (by decide))
def okL (sp st k r : Rat) : Bool := ((lossS sp st k 3 0 r).all fun p => decide (p.1.natAbs < 2 ^ 62) && (decide (p.2.num.natAbs < 2 ^ 60) && decide (p.2.den < 2 ^ 60))) && (gapL (lossS sp st k (3 + 1) 0 r)).all fun i => decide (i.natAbs < 2 ^ 62)
theorem okL_all : ∀ t : Nat, t < 9 → ∀ h : Nat, h < 9 → okL (Rat.divInt (5 + (t : Int)) 1) (Rat.divInt 1 1) (Rat.divInt 1 2) ((h : Int) : Rat) = true := by decide +kernel
theorem okLi {t h : Int} (t0 : 0 ≤ t) (t1 : t < 9) (h0 : 0 ≤ h) (h1 : h < 9) : okL (Rat.divInt (5 + t) 1) (Rat.divInt 1 1) (Rat.divInt 1 2) ((h : Int) : Rat) = true := by
  obtain ⟨a, rfl⟩ := Int.eq_ofNat_of_zero_le t0
  obtain ⟨b, rfl⟩ := Int.eq_ofNat_of_zero_le h0
  exact okL_all a (by omega) b (by omega)
theorem okL_to {sp st k r : Rat} (h : okL sp st k r = true) : (∀ p ∈ lossS sp st k 3 0 r, p.1.natAbs < 2 ^ 62 ∧ Sz 60 p.2) ∧ ∀ i ∈ gapL (lossS sp st k (3 + 1) 0 r), i.natAbs < 2 ^ 62 := by
  obtain ⟨h1, h2⟩ := Bool.and_eq_true_iff.mp h
  refine ⟨fun p hp => ?_, fun i hi => of_decide_eq_true (List.all_eq_true.mp h2 i hi)⟩
  obtain ⟨h3, h4⟩ := Bool.and_eq_true_iff.mp (List.all_eq_true.mp h1 p hp)
  obtain ⟨h5, h6⟩ := Bool.and_eq_true_iff.mp h4
  exact ⟨of_decide_eq_true h3, of_decide_eq_true h5, of_decide_eq_true h6⟩
theorem cnt_le (sp st k : Rat) : ∀ (n : Nat) (r : Rat), cntAt sp st k n r ≤ n
  | 0, _ => Nat.le_refl _
  | n + 1, r => by
    have := cnt_le sp st k n (nextR sp st k r)
    show (if sp < r then 1 else 0) + cntAt sp st k n (nextR sp st k r) ≤ n + 1
    split <;> omega
theorem sh_dL {p : Int × Rat} (h1 : p.1.natAbs < 2 ^ 62) (h2 : Sz 1900 p.2) : Sh 2 20030 (dL p) := by
  refine Sh.mono (sh_tup (n := 1) (c := 10000) (fun d m => ?_) (.inl rfl)) (by decide) (by simp only [List.length_cons, List.length_nil]; omega)
  simp only [List.mem_cons, List.not_mem_nil, or_false] at m
  rcases m with rfl | rfl
  · exact Sh.mono (sh_int h1 (by decide) (by decide)) (by decide) (by decide)
  · exact sh_dq h2 (by decide) (by decide)
theorem noDct_dLs : ∀ l : List (Int × Rat), D.noDctAll (l.map dL) = true
  | [] => rfl
  | p :: l => by
    show (D.noDct (dL p) && D.noDctAll (l.map dL)) = true
    rw [noDct_dLs l]
    rfl
theorem noDct_ints : ∀ l : List Int, D.noDctAll (l.map .int) = true
  | [] => rfl
  | p :: l => by
    show (D.noDct (.int p) && D.noDctAll (l.map .int)) = true
    rw [noDct_ints l]
    rfl
theorem sh_dLs {l : List (Int × Rat)} (hl : l.length ≤ 60) (h : ∀ p ∈ l, p.1.natAbs < 2 ^ 62 ∧ Sz 1900 p.2) : Sh 40 10000000 (.lst (l.map dL)) := by
  refine Sh.mono (sh_lst (n := 2) (c := 20030) (fun d m => ?_) (noDct_dLs l)) (by decide) (by rw [List.length_map]; omega)
  obtain ⟨p, hp, rfl⟩ := List.mem_map.mp m
  exact sh_dL (h p hp).1 (h p hp).2
theorem sh_intL {l : List Int} (hl : l.length ≤ 60) (h : ∀ p ∈ l, p.natAbs < 2 ^ 62) : Sh 40 10000000 (.lst (l.map .int)) := by
  refine Sh.mono (sh_lst (n := 0) (c := 100) (fun d m => ?_) (noDct_ints l)) (by decide) (by rw [List.length_map]; omega)
  obtain ⟨p, hp, rfl⟩ := List.mem_map.mp m
  exact Sh.mono (sh_int (h p hp) (by decide) (by decide)) (by decide) (by decide)
theorem askF2 {a : Int} (h : a.natAbs < 100) : AskF (.tup [.int a, .int 1]) := ⟨rfl, fun xs e => by
  cases e
  exact ⟨by show 2 ≤ 1000; decide, allc ⟨rfl, fun i e => by cases e; exact natAbs_mono (n := 7) (by decide) (by omega)⟩ (allc ⟨rfl, fun i e => by cases e; decide⟩ alln)⟩⟩
def Twin (d : D) : Prop := ∃ x, d = .tup [x, x] ∧ Sh 40 10000000 x
theorem twin {x : D} (h : Sh 40 10000000 x) : Twin (.tup [x, x]) := ⟨x, rfl, h⟩
theorem allApp {P : D → Prop} {a b : List D} (ha : ∀ x ∈ a, P x) (hb : ∀ x ∈ b, P x) : ∀ x ∈ a ++ b, P x := fun x m => (List.mem_append.mp m).elim (ha x) (hb x)
section
variable {X : Cx} {Hb : Hp} {a b : Expr} {Γ : Slots} {pos p' apos cpos tpos : Pos} {ds L : List D} {D0 : Ends} {rest : List Stmt}
/-- x.append((a, b)), both new lists -/
theorem s_appPair {p : Addr} {xn : Str} {x1 : Nat} (hL : Look X.N Γ xn (.own p ds)) (h1 : EvN X Hb a Γ true (· = .lst L)) (h2 : EvN X Hb b Γ true (· = .lst L)) (q : Up1 X.N Γ xn (.own p (ds ++ [.tup [.lst L, .lst L]])) fun Γ' => Go X Hb rest D0 Γ') (nd : X.N.Nodup) (hl : ds.length ≤ 100000) (hf : D.flatAll L = true)
    (hs1 : starEach [a, b] X.env = (false, eval a X.env) :: starEach [b] X.env := by rfl) (hs2 : starEach [b] X.env = (false, eval b X.env) :: starEach [] X.env := by rfl)
    (hv : Vis X.env.scope xn := by first | exact Or.inl rfl | exact Or.inr (Or.inl rfl) | exact Or.inr (Or.inr rfl)) (hdb : (xn == ("__debug__" : Str)) = false := by decide) (hcd : (xn == ("__classdict__" : Str)) = false := by decide)
    (hbase : attributeBase (.Name xn p') "append" X.env (eval (.Name xn p') X.env) = eval (.Name xn p') X.env := by rfl)
    (hfew : ((backTo cpos (starEach (.Tuple [a, b] x1 tpos :: []) X.env)).all (fun x => !x.1) && (backToKw cpos (keywordEach [] X.env)).all (fun x => x.1.isSome) && decide ((Expr.Tuple [a, b] x1 tpos :: []).length + ([] : List Keyword).length + (if ([] : List Keyword).isEmpty then 0 else 1) < 30)) = true := by rfl)
    (hline : (apos.endLine == cpos.line) = true := by rfl) (hs : starEach (.Tuple [a, b] x1 tpos :: []) X.env = (false, eval (.Tuple [a, b] x1 tpos) X.env) :: starEach [] X.env := by rfl) (hplain : (backTo cpos (starEach [] X.env)).any (·.1) = false := by rfl)
    (hsw : swapsWith (.Call (.Attribute (.Name xn p') "append" apos) [.Tuple [a, b] x1 tpos] [] cpos) none pos.line X.env = pure false := by rfl) :
    Go X Hb (.Expr (.Call (.Attribute (.Name xn p') "append" apos) [.Tuple [a, b] x1 tpos] [] cpos) pos :: rest) D0 Γ :=
  s_appendH hL ((evh_tup2 (S1 := (· = .lst L)) (S2 := (· = .lst L)) (evh_new (h1.imp fun z e => ⟨L, e, hf, rfl⟩)) (evh_new (h2.imp fun z e => ⟨L, e, hf, rfl⟩)) hs1 hs2).imp fun d ⟨x, y, e, e1, e2⟩ => by subst e1 e2 e; exact q) nd hl hv hdb hcd hbase hfew hline hs hplain hsw
end
section
variable {P : Program} {w : World} {K : PySem.W.Frag} {mg : Str → Option Value} {base : Heap}
theorem c_rates {sp st k r : Rat} {E n : Nat} {m : Int} {Q : D → Prop} (q : Q (.lst ((walkL sp st k n r).map dq))) (h : (Walks sp st k r E n ∧ n ≤ 1000) ∧ m = n) : Cl P_rates [dSaw sp st k, dq r, .int m] Q := by
  rw [h.2]
  exact cl_detP ((sp, st, k), r, n, E) q h.1
theorem c_losses {sp st k r : Rat} {E n : Nat} {m : Int} {Q : D → Prop} (q : Q (.lst ((lossS sp st k n 0 r).map dL))) (h : (Walks sp st k r E n ∧ n ≤ 1000) ∧ m = n) : Cl P_losses [dSaw sp st k, dq r, .int m] Q := by
  rw [h.2]
  exact cl_detP ((sp, st, k), r, n, E) q h.1
theorem c_counts {sp st k r : Rat} {E n : Nat} {m : Int} {Q : D → Prop} (q : Q (.lst ((gapL (lossS sp st k (n + 1) 0 r)).map .int))) (h : (Walks sp st k r E (n + 1) ∧ n ≤ 999) ∧ m = n) : Cl P_counts [dSaw sp st k, dq r, .int m] Q := by
  rw [h.2]
  exact cl_detP ((sp, st, k), r, n, E) q h.1
theorem c_ratein {sp st k r : Rat} {E n p : Nat} {m : Int} {Q : D → Prop} (q : Q (dq (walkAt sp st k p r))) (h : (Walks sp st k r E n ∧ cntAt sp st k p r ≤ n) ∧ m = p) : Cl P_ratein [dSaw sp st k, dq r, .int m] Q := by
  rw [h.2]
  exact cl_detP ((sp, st, k), r, p, E, n) q h.1
theorem c_isfrac {d : D} {Q : D → Prop} (q : Q (.bl (isFrac d))) (h : AskF d) : Cl (det R_isfrac) [d] Q := cl_det ⟨d, rfl, h, rfl⟩ q
theorem c_issaw {d : D} {Q : D → Prop} (q : Q (.bl (isSaw d))) (h : AskS d) : Cl (det R_issaw) [d] Q := cl_det ⟨d, rfl, h, rfl⟩ q
theorem c_read {Q : D → Prop} (q : Q (.tup [.int 3, .int 7])) : Cl P_read [.str "3/7"] Q := cl_detP () q trivial
local macro_rules | `(tactic| walk_at "cl") => `(tactic| first | refine c_rates ?_ (by assumption) | refine c_losses ?_ (by assumption) | refine c_counts ?_ (by assumption) | refine c_ratein ?_ (by assumption) | refine c_next ?_ (by assumption) | refine c_isfrac ?_ (by assumption) | refine c_issaw ?_ (by assumption) | refine c_ftext ?_ | refine c_read ?_ | fail)
local macro_rules | `(tactic| walk_at "st") => `(tactic| first
  | (with_reducible show Go _ _ (Stmt.Expr (Expr.Call (Expr.Attribute (Expr.Name _ _) (Str.ofString "append") _) [Expr.Tuple [Expr.Call (Expr.Name (Str.ofString "rates") _) _ _ _, _] _ _] [] _) _ :: _) _ _); refine s_appPair (by walk_at "look") (by walk_at "go") (by walk_at "go") ?_ (by assumption) (by walk_at "len") (by walk_at "flat1")
  | (with_reducible show Go _ _ (Stmt.Expr (Expr.Call (Expr.Attribute (Expr.Name _ _) (Str.ofString "append") _) [Expr.Tuple [Expr.Call (Expr.Name (Str.ofString "losses") _) _ _ _, _] _ _] [] _) _ :: _) _ _); refine s_appPair (by walk_at "look") (by walk_at "go") (by walk_at "go") ?_ (by assumption) (by walk_at "len") (by walk_at "flat1")
  | (with_reducible show Go _ _ (Stmt.Expr (Expr.Call (Expr.Attribute (Expr.Name _ _) (Str.ofString "append") _) [Expr.Tuple [Expr.Call (Expr.Name (Str.ofString "counts") _) _ _ _, _] _ _] [] _) _ :: _) _ _); refine s_appPair (by walk_at "look") (by walk_at "go") (by walk_at "go") ?_ (by assumption) (by walk_at "len") (by walk_at "flat1")
  | fail)
theorem ok_law {f : Addr} {fd : FuncData} (F : Fun K "law" "law" s_law f fd) (m_range : mg "range" = none) (m_max : mg "max" = none) (m_min : mg "min" = none) (m_len : mg "len" = none) (m_repr : mg "repr" = none)
    (K1 : KwB K mg "plus" ["first", "second"] ["second", "first"] [1, 0]) (K2 : KwB K mg "minus" ["first", "second"] ["second", "first"] [1, 0]) (K3 : KwB K mg "times" ["first", "second"] ["second", "first"] [1, 0]) (K4 : KwB K mg "floor" ["value"] ["value"] [0]) (K5 : KwB K mg "divided" ["first", "second"] ["second", "first"] [1, 0]) (K6 : KwB K mg "reduced" ["top", "bottom"] ["bottom", "top"] [1, 0])
    (K7 : KwB K mg "is_less" ["first", "second"] ["second", "first"] [1, 0]) (K8 : KwB K mg "is_fraction" ["value"] ["value"] [0]) (K9 : KwB K mg "fraction_text" ["value"] ["value"] [0]) (Ka : KwB K mg "read_fraction" ["text"] ["text"] [0]) (Kb : KwB K mg "is_saw" ["value"] ["value"] [0]) (Kc : KwB K mg "next_rate" ["saw", "rate"] ["rate", "saw"] [1, 0])
    (Kd : KwB K mg "rates" ["saw", "rate", "rounds"] ["rounds", "rate", "saw"] [2, 1, 0]) (Ke : KwB K mg "losses" ["saw", "rate", "number"] ["number", "rate", "saw"] [2, 1, 0]) (Kf : KwB K mg "counts" ["saw", "rate", "number"] ["number", "rate", "saw"] [2, 1, 0]) (Kg : KwB K mg "rate_in" ["saw", "rate", "place"] ["place", "rate", "saw"] [2, 1, 0])
    (G1 : FnP P w K mg base "_law_source" 1 P_stream) (G2 : FnP P w K mg base "_law_draw" 1 P_draw) (A1 : FnP P w K mg base "plus" 3 (det (R_qq (· + ·)))) (A2 : FnP P w K mg base "minus" 3 (det (R_qq (· - ·)))) (A3 : FnP P w K mg base "times" 3 (det (R_qq (· * ·)))) (A4 : FnP P w K mg base "floor" 1 (det R_floor)) (A5 : FnP P w K mg base "divided" 3 (det R_div)) (A6 : FnP P w K mg base "reduced" 2 (det R_reduced))
    (A7 : FnP P w K mg base "is_less" 1 (det R_less)) (A8 : FnP P w K mg base "is_fraction" 2 (det R_isfrac)) (A9 : FnP P w K mg base "fraction_text" 1 P_ftext) (Aa : FnP P w K mg base "read_fraction" 4 P_read) (Ab : FnP P w K mg base "is_saw" 4 (det R_issaw)) (Ac : FnP P w K mg base "next_rate" 4 P_next) (Ad : FnP P w K mg base "rates" 5 P_rates) (Ae : FnP P w K mg base "losses" 5 P_losses) (Af : FnP P w K mg base "counts" 6 P_counts) (Ag : FnP P w K mg base "rate_in" 6 P_ratein) : FnG P w K mg base 7 f fd ["_law_script"] (spLaw K) := by
  refine fnG_law (N := N_law) F sc_law fun cdv A outer s H hg hr ns hl hb => ?_
  have nd := sc_law.nd
  have o1 : Own "_law_both" := ⟨⟩
  show Go _ H (_ :: _) _ [.dat (.lst (ns.map .int)), .any, .any, .any, .any, .any, .any, .any, .any]
  walk_at "range"
  · rename_i i hi
    walk_at "go"
    rename_i a a0 a1 t t0 t1 h h0 h1
    have eS : D.tup [.tup [.int (5 + t), .int 1], .tup [.int 1, .int 1], .tup [.int 1, .int 2]] = dSaw (Rat.divInt (5 + t) 1) (Rat.divInt 1 1) (Rat.divInt 1 2) := lit_saw ⟨⟨⟨by decide, gcd1 _⟩, by decide⟩, by decide⟩
    have e1 : D.tup [.int (1 + a), .int 11] = dq (Rat.divInt (1 + a) 11) := lit_num (by decide) (gcd11i a0 a1).1
    have e2 : D.tup [.int 3, .int 7] = dq (Rat.divInt 3 7) := lit_num (by decide) (by decide)
    have z1 : Sz 10 (Rat.divInt (1 + a) 11) := sz_divInt (by omega) (by decide) (by decide)
    have z2 : Sz 10 (Rat.divInt 3 7) := sz_divInt (by decide) (by decide) (by decide)
    have hf := (gcd11i a0 a1).2
    have n2 : Rat.divInt 3 7 ≠ 0 := by decide
    have ask2 : AskF (.tup [.int 3, .int 7]) := (sh_of (by decide +kernel)).2
    have hw := walks9 t0 t1 h0 h1
    obtain ⟨hL, hG⟩ := okL_to (okLi t0 t1 h0 h1)
    have askS : AskS (D.tup [.tup [.int (5 + t), .int 1], .tup [.int 1, .int 1], .tup [.int 1, .int 2]]) := by
      refine ⟨rfl, fun xs e => ?_⟩
      cases e
      refine ⟨by show 3 ≤ 1000; decide, allc (askF2 (by omega)) (allc (sh_of (by decide +kernel)).2 (allc (sh_of (by decide +kernel)).2 alln))⟩
    rw [eS] at askS ⊢
    rw [dq_int' h]
    generalize Rat.divInt (1 + a) 11 = q1 at *
    generalize Rat.divInt 3 7 = q2 at *
    generalize Rat.divInt (5 + t) 1 = sp at *
    generalize Rat.divInt 1 1 = st at *
    generalize Rat.divInt 1 2 = k at *
    generalize ((h : Int) : Rat) = r at *
    have w1 : (Walks sp st k r 1 5 ∧ 5 ≤ 1000) ∧ (5 : Int) = (5 : Nat) := ⟨⟨hw 5 (by decide), by decide⟩, rfl⟩
    have w2 : (Walks sp st k r 1 3 ∧ 3 ≤ 1000) ∧ (3 : Int) = (3 : Nat) := ⟨⟨hw 3 (by decide), by decide⟩, rfl⟩
    have w3 : (Walks sp st k r 1 (3 + 1) ∧ 3 ≤ 999) ∧ (3 : Int) = (3 : Nat) := ⟨⟨hw 4 (by decide), by decide⟩, rfl⟩
    have w4 : (Walks sp st k r 1 9 ∧ cntAt sp st k 9 r ≤ 9) ∧ (9 : Int) = (9 : Nat) := ⟨⟨hw 9 (by decide), cnt_le ..⟩, rfl⟩
    have w5 : ((Sz 300 sp ∧ Sz 300 st) ∧ Sz 300 k) ∧ Sz 2200 r := ⟨⟨⟨w1.1.1.spz, w1.1.1.stz⟩, w1.1.1.kz⟩, w1.1.1.rz.mono (by decide)⟩
    clear eS
    walk_at "go"
    refine go_freeze 7 ?_
    clear o1
    have s1 : Sh 40 10000000 (.lst ((walkL sp st k 5 r).map dq)) := Sh.mono (sh_dqs (n := 1560) (fun x hx => by
      obtain ⟨i, hi, rfl⟩ := List.mem_map.mp hx
      obtain ⟨E', h'⟩ := w1.1.1.at (i := i) (by have := List.mem_range.mp hi; omega)
      exact h'.rz) (by decide) (by decide)) (by decide) (by rw [walkL_len]; decide)
    have s2 : Sh 40 10000000 (.lst ((lossS sp st k 3 0 r).map dL)) := sh_dLs (by rw [lossS_len]; decide) fun p hp => ⟨(hL p hp).1, (hL p hp).2.mono (by decide)⟩
    have s3 : Sh 40 10000000 (.lst ((gapL (lossS sp st k (3 + 1) 0 r)).map .int)) := sh_intL (by rw [gapL_len, lossS_len]; decide) hG
    have s4 : Sh 40 10000000 (dq (nextR sp st k r)) := by
      obtain ⟨E', h'⟩ := (hw 1 (by decide)).next
      exact Sh.mono (sh_dq h'.rz (by decide) (by decide)) (by decide) (by decide)
    have s5 : Sh 40 10000000 (dq (walkAt sp st k 9 r)) := by
      obtain ⟨E', h'⟩ := (hw 9 (by decide)).at (i := 9) (Nat.le_refl _)
      exact Sh.mono (sh_dq h'.rz (by decide) (by decide)) (by decide) (by decide)
    have sq : ∀ {x : Rat}, Sz 100 x → Sh 40 10000000 (dq x) := fun h => Sh.mono (sh_dq h (by decide) (by decide)) (by decide) (by decide)
    have sb : ∀ b : Bool, Sh 40 10000000 (.bl b) := fun b => Sh.mono (sh_bl b) (by decide) (by decide)
    have sl : ∀ {d : D}, okB d = true → Sh 40 10000000 d := fun h => Sh.mono (sh_of h).1 (by decide) (by decide)
    rw [hf]
    refine s_ifF (k := false) ?_ rfl ?_
    · walk_at "go"
      refine lcF1 (fun d => d) _ (fun _ => false) (by rw [List.map_id']; exact evjs_i (wi_dat (by walk_at "look"))) (fun d hd s H C cl fp => ?_) ?_ ?_
      · have hT : Twin d := (allApp (allApp (allApp (allApp (allApp (allApp (allApp (allApp (allApp (allApp (allApp (allApp (allApp (allc (twin (sq ((Sz.add z1 z2).mono (by decide)))) (allc (twin (sq ((Sz.sub z1 z2).mono (by decide)))) alln)) (allc (twin (sq ((Sz.mul z1 z2).mono (by decide)))) (allc (twin (sl (by decide +kernel))) alln))) (allc (twin (sq ((Sz.div z1 z2 n2).mono (by decide)))) alln)) (allc (twin (sq (sz_divInt (by decide) (by decide) (by decide)))) alln)) (allc (twin (sb _)) alln)) (allc (twin (sb _)) alln)) (allc (twin (sl (by decide +kernel))) alln)) (allc (twin (sl (by decide +kernel))) alln)) (allc (twin (sb _)) alln)) (allc (twin s4) alln)) (allc (twin s1) alln)) (allc (twin s2) alln)) (allc (twin s3) alln)) (allc (twin s5) alln)) d hd
        obtain ⟨x, rfl, hx⟩ := hT
        clear hd
        walk_at "go"
        simp
      · rw [List.filter_eq_nil_iff.mpr fun x hx => by decide]
        walk_at "go"
        rfl
      · simp
    walk_at "go"
  · walk_at "go"
end

theorem all_mk {l : PySem.W.OpenLaw} {w : World} {K : PySem.W.Frag} {h : Heap} {mg : Str → Option Value} {fa f0 f1 f2 f3 f4 f5 f6 f7 f8 f9 f10 f11 f12 f13 f14 f15 f16 f17 f18 f19 f20 f21 f22 f23 f24 f25 f26 : Addr} (X : K.In h) (G : h.Ns mainGlobals mg) (hfa : mg "law" = some (.ref fa))
    {od0 an0 od1 an1 od2 an2 od3 an3 od4 an4 od5 an5 od6 an6 od7 an7 od8 an8 od9 an9 od10 an10 od11 an11 od12 an12 od13 an13 od14 an14 od15 an15 od16 an16 od17 an17 od18 an18 od19 an19 od20 an20 od21 an21 od22 an22 od23 an23 od24 an24 od25 an25 od26 an26 : Option Addr} {sl0 sl1 sl2 sl3 sl4 sl5 sl6 sl7 sl8 sl9 sl10 sl11 sl12 sl13 sl14 sl15 sl16 sl17 sl18 sl19 sl20 sl21 sl22 sl23 sl24 sl25 sl26 : Array (Option Value)} {oc0 kV0 dc0 pm0 cd0 ct0 oc1 kV1 dc1 pm1 cd1 ct1 oc2 kV2 dc2 pm2 cd2 ct2 oc3 kV3 dc3 pm3 cd3 ct3 oc4 kV4 dc4 pm4 cd4 ct4 oc5 kV5 dc5 pm5 cd5 ct5 oc6 kV6 dc6 pm6 cd6 ct6 oc7 kV7 dc7 pm7 cd7 ct7 oc8 kV8 dc8 pm8 cd8 ct8 oc9 kV9 dc9 pm9 cd9 ct9 oc10 kV10 dc10 pm10 cd10 ct10 oc11 kV11 dc11 pm11 cd11 ct11 oc12 kV12 dc12 pm12 cd12 ct12 oc13 kV13 dc13 pm13 cd13 ct13 oc14 kV14 dc14 pm14 cd14 ct14 oc15 kV15 dc15 pm15 cd15 ct15 oc16 kV16 dc16 pm16 cd16 ct16 oc17 kV17 dc17 pm17 cd17 ct17 oc18 kV18 dc18 pm18 cd18 ct18 oc19 kV19 dc19 pm19 cd19 ct19 oc20 kV20 dc20 pm20 cd20 ct20 oc21 kV21 dc21 pm21 cd21 ct21 oc22 kV22 dc22 pm22 cd22 ct22 oc23 kV23 dc23 pm23 cd23 ct23 oc24 kV24 dc24 pm24 cd24 ct24 oc25 kV25 dc25 pm25 cd25 ct25 oc26 kV26 dc26 pm26 cd26 ct26 : Value}
    (a0 : PySem.W.nsIn K mainGlobals "is_integer" = some (some (.ref f0))) (l0 : K.lookup f0 = some ⟨oc0, od0, .func (PySem.W.fnOf "is_integer" "is_integer" (defArgs s_is_integer) (defBody s_is_integer) (defScope s_is_integer) .none kV0 dc0 pm0 an0 cd0 ct0), sl0⟩) (c0 : PySem.W.codeIn K cd0 "is_integer" = true) (k0 : PySem.W.keepIn K (.ref f0) = true)
    (a1 : PySem.W.nsIn K mainGlobals "divisor" = some (some (.ref f1))) (l1 : K.lookup f1 = some ⟨oc1, od1, .func (PySem.W.fnOf "divisor" "divisor" (defArgs s_divisor) (defBody s_divisor) (defScope s_divisor) .none kV1 dc1 pm1 an1 cd1 ct1), sl1⟩) (c1 : PySem.W.codeIn K cd1 "divisor" = true) (k1 : PySem.W.keepIn K (.ref f1) = true)
    (a2 : PySem.W.nsIn K mainGlobals "is_fraction" = some (some (.ref f2))) (l2 : K.lookup f2 = some ⟨oc2, od2, .func (PySem.W.fnOf "is_fraction" "is_fraction" (defArgs s_is_fraction) (defBody s_is_fraction) (defScope s_is_fraction) .none kV2 dc2 pm2 an2 cd2 ct2), sl2⟩) (c2 : PySem.W.codeIn K cd2 "is_fraction" = true) (k2 : PySem.W.keepIn K (.ref f2) = true)
    (a3 : PySem.W.nsIn K mainGlobals "is_above" = some (some (.ref f3))) (l3 : K.lookup f3 = some ⟨oc3, od3, .func (PySem.W.fnOf "is_above" "is_above" (defArgs s_is_above) (defBody s_is_above) (defScope s_is_above) .none kV3 dc3 pm3 an3 cd3 ct3), sl3⟩) (c3 : PySem.W.codeIn K cd3 "is_above" = true) (k3 : PySem.W.keepIn K (.ref f3) = true)
    (a4 : PySem.W.nsIn K mainGlobals "reduced" = some (some (.ref f4))) (l4 : K.lookup f4 = some ⟨oc4, od4, .func (PySem.W.fnOf "reduced" "reduced" (defArgs s_reduced) (defBody s_reduced) (defScope s_reduced) .none kV4 dc4 pm4 an4 cd4 ct4), sl4⟩) (c4 : PySem.W.codeIn K cd4 "reduced" = true) (k4 : PySem.W.keepIn K (.ref f4) = true)
    (a5 : PySem.W.nsIn K mainGlobals "plus" = some (some (.ref f5))) (l5 : K.lookup f5 = some ⟨oc5, od5, .func (PySem.W.fnOf "plus" "plus" (defArgs s_plus) (defBody s_plus) (defScope s_plus) .none kV5 dc5 pm5 an5 cd5 ct5), sl5⟩) (c5 : PySem.W.codeIn K cd5 "plus" = true) (k5 : PySem.W.keepIn K (.ref f5) = true)
    (a6 : PySem.W.nsIn K mainGlobals "minus" = some (some (.ref f6))) (l6 : K.lookup f6 = some ⟨oc6, od6, .func (PySem.W.fnOf "minus" "minus" (defArgs s_minus) (defBody s_minus) (defScope s_minus) .none kV6 dc6 pm6 an6 cd6 ct6), sl6⟩) (c6 : PySem.W.codeIn K cd6 "minus" = true) (k6 : PySem.W.keepIn K (.ref f6) = true)
    (a7 : PySem.W.nsIn K mainGlobals "times" = some (some (.ref f7))) (l7 : K.lookup f7 = some ⟨oc7, od7, .func (PySem.W.fnOf "times" "times" (defArgs s_times) (defBody s_times) (defScope s_times) .none kV7 dc7 pm7 an7 cd7 ct7), sl7⟩) (c7 : PySem.W.codeIn K cd7 "times" = true) (k7 : PySem.W.keepIn K (.ref f7) = true)
    (a8 : PySem.W.nsIn K mainGlobals "divided" = some (some (.ref f8))) (l8 : K.lookup f8 = some ⟨oc8, od8, .func (PySem.W.fnOf "divided" "divided" (defArgs s_divided) (defBody s_divided) (defScope s_divided) .none kV8 dc8 pm8 an8 cd8 ct8), sl8⟩) (c8 : PySem.W.codeIn K cd8 "divided" = true) (k8 : PySem.W.keepIn K (.ref f8) = true)
    (a9 : PySem.W.nsIn K mainGlobals "is_less" = some (some (.ref f9))) (l9 : K.lookup f9 = some ⟨oc9, od9, .func (PySem.W.fnOf "is_less" "is_less" (defArgs s_is_less) (defBody s_is_less) (defScope s_is_less) .none kV9 dc9 pm9 an9 cd9 ct9), sl9⟩) (c9 : PySem.W.codeIn K cd9 "is_less" = true) (k9 : PySem.W.keepIn K (.ref f9) = true)
    (a10 : PySem.W.nsIn K mainGlobals "floor" = some (some (.ref f10))) (l10 : K.lookup f10 = some ⟨oc10, od10, .func (PySem.W.fnOf "floor" "floor" (defArgs s_floor) (defBody s_floor) (defScope s_floor) .none kV10 dc10 pm10 an10 cd10 ct10), sl10⟩) (c10 : PySem.W.codeIn K cd10 "floor" = true) (k10 : PySem.W.keepIn K (.ref f10) = true)
    (a11 : PySem.W.nsIn K mainGlobals "fraction_text" = some (some (.ref f11))) (l11 : K.lookup f11 = some ⟨oc11, od11, .func (PySem.W.fnOf "fraction_text" "fraction_text" (defArgs s_fraction_text) (defBody s_fraction_text) (defScope s_fraction_text) .none kV11 dc11 pm11 an11 cd11 ct11), sl11⟩) (c11 : PySem.W.codeIn K cd11 "fraction_text" = true) (k11 : PySem.W.keepIn K (.ref f11) = true)
    (a12 : PySem.W.nsIn K mainGlobals "number_of" = some (some (.ref f12))) (l12 : K.lookup f12 = some ⟨oc12, od12, .func (PySem.W.fnOf "number_of" "number_of" (defArgs s_number_of) (defBody s_number_of) (defScope s_number_of) .none kV12 dc12 pm12 an12 cd12 ct12), sl12⟩) (c12 : PySem.W.codeIn K cd12 "number_of" = true) (k12 : PySem.W.keepIn K (.ref f12) = true)
    (a13 : PySem.W.nsIn K mainGlobals "fraction_of" = some (some (.ref f13))) (l13 : K.lookup f13 = some ⟨oc13, od13, .func (PySem.W.fnOf "fraction_of" "fraction_of" (defArgs s_fraction_of) (defBody s_fraction_of) (defScope s_fraction_of) .none kV13 dc13 pm13 an13 cd13 ct13), sl13⟩) (c13 : PySem.W.codeIn K cd13 "fraction_of" = true) (k13 : PySem.W.keepIn K (.ref f13) = true)
    (a14 : PySem.W.nsIn K mainGlobals "read_fraction" = some (some (.ref f14))) (l14 : K.lookup f14 = some ⟨oc14, od14, .func (PySem.W.fnOf "read_fraction" "read_fraction" (defArgs s_read_fraction) (defBody s_read_fraction) (defScope s_read_fraction) .none kV14 dc14 pm14 an14 cd14 ct14), sl14⟩) (c14 : PySem.W.codeIn K cd14 "read_fraction" = true) (k14 : PySem.W.keepIn K (.ref f14) = true)
    (a15 : PySem.W.nsIn K mainGlobals "is_saw" = some (some (.ref f15))) (l15 : K.lookup f15 = some ⟨oc15, od15, .func (PySem.W.fnOf "is_saw" "is_saw" (defArgs s_is_saw) (defBody s_is_saw) (defScope s_is_saw) .none kV15 dc15 pm15 an15 cd15 ct15), sl15⟩) (c15 : PySem.W.codeIn K cd15 "is_saw" = true) (k15 : PySem.W.keepIn K (.ref f15) = true)
    (a16 : PySem.W.nsIn K mainGlobals "next_rate" = some (some (.ref f16))) (l16 : K.lookup f16 = some ⟨oc16, od16, .func (PySem.W.fnOf "next_rate" "next_rate" (defArgs s_next_rate) (defBody s_next_rate) (defScope s_next_rate) .none kV16 dc16 pm16 an16 cd16 ct16), sl16⟩) (c16 : PySem.W.codeIn K cd16 "next_rate" = true) (k16 : PySem.W.keepIn K (.ref f16) = true)
    (a17 : PySem.W.nsIn K mainGlobals "rates" = some (some (.ref f17))) (l17 : K.lookup f17 = some ⟨oc17, od17, .func (PySem.W.fnOf "rates" "rates" (defArgs s_rates) (defBody s_rates) (defScope s_rates) .none kV17 dc17 pm17 an17 cd17 ct17), sl17⟩) (c17 : PySem.W.codeIn K cd17 "rates" = true) (k17 : PySem.W.keepIn K (.ref f17) = true)
    (a18 : PySem.W.nsIn K mainGlobals "rounds_to_loss" = some (some (.ref f18))) (l18 : K.lookup f18 = some ⟨oc18, od18, .func (PySem.W.fnOf "rounds_to_loss" "rounds_to_loss" (defArgs s_rounds_to_loss) (defBody s_rounds_to_loss) (defScope s_rounds_to_loss) .none kV18 dc18 pm18 an18 cd18 ct18), sl18⟩) (c18 : PySem.W.codeIn K cd18 "rounds_to_loss" = true) (k18 : PySem.W.keepIn K (.ref f18) = true)
    (a19 : PySem.W.nsIn K mainGlobals "after" = some (some (.ref f19))) (l19 : K.lookup f19 = some ⟨oc19, od19, .func (PySem.W.fnOf "after" "after" (defArgs s_after) (defBody s_after) (defScope s_after) .none kV19 dc19 pm19 an19 cd19 ct19), sl19⟩) (c19 : PySem.W.codeIn K cd19 "after" = true) (k19 : PySem.W.keepIn K (.ref f19) = true)
    (a20 : PySem.W.nsIn K mainGlobals "losses" = some (some (.ref f20))) (l20 : K.lookup f20 = some ⟨oc20, od20, .func (PySem.W.fnOf "losses" "losses" (defArgs s_losses) (defBody s_losses) (defScope s_losses) .none kV20 dc20 pm20 an20 cd20 ct20), sl20⟩) (c20 : PySem.W.codeIn K cd20 "losses" = true) (k20 : PySem.W.keepIn K (.ref f20) = true)
    (a21 : PySem.W.nsIn K mainGlobals "counts" = some (some (.ref f21))) (l21 : K.lookup f21 = some ⟨oc21, od21, .func (PySem.W.fnOf "counts" "counts" (defArgs s_counts) (defBody s_counts) (defScope s_counts) .none kV21 dc21 pm21 an21 cd21 ct21), sl21⟩) (c21 : PySem.W.codeIn K cd21 "counts" = true) (k21 : PySem.W.keepIn K (.ref f21) = true)
    (a22 : PySem.W.nsIn K mainGlobals "reached" = some (some (.ref f22))) (l22 : K.lookup f22 = some ⟨oc22, od22, .func (PySem.W.fnOf "reached" "reached" (defArgs s_reached) (defBody s_reached) (defScope s_reached) .none kV22 dc22 pm22 an22 cd22 ct22), sl22⟩) (c22 : PySem.W.codeIn K cd22 "reached" = true) (k22 : PySem.W.keepIn K (.ref f22) = true)
    (a23 : PySem.W.nsIn K mainGlobals "rate_in" = some (some (.ref f23))) (l23 : K.lookup f23 = some ⟨oc23, od23, .func (PySem.W.fnOf "rate_in" "rate_in" (defArgs s_rate_in) (defBody s_rate_in) (defScope s_rate_in) .none kV23 dc23 pm23 an23 cd23 ct23), sl23⟩) (c23 : PySem.W.codeIn K cd23 "rate_in" = true) (k23 : PySem.W.keepIn K (.ref f23) = true)
    (a24 : PySem.W.nsIn K mainGlobals "_law_draw" = some (some (.ref f24))) (l24 : K.lookup f24 = some ⟨oc24, od24, .func (PySem.W.fnOf "_law_draw" "_law_draw" (defArgs s__law_draw) (defBody s__law_draw) (defScope s__law_draw) .none kV24 dc24 pm24 an24 cd24 ct24), sl24⟩) (c24 : PySem.W.codeIn K cd24 "_law_draw" = true) (k24 : PySem.W.keepIn K (.ref f24) = true)
    (a25 : PySem.W.nsIn K mainGlobals "_law_source" = some (some (.ref f25))) (l25 : K.lookup f25 = some ⟨oc25, od25, .func (PySem.W.fnOf "_law_source" "_law_source" (defArgs s__law_source) (defBody s__law_source) (defScope s__law_source) .none kV25 dc25 pm25 an25 cd25 ct25), sl25⟩) (c25 : PySem.W.codeIn K cd25 "_law_source" = true) (k25 : PySem.W.keepIn K (.ref f25) = true)
    (a26 : PySem.W.nsIn K mainGlobals "law" = some (some (.ref f26))) (l26 : K.lookup f26 = some ⟨oc26, od26, .func (PySem.W.fnOf "law" "law" (defArgs s_law) (defBody s_law) (defScope s_law) .none kV26 dc26 pm26 an26 cd26 ct26), sl26⟩) (c26 : PySem.W.codeIn K cd26 "law" = true) (k26 : PySem.W.keepIn K (.ref f26) = true)
    {gc0 : Addr} {gd0 : Option Addr} {gt0 gu0 : Tok} {gn0 : Nat} {gs0 : Array (Option Value)} (cg0 : PySem.W.nsIn K mainGlobals "ONE" = some (some (.ref gc0))) (ch0 : K.lookup gc0 = some ⟨.type "tuple", gd0, .seq #[.int 1 gt0, .int 1 gu0] gn0, gs0⟩)
    {gt1 : Tok} (cg1 : PySem.W.nsIn K mainGlobals "MOST_DIGITS" = some (some (.int 30 gt1)))
    {gt2 : Tok} (cg2 : PySem.W.nsIn K mainGlobals "DIGITS" = some (some (.str "0123456789" gt2)))
    (z0 : PySem.W.nsIn K mainGlobals "isinstance" = some none)
    (z1 : PySem.W.nsIn K mainGlobals "int" = some none)
    (z2 : PySem.W.nsIn K mainGlobals "bool" = some none)
    (z3 : PySem.W.nsIn K mainGlobals "abs" = some none)
    (z4 : PySem.W.nsIn K mainGlobals "tuple" = some none)
    (z5 : PySem.W.nsIn K mainGlobals "len" = some none)
    (z6 : PySem.W.nsIn K mainGlobals "str" = some none)
    (z7 : PySem.W.nsIn K mainGlobals "all" = some none)
    (z8 : PySem.W.nsIn K mainGlobals "range" = some none)
    (z9 : PySem.W.nsIn K mainGlobals "zip" = some none)
    (z10 : PySem.W.nsIn K mainGlobals "max" = some none)
    (z11 : PySem.W.nsIn K mainGlobals "min" = some none)
    (z12 : PySem.W.nsIn K mainGlobals "repr" = some none)
    : ∃ fd : FuncData, (∀ (s : Shared) (v : Value), BindsTo s fd ⟨[v], []⟩ [("_law_script", v)]) ∧ ∀ base : Heap, K.In base → base.Ns mainGlobals mg → TabBs K base mg → FnG l.prog w K mg base 7 fa fd ["_law_script"] (spLaw K) := by
  have e := hfa.symm.trans (PySem.W.mg_of X G a26)
  cases e
  have m_isinstance := PySem.W.mg_none_of X G z0
  have m_int := PySem.W.mg_none_of X G z1
  have m_bool := PySem.W.mg_none_of X G z2
  have m_abs := PySem.W.mg_none_of X G z3
  have m_tuple := PySem.W.mg_none_of X G z4
  have m_len := PySem.W.mg_none_of X G z5
  have m_str := PySem.W.mg_none_of X G z6
  have m_all := PySem.W.mg_none_of X G z7
  have m_range := PySem.W.mg_none_of X G z8
  have m_zip := PySem.W.mg_none_of X G z9
  have m_max := PySem.W.mg_none_of X G z10
  have m_min := PySem.W.mg_none_of X G z11
  have m_repr := PySem.W.mg_none_of X G z12
  have v_ONE := gv_tup2 (PySem.W.mg_of X G cg0) ch0
  have v_MOST_DIGITS := gv_int (K := K) (PySem.W.mg_of X G cg1)
  have v_DIGITS := gv_str (K := K) (PySem.W.mg_of X G cg2)
  have F_is_integer := fun_mk (st := s_is_integer) l0 c0 k0
  have m_is_integer := PySem.W.mg_of X G a0
  have b_is_integer := F_is_integer.binds (ps := ["value"]) fun _ _ _ _ _ _ us hl => match us, hl with | [_], _ => rfl
  have F_divisor := fun_mk (st := s_divisor) l1 c1 k1
  have m_divisor := PySem.W.mg_of X G a1
  have b_divisor := F_divisor.binds (ps := ["first", "second"]) fun _ _ _ _ _ _ us hl => match us, hl with | [_, _], _ => rfl
  have F_is_fraction := fun_mk (st := s_is_fraction) l2 c2 k2
  have m_is_fraction := PySem.W.mg_of X G a2
  have b_is_fraction := F_is_fraction.binds (ps := ["value"]) fun _ _ _ _ _ _ us hl => match us, hl with | [_], _ => rfl
  have F_is_above := fun_mk (st := s_is_above) l3 c3 k3
  have m_is_above := PySem.W.mg_of X G a3
  have b_is_above := F_is_above.binds (ps := ["value"]) fun _ _ _ _ _ _ us hl => match us, hl with | [_], _ => rfl
  have F_reduced := fun_mk (st := s_reduced) l4 c4 k4
  have m_reduced := PySem.W.mg_of X G a4
  have b_reduced := F_reduced.binds (ps := ["top", "bottom"]) fun _ _ _ _ _ _ us hl => match us, hl with | [_, _], _ => rfl
  have F_plus := fun_mk (st := s_plus) l5 c5 k5
  have m_plus := PySem.W.mg_of X G a5
  have b_plus := F_plus.binds (ps := ["first", "second"]) fun _ _ _ _ _ _ us hl => match us, hl with | [_, _], _ => rfl
  have F_minus := fun_mk (st := s_minus) l6 c6 k6
  have m_minus := PySem.W.mg_of X G a6
  have b_minus := F_minus.binds (ps := ["first", "second"]) fun _ _ _ _ _ _ us hl => match us, hl with | [_, _], _ => rfl
  have F_times := fun_mk (st := s_times) l7 c7 k7
  have m_times := PySem.W.mg_of X G a7
  have b_times := F_times.binds (ps := ["first", "second"]) fun _ _ _ _ _ _ us hl => match us, hl with | [_, _], _ => rfl
  have F_divided := fun_mk (st := s_divided) l8 c8 k8
  have m_divided := PySem.W.mg_of X G a8
  have b_divided := F_divided.binds (ps := ["first", "second"]) fun _ _ _ _ _ _ us hl => match us, hl with | [_, _], _ => rfl
  have F_is_less := fun_mk (st := s_is_less) l9 c9 k9
  have m_is_less := PySem.W.mg_of X G a9
  have b_is_less := F_is_less.binds (ps := ["first", "second"]) fun _ _ _ _ _ _ us hl => match us, hl with | [_, _], _ => rfl
  have F_floor := fun_mk (st := s_floor) l10 c10 k10
  have m_floor := PySem.W.mg_of X G a10
  have b_floor := F_floor.binds (ps := ["value"]) fun _ _ _ _ _ _ us hl => match us, hl with | [_], _ => rfl
  have F_fraction_text := fun_mk (st := s_fraction_text) l11 c11 k11
  have m_fraction_text := PySem.W.mg_of X G a11
  have b_fraction_text := F_fraction_text.binds (ps := ["value"]) fun _ _ _ _ _ _ us hl => match us, hl with | [_], _ => rfl
  have F_number_of := fun_mk (st := s_number_of) l12 c12 k12
  have m_number_of := PySem.W.mg_of X G a12
  have b_number_of := F_number_of.binds (ps := ["word"]) fun _ _ _ _ _ _ us hl => match us, hl with | [_], _ => rfl
  have F_fraction_of := fun_mk (st := s_fraction_of) l13 c13 k13
  have m_fraction_of := PySem.W.mg_of X G a13
  have b_fraction_of := F_fraction_of.binds (ps := ["text"]) fun _ _ _ _ _ _ us hl => match us, hl with | [_], _ => rfl
  have F_read_fraction := fun_mk (st := s_read_fraction) l14 c14 k14
  have m_read_fraction := PySem.W.mg_of X G a14
  have b_read_fraction := F_read_fraction.binds (ps := ["text"]) fun _ _ _ _ _ _ us hl => match us, hl with | [_], _ => rfl
  have F_is_saw := fun_mk (st := s_is_saw) l15 c15 k15
  have m_is_saw := PySem.W.mg_of X G a15
  have b_is_saw := F_is_saw.binds (ps := ["value"]) fun _ _ _ _ _ _ us hl => match us, hl with | [_], _ => rfl
  have F_next_rate := fun_mk (st := s_next_rate) l16 c16 k16
  have m_next_rate := PySem.W.mg_of X G a16
  have b_next_rate := F_next_rate.binds (ps := ["saw", "rate"]) fun _ _ _ _ _ _ us hl => match us, hl with | [_, _], _ => rfl
  have F_rates := fun_mk (st := s_rates) l17 c17 k17
  have m_rates := PySem.W.mg_of X G a17
  have b_rates := F_rates.binds (ps := ["saw", "rate", "rounds"]) fun _ _ _ _ _ _ us hl => match us, hl with | [_, _, _], _ => rfl
  have F_rounds_to_loss := fun_mk (st := s_rounds_to_loss) l18 c18 k18
  have m_rounds_to_loss := PySem.W.mg_of X G a18
  have b_rounds_to_loss := F_rounds_to_loss.binds (ps := ["saw", "rate"]) fun _ _ _ _ _ _ us hl => match us, hl with | [_, _], _ => rfl
  have F_after := fun_mk (st := s_after) l19 c19 k19
  have m_after := PySem.W.mg_of X G a19
  have b_after := F_after.binds (ps := ["saw", "rate", "rounds"]) fun _ _ _ _ _ _ us hl => match us, hl with | [_, _, _], _ => rfl
  have F_losses := fun_mk (st := s_losses) l20 c20 k20
  have m_losses := PySem.W.mg_of X G a20
  have b_losses := F_losses.binds (ps := ["saw", "rate", "number"]) fun _ _ _ _ _ _ us hl => match us, hl with | [_, _, _], _ => rfl
  have F_counts := fun_mk (st := s_counts) l21 c21 k21
  have m_counts := PySem.W.mg_of X G a21
  have b_counts := F_counts.binds (ps := ["saw", "rate", "number"]) fun _ _ _ _ _ _ us hl => match us, hl with | [_, _, _], _ => rfl
  have F_reached := fun_mk (st := s_reached) l22 c22 k22
  have m_reached := PySem.W.mg_of X G a22
  have b_reached := F_reached.binds (ps := ["saw", "rate", "place"]) fun _ _ _ _ _ _ us hl => match us, hl with | [_, _, _], _ => rfl
  have F_rate_in := fun_mk (st := s_rate_in) l23 c23 k23
  have m_rate_in := PySem.W.mg_of X G a23
  have b_rate_in := F_rate_in.binds (ps := ["saw", "rate", "place"]) fun _ _ _ _ _ _ us hl => match us, hl with | [_, _, _], _ => rfl
  have F__law_draw := fun_mk (st := s__law_draw) l24 c24 k24
  have m__law_draw := PySem.W.mg_of X G a24
  have b__law_draw := F__law_draw.binds (ps := ["_law_stream", "_law_size"]) fun _ _ _ _ _ _ us hl => match us, hl with | [_, _], _ => rfl
  have F__law_source := fun_mk (st := s__law_source) l25 c25 k25
  have m__law_source := PySem.W.mg_of X G a25
  have b__law_source := F__law_source.binds (ps := ["_law_script", "_law_begun"]) fun _ _ _ _ _ _ us hl => match us, hl with | [_, _], _ => rfl
  have F_law := fun_mk (st := s_law) l26 c26 k26
  have m_law := PySem.W.mg_of X G a26
  have kb_plus : KwB K mg "plus" ["first", "second"] ["second", "first"] [1, 0] := ⟨⟨_, _, _, _, _, m_plus, l5, (fun us hl => match us, hl with | [_, _], _ => rfl), (fun ws hl => match ws, hl with | [_, _], _ => rfl)⟩, rfl, by decide⟩
  have kb_minus : KwB K mg "minus" ["first", "second"] ["second", "first"] [1, 0] := ⟨⟨_, _, _, _, _, m_minus, l6, (fun us hl => match us, hl with | [_, _], _ => rfl), (fun ws hl => match ws, hl with | [_, _], _ => rfl)⟩, rfl, by decide⟩
  have kb_divided : KwB K mg "divided" ["first", "second"] ["second", "first"] [1, 0] := ⟨⟨_, _, _, _, _, m_divided, l8, (fun us hl => match us, hl with | [_, _], _ => rfl), (fun ws hl => match ws, hl with | [_, _], _ => rfl)⟩, rfl, by decide⟩
  have kb_reduced : KwB K mg "reduced" ["top", "bottom"] ["bottom", "top"] [1, 0] := ⟨⟨_, _, _, _, _, m_reduced, l4, (fun us hl => match us, hl with | [_, _], _ => rfl), (fun ws hl => match ws, hl with | [_, _], _ => rfl)⟩, rfl, by decide⟩
  have kb_is_less : KwB K mg "is_less" ["first", "second"] ["second", "first"] [1, 0] := ⟨⟨_, _, _, _, _, m_is_less, l9, (fun us hl => match us, hl with | [_, _], _ => rfl), (fun ws hl => match ws, hl with | [_, _], _ => rfl)⟩, rfl, by decide⟩
  have kb_is_fraction : KwB K mg "is_fraction" ["value"] ["value"] [0] := ⟨⟨_, _, _, _, _, m_is_fraction, l2, (fun us hl => match us, hl with | [_], _ => rfl), (fun ws hl => match ws, hl with | [_], _ => rfl)⟩, rfl, by decide⟩
  have kb_fraction_text : KwB K mg "fraction_text" ["value"] ["value"] [0] := ⟨⟨_, _, _, _, _, m_fraction_text, l11, (fun us hl => match us, hl with | [_], _ => rfl), (fun ws hl => match ws, hl with | [_], _ => rfl)⟩, rfl, by decide⟩
  have kb_read_fraction : KwB K mg "read_fraction" ["text"] ["text"] [0] := ⟨⟨_, _, _, _, _, m_read_fraction, l14, (fun us hl => match us, hl with | [_], _ => rfl), (fun ws hl => match ws, hl with | [_], _ => rfl)⟩, rfl, by decide⟩
  have kb_is_saw : KwB K mg "is_saw" ["value"] ["value"] [0] := ⟨⟨_, _, _, _, _, m_is_saw, l15, (fun us hl => match us, hl with | [_], _ => rfl), (fun ws hl => match ws, hl with | [_], _ => rfl)⟩, rfl, by decide⟩
  have kb_next_rate : KwB K mg "next_rate" ["saw", "rate"] ["rate", "saw"] [1, 0] := ⟨⟨_, _, _, _, _, m_next_rate, l16, (fun us hl => match us, hl with | [_, _], _ => rfl), (fun ws hl => match ws, hl with | [_, _], _ => rfl)⟩, rfl, by decide⟩
  have kb_rates : KwB K mg "rates" ["saw", "rate", "rounds"] ["rounds", "rate", "saw"] [2, 1, 0] := ⟨⟨_, _, _, _, _, m_rates, l17, (fun us hl => match us, hl with | [_, _, _], _ => rfl), (fun ws hl => match ws, hl with | [_, _, _], _ => rfl)⟩, rfl, by decide⟩
  have kb_losses : KwB K mg "losses" ["saw", "rate", "number"] ["number", "rate", "saw"] [2, 1, 0] := ⟨⟨_, _, _, _, _, m_losses, l20, (fun us hl => match us, hl with | [_, _, _], _ => rfl), (fun ws hl => match ws, hl with | [_, _, _], _ => rfl)⟩, rfl, by decide⟩
  have kb_counts : KwB K mg "counts" ["saw", "rate", "number"] ["number", "rate", "saw"] [2, 1, 0] := ⟨⟨_, _, _, _, _, m_counts, l21, (fun us hl => match us, hl with | [_, _, _], _ => rfl), (fun ws hl => match ws, hl with | [_, _, _], _ => rfl)⟩, rfl, by decide⟩
  have kb_rate_in : KwB K mg "rate_in" ["saw", "rate", "place"] ["place", "rate", "saw"] [2, 1, 0] := ⟨⟨_, _, _, _, _, m_rate_in, l23, (fun us hl => match us, hl with | [_, _, _], _ => rfl), (fun ws hl => match ws, hl with | [_, _, _], _ => rfl)⟩, rfl, by decide⟩
  have kb_times : KwB K mg "times" ["first", "second"] ["second", "first"] [1, 0] := ⟨⟨_, _, _, _, _, m_times, l7, (fun us hl => match us, hl with | [_, _], _ => rfl), (fun ws hl => match ws, hl with | [_, _], _ => rfl)⟩, rfl, by decide⟩
  have kb_floor : KwB K mg "floor" ["value"] ["value"] [0] := ⟨⟨_, _, _, _, _, m_floor, l10, (fun us hl => match us, hl with | [_], _ => rfl), (fun ws hl => match ws, hl with | [_], _ => rfl)⟩, rfl, by decide⟩
  refine ⟨PySem.W.fnOf "law" "law" (defArgs s_law) (defBody s_law) (defScope s_law) .none kV26 dc26 pm26 an26 cd26 ct26, fun s v => .of_eq rfl, fun base _ _ tB => ?_⟩
  have H1 := ok_source (P := l.prog) (w := w) (base := base) F__law_source m__law_source b__law_source m_int
  have H2 := ok_draw (P := l.prog) (w := w) (base := base) F__law_draw m__law_draw b__law_draw m_int
  have A1 := ok_divisor (P := l.prog) (w := w) (base := base) F_divisor m_divisor b_divisor m_abs
  have A2 := ok_reduced F_reduced m_reduced b_reduced A1
  have A3 := ok_plus F_plus m_plus b_plus A2
  have A4 := ok_minus F_minus m_minus b_minus A2
  have A5 := ok_times F_times m_times b_times A2
  have A6 := ok_divided F_divided m_divided b_divided A2
  have A7 := ok_is_less (P := l.prog) (w := w) (base := base) F_is_less m_is_less b_is_less
  have A8 := ok_floor (P := l.prog) (w := w) (base := base) F_floor m_floor b_floor
  have A9 := ok_is_integer (P := l.prog) (w := w) (base := base) F_is_integer m_is_integer b_is_integer m_isinstance m_int m_bool
  have B1 := ok_isfrac F_is_fraction m_is_fraction b_is_fraction m_isinstance m_tuple m_len A9 A1
  have B2 := ok_ftext (P := l.prog) (w := w) (base := base) F_fraction_text m_fraction_text b_fraction_text m_str
  have B3 := ok_number (P := l.prog) (w := w) (base := base) F_number_of m_number_of b_number_of m_str m_int m_len m_all v_MOST_DIGITS v_DIGITS
  have B4 := ok_fof F_fraction_of m_fraction_of b_fraction_of m_len B3 B1 B2
  have B5 := ok_read F_read_fraction m_read_fraction b_read_fraction m_isinstance m_str B4
  have C1 := ok_above F_is_above m_is_above b_is_above B1
  have C2 := ok_issaw F_is_saw m_is_saw b_is_saw m_isinstance m_tuple m_len m_all v_ONE B1 C1 A7
  have C3 := ok_r2l F_rounds_to_loss m_rounds_to_loss b_rounds_to_loss A7 A4 A6 A8
  have C4 := ok_after F_after m_after b_after A3 A5 A2
  have C5 := ok_next F_next_rate m_next_rate b_next_rate A7 A5 A3
  have C6 := ok_rates F_rates m_rates b_rates m_range C5
  have C7 := ok_losses F_losses m_losses b_losses m_range C3 C4 A4 A5
  have C8 := ok_counts F_counts m_counts b_counts m_zip C7
  have C9 := ok_reached F_reached m_reached b_reached C3 C4 A5
  have D1 := ok_ratein F_rate_in m_rate_in b_rate_in C9
  exact ok_law F_law m_range m_max m_min m_len m_repr kb_plus kb_minus kb_times kb_floor kb_divided kb_reduced kb_is_less kb_is_fraction kb_fraction_text kb_read_fraction kb_is_saw kb_next_rate kb_rates kb_losses kb_counts kb_rate_in H1 H2 A3 A4 A5 A8 A6 A2 A7 B1 B2 B5 C2 C5 C6 C7 C8 D1
end My
open PySem PySem.W PyProof.Rows
set_option maxRecDepth 100000 in
set_option maxHeartbeats 0 in
theorem PySem.Challenge.cw_fairflows_k09_fractions_and_saws_by_name_holds : PySem.Challenge.rw_fairflows_k09_fractions_and_saws_by_name.Holds := by
  w_on; o_law; k_head; (case hw => w_witness2)
  k_fill
  refine L3.walkLaw (l := PySem.Challenge.rw_fairflows_k09_fractions_and_saws_by_name) (k := 7) (x := "_law_script") rfl rfl ⟨rfl, by decide, by decide⟩ (fun w h Y => by first | exact PySem.W.kIn_of Y | exact PySem.W.km_in_of Y) ?T ?F
  case T =>
    intro w loose mean mg mb h KX T
    first | exact L3.tabAt_none (.inl (by k_is)) | exact L3.tabAt_none (.inr (by k_is))
  case F =>
    intro w mg fa h KX G hmg
    refine' My.all_mk KX G hmg ?a0 ?l0 ?c0 ?k0 ?a1 ?l1 ?c1 ?k1 ?a2 ?l2 ?c2 ?k2 ?a3 ?l3 ?c3 ?k3 ?a4 ?l4 ?c4 ?k4 ?a5 ?l5 ?c5 ?k5 ?a6 ?l6 ?c6 ?k6 ?a7 ?l7 ?c7 ?k7 ?a8 ?l8 ?c8 ?k8 ?a9 ?l9 ?c9 ?k9 ?a10 ?l10 ?c10 ?k10 ?a11 ?l11 ?c11 ?k11 ?a12 ?l12 ?c12 ?k12 ?a13 ?l13 ?c13 ?k13 ?a14 ?l14 ?c14 ?k14 ?a15 ?l15 ?c15 ?k15 ?a16 ?l16 ?c16 ?k16 ?a17 ?l17 ?c17 ?k17 ?a18 ?l18 ?c18 ?k18 ?a19 ?l19 ?c19 ?k19 ?a20 ?l20 ?c20 ?k20 ?a21 ?l21 ?c21 ?k21 ?a22 ?l22 ?c22 ?k22 ?a23 ?l23 ?c23 ?k23 ?a24 ?l24 ?c24 ?k24 ?a25 ?l25 ?c25 ?k25 ?a26 ?l26 ?c26 ?k26 ?cg0 ?ch0 ?cg1 ?cg2 ?z0 ?z1 ?z2 ?z3 ?z4 ?z5 ?z6 ?z7 ?z8 ?z9 ?z10 ?z11 ?z12
    (case a0 => k_is)
    (case l0 => k_is)
    (case c0 => k_is)
    (case k0 => k_is)
    (case a1 => k_is)
    (case l1 => k_is)
    (case c1 => k_is)
    (case k1 => k_is)
    (case a2 => k_is)
    (case l2 => k_is)
    (case c2 => k_is)
    (case k2 => k_is)
    (case a3 => k_is)
    (case l3 => k_is)
    (case c3 => k_is)
    (case k3 => k_is)
    (case a4 => k_is)
    (case l4 => k_is)
    (case c4 => k_is)
    (case k4 => k_is)
    (case a5 => k_is)
    (case l5 => k_is)
    (case c5 => k_is)
    (case k5 => k_is)
    (case a6 => k_is)
    (case l6 => k_is)
    (case c6 => k_is)
    (case k6 => k_is)
    (case a7 => k_is)
    (case l7 => k_is)
    (case c7 => k_is)
    (case k7 => k_is)
    (case a8 => k_is)
    (case l8 => k_is)
    (case c8 => k_is)
    (case k8 => k_is)
    (case a9 => k_is)
    (case l9 => k_is)
    (case c9 => k_is)
    (case k9 => k_is)
    (case a10 => k_is)
    (case l10 => k_is)
    (case c10 => k_is)
    (case k10 => k_is)
    (case a11 => k_is)
    (case l11 => k_is)
    (case c11 => k_is)
    (case k11 => k_is)
    (case a12 => k_is)
    (case l12 => k_is)
    (case c12 => k_is)
    (case k12 => k_is)
    (case a13 => k_is)
    (case l13 => k_is)
    (case c13 => k_is)
    (case k13 => k_is)
    (case a14 => k_is)
    (case l14 => k_is)
    (case c14 => k_is)
    (case k14 => k_is)
    (case a15 => k_is)
    (case l15 => k_is)
    (case c15 => k_is)
    (case k15 => k_is)
    (case a16 => k_is)
    (case l16 => k_is)
    (case c16 => k_is)
    (case k16 => k_is)
    (case a17 => k_is)
    (case l17 => k_is)
    (case c17 => k_is)
    (case k17 => k_is)
    (case a18 => k_is)
    (case l18 => k_is)
    (case c18 => k_is)
    (case k18 => k_is)
    (case a19 => k_is)
    (case l19 => k_is)
    (case c19 => k_is)
    (case k19 => k_is)
    (case a20 => k_is)
    (case l20 => k_is)
    (case c20 => k_is)
    (case k20 => k_is)
    (case a21 => k_is)
    (case l21 => k_is)
    (case c21 => k_is)
    (case k21 => k_is)
    (case a22 => k_is)
    (case l22 => k_is)
    (case c22 => k_is)
    (case k22 => k_is)
    (case a23 => k_is)
    (case l23 => k_is)
    (case c23 => k_is)
    (case k23 => k_is)
    (case a24 => k_is)
    (case l24 => k_is)
    (case c24 => k_is)
    (case k24 => k_is)
    (case a25 => k_is)
    (case l25 => k_is)
    (case c25 => k_is)
    (case k25 => k_is)
    (case a26 => k_is)
    (case l26 => k_is)
    (case c26 => k_is)
    (case k26 => k_is)
    (case cg0 => k_is)
    (case ch0 => k_is)
    (case cg1 => k_is)
    (case cg2 => k_is)
    (case z0 => k_is)
    (case z1 => k_is)
    (case z2 => k_is)
    (case z3 => k_is)
    (case z4 => k_is)
    (case z5 => k_is)
    (case z6 => k_is)
    (case z7 => k_is)
    (case z8 => k_is)
    (case z9 => k_is)
    (case z10 => k_is)
    (case z11 => k_is)
    (case z12 => k_is)
