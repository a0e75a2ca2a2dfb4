import PyProof.Rows.All
import Wide.All
import OpenK.AllK
import Wide.FinOn
import HandS.ForMost
import HandS.Wide
import HandS.IsInst
import HandS.Zip
import HandS.Lambda
import HandS.ExcInit
import HandS.TupAny
import HandS.TupMul
import HandS.More
import PyProof.ReprRoads
import PyProof.ReprLen
import HandS.EndBits
import HandS.TupLe
import HandS.Walk
import HandS.Style
import KE.GoesMore
import HandS.Deep
import KE.SortKeyHeap
import HandS.TupSets
import HandS.Star
import HandS.Strs
import HandS.NoneIn
import HandS.DictTup
import HandS.TupLen
import HandS.DictComp
import HandS.WideBits
import HandS.FStr
import HandS.Text
import HandS.Finally
import KE.KEqDict
import HandS.Property
import KE.DataFind
import PyProof.Rows.SortStr
import HandS.OwnEq
import HandS.ListItems
import HandS.MakeKwOnly
import PyProof.EqKinds
import HandS.ClsMeth
import HandS.CallLocal
import KE.KExcSuper
import HandS.Nested
import HandS.ExcOwn
import HandS.ExcField
import HandS.TryOnly
import HandS.WordsExc
import HandS.Defaults
import KE.KIntText
import KE.KxLen
import HandS.ExcIs
import KE.KExcIs
import KE.OsRunLaw
import PySem.Challenge.RW_fairflows_k54_errors_of_plans_made
set_option Elab.async false
set_option linter.all false
set_option maxRecDepth 100000
set_option maxHeartbeats 4000000
/-! Core: data trees over the hand layer, and what a text does to them. -/
namespace L3
open PySem PySem.Spec PyProof.Rows L2

/-! ### data -/
inductive D where
  | non | bl (b : Bool) | int (i : Int) | str (s : Str)
  | lst (xs : List D) | tup (xs : List D) | dct (kvs : List (Key × D))
  | ext (φ : Addr → Heap → Prop)
  /-- an instance of the class at C that is changed no more, its attributes -/
  | obj (C : Addr) (fs : List (Key × D))
  /-- what stands at a, told of its place alone -/
  | ptr (a : Addr)
  /-- an error of the class at C, its one attribute -/
  | exc (C : Addr) (f : Str) (d : D)
/-- attributes, their names as keys -/
def fkv (fs : List (Str × V)) : List (Key × V) := fs.map fun p => (.inr p.1, p.2)

mutual
inductive Rep (K : PySem.W.Frag) (H : Hp) : V → D → Prop
  | non : Rep K H .non .non
  | bl (b : Bool) : Rep K H (.bl b) (.bl b)
  | int (i : Int) : Rep K H (.int i) (.int i)
  | str (x : Str) : Rep K H (.str x) (.str x)
  | lst {a : Addr} {xs : List V} {ds : List D} : SqL K H a xs → RepAll K H xs ds → Rep K H (.ref a) (.lst ds)
  | tup {a : Addr} {xs : List V} {ds : List D} : SqT K H a xs → RepAll K H xs ds → Rep K H (.ref a) (.tup ds)
  | dct {a : Addr} {kvs : List (Key × V)} {ds : List (Key × D)} : Rd H a (.dK kvs) → RepKV K H kvs ds → Rep K H (.ref a) (.dct ds)
  | ext {a : Addr} {φ : Addr → Heap → Prop} : H a = some (.ext (φ a)) → Rep K H (.ref a) (.ext φ)
  | obj {a C dx : Addr} {fs : List (Str × V)} {ds : List (Key × D)} : H a = some (.ins C dx fs) → RepKV K H (fkv fs) ds → Rep K H (.ref a) (.obj C ds)
  | ptr (a : Addr) : Rep K H (.ref a) (.ptr a)
  | exc {a C dx : Addr} {f : Str} {v : V} {d : D} : H a = some (exo a C (some dx)) → H dx = some (exd dx [(f, v)]) → Rep K H v d → Rep K H (.ref a) (.exc C f d)
inductive RepAll (K : PySem.W.Frag) (H : Hp) : List V → List D → Prop
  | nil : RepAll K H [] []
  | cons {v : V} {vs : List V} {d : D} {ds : List D} : Rep K H v d → RepAll K H vs ds → RepAll K H (v :: vs) (d :: ds)
inductive RepKV (K : PySem.W.Frag) (H : Hp) : List (Key × V) → List (Key × D) → Prop
  | nil : RepKV K H [] []
  | cons {k : Key} {v : V} {vs : List (Key × V)} {d : D} {ds : List (Key × D)} : Rep K H v d → RepKV K H vs ds → RepKV K H ((k, v) :: vs) ((k, d) :: ds)
end

/-- no table of code objects -/
def NT (o : HO) : Prop := ∀ ps, o ≠ .tbl ps
/-- the one lambda's name: what each table of code objects holds -/
def lamQ : Str := "sorted_fractions.<locals>.<lambda>"
/-- all that is tracked stays; a table may get more -/
structure Ex (H H' : Hp) : Prop where
  get : ∀ a o, H a = some o → NT o → H' a = some o
  fr : ∀ a, H' a = none → H a = none
  tab : ∀ P, LamX.TabS H P lamQ → LamX.TabS H' P lamQ
theorem Ex.of {H H' : Hp} (h : ∀ a o, H a = some o → H' a = some o) : Ex H H' := by
  refine ⟨fun a o e _ => h a o e, fun a n => ?_, fun _ t => t.ext h⟩
  cases h1 : H a with
  | none => rfl
  | some o => rw [h a o h1] at n; cases n
theorem Ex.refl {H : Hp} : Ex H H := Ex.of fun _ _ h => h
theorem Ex.trans {H H1 H2 : Hp} (a : Ex H H1) (b : Ex H1 H2) : Ex H H2 := ⟨fun x o h n => b.get x o (a.get x o h n) n, fun x n => a.fr x (b.fr x n), fun P t => b.tab P (a.tab P t)⟩
theorem Ex.new {H : Hp} {p : Addr} {o : HO} (h : H p = none) : Ex H (upd H p o) := Ex.of fun a u e => by
  rw [upd_ne (ne_of_none e h)]
  exact e
/-- neither a table nor a thing told of its one object -/
def Pln : Option HO → Prop
  | some (.ext _) => False
  | some (.tbl _) => False
  | _ => True
theorem TabS.but {H H' : Hp} {P : Addr} {q : Str} (t : LamX.TabS H P q) (k : ∀ a u, H a = some u → ¬ Pln (some u) → H' a = some u) : LamX.TabS H' P q := by
  obtain ⟨ps, h1, h2, h3⟩ := t
  refine ⟨ps, k _ _ h1 fun z => z, h2, fun pos cv hc => ?_⟩
  obtain ⟨c, e1, e2⟩ := h3 pos cv hc
  exact ⟨c, e1, k _ _ e2 fun z => z⟩
theorem Ex.mut {H H' : Hp} {p : Addr} {o : HO} (e : Ex H H') (h : H p = none) (hl : Pln (H' p)) : Ex H (upd H' p o) := by
  refine ⟨fun a u ha n => ?_, fun a n => ?_, fun P t => TabS.but (e.tab P t) fun a u ha n => ?_⟩
  · rw [upd_ne (ne_of_none ha h)]
    exact e.get a u ha n
  · by_cases z : a = p
    · rw [z]; exact h
    · rw [upd_ne z] at n; exact e.fr a n
  · rw [upd_ne fun z => n (by rw [← ha, z]; exact hl)]
    exact ha
theorem Ex.lst {H H' : Hp} (e : Ex H H') {a : Addr} {xs : List V} (h : H a = some (.lst xs)) : H' a = some (.lst xs) := e.get _ _ h fun _ z => nomatch z
theorem Ex.dK {H H' : Hp} (e : Ex H H') {a : Addr} {xs : List (Key × V)} (h : H a = some (.dK xs)) : H' a = some (.dK xs) := e.get _ _ h fun _ z => nomatch z
theorem Ex.ext {H H' : Hp} (e : Ex H H') {a : Addr} {φ : Heap → Prop} (h : H a = some (.ext φ)) : H' a = some (.ext φ) := e.get _ _ h fun _ z => nomatch z
theorem Ex.free {H H' : Hp} {p : Addr} (e : Ex H H') (h : H' p = none) : H p = none := e.fr p h
/-- where the def with the lambda is known, its table stands -/
def TbOk (K : PySem.W.Frag) (H : Hp) : Prop := ∀ c P, PySem.W.tabIn K "sorted_fractions" = some (c, P) → LamX.TabS H P lamQ
theorem TbOk.ex {K : PySem.W.Frag} {H H' : Hp} (t : TbOk K H) (e : Ex H H') : TbOk K H' := fun c P h => e.tab P (t c P h)
structure ExK (K : PySem.W.Frag) (H H' : Hp) : Prop extends Ex H H' where
  tb : TbOk K H
theorem ExK.trans {K : PySem.W.Frag} {H H1 H2 : Hp} (a : ExK K H H1) (b : Ex H1 H2) : ExK K H H2 := ⟨a.toEx.trans b, a.tb⟩
theorem ExK.self {K : PySem.W.Frag} {H H' : Hp} (a : ExK K H H') : ExK K H' H' := ⟨Ex.refl, a.tb.ex a.toEx⟩
theorem Rd.ex {H H' : Hp} {a : Addr} {u : HO} (e : Ex H H') (h : Rd H a u) (n : NT u := by exact fun _ z => nomatch z) : Rd H' a u := by
  rcases h with h | ⟨o, h⟩
  · exact .inl (e.get a _ h n)
  · exact .inr ⟨o, e.get a _ h fun _ z => nomatch z⟩
theorem SqL.ex {K : PySem.W.Frag} {H H' : Hp} {a : Addr} {xs : List V} (e : Ex H H') (h : SqL K H a xs) : SqL K H' a xs := by
  rcases h with h | h
  · exact .inl (Rd.ex e h)
  · exact .inr h
theorem SqT.ex {K : PySem.W.Frag} {H H' : Hp} {a : Addr} {xs : List V} (e : Ex H H') (h : SqT K H a xs) : SqT K H' a xs := by
  rcases h with h | h
  · exact .inl (Rd.ex e h)
  · exact .inr h
mutual
theorem Rep.ex {K : PySem.W.Frag} {H H' : Hp} (e : Ex H H') : ∀ {v : V} {d : D}, Rep K H v d → Rep K H' v d
  | _, _, .non => .non
  | _, _, .bl b => .bl b
  | _, _, .int i => .int i
  | _, _, .str x => .str x
  | _, _, .lst h r => .lst (SqL.ex e h) (RepAll.ex e r)
  | _, _, .tup h r => .tup (SqT.ex e h) (RepAll.ex e r)
  | _, _, .dct h r => .dct (Rd.ex e h) (RepKV.ex e r)
  | _, _, .ext h => .ext (e.ext h)
  | _, _, .obj h r => .obj (e.get _ _ h fun _ z => nomatch z) (RepKV.ex e r)
  | _, _, .ptr a => .ptr a
  | _, _, .exc h1 h2 r => .exc (e.ext h1) (e.ext h2) (Rep.ex e r)
theorem RepAll.ex {K : PySem.W.Frag} {H H' : Hp} (e : Ex H H') : ∀ {vs : List V} {ds : List D}, RepAll K H vs ds → RepAll K H' vs ds
  | _, _, .nil => .nil
  | _, _, .cons h r => .cons (Rep.ex e h) (RepAll.ex e r)
theorem RepKV.ex {K : PySem.W.Frag} {H H' : Hp} (e : Ex H H') : ∀ {vs : List (Key × V)} {ds : List (Key × D)}, RepKV K H vs ds → RepKV K H' vs ds
  | _, _, .nil => .nil
  | _, _, .cons h r => .cons (Rep.ex e h) (RepKV.ex e r)
end

mutual
/-- tuples and simple things alone -/
def D.flat : D → Bool
  | .non | .bl _ | .int _ | .str _ | .ptr _ => true
  | .tup xs => flatAll xs
  | .exc _ _ d => D.flat d
  | _ => false
def D.flatAll : List D → Bool
  | [] => true
  | x :: xs => D.flat x && D.flatAll xs
end
/-- entries of tuples and simple things alone -/
def D.flatKV : List (Key × D) → Bool
  | [] => true
  | q :: r => D.flat q.2 && D.flatKV r
/-- a heap without some lists -/
def hide (H : Hp) (ps : List Addr) : Hp := fun a => if a ∈ ps then none else H a
theorem hide_in {H : Hp} {ps : List Addr} {a : Addr} (h : a ∈ ps) : hide H ps a = none := if_pos h
theorem hide_out {H : Hp} {ps : List Addr} {a : Addr} (h : a ∉ ps) : hide H ps a = H a := if_neg h
theorem hide_ex {H : Hp} {ps : List Addr} : Ex (hide H ps) H := Ex.of fun a o h => by
  by_cases z : a ∈ ps
  · rw [hide_in z] at h; cases h
  · rw [hide_out z] at h; exact h
/-- what may be one's own: lists, dicts, instances -/
def Mu : HO → Prop
  | .lst _ | .dK _ | .dT _ | .ins _ _ _ | .own _ => True
  | _ => False
theorem Mu.pln {u : HO} (h : Mu u) : Pln (some u) := by cases u <;> first | trivial | exact h.elim
theorem Mu.nt {u : HO} (h : Mu u) : NT u := fun ps e => by rw [e] at h; exact h
def Lsts (H : Hp) (ps : List Addr) : Prop := ∀ p ∈ ps, ∃ u, H p = some u ∧ Mu u
theorem tabS_hide {H : Hp} {ps : List Addr} (hl : Lsts H ps) {P : Addr} {q : Str} (t : LamX.TabS H P q) : LamX.TabS (hide H ps) P q := TabS.but t fun a u e n => by
  rw [hide_out fun z => ?_]
  · exact e
  · obtain ⟨v, h, mu⟩ := hl a z
    rw [e] at h
    cases h
    exact n mu.pln
theorem Ex.hides {H H' : Hp} {ps : List Addr} (e : Ex H H') (hl : Lsts H' ps) : Ex (hide H ps) (hide H' ps) := by
  refine ⟨fun a o h n => ?_, fun a n => ?_, fun P t => tabS_hide hl (e.tab P (hide_ex.tab P t))⟩
  · by_cases z : a ∈ ps
    · rw [hide_in z] at h; cases h
    · rw [hide_out z] at h ⊢
      exact e.get a o h n
  · by_cases z : a ∈ ps
    · exact hide_in z
    · rw [hide_out z] at n ⊢
      exact e.fr a n
/-- a part without some lists -/
theorem ex_hide {Hz H : Hp} {ps : List Addr} (e : Ex Hz H) (hl : Lsts H ps) (hn : ∀ p ∈ ps, Hz p = none) : Ex Hz (hide H ps) := by
  refine ⟨fun a o h n => ?_, fun a n => ?_, fun P t => tabS_hide hl (e.tab P t)⟩
  · rw [hide_out fun z => by rw [hn a z] at h; cases h]
    exact e.get a o h n
  · by_cases z : a ∈ ps
    · exact hn a z
    · rw [hide_out z] at n; exact e.fr a n
theorem hide_at {H : Hp} {ps : List Addr} {a : Addr} {o : HO} (hl : Lsts H ps) (e : H a = some o) (n : ¬ Mu o) : hide H ps a = some o := by
  rw [hide_out fun z => ?_]
  · exact e
  · obtain ⟨u, q, mu⟩ := hl a z
    rw [e] at q
    exact n (Option.some.inj q ▸ mu)
theorem SqT.hide {K : PySem.W.Frag} {H : Hp} {ps : List Addr} (hl : Lsts H ps) {a : Addr} {xs : List V} (h : SqT K H a xs) : SqT K (hide H ps) a xs := by
  have nin : ∀ o, H a = some o → ¬ Mu o → a ∉ ps := fun o e n z => by
    obtain ⟨u, q, mu⟩ := hl a z
    rw [e] at q
    exact n (Option.some.inj q ▸ mu)
  rcases h with (h | ⟨o, h⟩) | h
  · exact .inl (.inl (by rw [hide_out (nin _ h fun z => z)]; exact h))
  · exact .inl (.inr ⟨o, by rw [hide_out (nin _ h fun z => z)]; exact h⟩)
  · exact .inr h
mutual
theorem Rep.hide {K : PySem.W.Frag} {H : Hp} {ps : List Addr} (hl : Lsts H ps) : ∀ {v : V} {d : D}, Rep K H v d → d.flat = true → Rep K (hide H ps) v d
  | _, _, .non, _ => .non
  | _, _, .bl b, _ => .bl b
  | _, _, .int i, _ => .int i
  | _, _, .str x, _ => .str x
  | _, _, .lst h r, f => by simp [D.flat] at f
  | _, _, .tup h r, f => .tup (SqT.hide hl h) (RepAll.hide hl r (by simpa [D.flat] using f))
  | _, _, .dct h r, f => by simp [D.flat] at f
  | _, _, .ext h, f => by simp [D.flat] at f
  | _, _, .obj h r, f => by simp [D.flat] at f
  | _, _, .ptr a, _ => .ptr a
  | _, _, .exc h1 h2 r, f => .exc (hide_at hl h1 fun z => z) (hide_at hl h2 fun z => z) (Rep.hide hl r (by simpa [D.flat] using f))
theorem RepAll.hide {K : PySem.W.Frag} {H : Hp} {ps : List Addr} (hl : Lsts H ps) : ∀ {vs : List V} {ds : List D}, RepAll K H vs ds → D.flatAll ds = true → RepAll K (hide H ps) vs ds
  | _, _, .nil, _ => .nil
  | _, _, .cons h r, f => by
    obtain ⟨f1, f2⟩ := Bool.and_eq_true_iff.mp (show (D.flat _ && D.flatAll _) = true from f)
    exact .cons (Rep.hide hl h f1) (RepAll.hide hl r f2)
end
theorem RepKV.hide {K : PySem.W.Frag} {H : Hp} {ps : List Addr} (hl : Lsts H ps) : ∀ {vs : List (Key × V)} {ds : List (Key × D)}, RepKV K H vs ds → D.flatKV ds = true → RepKV K (hide H ps) vs ds
  | _, _, .nil, _ => .nil
  | _, _, .cons h r, f => by
    obtain ⟨f1, f2⟩ := Bool.and_eq_true_iff.mp (show (D.flat _ && D.flatKV _) = true from f)
    exact .cons (Rep.hide hl h f1) (RepKV.hide hl r f2)
theorem RepAll.length {K : PySem.W.Frag} {H : Hp} : ∀ {vs : List V} {ds : List D}, RepAll K H vs ds → vs.length = ds.length
  | _, _, .nil => rfl
  | _, _, .cons _ r => congrArg (· + 1) (RepAll.length r)
theorem RepAll.append {K : PySem.W.Frag} {H : Hp} : ∀ {vs ws : List V} {ds es : List D}, RepAll K H vs ds → RepAll K H ws es → RepAll K H (vs ++ ws) (ds ++ es)
  | _, _, _, _, .nil, s => s
  | _, _, _, _, .cons h r, s => .cons h (RepAll.append r s)
theorem RepAll.get {K : PySem.W.Frag} {H : Hp} : ∀ {vs : List V} {ds : List D} {i : Nat} {d : D}, RepAll K H vs ds → ds[i]? = some d → ∃ v, vs[i]? = some v ∧ Rep K H v d
  | _, _, _, _, .nil, e => by simp at e
  | _, _, 0, _, .cons h _, e => by simp at e; subst e; exact ⟨_, rfl, h⟩
  | _, _, i + 1, d, .cons _ r, e => by
    obtain ⟨v, h1, h2⟩ := RepAll.get (i := i) (d := d) r (by simpa using e)
    exact ⟨v, by simpa using h1, h2⟩
theorem RepAll.get' {K : PySem.W.Frag} {H : Hp} : ∀ {vs : List V} {ds : List D} {i : Nat} {v : V}, RepAll K H vs ds → vs[i]? = some v → ∃ d, ds[i]? = some d ∧ Rep K H v d
  | _, _, _, _, .nil, e => by simp at e
  | _, _, 0, _, .cons h _, e => by simp at e; subst e; exact ⟨_, rfl, h⟩
  | _, _, i + 1, v, .cons _ r, e => by
    obtain ⟨d, h1, h2⟩ := RepAll.get' (i := i) (v := v) r (by simpa using e)
    exact ⟨d, by simpa using h1, h2⟩
theorem RepAll.take {K : PySem.W.Frag} {H : Hp} : ∀ {vs : List V} {ds : List D} (n : Nat), RepAll K H vs ds → RepAll K H (vs.take n) (ds.take n)
  | _, _, 0, _ => .nil
  | _, _, _ + 1, .nil => .nil
  | _, _, n + 1, .cons h r => .cons h (RepAll.take n r)
theorem RepAll.drop {K : PySem.W.Frag} {H : Hp} : ∀ {vs : List V} {ds : List D} (n : Nat), RepAll K H vs ds → RepAll K H (vs.drop n) (ds.drop n)
  | _, _, 0, r => r
  | _, _, _ + 1, .nil => .nil
  | _, _, n + 1, .cons _ r => RepAll.drop n r
theorem RepAll.set {K : PySem.W.Frag} {H : Hp} {v : V} {d : D} (h : Rep K H v d) : ∀ {vs : List V} {ds : List D} (i : Nat), RepAll K H vs ds → RepAll K H (vs.set i v) (ds.set i d)
  | _, _, _, .nil => .nil
  | _, _, 0, .cons _ r => .cons h r
  | _, _, i + 1, .cons q r => .cons q (RepAll.set h i r)
theorem RepAll.ints {K : PySem.W.Frag} {H : Hp} : ∀ {vs : List V} {ns : List Int}, RepAll K H vs (ns.map D.int) → vs = ns.map V.int
  | _, [], .nil => rfl
  | _, n :: ns, .cons (.int _) r => congrArg (V.int n :: ·) (RepAll.ints r)
theorem repAll_ints {K : PySem.W.Frag} {H : Hp} : ∀ ns : List Int, RepAll K H (ns.map V.int) (ns.map D.int)
  | [] => .nil
  | n :: ns => .cons (.int n) (repAll_ints ns)
theorem RepAll.bls {K : PySem.W.Frag} {H : Hp} : ∀ {vs : List V} {ns : List Bool}, RepAll K H vs (ns.map D.bl) → vs = ns.map V.bl
  | _, [], .nil => rfl
  | _, n :: ns, .cons (.bl _) r => congrArg (V.bl n :: ·) (RepAll.bls r)

/-! ### the slots -/
inductive Ent where
  | any
  | dat (d : D)
  | own (p : Addr) (ds : List D)
  /-- a dict of one's own -/
  | ownD (p : Addr) (ds : List (Key × D))
  /-- a thing of one's own that stands in the cells ps: φ of what stands in them and of the rest -/
  | res (ps : List Addr) (v : V) (φ : List HO → Hp → Prop)
  /-- an instance of one's own: its class, its place, its dict's, its attributes -/
  | ins (C o dx : Addr) (ds : List (Key × D))
/-- what stands in some cells -/
def Cells (H : Hp) (ps : List Addr) (us : List HO) : Prop := Paired (fun p u => H p = some u ∧ Mu u) ps us
def EntOk (K : PySem.W.Frag) (Hz H : Hp) : Ent → Option V → Prop
  | .any, _ => True
  | .dat d, o => ∃ v, o = some v ∧ Rep K Hz v d
  | .own p ds, o => o = some (.ref p) ∧ Hz p = none ∧ ∃ vs, H p = some (.lst vs) ∧ RepAll K Hz vs ds
  | .ownD p ds, o => o = some (.ref p) ∧ Hz p = none ∧ ∃ kvs, H p = some (.dK kvs) ∧ RepKV K Hz kvs ds
  | .res ps v φ, o => o = some v ∧ ∃ us, Cells H ps us ∧ (∀ p ∈ ps, Hz p = none) ∧ ∀ Hz', Ex Hz Hz' → φ us Hz'
  | .ins C p dx ds, o => o = some (.ref p) ∧ (Hz p = none ∧ Hz dx = none) ∧ H dx = some (.own p) ∧ ∃ fs, H p = some (.ins C dx fs) ∧ RepKV K Hz (fkv fs) ds
abbrev Slots := List Ent
def owns : Slots → List Addr
  | [] => []
  | .own p _ :: r => p :: owns r
  | .ownD p _ :: r => p :: owns r
  | .res ps _ _ :: r => ps ++ owns r
  | .ins _ p dx _ :: r => p :: dx :: owns r
  | _ :: r => owns r
theorem Cells.mem {H : Hp} : ∀ {ps : List Addr} {us : List HO}, Cells H ps us → ∀ p ∈ ps, ∃ u, H p = some u ∧ Mu u
  | _, _, .nil, _, h => nomatch h
  | _, _, .cons (b := u) h r, p, m => by
    rcases List.mem_cons.mp m with e | m
    · rw [e]; exact ⟨u, h⟩
    · exact Cells.mem r p m
theorem Cells.on {H H' : Hp} : ∀ {ps : List Addr} {us : List HO}, Cells H ps us → (∀ p u, p ∈ ps → H p = some u → Mu u → H' p = some u) → Cells H' ps us
  | _, _, .nil, _ => .nil
  | _, _, .cons h r, f => .cons ⟨f _ _ List.mem_cons_self h.1 h.2, h.2⟩ (Cells.on r fun p u m => f p u (List.mem_cons_of_mem _ m))
/-- the slots σ hold what Γ says; all that stood in Hb stands -/
def EnvOk (K : PySem.W.Frag) (Hb : Hp) (Γ : Slots) (σ : L2.St) (H : Hp) : Prop :=
  ∃ Hz : Hp, ExK K Hb Hz ∧ Ex Hz H ∧ Paired (EntOk K Hz H) Γ σ ∧ (owns Γ).Nodup
section
variable {K : PySem.W.Frag} {Hb Hz H H' : Hp} {Γ : Slots} {σ : L2.St}
theorem Paired.getE {α β : Type} {F : α → β → Prop} : ∀ {l₁ : List α} {l₂ : List β} {i : Nat} {a : α}, Paired F l₁ l₂ → l₁[i]? = some a → ∃ b, l₂[i]? = some b ∧ F a b
  | _, _, _, _, .nil, e => by simp at e
  | _, _, 0, _, .cons h _, e => by simp at e; subst e; exact ⟨_, rfl, h⟩
  | _, _, i + 1, a, .cons _ r, e => by
    obtain ⟨b, h1, h2⟩ := Paired.getE (i := i) (a := a) r (by simpa using e)
    exact ⟨b, by simpa using h1, h2⟩
theorem Paired.setE {α β : Type} {F : α → β → Prop} {a : α} {b : β} (h : F a b) : ∀ {l₁ : List α} {l₂ : List β} (i : Nat), Paired F l₁ l₂ → Paired F (l₁.set i a) (l₂.set i b)
  | _, _, _, .nil => .nil
  | _, _, 0, .cons _ r => .cons h r
  | _, _, i + 1, .cons q r => .cons q (Paired.setE h i r)
theorem Paired.setL {α β : Type} {F : α → β → Prop} {a : α} (h : ∀ b, F a b) : ∀ {l₁ : List α} {l₂ : List β} (i : Nat), Paired F l₁ l₂ → Paired F (l₁.set i a) l₂
  | _, _, _, .nil => .nil
  | _, _, 0, .cons _ r => .cons (h _) r
  | _, _, i + 1, .cons q r => .cons q (Paired.setL h i r)
/-- the cells of an entry -/
def Ent.cells : Ent → List Addr
  | .own p _ => [p]
  | .ownD p _ => [p]
  | .res ps _ _ => ps
  | .ins _ p dx _ => [p, dx]
  | _ => []
theorem mem_owns : ∀ {Γ : Slots} {p : Addr}, p ∈ owns Γ → ∃ (i : Nat) (e : Ent), Γ[i]? = some e ∧ p ∈ e.cells
  | [], _, h => by simp [owns] at h
  | .own q ds :: r, p, h => by
    rcases List.mem_cons.mp h with e | h
    · exact ⟨0, .own q ds, rfl, by rw [e]; exact List.mem_cons_self⟩
    · obtain ⟨i, ds', q⟩ := mem_owns h
      exact ⟨i + 1, ds', q⟩
  | .ownD q ds :: r, p, h => by
    rcases List.mem_cons.mp h with e | h
    · exact ⟨0, .ownD q ds, rfl, by rw [e]; exact List.mem_cons_self⟩
    · obtain ⟨i, ds', q⟩ := mem_owns h
      exact ⟨i + 1, ds', q⟩
  | .ins C q dx ds :: r, p, h => by
    rcases List.mem_cons.mp h with e | h
    · exact ⟨0, .ins C q dx ds, rfl, by rw [e]; exact List.mem_cons_self⟩
    rcases List.mem_cons.mp h with e | h
    · exact ⟨0, .ins C q dx ds, rfl, by rw [e]; exact List.mem_cons_of_mem _ List.mem_cons_self⟩
    · obtain ⟨i, ds', q⟩ := mem_owns h
      exact ⟨i + 1, ds', q⟩
  | .res qs v φ :: r, p, h => by
    rcases List.mem_append.mp h with h | h
    · exact ⟨0, .res qs v φ, rfl, h⟩
    · obtain ⟨i, ds', q⟩ := mem_owns h
      exact ⟨i + 1, ds', q⟩
  | .any :: r, p, h => by
    obtain ⟨i, ds', q⟩ := mem_owns (Γ := r) h
    exact ⟨i + 1, ds', q⟩
  | .dat d :: r, p, h => by
    obtain ⟨i, ds', q⟩ := mem_owns (Γ := r) h
    exact ⟨i + 1, ds', q⟩
theorem owns_cells : ∀ {Γ : Slots} {i : Nat} {e : Ent}, Γ[i]? = some e → ∀ p ∈ e.cells, p ∈ owns Γ
  | [], _, _, h, _, _ => by simp at h
  | e :: r, 0, e', h, p, hp => by
    simp at h; subst h
    cases e with
    | own q ds => rw [List.mem_singleton.mp hp]; exact List.mem_cons_self
    | ins C q dx ds =>
      rcases List.mem_cons.mp hp with z | z
      · rw [z]; exact List.mem_cons_self
      · rw [List.mem_singleton.mp z]; exact List.mem_cons_of_mem _ List.mem_cons_self
    | ownD q ds => rw [List.mem_singleton.mp hp]; exact List.mem_cons_self
    | res qs v φ => exact List.mem_append_left _ hp
    | any => exact nomatch hp
    | dat d => exact nomatch hp
  | .own q _ :: r, i + 1, e, h, p, hp => List.mem_cons_of_mem _ (owns_cells (Γ := r) (i := i) (by simpa using h) p hp)
  | .ins _ q _ _ :: r, i + 1, e, h, p, hp => List.mem_cons_of_mem _ (List.mem_cons_of_mem _ (owns_cells (Γ := r) (i := i) (by simpa using h) p hp))
  | .ownD q _ :: r, i + 1, e, h, p, hp => List.mem_cons_of_mem _ (owns_cells (Γ := r) (i := i) (by simpa using h) p hp)
  | .res _ _ _ :: r, i + 1, e, h, p, hp => List.mem_append_right _ (owns_cells (Γ := r) (i := i) (by simpa using h) p hp)
  | .any :: r, i + 1, e, h, p, hp => owns_cells (Γ := r) (i := i) (by simpa using h) p hp
  | .dat _ :: r, i + 1, e, h, p, hp => owns_cells (Γ := r) (i := i) (by simpa using h) p hp
theorem EntOk.cell {e : Ent} {o : Option V} (h : EntOk K Hz H e o) : ∀ p ∈ e.cells, (∃ u, H p = some u ∧ Mu u) ∧ Hz p = none := by
  cases e with
  | any => exact fun p m => nomatch m
  | dat d => exact fun p m => nomatch m
  | own q ds =>
    obtain ⟨_, n, vs, h1, _⟩ := h
    intro p m
    rw [List.mem_singleton.mp m]
    exact ⟨⟨_, h1, trivial⟩, n⟩
  | ownD q ds =>
    obtain ⟨_, n, vs, h1, _⟩ := h
    intro p m
    rw [List.mem_singleton.mp m]
    exact ⟨⟨_, h1, trivial⟩, n⟩
  | ins C q dx ds =>
    obtain ⟨_, ⟨n1, n2⟩, h2, fs, h1, _⟩ := h
    intro p m
    rcases List.mem_cons.mp m with z | z
    · rw [z]; exact ⟨⟨_, h1, trivial⟩, n1⟩
    · rw [List.mem_singleton.mp z]; exact ⟨⟨_, h2, trivial⟩, n2⟩
  | res qs v φ =>
    obtain ⟨_, us, h1, h2, _⟩ := h
    exact fun p m => ⟨Cells.mem h1 p m, h2 p m⟩
theorem owns_of {i : Nat} {p : Addr} {ds : List D} (h : Γ[i]? = some (.own p ds)) : p ∈ owns Γ := owns_cells h p List.mem_cons_self
theorem owns_lsts (h : Paired (EntOk K Hz H) Γ σ) : Lsts H (owns Γ) := fun p hp => by
  obtain ⟨i, e, he, m⟩ := mem_owns hp
  obtain ⟨o, _, q⟩ := Paired.getE h he
  exact (q.cell p m).1
theorem owns_free (h : Paired (EntOk K Hz H) Γ σ) : ∀ p ∈ owns Γ, Hz p = none := fun p hp => by
  obtain ⟨i, e, he, m⟩ := mem_owns hp
  obtain ⟨o, _, q⟩ := Paired.getE h he
  exact (q.cell p m).2
/-- the frozen part grows, the lists stay -/
theorem EntOk.growC {Hz' : Hp} {e : Ent} {o : Option V} (ez : Ex Hz Hz') (eh : ∀ p u, p ∈ e.cells → H p = some u → Mu u → Hz p = none → H' p = some u ∧ Hz' p = none) (h : EntOk K Hz H e o) : EntOk K Hz' H' e o := by
  cases e with
  | any => trivial
  | dat d => obtain ⟨v, e, r⟩ := h; exact ⟨v, e, r.ex ez⟩
  | own q ds =>
    obtain ⟨e, n, vs, q, r⟩ := h
    have z := eh _ _ List.mem_cons_self q trivial n
    exact ⟨e, z.2, vs, z.1, r.ex ez⟩
  | ownD q ds =>
    obtain ⟨e, n, vs, q, r⟩ := h
    have z := eh _ _ List.mem_cons_self q trivial n
    exact ⟨e, z.2, vs, z.1, r.ex ez⟩
  | ins C q dx ds =>
    obtain ⟨e, ⟨n1, n2⟩, h2, fs, q, r⟩ := h
    have z := eh _ _ List.mem_cons_self q trivial n1
    have z2 := eh _ _ (List.mem_cons_of_mem _ List.mem_cons_self) h2 trivial n2
    exact ⟨e, ⟨z.2, z2.2⟩, z2.1, fs, z.1, r.ex ez⟩
  | res ps v φ =>
    obtain ⟨e, us, h1, h2, h3⟩ := h
    refine ⟨e, us, Cells.on h1 fun p u m q mu => (eh p u m q mu (h2 p m)).1, fun p m => ?_, fun Hw x => h3 Hw (ez.trans x)⟩
    obtain ⟨u, q, mu⟩ := Cells.mem h1 p m
    exact (eh p u m q mu (h2 p m)).2
theorem EntOk.grow {Hz' : Hp} (ez : Ex Hz Hz') (eh : ∀ p u, H p = some u → Mu u → Hz p = none → H' p = some u ∧ Hz' p = none) {e : Ent} {o : Option V} (h : EntOk K Hz H e o) : EntOk K Hz' H' e o := h.growC ez fun p u _ => eh p u
theorem Paired.mapE {α β : Type} {F G : α → β → Prop} : ∀ {l₁ : List α} {l₂ : List β}, Paired F l₁ l₂ → (∀ a b, a ∈ l₁ → F a b → G a b) → Paired G l₁ l₂
  | _, _, .nil, _ => .nil
  | _, _, .cons h r, f => .cons (f _ _ List.mem_cons_self h) (Paired.mapE r fun a b m => f a b (List.mem_cons_of_mem _ m))
theorem EnvOk.ex (h : EnvOk K Hb Γ σ H) (e : Ex H H') : EnvOk K Hb Γ σ H' := by
  obtain ⟨Hz, h1, h2, h3, h4⟩ := h
  refine ⟨Hz, h1, h2.trans e, Paired.mapE h3 fun a b _ q => q.grow Ex.refl fun p u q1 mu q2 => ⟨e.get p u q1 mu.nt, q2⟩, h4⟩
theorem EnvOk.base (h : EnvOk K Hb Γ σ H) : Ex Hb H := let ⟨_, h1, h2, _⟩ := h; h1.toEx.trans h2
theorem EnvOk.tb (h : EnvOk K Hb Γ σ H) : TbOk K Hb := let ⟨_, h1, _⟩ := h; h1.tb
theorem EnvOk.dat {i : Nat} {d : D} (h : EnvOk K Hb Γ σ H) (e : Γ[i]? = some (.dat d)) : ∃ v, σ[i]? = some (some v) ∧ Rep K H v d := by
  obtain ⟨Hz, h1, h2, h3, h4⟩ := h
  obtain ⟨o, q, v, rfl, r⟩ := Paired.getE h3 e
  exact ⟨v, q, r.ex h2⟩
theorem EnvOk.own {i : Nat} {p : Addr} {ds : List D} (h : EnvOk K Hb Γ σ H) (e : Γ[i]? = some (.own p ds)) : σ[i]? = some (some (.ref p)) ∧ Hb p = none ∧ ∃ vs, H p = some (.lst vs) ∧ RepAll K H vs ds := by
  obtain ⟨Hz, h1, h2, h3, h4⟩ := h
  obtain ⟨o, q, rfl, n, vs, q2, r⟩ := Paired.getE h3 e
  exact ⟨q, h1.free n, vs, q2, r.ex h2⟩
/-- what may be stored as frozen -/
def Sto (Γ : Slots) (d : D) : Prop := d.flat = true ∨ owns Γ = []
theorem owns_cons (e : Ent) (r : Slots) : owns (e :: r) = e.cells ++ owns r := by cases e <;> rfl
theorem owns_set_cells : ∀ {Γ : Slots} {i : Nat} {e : Ent}, e.cells = [] → (owns (Γ.set i e)).Sublist (owns Γ)
  | [], _, _, _ => List.Sublist.refl _
  | x :: r, 0, e, he => by
    show (owns (e :: r)).Sublist _
    rw [owns_cons, owns_cons, he]
    exact List.sublist_append_right _ _
  | x :: r, i + 1, e, he => by
    show (owns (x :: r.set i e)).Sublist _
    rw [owns_cons, owns_cons]
    exact List.Sublist.append (List.Sublist.refl _) (owns_set_cells he)
/-- the frozen part taken as large as may be -/
theorem EnvOk.wide (h : EnvOk K Hb Γ σ H) : ExK K Hb (hide H (owns Γ)) ∧ Ex (hide H (owns Γ)) H ∧ Paired (EntOk K (hide H (owns Γ)) H) Γ σ ∧ (owns Γ).Nodup := by
  obtain ⟨Hz, h1, h2, h3, h4⟩ := h
  have fr := owns_free h3
  have ez : Ex Hz (hide H (owns Γ)) := ex_hide h2 (owns_lsts h3) fr
  refine ⟨h1.trans ez, hide_ex, Paired.mapE h3 fun a b m q => ?_, h4⟩
  obtain ⟨i, hi, hm⟩ := List.mem_iff_getElem.mp m
  exact q.growC ez fun p u mc q1 _ _ => ⟨q1, hide_in (owns_cells (i := i) (e := a) (by rw [List.getElem?_eq_getElem hi, hm]) p mc)⟩
theorem EnvOk.setDat {i : Nat} {v : V} {d : D} (h : EnvOk K Hb Γ σ H) (r : Rep K H v d) (s : Sto Γ d) : EnvOk K Hb (Γ.set i (.dat d)) (σ.set i (some v)) H := by
  obtain ⟨h1, h2, h3, h4⟩ := h.wide
  have r' : Rep K (hide H (owns Γ)) v d := by
    rcases s with f | e
    · exact r.hide (owns_lsts h3) f
    · have : hide H (owns Γ) = H := by
        funext a
        rw [e]
        exact hide_out (by simp)
      rw [this]
      exact r
  exact ⟨_, h1, h2, Paired.setE (show EntOk K _ H (.dat d) (some v) from ⟨v, rfl, r'⟩) i h3, List.Nodup.sublist (owns_set_cells rfl) h4⟩
theorem EnvOk.setAny {i : Nat} {o : Option V} (h : EnvOk K Hb Γ σ H) : EnvOk K Hb (Γ.set i .any) (σ.set i o) H := by
  obtain ⟨Hz, h1, h2, h3, h4⟩ := h
  exact ⟨_, h1, h2, Paired.setE (show EntOk K _ H .any o from trivial) i h3, List.Nodup.sublist (owns_set_cells rfl) h4⟩
theorem EnvOk.forget {i : Nat} (h : EnvOk K Hb Γ σ H) : EnvOk K Hb (Γ.set i .any) σ H := by
  obtain ⟨Hz, h1, h2, h3, h4⟩ := h
  exact ⟨_, h1, h2, Paired.setL (fun _ => trivial) i h3, List.Nodup.sublist (owns_set_cells rfl) h4⟩
theorem nodup_app {α : Type} {l r : List α} : (l ++ r).Nodup ↔ l.Nodup ∧ r.Nodup ∧ ∀ a ∈ l, a ∉ r := by
  rw [List.nodup_append]
  exact ⟨fun ⟨a, b, c⟩ => ⟨a, b, fun x h1 h2 => c x h1 x h2 rfl⟩, fun ⟨a, b, c⟩ => ⟨a, b, fun x h1 y h2 e => c x h1 (e ▸ h2)⟩⟩
theorem owns_set_new : ∀ {Γ : Slots} {i : Nat} {e : Ent}, e.cells.Nodup → (∀ p ∈ e.cells, p ∉ owns Γ) → (owns Γ).Nodup → (owns (Γ.set i e)).Nodup ∧ ∀ q ∈ owns (Γ.set i e), q ∈ e.cells ∨ q ∈ owns Γ
  | [], _, _, _, _, h => ⟨h, fun q hq => .inr hq⟩
  | x :: r, 0, e, hn, hp, h => by
    show (owns (e :: r)).Nodup ∧ _
    rw [owns_cons] at h hp ⊢
    have h' := nodup_app.mp h
    refine ⟨nodup_app.mpr ⟨hn, h'.2.1, fun a ha z => hp a ha (List.mem_append_right _ z)⟩, fun q hq => ?_⟩
    have hq : q ∈ owns (e :: r) := hq
    rw [owns_cons] at hq
    rcases List.mem_append.mp hq with z | z
    · exact .inl z
    · exact .inr (by rw [owns_cons]; exact List.mem_append_right _ z)
  | x :: r, i + 1, e, hn, hp, h => by
    show (owns (x :: r.set i e)).Nodup ∧ _
    rw [owns_cons] at h hp ⊢
    have h' := nodup_app.mp h
    obtain ⟨a, b⟩ := owns_set_new (Γ := r) (i := i) hn (fun p m z => hp p m (List.mem_append_right _ z)) h'.2.1
    refine ⟨nodup_app.mpr ⟨h'.1, a, fun y hy z => ?_⟩, fun q hq => ?_⟩
    · rcases b y z with z | z
      · exact hp y z (List.mem_append_left _ hy)
      · exact h'.2.2 y hy z
    · have hq : q ∈ owns (x :: r.set i e) := hq
      rw [owns_cons] at hq
      rcases List.mem_append.mp hq with z | z
      · exact .inr (by rw [owns_cons]; exact List.mem_append_left _ z)
      · exact (b q z).imp id fun z => by rw [owns_cons]; exact List.mem_append_right _ z
/-- a new thing of one's own is stored -/
theorem EnvOk.setNew {i : Nat} {e : Ent} {v : V} (h : EnvOk K Hb Γ σ H) (hp : ∀ p ∈ e.cells, H p = none) (x : Ex H H') (hn : e.cells.Nodup) (hm : ∀ p ∈ e.cells, ∃ u, H' p = some u ∧ Mu u) (hok : ∀ Hz, Ex Hz H' → (∀ p ∈ e.cells, Hz p = none) → Ex (hide H' (e.cells ++ owns Γ)) Hz → EntOk K Hz H' e (some v)) :
    EnvOk K Hb (Γ.set i e) (σ.set i (some v)) H' := by
  obtain ⟨Hz, k1, k2, k3, k4⟩ := h
  have hno : ∀ p ∈ e.cells, p ∉ owns Γ := fun p m z => by
    obtain ⟨u, q, _⟩ := owns_lsts k3 p z
    rw [hp p m] at q; cases q
  have l2 : Lsts H' (e.cells ++ owns Γ) := fun q hq => by
    rcases List.mem_append.mp hq with z | z
    · exact hm q z
    · obtain ⟨u, q1, mu⟩ := owns_lsts k3 q z
      exact ⟨u, x.get q u q1 mu.nt, mu⟩
  have ezp : Ex Hz (hide H' (e.cells ++ owns Γ)) := ex_hide (k2.trans x) l2 fun q hq => by
    rcases List.mem_append.mp hq with z | z
    · exact k2.fr q (hp q z)
    · exact owns_free k3 q z
  have k3' : Paired (EntOk K (hide H' (e.cells ++ owns Γ)) H') Γ σ := Paired.mapE k3 fun a b m q => by
    obtain ⟨j, hj, hmm⟩ := List.mem_iff_getElem.mp m
    exact q.growC ezp fun p u mc q1 mu _ => ⟨x.get p u q1 mu.nt, hide_in (List.mem_append_right _ (owns_cells (i := j) (e := a) (by rw [List.getElem?_eq_getElem hj, hmm]) p mc))⟩
  exact ⟨hide H' (e.cells ++ owns Γ), k1.trans ezp, hide_ex, Paired.setE (hok _ hide_ex (fun p m => hide_in (List.mem_append_left _ m)) Ex.refl) i k3', (owns_set_new hn hno k4).1⟩
/-- a new list is stored, to be changed -/
theorem EnvOk.setOwn {i : Nat} {p : Addr} {vs : List V} {ds : List D} (h : EnvOk K Hb Γ σ H) (hp : H p = none) (e : Ex H H') (hl : H' p = some (.lst vs)) (r : RepAll K H' vs ds) (f : D.flatAll ds = true) :
    EnvOk K Hb (Γ.set i (.own p ds)) (σ.set i (some (.ref p))) H' := by
  have l2 : Lsts H' (p :: owns Γ) := fun q hq => by
    rcases List.mem_cons.mp hq with z | z
    · exact ⟨.lst vs, z ▸ hl, (trivial : Mu (.lst vs))⟩
    · exact owns_lsts (h.ex e).wide.2.2.1 q z
  have hc : (Ent.own p ds).cells = [p] := rfl
  exact h.setNew (e := .own p ds) (fun q m => by rw [List.mem_singleton.mp m]; exact hp) e (by rw [hc]; simp) (fun q m => by rw [List.mem_singleton.mp m]; exact ⟨.lst vs, hl, (trivial : Mu (.lst vs))⟩)
    fun Hz _ hz ez => ⟨rfl, hz p List.mem_cons_self, vs, hl, (r.hide l2 f).ex ez⟩
/-- a new dict is stored, to be changed -/
theorem EnvOk.setOwnD {i : Nat} {p : Addr} {vs : List (Key × V)} {ds : List (Key × D)} (h : EnvOk K Hb Γ σ H) (hp : H p = none) (e : Ex H H') (hl : H' p = some (.dK vs)) (r : RepKV K H' vs ds) (f : D.flatKV ds = true) :
    EnvOk K Hb (Γ.set i (.ownD p ds)) (σ.set i (some (.ref p))) H' := by
  have l2 : Lsts H' (p :: owns Γ) := fun q hq => by
    rcases List.mem_cons.mp hq with z | z
    · exact ⟨.dK vs, z ▸ hl, (trivial : Mu (.dK vs))⟩
    · exact owns_lsts (h.ex e).wide.2.2.1 q z
  have hc : (Ent.ownD p ds).cells = [p] := rfl
  exact h.setNew (e := .ownD p ds) (fun q m => by rw [List.mem_singleton.mp m]; exact hp) e (by rw [hc]; simp) (fun q m => by rw [List.mem_singleton.mp m]; exact ⟨.dK vs, hl, (trivial : Mu (.dK vs))⟩)
    fun Hz _ hz ez => ⟨rfl, hz p List.mem_cons_self, vs, hl, (r.hide l2 f).ex ez⟩
/-- the cells of an entry are changed -/
theorem EnvOk.mutNew {i : Nat} {e e' : Ent} {v : V} (h : EnvOk K Hb Γ σ H) (he : Γ[i]? = some e) (hv : σ[i]? = some (some v)) (hc : e'.cells = e.cells) (hH : ∀ a, a ∉ e.cells → H' a = H a) (x : Ex (hide H (owns Γ)) H') (hok : EntOk K (hide H (owns Γ)) H' e' (some v)) :
    EnvOk K Hb (Γ.set i e') σ H' := by
  obtain ⟨h1, h2, h3, h4⟩ := h.wide
  have go : ∀ {Γ' : Slots} {σ' : L2.St} {j : Nat}, Paired (EntOk K (hide H (owns Γ)) H) Γ' σ' → Γ'[j]? = some e → σ'[j]? = some (some v) → (owns Γ').Nodup → Paired (EntOk K (hide H (owns Γ)) H') (Γ'.set j e') σ' ∧ owns (Γ'.set j e') = owns Γ' := by
    have oth : ∀ {Γ' : Slots} {σ' : L2.St}, Paired (EntOk K (hide H (owns Γ)) H) Γ' σ' → (∀ p ∈ e.cells, p ∉ owns Γ') → Paired (EntOk K (hide H (owns Γ)) H') Γ' σ' := fun {Γ' σ'} k np => Paired.mapE k fun a b m q => by
      obtain ⟨j, hj, hm⟩ := List.mem_iff_getElem.mp m
      refine q.growC Ex.refl fun p u mc q1 _ q2 => ⟨?_, q2⟩
      rw [hH p fun z => np p z (owns_cells (i := j) (e := a) (by rw [List.getElem?_eq_getElem hj, hm]) p mc)]
      exact q1
    intro Γ'
    induction Γ' with
    | nil => intro σ' j _ z; simp at z
    | cons a rr ih =>
      intro σ' j k z zv nd
      rw [owns_cons] at nd
      have nd' := nodup_app.mp nd
      cases k with
      | cons k1 k2 =>
        cases j with
        | zero =>
          simp at z
          subst z
          simp at zv
          subst zv
          refine ⟨.cons hok (oth k2 nd'.2.2), ?_⟩
          show owns (e' :: rr) = owns (a :: rr)
          rw [owns_cons, owns_cons, hc]
        | succ j =>
          have z' : rr[j]? = some e := by simpa using z
          obtain ⟨u1, u2⟩ := ih k2 z' (by simpa using zv) nd'.2.1
          refine ⟨.cons (k1.growC Ex.refl fun p u mc q1 _ q2 => ⟨?_, q2⟩) u1, ?_⟩
          · rw [hH p fun w => nd'.2.2 p mc (owns_cells z' p w)]
            exact q1
          · show owns (a :: rr.set j e') = owns (a :: rr)
            rw [owns_cons, owns_cons, u2]
  obtain ⟨u1, u2⟩ := go h3 he hv h4
  exact ⟨_, h1, x, u1, by rw [u2]; exact h4⟩
/-- a list of one's own is changed -/
theorem EnvOk.mutOwn {i : Nat} {p : Addr} {ds es : List D} {ws : List V} (h : EnvOk K Hb Γ σ H) (e : Γ[i]? = some (.own p ds)) (r : RepAll K (hide H (owns Γ)) ws es) :
    EnvOk K Hb (Γ.set i (.own p es)) σ (upd H p (.lst ws)) := by
  obtain ⟨h1, h2, h3, h4⟩ := h.wide
  obtain ⟨o, q, rfl, n, vs, q2, r2⟩ := Paired.getE h3 e
  exact h.mutNew e q rfl (fun a m => upd_ne fun z => m (by rw [z]; exact List.mem_cons_self)) (Ex.mut h2 n (by rw [q2]; trivial)) ⟨rfl, n, ws, upd_same, r⟩
end
end L3

namespace L3
open PySem PySem.Spec PyProof.Rows L2

/-! ### what a piece of syntax does -/
structure SemEP (X : Cx) (e : Expr) (σ : L2.St) (H : Hp) (Q : VK) : Prop where
  run : ∀ pins s, Inv X pins σ H s → wpAny (model X.prog X.w) X.A (eval e X.env) (EP X pins σ Q) X.xe s
structure SemTP (X : Cx) (e : Expr) (σ : L2.St) (H : Hp) (Q : Bool → Hp → Prop) : Prop where
  run : ∀ pins s, Inv X pins σ H s → wpAny (model X.prog X.w) X.A (isTrue e X.env (eval e X.env)) (TP X pins σ Q) X.xe s
structure SemWP (X : Cx) (e : Expr) (σ : L2.St) (H : Hp) (Q : Bool → Hp → Prop) : Prop where
  run : ∀ wh pins s, Inv X pins σ H s → wpAny (model X.prog X.w) X.A (isTrue e X.env wh) (TP X pins σ Q) X.xe s
structure SemAP (X : Cx) (es : List Expr) (σ : L2.St) (H : Hp) (Q : List V → Hp → Prop) : Prop where
  run : ∀ pos pins s, Inv X pins σ H s → wpAny (model X.prog X.w) X.A (spliced (backTo pos (starEach es X.env))) (AP X pins σ Q) X.xe s
structure SemSsP (X : Cx) (sts : List Stmt) (D : Ends) (σ : L2.St) (H : Hp) : Prop where
  run : ∀ pins s, Inv X pins σ H s → wpAny (model X.prog X.w) X.A (execs sts X.env) (SP X pins D) X.xe s
structure SemSP (X : Cx) (st : Stmt) (D : Ends) (σ : L2.St) (H : Hp) : Prop where
  run : ∀ pins s, Inv X pins σ H s → wpAny (model X.prog X.w) X.A (exec st X.env) (SP X pins D) X.xe s
abbrev SemE (X : Cx) (e : Expr) : TE := fun σ H Q => SemEP X e σ H Q
abbrev SemT (X : Cx) (e : Expr) : TT := fun σ H Q => SemTP X e σ H Q
abbrev SemW (X : Cx) (e : Expr) : TT := fun σ H Q => SemWP X e σ H Q
abbrev SemA (X : Cx) (es : List Expr) : TA := fun σ H Q => SemAP X es σ H Q
abbrev SemSs (X : Cx) (sts : List Stmt) : TS := fun D σ H => SemSsP X sts D σ H
abbrev SemS (X : Cx) (st : Stmt) : TS := fun D σ H => SemSP X st D σ H
theorem semE (X : Cx) (e : Expr) : PE X e (SemE X e) := ⟨fun pins s _ _ _ I h => h.run pins s I⟩
theorem semT (X : Cx) (e : Expr) : PT X e (SemT X e) := ⟨fun pins s _ _ _ I h => h.run pins s I⟩
theorem semW (X : Cx) (e : Expr) : PW X e (SemW X e) := ⟨fun wh pins s _ _ _ I h => h.run wh pins s I⟩
theorem semA (X : Cx) (es : List Expr) : PA X es (SemA X es) := ⟨fun pos pins s _ _ _ I h => h.run pos pins s I⟩
theorem semSs (X : Cx) (sts : List Stmt) : PSs X sts (SemSs X sts) := ⟨fun pins s _ _ _ I h => h.run pins s I⟩
section
variable {X : Cx} {e : Expr} {es : List Expr} {σ : L2.St} {H : Hp}
theorem SemE.of {t : TE} {Q : VK} (h : PE X e t) (q : t σ H Q) : SemE X e σ H Q := ⟨fun pins s I => h.run pins s σ H Q I q⟩
theorem SemT.of {t : TT} {Q : Bool → Hp → Prop} (h : PT X e t) (q : t σ H Q) : SemT X e σ H Q := ⟨fun pins s I => h.run pins s σ H Q I q⟩
theorem SemW.of {t : TT} {Q : Bool → Hp → Prop} (h : PW X e t) (q : t σ H Q) : SemW X e σ H Q := ⟨fun wh pins s I => h.run wh pins s σ H Q I q⟩
theorem SemA.of {t : TA} {Q : List V → Hp → Prop} (h : PA X es t) (q : t σ H Q) : SemA X es σ H Q := ⟨fun pos pins s I => h.run pos pins s σ H Q I q⟩
theorem SemSs.of {sts : List Stmt} {t : TS} {D : Ends} (h : PSs X sts t) (q : t D σ H) : SemSs X sts D σ H := ⟨fun pins s I => h.run pins s σ H D I q⟩
theorem SemS.of {st : Stmt} {t : TS} {D : Ends} (h : PS X st t) (q : t D σ H) : SemS X st D σ H := ⟨fun pins s I => h.run pins s σ H D I q⟩
theorem SemE.mono {Q Q' : VK} (h : SemE X e σ H Q) (f : ∀ v H', Q v H' → Q' v H') : SemE X e σ H Q' := ⟨fun pins s I => thn (h.run pins s I) fun _ _ ⟨v, H', I', r, q⟩ => ⟨v, H', I', r, f _ _ q⟩⟩
theorem SemT.mono {Q Q' : Bool → Hp → Prop} (h : SemT X e σ H Q) (f : ∀ v H', Q v H' → Q' v H') : SemT X e σ H Q' := ⟨fun pins s I => thn (h.run pins s I) fun _ _ ⟨H', I', q⟩ => ⟨H', I', f _ _ q⟩⟩
theorem SemSs.mono {sts : List Stmt} {D D' : Ends} (h : SemSs X sts D σ H) (f1 : ∀ a b, D.nx a b → D'.nx a b) (f2 : ∀ a b, D.rt a b → D'.rt a b) (f3 : ∀ a b, D.bk a b → D'.bk a b) (f4 : ∀ a b, D.ct a b → D'.ct a b) : SemSs X sts D' σ H :=
  ⟨fun pins s I => thn (h.run pins s I) fun fl _ q => by
    cases fl with
    | next => obtain ⟨a, b, J, q⟩ := q; exact ⟨a, b, J, f1 a b q⟩
    | brk => obtain ⟨a, b, J, q⟩ := q; exact ⟨a, b, J, f3 a b q⟩
    | cont => obtain ⟨a, b, J, q⟩ := q; exact ⟨a, b, J, f4 a b q⟩
    | ret u => obtain ⟨v, a, b, J, r, q⟩ := q; exact ⟨v, a, b, J, r, f2 v b q⟩⟩
end

def isCont : D → Bool
  | .lst _ | .dct _ => true
  | _ => false
/-- a new list or dict, not to be found elsewhere -/
def FreshD (K : PySem.W.Frag) (H H' : Hp) (v : V) : D → Prop
  | .lst ds => ∃ p vs, v = .ref p ∧ H p = none ∧ H' p = some (.lst vs) ∧ RepAll K H' vs ds
  | .dct ds => ∃ p kvs, v = .ref p ∧ H p = none ∧ H' p = some (.dK kvs) ∧ RepKV K H' kvs ds
  | _ => True
theorem FreshD.flat {K : PySem.W.Frag} {H H' : Hp} {v : V} {d : D} (f : isCont d = false) : FreshD K H H' v d := by
  cases d <;> first | trivial | cases f
theorem FreshD.back {K : PySem.W.Frag} {H H1 H' : Hp} {v : V} {d : D} (e : Ex H H1) (f : FreshD K H1 H' v d) : FreshD K H H' v d := by
  cases d with
  | lst ds => obtain ⟨p, vs, h1, h2, h3, h4⟩ := f; exact ⟨p, vs, h1, e.free h2, h3, h4⟩
  | dct ds => obtain ⟨p, vs, h1, h2, h3, h4⟩ := f; exact ⟨p, vs, h1, e.free h2, h3, h4⟩
  | _ => trivial
theorem FreshD.on {K : PySem.W.Frag} {H H1 H' : Hp} {v : V} {d : D} (f : FreshD K H H' v d) (e : Ex H' H1) : FreshD K H H1 v d := by
  cases d with
  | lst ds => obtain ⟨p, vs, h1, h2, h3, h4⟩ := f; exact ⟨p, vs, h1, h2, e.lst h3, h4.ex e⟩
  | dct ds => obtain ⟨p, vs, h1, h2, h3, h4⟩ := f; exact ⟨p, vs, h1, h2, e.dK h3, h4.ex e⟩
  | _ => trivial
theorem freshL {K : PySem.W.Frag} {H H1 : Hp} {p : Addr} {vs : List V} {ds : List D} (h : H1 p = none) (e : Ex H H1) (r : RepAll K H1 vs ds) : FreshD K H (upd H1 p (.lst vs)) (.ref p) (.lst ds) :=
  ⟨p, vs, rfl, e.free h, upd_same, r.ex (Ex.new h)⟩
def EvN (X : Cx) (Hb : Hp) (e : Expr) (Γ : Slots) (fr : Bool) (S : D → Prop) : Prop := ∀ σ H, EnvOk X.K Hb Γ σ H → ∀ Q : VK, (∀ v H' d, S d → Ex H H' → Rep X.K H' v d → (fr = true → FreshD X.K H H' v d) → Q v H') → SemE X e σ H Q
abbrev Ev (X : Cx) (Hb : Hp) (e : Expr) (Γ : Slots) (fr : Bool) (d : D) : Prop := EvN X Hb e Γ fr (fun x => x = d)
def EvT (X : Cx) (Hb : Hp) (e : Expr) (Γ : Slots) (S : Bool → Prop) : Prop := ∀ σ H, EnvOk X.K Hb Γ σ H → ∀ Q : Bool → Hp → Prop, (∀ b H', S b → Ex H H' → Q b H') → SemT X e σ H Q
abbrev EvB (X : Cx) (Hb : Hp) (e : Expr) (Γ : Slots) (b : Bool) : Prop := EvT X Hb e Γ (fun x => x = b)
def EvW (X : Cx) (Hb : Hp) (e : Expr) (Γ : Slots) (S : Bool → Prop) : Prop := ∀ σ H, EnvOk X.K Hb Γ σ H → ∀ Q : Bool → Hp → Prop, (∀ b H', S b → Ex H H' → Q b H') → SemW X e σ H Q
def EvA (X : Cx) (Hb : Hp) (es : List Expr) (Γ : Slots) (S : List D → Prop) : Prop := ∀ σ H, EnvOk X.K Hb Γ σ H → ∀ Q : List V → Hp → Prop, (∀ vs H' ds, S ds → Ex H H' → RepAll X.K H' vs ds → Q vs H') → SemA X es σ H Q
abbrev EvAs (X : Cx) (Hb : Hp) (es : List Expr) (Γ : Slots) (ds : List D) : Prop := EvA X Hb es Γ (fun x => x = ds)
/-- a list, a tuple that stays while a loop goes over it -/
def EvI (X : Cx) (Hb : Hp) (e : Expr) (Γ : Slots) (S : List D → Prop) : Prop := ∀ σ H, EnvOk X.K Hb Γ σ H → ∀ Q : VK, (∀ a vs H' ds, S ds → Ex H H' → SqL X.K (hide H' (owns Γ)) a vs → RepAll X.K (hide H' (owns Γ)) vs ds → Q (.ref a) H') → SemE X e σ H Q
def Go (X : Cx) (Hb : Hp) (sts : List Stmt) (D : Ends) (Γ : Slots) : Prop := ∀ σ H, EnvOk X.K Hb Γ σ H → SemSs X sts D σ H
/-- what is handed back: d, all that stood stands, a new list or dict -/
def Rt (K : PySem.W.Frag) (Hb : Hp) (d : D) : VK := fun v H' => Ex Hb H' ∧ Rep K H' v d ∧ FreshD K Hb H' v d

section
variable {X : Cx} {Hb Hb' : Hp} {a b c e : Expr} {es : List Expr} {Γ : Slots} {pos p' : Pos} {d x y : D} {ds : List D} {S S' : D → Prop} {fr : Bool}
theorem EvN.imp (h : EvN X Hb e Γ fr S) (f : ∀ d, S d → S' d) : EvN X Hb e Γ fr S' := fun σ H en Q q => h σ H en Q fun v H' d s => q v H' d (f d s)
theorem EvN.weak (h : EvN X Hb e Γ true S) : EvN X Hb e Γ false S := fun σ H en Q q => h σ H en Q fun v H' d s ex r f => q v H' d s ex r fun z => nomatch z
theorem EvT.imp {S S' : Bool → Prop} (h : EvT X Hb e Γ S) (f : ∀ d, S d → S' d) : EvT X Hb e Γ S' := fun σ H en Q q => h σ H en Q fun b H' s => q b H' (f b s)
theorem ev_dat (i : Nat) {x : Str} (hG : Γ[i]? = some (.dat d) := by rfl) (hN : X.N[i]? = some x := by rfl) (hv : Vis X.env.scope x := by first | exact Or.inl rfl | exact Or.inr (Or.inl rfl) | exact Or.inr (Or.inr rfl)) (hd : (x == ("__debug__" : Str)) = false := by decide)
    (hcd : (x == ("__classdict__" : Str)) = false := by decide) : Ev X Hb (.Name x pos) Γ false d := fun σ H en Q q => by
  obtain ⟨v, hσ, r⟩ := en.dat hG
  exact SemE.of (pe_var hN hv hd hcd) ⟨v, hσ, q v H d rfl Ex.refl r fun z => nomatch z⟩
theorem ev_own (i : Nat) {p : Addr} {x : Str} (hG : Γ[i]? = some (.own p ds) := by rfl) (hN : X.N[i]? = some x := by rfl) (hv : Vis X.env.scope x := by first | exact Or.inl rfl | exact Or.inr (Or.inl rfl) | exact Or.inr (Or.inr rfl)) (hd : (x == ("__debug__" : Str)) = false := by decide)
    (hcd : (x == ("__classdict__" : Str)) = false := by decide) : Ev X Hb (.Name x pos) Γ false (.lst ds) := fun σ H en Q q => by
  obtain ⟨hσ, _, vs, hl, r⟩ := en.own hG
  exact SemE.of (pe_var hN hv hd hcd) ⟨_, hσ, q _ H _ rfl Ex.refl (.lst (SqL.of hl) r) fun z => nomatch z⟩
theorem ev_int {i : Int} {j} : Ev X Hb (.Constant (.int i) j pos) Γ true (.int i) := fun σ H en Q q => SemE.of pe_int (q _ H _ rfl Ex.refl (.int i) fun _ => trivial)
theorem ev_bl {i : Bool} {j} : Ev X Hb (.Constant (.bool i) j pos) Γ true (.bl i) := fun σ H en Q q => SemE.of pe_bl (q _ H _ rfl Ex.refl (.bl i) fun _ => trivial)
theorem ev_non {j} : Ev X Hb (.Constant .none j pos) Γ true .non := fun σ H en Q q => SemE.of pe_non (q _ H _ rfl Ex.refl .non fun _ => trivial)
theorem ev_str {i : Str} {j} : Ev X Hb (.Constant (.str i) j pos) Γ true (.str i) := fun σ H en Q q => SemE.of pe_str (q _ H _ rfl Ex.refl (.str i) fun _ => trivial)
/-! two-place operations on ints -/
theorem evn_op {op : Operator} {C : Int → Int → Prop} {g : Int → Int → V} {h : Int → Int → D} {S1 S2 : Int → Prop} (ho : OpR X (binaryOp op) (rI C g)) (hg : ∀ i j H, Rep X.K H (g i j) (h i j)) (hf : ∀ i j, isCont (h i j) = false)
    (ha : EvN X Hb a Γ fr fun z => ∃ i, z = .int i ∧ S1 i) {fr' : Bool} (hb : EvN X Hb b Γ fr' fun z => ∃ i, z = .int i ∧ S2 i) (hc : ∀ i j, S1 i → S2 j → C i j ∧ S (h i j)) : EvN X Hb (.BinOp a op b pos) Γ true S := fun σ H en Q q =>
  SemE.of (pe_op ho (semE X a) (semE X b)) (ha σ H en _ fun v H1 d1 ⟨i, e1, s1⟩ x1 r1 _ => hb σ H1 (en.ex x1) _ fun w H2 d2 ⟨j, e2, s2⟩ x2 r2 _ => by
    subst e1 e2
    cases r1
    cases r2
    obtain ⟨k, s⟩ := hc i j s1 s2
    exact ⟨i, j, rfl, rfl, k, q _ H2 _ s (x1.trans x2) (hg i j H2) fun _ => FreshD.flat (hf i j)⟩)
theorem ev_op {op : Operator} {C : Int → Int → Prop} {g : Int → Int → V} {h : Int → Int → D} {i j : Int} (ho : OpR X (binaryOp op) (rI C g)) (hg : ∀ i j H, Rep X.K H (g i j) (h i j)) (hf : ∀ i j, isCont (h i j) = false)
    (ha : Ev X Hb a Γ fr (.int i)) {fr' : Bool} (hb : Ev X Hb b Γ fr' (.int j)) (hc : C i j) : Ev X Hb (.BinOp a op b pos) Γ true (h i j) :=
  evn_op (S1 := (· = i)) (S2 := (· = j)) ho hg hf (ha.imp fun _ z => ⟨i, z, rfl⟩) (hb.imp fun _ z => ⟨j, z, rfl⟩) fun i' j' e1 e2 => by subst e1 e2; exact ⟨hc, rfl⟩
theorem opI0' {f : Value → Value → Sem Value} {g : Int → Int → V} (h : OpR X f (rI0 g)) : OpR X f (rI (fun _ _ => True) g) := fun pins s σ H x y v u Q I r1 r2 ⟨i, j, e1, e2, _, q⟩ => h pins s σ H x y v u Q I r1 r2 ⟨i, j, e1, e2, q⟩
theorem ev_add {i j : Int} {fr' : Bool} (ha : Ev X Hb a Γ fr (.int i)) (hb : Ev X Hb b Γ fr' (.int j)) : Ev X Hb (.BinOp a .Add b pos) Γ true (.int (i + j)) := ev_op (h := fun i j => .int (i + j)) (opI0' op_add) (fun _ _ _ => .int _) (fun _ _ => rfl) ha hb trivial
theorem ev_sub {i j : Int} {fr' : Bool} (ha : Ev X Hb a Γ fr (.int i)) (hb : Ev X Hb b Γ fr' (.int j)) : Ev X Hb (.BinOp a .Sub b pos) Γ true (.int (i - j)) := ev_op (h := fun i j => .int (i - j)) (opI0' op_sub) (fun _ _ _ => .int _) (fun _ _ => rfl) ha hb trivial
theorem ev_mul {i j : Int} {fr' : Bool} (ha : Ev X Hb a Γ fr (.int i)) (hb : Ev X Hb b Γ fr' (.int j)) (hc : IntMulOk i j) : Ev X Hb (.BinOp a .Mult b pos) Γ true (.int (i * j)) :=
  ev_op (h := fun i j => .int (i * j)) (C := IntMulOk) (g := fun i j => .int (i * j)) (opI fun _ _ _ _ _ _ _ hc q => mul_int q hc) (fun _ _ _ => .int _) (fun _ _ => rfl) ha hb hc
/-- // and %, the divisor not 0 -/
def CDivX (i j : Int) : Prop := j ≠ 0 ∧ Builtin.divisionGoesByPylong i j = false
theorem op_fdivX : OpR X (binaryOp .FloorDiv) (rI CDivX fun i j => .int (i.fdiv j)) := opI fun _ _ _ _ _ _ _ hc q => floordiv_int hc.1 q (.inl hc.2)
theorem ev_mod {i j : Int} {fr' : Bool} (ha : Ev X Hb a Γ fr (.int i)) (hb : Ev X Hb b Γ fr' (.int j)) (hc : j ≠ 0) : Ev X Hb (.BinOp a .Mod b pos) Γ true (.int (i.fmod j)) :=
  ev_op (h := fun i j => .int (i.fmod j)) op_modN (fun _ _ _ => .int _) (fun _ _ => rfl) ha hb hc
/-- a power, its size within the line -/
theorem op_powX : OpR X (binaryOp .Pow) (rI (fun i j => 0 ≤ j ∧ (Builtin.Int.intBits i : Int) * j ≤ 2 ^ 27) fun i j => .int (i ^ j.toNat)) := opI fun _ _ _ _ _ _ _ hc q => pow_int hc.1 hc.2 q
theorem ev_pow {i j : Int} {fr' : Bool} (ha : Ev X Hb a Γ fr (.int i)) (hb : Ev X Hb b Γ fr' (.int j)) (h0 : 0 ≤ j) (h1 : (Builtin.Int.intBits i : Int) * j ≤ 2 ^ 27) : Ev X Hb (.BinOp a .Pow b pos) Γ true (.int (i ^ j.toNat)) :=
  ev_op (h := fun i j => .int (i ^ j.toNat)) op_powX (fun _ _ _ => .int _) (fun _ _ => rfl) ha hb ⟨h0, h1⟩
theorem evt_cmp {op : CmpOp} {g : Int → Int → Bool} {i j : Int} {fr' : Bool} (ho : OpR X (compareOp op) (rI0 fun i j => .bl (g i j))) (hm : behindInMarks op b = false) (ha : Ev X Hb a Γ fr (.int i)) (hb : Ev X Hb b Γ fr' (.int j)) :
    EvB X Hb (.Compare a [op] [b] pos) Γ (g i j) := fun σ H en Q q =>
  SemT.of (pt_cmpR ho (semE X a) (semE X b) hm) (ha σ H en _ fun v H1 d1 e1 x1 r1 _ => hb σ H1 (en.ex x1) _ fun w H2 d2 e2 x2 r2 _ => by
    subst e1 e2
    cases r1
    cases r2
    exact ⟨i, j, rfl, rfl, _, rfl, q _ H2 rfl (x1.trans x2)⟩)
theorem evt_lt {i j : Int} {fr' : Bool} (ha : Ev X Hb a Γ fr (.int i)) (hb : Ev X Hb b Γ fr' (.int j)) : EvB X Hb (.Compare a [.Lt] [b] pos) Γ (decide (i < j)) := evt_cmp op_lt (nomark _) ha hb
theorem evt_ge {i j : Int} {fr' : Bool} (ha : Ev X Hb a Γ fr (.int i)) (hb : Ev X Hb b Γ fr' (.int j)) : EvB X Hb (.Compare a [.GtE] [b] pos) Γ (decide (j ≤ i)) := evt_cmp op_ge (nomark _) ha hb
theorem opEqI : OpR X (compareOp .Eq) (rI0 fun i j => .bl (decide (i = j))) := fun pins s σ H x y v u Q I r1 r2 ⟨i, j, e1, e2, q⟩ => op_eq pins s σ H x y v u Q I r1 r2 (by
  subst e1 e2
  exact ⟨rfl, by rw [show decide (V.int i = V.int j) = decide (i = j) from by simp]; exact q⟩)
theorem opNeI : OpR X (compareOp .NotEq) (rI0 fun i j => .bl (!decide (i = j))) := fun pins s σ H x y v u Q I r1 r2 ⟨i, j, e1, e2, q⟩ => op_ne pins s σ H x y v u Q I r1 r2 (by
  subst e1 e2
  exact ⟨rfl, by rw [show decide (V.int i = V.int j) = decide (i = j) from by simp]; exact q⟩)
/-! tests -/
theorem evt_val {S : Bool → Prop} (h : EvN X Hb e Γ fr fun z => ∃ k, z = .bl k ∧ S k) (he : ∀ whole, isTrue e X.env whole = (do let v ← whole; standAt e.pos; holding [v] (truthy v)) := by intro _; rfl) : EvT X Hb e Γ S := fun σ H en Q q =>
  SemT.of (pt_val (semE X e) he) (h σ H en _ fun v H1 d1 ⟨k, e1, s⟩ x1 r1 _ => by
    subst e1
    cases r1
    exact ⟨k, rfl, q _ _ s x1⟩)
theorem evt_not {S : Bool → Prop} (h : EvT X Hb e Γ fun b => S (!b)) : EvT X Hb (.UnaryOp .Not e pos) Γ S := fun σ H en Q q =>
  SemT.of (pt_not (semT X e)) (h σ H en _ fun b H1 s x1 => q _ _ s x1)
theorem evw_and1 {S : Bool → Prop} (h : EvT X Hb a Γ S) : EvW X Hb (.BoolOp .And [a] pos) Γ S := fun σ H en Q q => SemW.of (pw_and1 (semT X a)) (h σ H en _ q)
theorem evw_or1 {S : Bool → Prop} (h : EvT X Hb a Γ S) : EvW X Hb (.BoolOp .Or [a] pos) Γ S := fun σ H en Q q => SemW.of (pw_or1 (semT X a)) (h σ H en _ q)
theorem evw_and {S S1 : Bool → Prop} (h : EvT X Hb a Γ S1) (hb : S1 true → EvW X Hb (.BoolOp .And (b :: es) pos) Γ S) (hf : S1 false → S false) : EvW X Hb (.BoolOp .And (a :: b :: es) pos) Γ S := fun σ H en Q q =>
  SemW.of (pw_and (semT X a) (semW X _)) (h σ H en _ fun k H1 s x1 => by
    cases k with
    | true => exact hb s σ H1 (en.ex x1) Q fun b' H2 s2 x2 => q b' H2 s2 (x1.trans x2)
    | false => exact q _ _ (hf s) x1)
theorem evw_or {S S1 : Bool → Prop} (h : EvT X Hb a Γ S1) (hb : S1 false → EvW X Hb (.BoolOp .Or (b :: es) pos) Γ S) (hf : S1 true → S true) : EvW X Hb (.BoolOp .Or (a :: b :: es) pos) Γ S := fun σ H en Q q =>
  SemW.of (pw_or (semT X a) (semW X _)) (h σ H en _ fun k H1 s x1 => by
    cases k with
    | false => exact hb s σ H1 (en.ex x1) Q fun b' H2 s2 x2 => q b' H2 s2 (x1.trans x2)
    | true => exact q _ _ (hf s) x1)
theorem evw_andD {k k' : Bool} (h : EvB X Hb a Γ k) (hb : k = true → EvW X Hb (.BoolOp .And (b :: es) pos) Γ (· = k')) : EvW X Hb (.BoolOp .And (a :: b :: es) pos) Γ (· = (k && k')) :=
  evw_and h (fun z => by subst z; exact hb rfl) fun z => by subst z; rfl
theorem evw_orD {k k' : Bool} (h : EvB X Hb a Γ k) (hb : k = false → EvW X Hb (.BoolOp .Or (b :: es) pos) Γ (· = k')) : EvW X Hb (.BoolOp .Or (a :: b :: es) pos) Γ (· = (k || k')) :=
  evw_or h (fun z => by subst z; exact hb rfl) fun z => by subst z; rfl
theorem EvW.t {S : Bool → Prop} (h : EvW X Hb e Γ S) : EvT X Hb e Γ S := fun σ H en Q q => ⟨fun pins s I => (h σ H en Q q).run _ pins s I⟩
/-! and, or, not as values -/
theorem ev_one {op} (h : EvN X Hb a Γ fr S) : EvN X Hb (.BoolOp op [a] pos) Γ fr S := fun σ H en Q q => SemE.of (pe_one (semE X a)) (h σ H en Q q)
theorem evn_and {S1 : Bool → Prop} (ha : EvN X Hb a Γ fr fun z => ∃ k, z = .bl k ∧ S1 k) (hb : S1 true → EvN X Hb (.BoolOp .And (b :: es) pos) Γ true S) (hf : S1 false → S (.bl false)) : EvN X Hb (.BoolOp .And (a :: b :: es) pos) Γ true S := fun σ H en Q q =>
  SemE.of (pe_and (semE X a) (semE X _)) (ha σ H en _ fun v H1 d1 ⟨k, e1, s⟩ x1 r1 _ => by
    subst e1
    cases r1
    refine ⟨k, rfl, ?_⟩
    cases k with
    | true => exact hb s σ H1 (en.ex x1) Q fun v H2 d s2 x2 r f => q v H2 d s2 (x1.trans x2) r fun z => (f z).back x1
    | false => exact q _ _ _ (hf s) x1 (.bl false) fun _ => FreshD.flat rfl)
theorem evn_or {S1 : Bool → Prop} (ha : EvN X Hb a Γ fr fun z => ∃ k, z = .bl k ∧ S1 k) (hb : S1 false → EvN X Hb (.BoolOp .Or (b :: es) pos) Γ true S) (hf : S1 true → S (.bl true)) : EvN X Hb (.BoolOp .Or (a :: b :: es) pos) Γ true S := fun σ H en Q q =>
  SemE.of (pe_or (semE X a) (semE X _)) (ha σ H en _ fun v H1 d1 ⟨k, e1, s⟩ x1 r1 _ => by
    subst e1
    cases r1
    refine ⟨k, rfl, ?_⟩
    cases k with
    | false => exact hb s σ H1 (en.ex x1) Q fun v H2 d s2 x2 r f => q v H2 d s2 (x1.trans x2) r fun z => (f z).back x1
    | true => exact q _ _ _ (hf s) x1 (.bl true) fun _ => FreshD.flat rfl)
theorem ev_andD {k k' : Bool} (h : Ev X Hb a Γ fr (.bl k)) (hb : k = true → Ev X Hb (.BoolOp .And (b :: es) pos) Γ true (.bl k')) : Ev X Hb (.BoolOp .And (a :: b :: es) pos) Γ true (.bl (k && k')) :=
  evn_and (S1 := (· = k)) (h.imp fun _ z => ⟨k, z, rfl⟩) (fun z => by rw [← z] at hb ⊢; exact hb rfl) fun z => by rw [← z]; rfl
theorem ev_orD {k k' : Bool} (h : Ev X Hb a Γ fr (.bl k)) (hb : k = false → Ev X Hb (.BoolOp .Or (b :: es) pos) Γ true (.bl k')) : Ev X Hb (.BoolOp .Or (a :: b :: es) pos) Γ true (.bl (k || k')) :=
  evn_or (S1 := (· = k)) (h.imp fun _ z => ⟨k, z, rfl⟩) (fun z => by rw [← z] at hb ⊢; exact hb rfl) fun z => by rw [← z]; rfl
theorem ev_if {k : Bool} (hc : EvB X Hb c Γ k) (ha : k = true → EvN X Hb a Γ fr S) (hb : k = false → EvN X Hb b Γ fr S) : EvN X Hb (.IfExp c a b pos) Γ fr S := fun σ H en Q q =>
  SemE.of (pe_ifExp (semT X c) (semE X a) (semE X b)) (hc σ H en _ fun z H1 e1 x1 => by
    subst e1
    cases z with
    | true => exact ha rfl σ H1 (en.ex x1) Q fun v H2 d s2 x2 r f => q v H2 d s2 (x1.trans x2) r fun z => (f z).back x1
    | false => exact hb rfl σ H1 (en.ex x1) Q fun v H2 d s2 x2 r f => q v H2 d s2 (x1.trans x2) r fun z => (f z).back x1)

/-! argument lists, displays -/
theorem eva_nil : EvAs X Hb [] Γ [] := fun σ H en Q q => SemA.of pa_nil (q [] H [] rfl Ex.refl .nil)
theorem eva_consN {S1 : D → Prop} {S2 S : List D → Prop} (ha : EvN X Hb e Γ fr S1) (hr : EvA X Hb es Γ S2) (hS : ∀ d ds, S1 d → S2 ds → S (d :: ds)) (hs : starEach (e :: es) X.env = (false, eval e X.env) :: starEach es X.env := by rfl) : EvA X Hb (e :: es) Γ S := fun σ H en Q q =>
  SemA.of (pa_cons (semE X e) (semA X es) hs) (ha σ H en _ fun v H1 d1 s1 x1 r1 _ => hr σ H1 (en.ex x1) _ fun vs H2 ds s2 x2 r2 => q _ H2 _ (hS _ _ s1 s2) (x1.trans x2) (.cons (r1.ex x2) r2))
theorem eva_cons (ha : Ev X Hb e Γ fr d) (hr : EvAs X Hb es Γ ds) (hs : starEach (e :: es) X.env = (false, eval e X.env) :: starEach es X.env := by rfl) : EvAs X Hb (e :: es) Γ (d :: ds) :=
  eva_consN ha hr (fun _ _ a b => by rw [a, b]) hs
theorem EvA.imp {S S' : List D → Prop} (h : EvA X Hb es Γ S) (f : ∀ d, S d → S' d) : EvA X Hb es Γ S' := fun σ H en Q q => h σ H en Q fun v H' d s => q v H' d (f d s)
/-! items, slices -/
theorem atI_rep {H : Hp} {vs : List V} (r : RepAll X.K H vs ds) {i : Int} (h : atI ds i = some d) : ∃ v, atI vs i = some v ∧ Rep X.K H v d := by
  unfold atI at h ⊢
  rw [r.length]
  cases e : ixN ds.length i with
  | none => rw [e] at h; cases h
  | some j =>
    rw [e] at h
    exact r.get h
theorem evn_ixL {S1 : List D → Prop} {S2 : Int → Prop} {fr' : Bool} (ha : EvN X Hb a Γ fr fun z => ∃ ds, z = .lst ds ∧ S1 ds) (hb : EvN X Hb b Γ fr' fun z => ∃ i, z = .int i ∧ S2 i) (h : ∀ ds i, S1 ds → S2 i → ∃ d, atI ds i = some d ∧ S d) (hs : PlainIx b := by intro _ _; rfl) :
    EvN X Hb (.Subscript a b pos) Γ false S := fun σ H en Q q =>
  SemE.of (pe_ix ix_list (semE X a) (semE X b) hs) (ha σ H en _ fun v H1 d1 ⟨ds, e1, s1⟩ x1 r1 _ => hb σ H1 (en.ex x1) _ fun w H2 d2 ⟨i, e2, s2⟩ x2 r2 _ => by
    subst e1 e2
    obtain ⟨d, hd, sd⟩ := h ds i s1 s2
    cases r1 with
    | lst hq ra =>
      cases r2
      obtain ⟨v, hv, rv⟩ := atI_rep ra hd
      exact ⟨_, _, i, v, rfl, rfl, SqL.ex x2 hq, hv, q v H2 d sd (x1.trans x2) (rv.ex x2) fun z => nomatch z⟩)
theorem ev_ixL {i : Int} {fr' : Bool} (ha : Ev X Hb a Γ fr (.lst ds)) (hb : Ev X Hb b Γ fr' (.int i)) (h : atI ds i = some d) (hs : PlainIx b := by intro _ _; rfl) : Ev X Hb (.Subscript a b pos) Γ false d :=
  evn_ixL (S1 := (· = ds)) (S2 := (· = i)) (ha.imp fun _ z => ⟨_, z, rfl⟩) (hb.imp fun _ z => ⟨_, z, rfl⟩) (fun _ _ e1 e2 => by subst e1 e2; exact ⟨d, h, rfl⟩) hs
def dcut (xs : List D) (lo hi : Option Int) : List D := (xs.drop (HT.sIx xs.length 0 lo)).take (HT.sIx xs.length xs.length hi - HT.sIx xs.length 0 lo)
theorem RepAll.cut {H : Hp} {vs : List V} (r : RepAll X.K H vs ds) (lo hi : Option Int) : RepAll X.K H (cutV vs lo hi) (dcut ds lo hi) := by
  unfold cutV dcut
  rw [r.length]
  exact (r.drop _).take _
theorem dcut_whole {lo hi : Option Int} (h : HT.sIx ds.length 0 lo = 0 ∧ HT.sIx ds.length ds.length hi = ds.length) : dcut ds lo hi = ds := by
  unfold dcut
  rw [h.1, h.2]
  simp
/-! ### defs -/
abbrev Pr := List D → (D → Prop) → Prop
/-- the promise: of arguments ds the answer is one of S, where P ds S -/
def spN (K : PySem.W.Frag) (P : Pr) : Sp := fun vs H Q _ => TbOk K H ∧ ∃ ds S, RepAll K H vs ds ∧ P ds S ∧ ∀ v H' d, S d → Ex H H' → Rep K H' v d → FreshD K H H' v d → Q v H'
structure FnP (P : Program) (w : World) (K : PySem.W.Frag) (mg : Str → Option Value) (base : Heap) (x : Str) (k : Nat) (Q : Pr) : Prop where
  ex : ∃ (f : Addr) (fd : FuncData) (ps : List Str), FnOk P w K mg base CX0 k f fd ps (spN K Q) ∧ mg x = some (.ref f) ∧ PySem.W.keepIn K (.ref f) = true ∧ Binds K fd ps [] ∧ ∃ (oc : Value) (od : Option Addr) (osl : Array (Option Value)), K.lookup f = some ⟨oc, od, .func fd, osl⟩
theorem evn_call {x : Str} {pn : Pos} {k k' : Nat} {P : Pr} {SA : List D → Prop} (F : FnP X.prog X.w X.K X.mg X.base x k P) (hr : Room k' X.A) (hA : EvA X Hb (e :: es) Γ SA) (hP : ∀ ds, SA ds → ∃ S0, P ds S0 ∧ ∀ d, S0 d → S d)
    (hk : k ≤ k' := by decide) (hg : Gl X x := by rfl) (hdb : (x == ("__debug__" : Str)) = false := by decide) (he : starEach (e :: es) X.env = (false, eval e X.env) :: starEach es X.env := by rfl) (hpl : (backTo pos (starEach es X.env)).any (·.1) = false := by rfl) :
    EvN X Hb (.Call (.Name x pn) (e :: es) [] pos) Γ true S := fun σ H en Q q => by
  obtain ⟨f, fd, ps, G, hm, hkp, hb, _⟩ := F.ex
  refine SemE.of (pe_call G (hr.mono hk) hg hm hkp hb .nil pass0 (semA X (e :: es)) hdb he hpl) (hA σ H en _ fun vs H1 ds s x1 r => ?_)
  obtain ⟨S0, hS0, hS⟩ := hP ds s
  show spN _ _ (vs ++ []) H1 Q E0
  rw [List.append_nil]
  exact ⟨en.tb.ex (en.base.trans x1), ds, S0, r, hS0, fun v H' d s0 x2 r2 f2 => q v H' d (hS d s0) (x1.trans x2) r2 fun _ => f2.back x1⟩
/-- a built-in by its name -/
theorem evn_B {id : String} {x : Str} {pn : Pos} {r : List V → Hp → VK → Prop} {SA : List D → Prop} (hc : CallR X (.builtin id) r) (hm : X.mg x = none) (hA : EvA X Hb (e :: es) Γ SA)
    (h : ∀ vs H ds Q, SA ds → RepAll X.K H vs ds → (∀ v H' d, S d → Ex H H' → Rep X.K H' v d → FreshD X.K H H' v d → Q v H') → r vs H Q) (hv : bootBuiltins x = some (.builtin id) := by decide +kernel) (hg : Gl X x := by rfl)
    (hn : x ≠ "__name__" := by decide) (hdb : (x == ("__debug__" : Str)) = false := by decide) (he : starEach (e :: es) X.env = (false, eval e X.env) :: starEach es X.env := by rfl) (hpl : (backTo pos (starEach es X.env)).any (·.1) = false := by rfl) :
    EvN X Hb (.Call (.Name x pn) (e :: es) [] pos) Γ true S := fun σ H en Q q =>
  SemE.of (pe_callB hc hg hm hv (semA X (e :: es)) hn hdb he hpl) (hA σ H en _ fun vs H1 ds s x1 r => h vs H1 ds Q s r fun v H' d sd x2 r2 f => q v H' d sd (x1.trans x2) r2 fun _ => f.back x1)
theorem evn_Ty {T : String} {x : Str} {pn : Pos} {r : List V → Hp → VK → Prop} {SA : List D → Prop} (hc : CallR X (.type T) r) (hm : X.mg x = none) (hA : EvA X Hb (e :: es) Γ SA)
    (h : ∀ vs H ds Q, SA ds → RepAll X.K H vs ds → (∀ v H' d, S d → Ex H H' → Rep X.K H' v d → FreshD X.K H H' v d → Q v H') → r vs H Q) (hv : bootBuiltins x = some (.type T) := by decide +kernel) (hg : Gl X x := by rfl)
    (hn : x ≠ "__name__" := by decide) (hdb : (x == ("__debug__" : Str)) = false := by decide) (he : starEach (e :: es) X.env = (false, eval e X.env) :: starEach es X.env := by rfl) (hpl : (backTo pos (starEach es X.env)).any (·.1) = false := by rfl) :
    EvN X Hb (.Call (.Name x pn) (e :: es) [] pos) Γ true S := fun σ H en Q q =>
  SemE.of (pe_callTy hc hg hm hv (semA X (e :: es)) hn hdb he hpl) (hA σ H en _ fun vs H1 ds s x1 r => h vs H1 ds Q s r fun v H' d sd x2 r2 f => q v H' d sd (x1.trans x2) r2 fun _ => f.back x1)
section
variable {hm : X.mg "x" = none}
/-- len of a list, a tuple -/
theorem ev_len {pn : Pos} (hm : X.mg "len" = none) (hA : EvAs X Hb [a] Γ [x]) (hx : x = .lst ds ∨ x = .tup ds) (hg : Gl X "len" := by rfl) (he : starEach (a :: []) X.env = (false, eval a X.env) :: starEach [] X.env := by rfl) (hpl : (backTo pos (starEach [] X.env)).any (·.1) = false := by rfl) :
    Ev X Hb (.Call (.Name "len" pn) [a] [] pos) Γ true (.int ds.length) :=
  evn_B call_len_seq hm hA (fun vs H ds' Q s r k => by
    subst s
    rcases hx with e | e <;> subst e
    · cases r with
      | cons r1 r2 =>
        cases r2
        cases r1 with
        | lst hq ra => exact ⟨_, _, rfl, .inl hq, by rw [ra.length]; exact k _ _ _ rfl Ex.refl (.int _) (FreshD.flat rfl)⟩
    · cases r with
      | cons r1 r2 =>
        cases r2
        cases r1 with
        | tup hq ra => exact ⟨_, _, rfl, .inr hq, by rw [ra.length]; exact k _ _ _ rfl Ex.refl (.int _) (FreshD.flat rfl)⟩) PySem.boot_len hg (by decide) (by decide) he hpl
theorem RepAll.int1 {H : Hp} {vs : List V} {i : Int} (r : RepAll X.K H vs [.int i]) : vs = [.int i] := by
  cases r with
  | cons r1 r2 => cases r2; cases r1; rfl
theorem RepAll.int2 {H : Hp} {vs : List V} {i j : Int} (r : RepAll X.K H vs [.int i, .int j]) : vs = [.int i, .int j] := by
  cases r with
  | cons r1 r2 =>
    cases r1
    rw [r2.int1]
theorem RepAll.lst1 {H : Hp} {vs : List V} (r : RepAll X.K H vs [.lst ds]) : ∃ a ws, vs = [.ref a] ∧ SqL X.K H a ws ∧ RepAll X.K H ws ds := by
  cases r with
  | cons r1 r2 =>
    cases r2
    cases r1 with
    | lst hq ra => exact ⟨_, _, rfl, hq, ra⟩
theorem ev_toInt {pn : Pos} {i : Int} (hm : X.mg "int" = none) (hA : EvAs X Hb [a] Γ [.int i]) (hg : Gl X "int" := by rfl) (he : starEach (a :: []) X.env = (false, eval a X.env) :: starEach [] X.env := by rfl) (hpl : (backTo pos (starEach [] X.env)).any (·.1) = false := by rfl) :
    Ev X Hb (.Call (.Name "int" pn) [a] [] pos) Γ true (.int i) :=
  evn_Ty call_int1 hm hA (fun vs H ds' Q s r k => by
    subst s
    exact .inl ⟨i, r.int1, k _ _ _ rfl Ex.refl (.int _) (FreshD.flat rfl)⟩) (by decide +kernel) hg (by decide) (by decide) he hpl
end
end
end L3

namespace L3
open PySem PySem.Spec PyProof.Rows L2
section
variable {X : Cx} {Hb Hb' : Hp} {a b c e : Expr} {es : List Expr} {Γ : Slots} {pos p' : Pos} {d x y : D} {ds : List D} {S S' : D → Prop} {fr : Bool} {D0 : Ends} {rest sts : List Stmt} {st : Stmt}
theorem SemSs.cons {t : TS} {σ : L2.St} {H : Hp} (h : PS X st t) (q : t { D0 with nx := fun σ' H' => SemSs X rest D0 σ' H' } σ H) : SemSs X (st :: rest) D0 σ H :=
  SemSs.of (pss_cons h (semSs X rest)) q
theorem go_nil (h : ∀ σ H, EnvOk X.K Hb Γ σ H → D0.nx σ H) : Go X Hb [] D0 Γ := fun σ H en => SemSs.of pss_nil (h σ H en)
theorem go_weak {Γ' : Slots} (h : ∀ σ H, EnvOk X.K Hb Γ σ H → EnvOk X.K Hb Γ' σ H) (g : Go X Hb sts D0 Γ') : Go X Hb sts D0 Γ := fun σ H en => g σ H (h σ H en)
/-- return e -/
theorem go_retN (h : EvN X Hb e Γ fr S) (hd : ∀ v H' d, S d → Ex Hb H' → Rep X.K H' v d → (fr = true → FreshD X.K Hb H' v d) → D0.rt v H') : Go X Hb (.Return (some e) pos :: rest) D0 Γ := fun σ H en =>
  SemSs.cons (ps_ret (semE X e)) (h σ H en _ fun v H' d s x r f => hd v H' d s (en.base.trans x) r fun z => (f z).back en.base)
theorem go_ret (h : Ev X Hb e Γ fr d) (hf : isCont d = false ∨ fr = true) (hd : ∀ v H', Rt X.K Hb d v H' → D0.rt v H') : Go X Hb (.Return (some e) pos :: rest) D0 Γ :=
  go_retN h fun v H' d' s x r f => by
    subst s
    refine hd v H' ⟨x, r, ?_⟩
    rcases hf with z | z
    · exact FreshD.flat z
    · exact f z
/-- return xs, xs a list of one's own -/
theorem go_retOwn (i : Nat) {p : Addr} {xn : Str} (hd : ∀ v H', Rt X.K Hb (.lst ds) v H' → D0.rt v H') (hG : Γ[i]? = some (.own p ds) := by rfl) (hN : X.N[i]? = some xn := by rfl) (hv : Vis X.env.scope xn := by first | exact Or.inl rfl | exact Or.inr (Or.inl rfl) | exact Or.inr (Or.inr rfl)) (hdb : (xn == ("__debug__" : Str)) = false := by decide)
    (hcd : (xn == ("__classdict__" : Str)) = false := by decide) : Go X Hb (.Return (some (.Name xn p')) pos :: rest) D0 Γ := fun σ H en => by
  obtain ⟨hσ, hb, vs, hl, r⟩ := en.own hG
  exact SemSs.cons (ps_ret (pe_var hN hv hdb hcd)) ⟨_, hσ, hd _ _ ⟨en.base, .lst (SqL.of hl) r, p, vs, rfl, hb, hl, r⟩⟩
/-- x = e -/
theorem go_setN (i : Nat) {xn : Str} (h : EvN X Hb e Γ fr S) (hs : ∀ d, S d → Sto Γ d) (g : ∀ d, S d → Go X Hb rest D0 (Γ.set i (.dat d))) (nd : X.N.Nodup) (hi : X.N[i]? = some xn := by rfl) (hx : Loc X.env.scope xn := by first | exact Or.inl rfl | exact Or.inr rfl)
    (hsw : swapsWith e (some (.Name xn p')) pos.line X.env = pure false := by rfl) (hf : X.fn xn = true ∨ X.env.scope.names.lookup xn = some .local := by first | exact .inl rfl | exact .inr rfl) : Go X Hb (.Assign [.Name xn p'] e pos :: rest) D0 Γ := fun σ H en =>
  SemSs.cons (ps_set nd hi hx (semE X e) hsw hf) (h σ H en _ fun v H' d s x r f => g d s _ H' ((en.ex x).setDat r (hs d s)))
theorem go_set (i : Nat) {xn : Str} (h : Ev X Hb e Γ fr d) (hs : Sto Γ d) (g : Go X Hb rest D0 (Γ.set i (.dat d))) (nd : X.N.Nodup) (hi : X.N[i]? = some xn := by rfl) (hx : Loc X.env.scope xn := by first | exact Or.inl rfl | exact Or.inr rfl)
    (hsw : swapsWith e (some (.Name xn p')) pos.line X.env = pure false := by rfl) (hf : X.fn xn = true ∨ X.env.scope.names.lookup xn = some .local := by first | exact .inl rfl | exact .inr rfl) : Go X Hb (.Assign [.Name xn p'] e pos :: rest) D0 Γ :=
  go_setN i h (fun _ z => by rw [z]; exact hs) (fun _ z => by rw [z]; exact g) nd hi hx hsw hf
/-! ### if, while, for -/
theorem go_ifN {as bs : List Stmt} {S : Bool → Prop} (h : EvT X Hb c Γ S) (ha : S true → Go X Hb as { D0 with nx := fun σ H => SemSs X rest D0 σ H } Γ) (hb : S false → Go X Hb bs { D0 with nx := fun σ H => SemSs X rest D0 σ H } Γ) : Go X Hb (.If c as bs pos :: rest) D0 Γ := fun σ H en =>
  SemSs.cons (ps_if (semT X c) (semSs X as) (semSs X bs)) (h σ H en _ fun k H' s x => by
    cases k with
    | true => exact ha s σ H' (en.ex x)
    | false => exact hb s σ H' (en.ex x))
theorem go_if {as bs : List Stmt} {k : Bool} (h : EvB X Hb c Γ k) (ha : k = true → Go X Hb as { D0 with nx := fun σ H => SemSs X rest D0 σ H } Γ) (hb : k = false → Go X Hb bs { D0 with nx := fun σ H => SemSs X rest D0 σ H } Γ) : Go X Hb (.If c as bs pos :: rest) D0 Γ :=
  go_ifN h (fun z => ha z.symm) fun z => hb z.symm
/-- the end of a branch: what stands behind the if -/
theorem go_join (g : Go X Hb rest D0 Γ) : Go X Hb [] { D0 with nx := fun σ H => SemSs X rest D0 σ H } Γ := go_nil fun σ H en => g σ H en
theorem go_pass (g : Go X Hb rest D0 Γ) : Go X Hb (.Pass pos :: rest) D0 Γ := fun σ H en => SemSs.cons ps_pass (g σ H en)
theorem EnvOk.wb {K : PySem.W.Frag} {σ : L2.St} {H : Hp} (e : ExK K Hb Hb') (h : EnvOk K Hb' Γ σ H) : EnvOk K Hb Γ σ H := let ⟨Hz, h1, h2⟩ := h; ⟨Hz, e.trans h1.toEx, h2⟩
/-! what a loop goes over -/
theorem evi_dat (i : Nat) {xn : Str} (hG : Γ[i]? = some (.dat (.lst ds)) := by rfl) (hN : X.N[i]? = some xn := by rfl) (hv : Vis X.env.scope xn := by first | exact Or.inl rfl | exact Or.inr (Or.inl rfl) | exact Or.inr (Or.inr rfl)) (hd : (xn == ("__debug__" : Str)) = false := by decide)
    (hcd : (xn == ("__classdict__" : Str)) = false := by decide) : EvI X Hb (.Name xn pos) Γ (· = ds) := fun σ H en Q q => by
  obtain ⟨h1, h2, h3, h4⟩ := en.wide
  obtain ⟨o, hσ, v, rfl, r⟩ := Paired.getE h3 hG
  cases r with
  | lst hq ra => exact SemE.of (pe_var hN hv hd hcd) ⟨_, hσ, q _ _ H _ rfl Ex.refl hq ra⟩
/-- the state between two turns -/
abbrev Btw (X : Cx) (Hb : Hp) (I : Slots → Prop) : L2.St → Hp → Prop := fun σ H => ∃ Γ', I Γ' ∧ EnvOk X.K Hb Γ' σ H
theorem go_btw {I : Slots → Prop} {Γ' : Slots} {D1 : Ends} (hI : I Γ') (hw : ∀ σ H, EnvOk X.K Hb Γ σ H → EnvOk X.K Hb Γ' σ H) (hD : ∀ σ H, Btw X Hb I σ H → D1.nx σ H) : Go X Hb [] D1 Γ := go_nil fun σ H en => hD σ H ⟨Γ', hI, hw σ H en⟩
/-- for x in a list -/
theorem go_forN {body : List Stmt} (ix : Nat) {xn : Str} {S1 : List D → Prop} (I : List D → Nat → Slots → Prop) (hit : EvI X Hb e Γ S1) (h0 : ∀ ds, S1 ds → I ds 0 Γ) (hst : ∀ ds i x Γ', S1 ds → ds[i]? = some x → I ds i Γ' → Sto Γ' x)
    (hs : ∀ Hb', Ex Hb Hb' → ∀ ds i x Γ', S1 ds → ds[i]? = some x → I ds i Γ' → Go X Hb' body { D0 with nx := Btw X Hb' (I ds (i + 1)), ct := Btw X Hb' (I ds (i + 1)), bk := fun σ H => SemSs X rest D0 σ H } (Γ'.set ix (.dat x)))
    (hd : ∀ ds Γ', S1 ds → I ds ds.length Γ' → Go X Hb rest D0 Γ') (hp : PassesOwn (model X.prog X.w) X.A X.env X.xe) (hc : X.calm = true) (nd : X.N.Nodup) (hi : X.N[ix]? = some xn := by rfl) (hx : Loc X.env.scope xn := by first | exact Or.inl rfl | exact Or.inr rfl)
    (hfs : ∀ x, foldedSetIterable e X.env x = pure x := by intro _; rfl) (hf : X.fn xn = true ∨ X.env.scope.names.lookup xn = some .local := by first | exact .inl rfl | exact .inr rfl) :
    Go X Hb (.For (.Name xn p') e body [] pos :: rest) D0 Γ := fun σ H en => by
  refine SemSs.cons (ps_for hp hc (pi_list (semE X e)) (pg_name nd hi hx hf) (semSs X body) hfs) ?_
  refine hit σ H en _ fun a vs H' ds s x hq ra => ?_
  have en' := en.ex x
  have eb : Ex Hb (hide H' (owns Γ)) := en'.wide.1.toEx
  refine ⟨a, rfl, ⟨_, SqL.ex hide_ex hq⟩, for_list (K := X.K) (a := a) (xs := vs) (fun i σ H => Btw X (hide H' (owns Γ)) (I ds i) σ H) ⟨Γ, h0 ds s, ⟨_, en'.wide.1.self, en'.wide.2⟩⟩ (fun i σ H _ ⟨Γ', _, en2⟩ => SqL.ex en2.base hq) ?_ ?_⟩
  · rintro i v σ2 H2 hv ⟨Γ', hI, en2⟩
    obtain ⟨x, hx', rx⟩ := ra.get' hv
    exact hs _ eb ds i x Γ' s hx' hI _ H2 (en2.setDat (rx.ex en2.base) (hst ds i x Γ' s hx' hI))
  · rintro σ2 H2 ⟨Γ', hI, en2⟩
    rw [ra.length] at hI
    exact hd ds Γ' s hI _ H2 (en2.wb en'.wide.1)
theorem go_for {body : List Stmt} (ix : Nat) {xn : Str} (I : Nat → Slots → Prop) (hit : EvI X Hb e Γ (· = ds)) (h0 : I 0 Γ) (hst : ∀ i x Γ', ds[i]? = some x → I i Γ' → Sto Γ' x)
    (hs : ∀ Hb', Ex Hb Hb' → ∀ i x Γ', ds[i]? = some x → I i Γ' → Go X Hb' body { D0 with nx := Btw X Hb' (I (i + 1)), ct := Btw X Hb' (I (i + 1)), bk := fun σ H => SemSs X rest D0 σ H } (Γ'.set ix (.dat x)))
    (hd : ∀ Γ', I ds.length Γ' → Go X Hb rest D0 Γ') (hp : PassesOwn (model X.prog X.w) X.A X.env X.xe) (hc : X.calm = true) (nd : X.N.Nodup) (hi : X.N[ix]? = some xn := by rfl) (hx : Loc X.env.scope xn := by first | exact Or.inl rfl | exact Or.inr rfl)
    (hfs : ∀ x, foldedSetIterable e X.env x = pure x := by intro _; rfl) (hf : X.fn xn = true ∨ X.env.scope.names.lookup xn = some .local := by first | exact .inl rfl | exact .inr rfl) :
    Go X Hb (.For (.Name xn p') e body [] pos :: rest) D0 Γ :=
  go_forN ix (fun _ i => I i) hit (fun _ _ => h0) (fun _ i x Γ' s hx hI => hst i x Γ' (by rw [← s]; exact hx) hI) (fun Hb' eb _ i x Γ' s hx hI => hs Hb' eb i x Γ' (by rw [← s]; exact hx) hI) (fun ds' Γ' s hI => hd Γ' (by rw [← s]; exact hI)) hp hc nd hi hx hfs hf
/-- for x in range(n), range(a, b) -/
def EvR (X : Cx) (Hb : Hp) (e : Expr) (Γ : Slots) (S : Int → Nat → Prop) : Prop := ∃ wi, (∀ tg, PI X tg e wi) ∧ ∀ σ H, EnvOk X.K Hb Γ σ H → ∀ R : It → Hp → Prop, (∀ lo n H', S lo n → Ex H H' → R (Itr lo n) H') → wi σ H R
theorem evr_1N {pn : Pos} {S1 : Int → Prop} (h : EvA X Hb [a] Γ fun z => ∃ i, z = [.int i] ∧ S1 i) (hb : ∀ i, S1 i → -(2 ^ 62) ≤ i ∧ i < 2 ^ 62) (hm : X.mg "range" = none) (hg : Gl X "range" := by rfl) (hs : starEach [a] X.env = [(false, eval a X.env)] := by rfl) :
    EvR X Hb (.Call (.Name "range" pn) [a] [] pos) Γ (fun lo n => lo = 0 ∧ ∃ i, S1 i ∧ n = i.toNat) :=
  ⟨_, fun tg => pi_range1 hg hm (semA X [a]) hs, fun σ H en R q => h σ H en _ fun vs H' ds ⟨i, e1, s⟩ x r => by
    subst e1
    exact ⟨i, r.int1, (hb i s).1, (hb i s).2, q 0 _ H' ⟨rfl, i, s, rfl⟩ x⟩⟩
end
end L3

namespace L3
open PySem PySem.Spec PyProof.Rows L2
section
variable {X : Cx} {Hb Hb' : Hp} {a b c e : Expr} {es : List Expr} {Γ : Slots} {pos p' apos cpos : Pos} {d x y : D} {ds : List D} {S S' : D → Prop} {fr : Bool} {D0 : Ends} {rest sts : List Stmt} {st : Stmt}
theorem EnvOk.ownW {K : PySem.W.Frag} {σ : L2.St} {H : Hp} {i : Nat} {p : Addr} (h : EnvOk K Hb Γ σ H) (e : Γ[i]? = some (.own p ds)) : σ[i]? = some (some (.ref p)) ∧ ∃ vs, H p = some (.lst vs) ∧ RepAll K (hide H (owns Γ)) vs ds ∧ Lsts H (owns Γ) := by
  obtain ⟨h1, h2, h3, h4⟩ := h.wide
  obtain ⟨o, q, rfl, n, vs, q2, r2⟩ := Paired.getE h3 e
  exact ⟨q, vs, q2, r2, owns_lsts h3⟩
/-- xs.append(e), xs a list of one's own -/
theorem go_appendN (i : Nat) {p : Addr} {xn : Str} (h : EvN X Hb e Γ fr S) (hG : Γ[i]? = some (.own p ds) := by rfl) (hf : ∀ d, S d → d.flat = true) (hl : ds.length ≤ 100000) (g : ∀ d, S d → Go X Hb rest D0 (Γ.set i (.own p (ds ++ [d])))) (hN : X.N[i]? = some xn := by rfl)
    (hv : Vis X.env.scope xn := by first | exact Or.inl rfl | exact Or.inr (Or.inl rfl) | exact Or.inr (Or.inr rfl)) (hdb : (xn == ("__debug__" : Str)) = false := by decide) (hcd : (xn == ("__classdict__" : Str)) = false := by decide)
    (hbase : attributeBase (.Name xn p') "append" X.env (eval (.Name xn p') X.env) = eval (.Name xn p') X.env := by rfl)
    (hfew : ((backTo cpos (starEach (e :: []) X.env)).all (fun x => !x.1) && (backToKw cpos (keywordEach [] X.env)).all (fun x => x.1.isSome) && decide ((e :: []).length + ([] : List Keyword).length + (if ([] : List Keyword).isEmpty then 0 else 1) < 30)) = true := by rfl)
    (hline : (apos.endLine == cpos.line) = true := by rfl) (hs : starEach (e :: []) X.env = (false, eval e X.env) :: starEach [] X.env := by rfl) (hplain : (backTo cpos (starEach [] X.env)).any (·.1) = false := by rfl)
    (hsw : swapsWith (.Call (.Attribute (.Name xn p') "append" apos) [e] [] cpos) none pos.line X.env = pure false := by rfl) :
    Go X Hb (.Expr (.Call (.Attribute (.Name xn p') "append" apos) [e] [] cpos) pos :: rest) D0 Γ := fun σ H en => by
  obtain ⟨hσ, vs, hl1, _, _⟩ := en.ownW hG
  refine SemSs.cons (ps_expr (pe_bm PySem.F.plainAttrs_list PySem.F.slot_list_append PySem.F.type_list_append mt_append (pe_var hN hv hdb hcd) (pa_cons (semE X e) pa_nil hs) hbase hfew hline hs hplain) hsw) ?_
  refine ⟨_, hσ, .inl ⟨rfl, _, SqL.of hl1⟩, h σ H en _ fun v H' d s x r _ => ?_⟩
  have en' := en.ex x
  obtain ⟨_, ws, hl2, rw, ls⟩ := en'.ownW hG
  refine ⟨p, ws, v, rfl, rfl, hl2, by rw [rw.length]; exact Nat.lt_of_le_of_lt hl (by decide), ?_⟩
  exact g d s σ _ (en'.mutOwn hG (rw.append (.cons (r.hide ls (hf d s)) .nil)))
end

/-! ### a def of the text -/
section
variable {P : Program} {w : World} {K : PySem.W.Frag} {mg : Str → Option Value} {base : Heap}
/-- where a def's body stands -/
abbrev bodyCx (P : Program) (w : World) (K : PySem.W.Frag) (mg : Str → Option Value) (base : Heap) (N : List Str) (qual : Str) (sc : Scope) (f : Addr) (cdv : Value) (A : Around) (outer : List Env) (s : Shared) (H : Hp) (E : XK) : Cx := (cxOf CX0 P w K mg base N qual sc f cdv A outer s H E).nox
def slots0 (N : List Str) (ds : List D) : Slots := ds.map .dat ++ List.replicate (N.length - ds.length) .any
theorem paired_any {Hz H : Hp} : ∀ n : Nat, Paired (EntOk K Hz H) (List.replicate n .any) (List.replicate n none)
  | 0 => .nil
  | n + 1 => .cons trivial (paired_any n)
theorem paired_start {H : Hp} (n : Nat) : ∀ {vs : List V} {ds : List D}, RepAll K H vs ds → Paired (EntOk K H H) (ds.map .dat ++ List.replicate n .any) (vs.map some ++ List.replicate n none)
  | _, _, .nil => paired_any n
  | _, _, .cons h r => .cons ⟨_, rfl, h⟩ (paired_start n r)
theorem owns_start (n : Nat) : ∀ ds : List D, owns (ds.map .dat ++ List.replicate n .any) = []
  | d :: ds => owns_start n ds
  | [] => by
    induction n with
    | zero => rfl
    | succ n ih => exact ih
theorem env_start {N : List Str} {H : Hp} {vs : List V} {ds : List D} (r : RepAll K H vs ds) (tb : TbOk K H) : EnvOk K H (slots0 N ds) (L2.start N vs) H := by
  refine ⟨H, ⟨Ex.refl, tb⟩, Ex.refl, ?_, ?_⟩
  · unfold slots0 L2.start
    rw [r.length]
    exact paired_start _ r
  · unfold slots0
    rw [owns_start]
    exact List.nodup_nil
/-- THE RULE for a def: nothing is raised, the answer is one of S -/
theorem fnP_of {x qual : Str} {st : Stmt} {f : Addr} {fd : FuncData} {N ps : List Str} {k : Nat} {Q : Pr} (F : Fun K x qual st f fd) (Sc : FnScope N ps (defScope st)) (hm : mg x = some (.ref f)) (hb : Binds K fd ps []) (har : ∀ ds S, Q ds S → ds.length = ps.length)
    (hbody : ∀ (cdv : Value) (A : Around) (outer : List Env) (s : Shared) (H : Hp) (E : XK), Room k (A.deeper (envOfC qual (defScope st) s.heap.objs.size f cdv)) → ∀ ds S, Q ds S →
      Go (bodyCx P w K mg base N qual (defScope st) f cdv A outer s H E) H (defBody st) { nx := fun _ H' => S .non ∧ Ex H H', rt := fun v H' => ∃ d, S d ∧ Rt K H d v H' } (slots0 N ds)) : FnP P w K mg base x (k + 1) Q := by
  refine ⟨f, fd, ps, F.ok Sc (fun vs H Q' E h => ?_) (fun cdv A outer s H vs Q' E hr h => ?_), hm, F.kp, hb, by obtain ⟨oc, od, kV, doc, pm, an, cdv, ct, osl, efd, lk, hcd⟩ := F.ex; exact ⟨oc, od, osl, lk⟩⟩
  · obtain ⟨_, ds, S, r, q, _⟩ := h
    rw [r.length]
    exact har ds S q
  · obtain ⟨tb, ds, S, r, q, hk⟩ := h
    refine ⟨_, semSs _ _, ?_⟩
    have go := hbody cdv A outer s H E hr ds S q _ _ (env_start (N := N) r tb)
    exact go.mono (fun σ' H' ⟨sd, x⟩ => hk .non H' .non sd x .non trivial) (fun v H' ⟨d, sd, x, rp, f⟩ => hk v H' d sd x rp f) (fun _ _ h => h) fun _ _ h => h
end
end L3

namespace L3
open PySem PySem.Spec PyProof.Rows L2
section
variable {X : Cx} {Hb Hb' : Hp} {a b c e : Expr} {es : List Expr} {Γ : Slots} {pos p' apos cpos : Pos} {d x y : D} {ds : List D} {S S' : D → Prop} {fr : Bool} {D0 : Ends} {rest sts : List Stmt} {st : Stmt}
/-- the end of a turn: the slots are as Γ' says -/
theorem go_end {Γ' : Slots} (h : ∀ σ H, EnvOk X.K Hb Γ σ H → EnvOk X.K Hb Γ' σ H) (hD : ∀ σ H, EnvOk X.K Hb Γ' σ H → D0.nx σ H := by exact fun _ _ h => h) : Go X Hb [] D0 Γ := go_nil fun σ H en => hD σ H (h σ H en)
theorem go_endF (i : Nat) {Γ' : Slots} (h : Γ.set i .any = Γ') (hD : ∀ σ H, EnvOk X.K Hb Γ' σ H → D0.nx σ H := by exact fun _ _ h => h) : Go X Hb [] D0 Γ := go_nil fun σ H en => hD σ H (by rw [← h]; exact en.forget)
/-- for x in a list: the slots by a state that each item turns -/
theorem go_fold {α β : Type} {body : List Stmt} (ix : Nat) {xn : Str} (f : α → D) (xs : List α) (G : β → Slots) (step : β → α → β) (s0 : β) (hit : EvI X Hb e Γ (· = xs.map f)) (h0 : Γ = G s0) (hst : ∀ s a, a ∈ xs → Sto (G s) (f a))
    (hs : ∀ Hb', Ex Hb Hb' → ∀ pre a post, xs = pre ++ a :: post → Go X Hb' body { D0 with nx := fun σ H => EnvOk X.K Hb' (G (step (pre.foldl step s0) a)) σ H, ct := fun σ H => EnvOk X.K Hb' (G (step (pre.foldl step s0) a)) σ H, bk := fun σ H => SemSs X rest D0 σ H } ((G (pre.foldl step s0)).set ix (.dat (f a))))
    (hd : Go X Hb rest D0 (G (xs.foldl step s0))) (hp : PassesOwn (model X.prog X.w) X.A X.env X.xe) (hc : X.calm = true) (nd : X.N.Nodup) (hi : X.N[ix]? = some xn := by rfl) (hx : Loc X.env.scope xn := by first | exact Or.inl rfl | exact Or.inr rfl)
    (hfs : ∀ x, foldedSetIterable e X.env x = pure x := by intro _; rfl) (hf : X.fn xn = true ∨ X.env.scope.names.lookup xn = some .local := by first | exact .inl rfl | exact .inr rfl) :
    Go X Hb (.For (.Name xn p') e body [] pos :: rest) D0 Γ := by
  have get : ∀ {i : Nat} {x : D}, (xs.map f)[i]? = some x → ∃ a, xs[i]? = some a ∧ x = f a := fun {i x} h => by
    rw [List.getElem?_map] at h
    cases q : xs[i]? with
    | none => rw [q] at h; cases h
    | some a => rw [q] at h; cases h; exact ⟨a, rfl, rfl⟩
  refine go_for ix (fun i Γ' => Γ' = G ((xs.take i).foldl step s0)) hit (by rw [h0]; rfl) (fun i x Γ' hx' hI => ?_) (fun Hb' eb i x Γ' hx' hI => ?_) (fun Γ' hI => ?_) hp hc nd hi hx hfs hf
  · obtain ⟨a, ha, rfl⟩ := get hx'
    rw [hI]
    exact hst _ a (List.mem_of_getElem? ha)
  · obtain ⟨a, ha, rfl⟩ := get hx'
    subst hI
    obtain ⟨hl, hv⟩ := List.getElem?_eq_some_iff.mp ha
    have e1 : xs = xs.take i ++ a :: xs.drop (i + 1) := by
      rw [← hv, List.getElem_cons_drop, List.take_append_drop]
    have e2 : xs.take (i + 1) = xs.take i ++ [a] := by rw [List.take_add_one, ha]; rfl
    have k := hs Hb' eb (xs.take i) a (xs.drop (i + 1)) e1
    intro σ H en
    have go : ∀ σ' H', EnvOk X.K Hb' (G (step ((xs.take i).foldl step s0) a)) σ' H' → Btw X Hb' (fun Γ' => Γ' = G ((xs.take (i + 1)).foldl step s0)) σ' H' := fun σ' H' en' => ⟨_, rfl, by
      rw [e2, List.foldl_append]
      exact en'⟩
    exact (k σ H en).mono go (fun _ _ h => h) (fun _ _ h => h) go
  · rw [hI, List.length_map, List.take_length]
    exact hd
end
end L3

namespace L3
open PySem PySem.Spec PyProof.Rows L2
section
variable {P : Program} {w : World} {K : PySem.W.Frag} {mg : Str → Option Value} {base : Heap}
/-- a promise kept where no repr is under way -/
structure FnG (P : Program) (w : World) (K : PySem.W.Frag) (mg : Str → Option Value) (base : Heap) (k : Nat) (f : Addr) (fd : FuncData) (ps : List Str) (sp : Sp) : Prop where
  ar : ∀ vs H Q E, sp vs H Q E → vs.length = ps.length
  go : ∀ A outer s H args us vs Q, A.guards = some [] → Room k A → Env0 P w K mg base A outer s H → BindsTo s fd args (ps.zip us) → Vals vs us → sp vs H Q E0 →
    codeAny (model P w) A (.call (.ref f) args) (CR CX0 outer P w H s Q E0) s
theorem deeper_guards {A : Around} {env : Env} (h : A.guards = some []) : (A.deeper env).guards = some [] := h
theorem fnG_of {x qual : Str} {st : Stmt} {f : Addr} {fd : FuncData} {N ps : List Str} {k : Nat} {sp : Sp} (F : Fun K x qual st f fd) (Sc : FnScope N ps (defScope st)) (ar : ∀ vs H Q E, sp vs H Q E → vs.length = ps.length)
    (hbody : ∀ cdv A outer s H vs Q, (A.deeper (envOfC qual (defScope st) s.heap.objs.size f cdv)).guards = some [] → Room k (A.deeper (envOfC qual (defScope st) s.heap.objs.size f cdv)) → sp vs H Q E0 →
      SemSs (bodyCx P w K mg base N qual (defScope st) f cdv A outer s H E0) (defBody st) { nx := fun _ H' => Q .non H', rt := Q } (L2.start N vs) H) : FnG P w K mg base (k + 1) f fd ps sp := by
  obtain ⟨oc, od, kV, doc, pm, an, cdv, ct, osl, efd, lk, hcd⟩ := F.ex
  subst efd
  refine ⟨ar, fun A outer s H args us vs Q hgd hr e0 hb r hsp => ?_⟩
  have kin := e0.mod.kin.keeps fun b o e => (e0.bs b o e).1
  have nolim := e0.mod.nolimit.keeps fun b o e => (e0.bs b o e).1
  have kinds : ∀ y ∈ ps.zip us, (defScope st).names.lookup y.1 = some .local ∨ ((defScope st).names.lookup y.1 = some .cell ∧ ((cellsFrom (s.heap.objs.size + 1) (defScope st).names []).lookup y.1).isSome = true) := by
    rintro ⟨n, v⟩ hy
    refine (Sc.par n (List.of_mem_zip hy).1).imp id fun q => ⟨q, ?_⟩
    exact PySem.W.cellsFrom_some _ _ _ (.inl q)
  refine codeAny_call_function hr.depth (kin f _ lk) rfl Sc.co Sc.gen rfl (PySem.W.codeRec_of kin hcd) (hb _ _ _ _ ?_)
  refine wpAny_newFunctionEnv_cells Sc.kind kinds fun env ee s1 ic => ?_
  subst ee
  refine ⟨nolim.keeps ic.toInCall.keep, codeAny_func ?_⟩
  have body := hbody cdv A outer s H vs Q (deeper_guards hgd) (hr.deeper _) hsp
  have I0 := inv_start (CX := CX0) (E := E0) Sc hr.hd e0 (ar _ _ _ _ hsp) r ic
  have fin : ∀ {σ' : L2.St} {H' : Hp} {v : V} {u : Value} {s' : Shared}, Inv (bodyCx P w K mg base N qual (defScope st) f cdv A outer s H E0) [] σ' H' s' → RelV v u → Q v H' → CE outer P w H s Q u s' :=
    fun J rv q => ⟨_, _, J.os, J.bare, J.base, J.hok, rv, q⟩
  refine wpAny_mono (body.run [] s1 (I0.wish _)) (fun fl s' hs => ?_) fun e s' hs => (show False from hs).elim
  cases fl with
  | next => obtain ⟨σ', H', J, q⟩ := hs; exact fin (v := V.non) (u := Value.none) J rfl q
  | ret u => obtain ⟨v, σ', H', J, rv, q⟩ := hs; exact fin J rv q
  | brk => obtain ⟨_, _, _, q⟩ := hs; exact q.elim
  | cont => obtain ⟨_, _, _, q⟩ := hs; exact q.elim
/-- the table of the def with the lambda, where it is known: empty at first -/
def TabAt (K : PySem.W.Frag) (h : Heap) : Prop := ∀ c P, PySem.W.tabIn K "sorted_fractions" = some (c, P) → (PySem.W.CodeHd h c P ∧ h.get? P = some (PySem.W.tabObj #[])) ∧ K.lookup P = none
def TabBs (K : PySem.W.Frag) (base : Heap) (mg : Str → Option Value) : Prop := ∀ c P, PySem.W.tabIn K "sorted_fractions" = some (c, P) → LamX.TabB base mg c P
end
end L3

namespace L3
open PySem PySem.Spec PyProof.Rows L2
def keyP : Key → PyData
  | .inl i => .int i
  | .inr x => .str x
mutual
/-- the data of the model -/
def D.py : D → PyData
  | .non => .none
  | .bl b => .bool b
  | .int i => .int i
  | .str x => .str x
  | .lst xs => .list (D.pyAll xs)
  | .tup xs => .tuple (D.pyAll xs)
  | .dct kvs => .dict (D.pyKV kvs)
  | .ext _ => .none
  | .obj _ _ => .none
  | .ptr _ => .none
  | .exc _ _ _ => .none
def D.pyAll : List D → List PyData
  | [] => []
  | x :: xs => D.py x :: D.pyAll xs
def D.pyKV : List (Key × D) → List (PyData × PyData)
  | [] => []
  | (k, d) :: r => (keyP k, D.py d) :: D.pyKV r
end
mutual
/-- nothing opaque -/
def D.ok : D → Bool
  | .ext _ => false
  | .obj _ _ => false
  | .ptr _ => false
  | .exc _ _ _ => false
  | .lst xs | .tup xs => D.okAll xs
  | .dct kvs => D.okKV kvs
  | _ => true
def D.okAll : List D → Bool
  | [] => true
  | x :: xs => D.ok x && D.okAll xs
def D.okKV : List (Key × D) → Bool
  | [] => true
  | (_, d) :: r => D.ok d && D.okKV r
end
mutual
def D.noLst : D → Bool
  | .lst _ => false
  | .tup xs => D.noLstAll xs
  | .dct kvs => D.noLstKV kvs
  | _ => true
def D.noLstAll : List D → Bool
  | [] => true
  | x :: xs => D.noLst x && D.noLstAll xs
def D.noLstKV : List (Key × D) → Bool
  | [] => true
  | (_, d) :: r => D.noLst d && D.noLstKV r
end
section
variable {X : Cx} {pins : List (Addr × Obj)} {σ : L2.St} {H : Hp} {s : Shared}
theorem key_reads : ∀ {k : Key} {u : Value}, keyIs k u = true → Reads s.heap u (keyP k) []
  | k, u, h => by
    rcases keyIs_shape h with ⟨i, t, rfl, rfl⟩ | ⟨x, t, rfl, rfl⟩
    · exact .int i t
    · exact .str x t
theorem pairs_keys {knd : KeyKind X.prog X.w Key} (hk : ∀ k v, knd.is k v = keyIs k v) : ∀ {es : List DictEntry} {vs : List (Key × Value)}, Pairs knd es vs → ReadsAll s.heap (es.map (·.key)) (vs.map fun p => keyP p.1) []
  | _, _, .nil => .nil
  | _, _, .cons h _ r => by
    have h1 := key_reads (s := s) (by rw [← hk]; exact h)
    have := ReadsAll.cons h1 (pairs_keys hk r)
    exact this
theorem pairs_vals {knd : KeyKind X.prog X.w Key} : ∀ {es : List DictEntry} {vs : List (Key × Value)}, Pairs knd es vs → es.map (·.val) = vs.map (·.2)
  | _, _, .nil => rfl
  | _, _, .cons _ h r => by
    rw [List.map_cons, List.map_cons, h, pairs_vals r]
mutual
theorem Rep.reads (I : Inv X pins σ H s) : ∀ (d : D) (v : V) (u : Value), Rep X.K H v d → d.ok = true → RelV v u → ∃ as, Reads s.heap u d.py as ∧ (d.noLst = true → ∀ a ∈ as, (a == sysModules) = false)
  | .non, _, _, h, _, r => by
    cases h; cases r
    exact ⟨[], by rw [D.py]; exact .none, fun _ _ m => nomatch m⟩
  | .bl b, _, _, h, _, r => by
    cases h; cases r
    exact ⟨[], by rw [D.py]; exact .bool b, fun _ _ m => nomatch m⟩
  | .int i, _, _, h, _, r => by
    cases h
    obtain ⟨t, e⟩ := r
    subst e
    exact ⟨[], by rw [D.py]; exact .int i t, fun _ _ m => nomatch m⟩
  | .str x, _, _, h, _, r => by
    cases h
    obtain ⟨t, e⟩ := r
    subst e
    exact ⟨[], by rw [D.py]; exact .str x t, fun _ _ m => nomatch m⟩
  | .lst ds, _, _, h, hok, r => by
    cases h with
    | lst hs ha =>
      cases r
      obtain ⟨its, rv, ⟨o, n, ho, hc, _, hd⟩, _⟩ := I.list hs
      obtain ⟨as, hr, _⟩ := Rep.readsAll I ds _ its ha (by simpa [D.ok] using hok) rv
      exact ⟨_, by rw [D.py]; exact .list ho hc hd hr, fun z => by simp [D.noLst] at z⟩
  | .tup ds, _, _, h, hok, r => by
    cases h with
    | tup hs ha =>
      cases r
      obtain ⟨its, rv, ⟨o, ho, hc, n, hd⟩, _⟩ := I.tuple hs
      obtain ⟨as, hr, k⟩ := Rep.readsAll I ds _ its ha (by simpa [D.ok] using hok) rv
      exact ⟨_, by rw [D.py]; exact .tuple ho hc hd hr, fun z => k (by simpa [D.noLst] using z)⟩
  | .dct ds, _, _, h, hok, r => by
    cases h with
    | dct hs ha =>
      cases r
      obtain ⟨_, hsys, vs, kv, o, es, ep, ho, ex, hd, _, pr, _⟩ := hs.ok I.hok
      obtain ⟨as, hr, k⟩ := Rep.readsKV I ds _ vs ha (by simpa [D.ok] using hok) kv
      have e1 : ReadsAll s.heap (es.toList.map (·.key)) ((D.pyKV ds).map (·.1)) [] := by
        have q := pairs_keys (X := X) (s := s) (mixKind_is X.prog X.w) pr
        rw [hr.2] at q
        exact q
      have e2 : ReadsAll s.heap (es.toList.map (·.val)) ((D.pyKV ds).map (·.2)) as := by
        rw [pairs_vals pr]
        exact hr.1
      refine ⟨_, by rw [D.py]; exact .dict ho ex.1 hd e1 e2, fun z a m => ?_⟩
      rcases List.mem_append.mp m with m | m
      · rcases List.mem_cons.mp m with m | m
        · rw [m]; exact hsys
        · exact nomatch m
      · exact k (by simpa [D.noLst] using z) a m
  | .ext _, _, _, _, hok, _ => by simp [D.ok] at hok
  | .obj _ _, _, _, _, hok, _ => by simp [D.ok] at hok
  | .ptr _, _, _, _, hok, _ => by simp [D.ok] at hok
  | .exc _ _ _, _, _, _, hok, _ => by simp [D.ok] at hok
theorem Rep.readsAll (I : Inv X pins σ H s) : ∀ (ds : List D) (vs : List V) (us : List Value), RepAll X.K H vs ds → D.okAll ds = true → Vals vs us → ∃ as, ReadsAll s.heap us (D.pyAll ds) as ∧ (D.noLstAll ds = true → ∀ a ∈ as, (a == sysModules) = false)
  | [], _, _, h, _, r => by
    cases h; cases r
    exact ⟨[], by rw [D.pyAll]; exact .nil, fun _ _ m => nomatch m⟩
  | d :: ds, _, _, h, hok, r => by
    cases h with
    | cons h1 h2 =>
      cases r with
      | cons r1 r2 =>
        obtain ⟨o1, o2⟩ := Bool.and_eq_true_iff.mp (show (d.ok && D.okAll ds) = true from hok)
        obtain ⟨as, q1, k1⟩ := Rep.reads I d _ _ h1 o1 r1
        obtain ⟨bs, q2, k2⟩ := Rep.readsAll I ds _ _ h2 o2 r2
        refine ⟨_, by rw [D.pyAll]; exact .cons q1 q2, fun z a m => ?_⟩
        obtain ⟨z1, z2⟩ := Bool.and_eq_true_iff.mp (show (d.noLst && D.noLstAll ds) = true from z)
        exact (List.mem_append.mp m).elim (k1 z1 a) (k2 z2 a)
theorem Rep.readsKV (I : Inv X pins σ H s) : ∀ (ds : List (Key × D)) (kvs : List (Key × V)) (vs : List (Key × Value)), RepKV X.K H kvs ds → D.okKV ds = true → KV kvs vs →
    ∃ as, (ReadsAll s.heap (vs.map (·.2)) ((D.pyKV ds).map (·.2)) as ∧ (vs.map fun p => keyP p.1) = (D.pyKV ds).map (·.1)) ∧ (D.noLstKV ds = true → ∀ a ∈ as, (a == sysModules) = false)
  | [], _, _, h, _, r => by
    cases h; cases r
    exact ⟨[], ⟨by rw [D.pyKV]; exact .nil, by rw [D.pyKV]; rfl⟩, fun _ _ m => nomatch m⟩
  | (k, d) :: ds, _, _, h, hok, r => by
    cases h with
    | cons h1 h2 =>
      cases r with
      | cons r1 r2 =>
        rename_i q vs
        obtain ⟨qk, qv⟩ := q
        have e1 : k = qk := r1.1
        obtain ⟨o1, o2⟩ := Bool.and_eq_true_iff.mp (show (d.ok && D.okKV ds) = true from hok)
        obtain ⟨as, q1, k1⟩ := Rep.reads I d _ _ h1 o1 r1.2
        obtain ⟨bs, ⟨q2, q3⟩, k2⟩ := Rep.readsKV I ds _ _ h2 o2 r2
        refine ⟨as ++ bs, ⟨by rw [D.pyKV]; exact .cons q1 q2, by rw [D.pyKV, List.map_cons, List.map_cons, q3, e1]⟩, fun z a m => ?_⟩
        obtain ⟨z1, z2⟩ := Bool.and_eq_true_iff.mp (show (d.noLst && D.noLstKV ds) = true from z)
        exact (List.mem_append.mp m).elim (k1 z1 a) (k2 z2 a)
end
end
/-! ### what may be shown, and how long its text is -/
mutual
def D.noDct : D → Bool
  | .dct _ => false
  | .lst xs | .tup xs => D.noDctAll xs
  | _ => true
def D.noDctAll : List D → Bool
  | [] => true
  | x :: xs => D.noDct x && D.noDctAll xs
end
mutual
theorem noDct_py : ∀ d : D, d.noDct = true → d.py.hasDict = false
  | .non, _ | .bl _, _ | .int _, _ | .str _, _ | .ext _, _ | .obj _ _, _ | .ptr _, _ | .exc _ _ _, _ => by simp [D.py, PyData.hasDict]
  | .lst ds, h | .tup ds, h => by
    simp only [D.py, PyData.hasDict]
    exact noDct_pyAll ds (by simpa [D.noDct] using h)
  | .dct _, h => by simp [D.noDct] at h
theorem noDct_pyAll : ∀ ds : List D, D.noDctAll ds = true → PyData.hasDictAll (D.pyAll ds) = false
  | [], _ => by simp [D.pyAll, PyData.hasDictAll]
  | d :: ds, h => by
    obtain ⟨h1, h2⟩ := Bool.and_eq_true_iff.mp (show (d.noDct && D.noDctAll ds) = true from h)
    rw [D.pyAll, PyData.hasDictAll, noDct_py d h1, noDct_pyAll ds h2]
    rfl
end
/-- d may be shown: its nesting at most n, its text at most c signs -/
structure Sh (n c : Nat) (d : D) : Prop where
  ok : d.ok = true
  kind : d.noDct = true ∨ d.noLst = true
  can : d.py.showable = true
  deep : d.py.depth ≤ n
  len : d.py.shown.length ≤ c
def reprD (d : D) : Str := d.py.shown
theorem Sh.mono {n c n' c' : Nat} {d : D} (h : Sh n c d) (hn : n ≤ n') (hc : c ≤ c') : Sh n' c' d := ⟨h.ok, h.kind, h.can, Nat.le_trans h.deep hn, Nat.le_trans h.len hc⟩
theorem sh_non : Sh 0 4 .non := ⟨rfl, .inl rfl, rfl, Nat.le_refl _, by show ("None" : Str).length ≤ 4; decide +kernel⟩
theorem sh_bl (b : Bool) : Sh 0 5 (.bl b) := ⟨rfl, .inl rfl, rfl, Nat.le_refl _, by cases b <;> decide +kernel⟩
theorem log2_small {n k : Nat} (hk : 0 < k) (h : n < 2 ^ k) : n.log2 < k := by
  by_cases z : n = 0
  · rw [z]; exact hk
  · exact (Nat.log2_lt z).mpr h
theorem sh_int {i : Int} {k : Nat} (h : i.natAbs < 2 ^ k) (h0 : 0 < k) (hk : k ≤ 1920) : Sh 0 (k + 1) (.int i) := by
  have hl := log2_small h0 h
  refine ⟨rfl, .inl rfl, by show decide (i.natAbs.log2 < 1920) = true; exact decide_eq_true (Nat.lt_of_lt_of_le hl hk), Nat.le_refl _, ?_⟩
  have e : (Str.ofString (toString i)).length ≤ k + 1 := by rw [PySem.ofString_length]; exact int_text_length_le h0 hl
  exact e
theorem allPy {p : PyData → Bool} {pa : List PyData → Bool} (h0 : pa [] = true) (h1 : ∀ x xs, pa (x :: xs) = (p x && pa xs)) : ∀ ds : List D, (∀ d ∈ ds, p d.py = true) → pa (D.pyAll ds) = true
  | [], _ => by rw [D.pyAll, h0]
  | d :: ds, h => by rw [D.pyAll, h1, h d List.mem_cons_self, allPy h0 h1 ds fun x m => h x (List.mem_cons_of_mem _ m)]; rfl
theorem allD {p : D → Bool} {pa : List D → Bool} (h0 : pa [] = true) (h1 : ∀ x xs, pa (x :: xs) = (p x && pa xs)) : ∀ ds : List D, (∀ d ∈ ds, p d = true) → pa ds = true
  | [], _ => h0
  | d :: ds, h => by rw [h1, h d List.mem_cons_self, allD h0 h1 ds fun x m => h x (List.mem_cons_of_mem _ m)]; rfl
theorem deepAll {n : Nat} : ∀ ds : List D, (∀ d ∈ ds, d.py.depth ≤ n) → PyData.depthAll (D.pyAll ds) ≤ n
  | [], _ => by rw [D.pyAll, PyData.depthAll]; exact Nat.zero_le _
  | d :: ds, h => by
    rw [D.pyAll, PyData.depthAll]
    exact Nat.max_le.mpr ⟨h d List.mem_cons_self, deepAll ds fun x m => h x (List.mem_cons_of_mem _ m)⟩
theorem lenAll {c : Nat} : ∀ ds : List D, (∀ d ∈ ds, d.py.shown.length ≤ c) → ((PyData.shownAll (D.pyAll ds)).map (·.length)).sum ≤ c * ds.length ∧ (PyData.shownAll (D.pyAll ds)).length = ds.length
  | [], _ => by rw [D.pyAll, PyData.shownAll]; exact ⟨Nat.zero_le _, rfl⟩
  | d :: ds, h => by
    obtain ⟨h1, h2⟩ := lenAll ds fun x m => h x (List.mem_cons_of_mem _ m)
    have h3 := h d List.mem_cons_self
    rw [D.pyAll, PyData.shownAll, List.map_cons, List.sum_cons, List.length_cons, List.length_cons, h2, Nat.mul_succ]
    exact ⟨by omega, rfl⟩
section
variable {X : Cx} {Hb Hb' : Hp} {a b c e : Expr} {es : List Expr} {Γ : Slots} {pos p' apos cpos : Pos} {d x y : D} {ds : List D} {S S' : D → Prop} {fr : Bool} {D0 : Ends} {rest sts : List Stmt} {st : Stmt}
/-- repr of data -/
theorem call_reprD (hg : X.A.guards = some []) (hu : X.A.units + 64 < cLine) : CallR X (.builtin "repr") (fun xs H Q => ∃ v d, xs = [v] ∧ Rep X.K H v d ∧ Sh 40 10000000 d ∧ Q (.str (reprD d)) H) := by
  intro pins s σ H xs us Q I r h
  obtain ⟨v, d, rfl, rp, sh, q⟩ := h
  obtain ⟨u, rfl, ru⟩ := vals1 r
  obtain ⟨as, rd, hn⟩ := Rep.reads I d v u rp sh.ok ru
  have hlen : d.py.shown.length ≤ sizeLine := Nat.le_trans sh.len (by decide)
  have hsm : d.py.hasDict = true → sysModules ∉ as := fun z m => by
    rcases sh.kind with k | k
    · rw [noDct_py d k] at z; cases z
    · have := hn k sysModules m
      simp at this
  have fin : ∀ {u2 : Tok} {tk : Tok} {h' : Heap}, (∀ b o, s.heap.get? b = some o → h'.get? b = some o) → EP X pins σ Q (.str d.py.shown u2) { s with heap := h', toks := tk } := fun {u2 tk h'} k => ⟨.str (reprD d), H, I.kept k, ⟨_, rfl⟩, q⟩
  have tok : ∀ {x : Str} {u2 : Tok} {s' : Shared}, s' = { s with toks := s'.toks } → x = d.py.shown → EP X pins σ Q (.str x u2) s' := fun {x u2 s'} e1 e2 => by
    rw [e1, e2]
    exact fin (h' := s.heap) fun _ _ z => z
  cases ru' : v with
  | ref a =>
    subst ru'
    cases (show u = Value.ref a from ru)
    refine PySem.repr_of_reads' rd sh.can hsm hg (by have := sh.deep; omega) (fun _ _ z => z) (fun h' u2 tk k => fin k) hlen
  | non =>
    subst ru'
    cases ru
    cases rp
    exact PySem.P.repr_of_none (tok rfl rfl)
  | bl k =>
    subst ru'
    cases ru
    cases rp
    exact PySem.P.repr_of_bool (tok rfl (by cases k <;> rfl))
  | int i =>
    subst ru'
    obtain ⟨t, rfl⟩ := ru
    cases rp
    exact PySem.P.repr_of_int (by have := sh.can; exact of_decide_eq_true this) (tok rfl rfl)
  | str z =>
    subst ru'
    obtain ⟨t, rfl⟩ := ru
    cases rp
    exact PySem.P.repr_of_str (tok rfl rfl) hlen
  | byt _ => subst ru'; cases rp
  | flt _ => subst ru'; cases rp
  | ty _ => subst ru'; cases rp
/-- texts compared -/
theorem opNeS : OpR X (compareOp .NotEq) (fun x y H Q => ∃ i j, x = .str i ∧ y = .str j ∧ Q (.bl (!decide (i = j))) H) := fun pins s σ H x y v u Q I r1 r2 ⟨i, j, e1, e2, q⟩ => op_ne pins s σ H x y v u Q I r1 r2 (by
  subst e1 e2
  exact ⟨rfl, by rw [show decide (V.str i = V.str j) = decide (i = j) from by simp]; exact q⟩)
theorem opEqS : OpR X (compareOp .Eq) (fun x y H Q => ∃ i j, x = .str i ∧ y = .str j ∧ Q (.bl (decide (i = j))) H) := fun pins s σ H x y v u Q I r1 r2 ⟨i, j, e1, e2, q⟩ => op_eq pins s σ H x y v u Q I r1 r2 (by
  subst e1 e2
  exact ⟨rfl, by rw [show decide (V.str i = V.str j) = decide (i = j) from by simp]; exact q⟩)
theorem op_eqR (hu : X.A.units + 64 < cLine) : OpR X (compareOp .Eq) (fun x y H Q => ∃ d e, Rep X.K H x d ∧ Rep X.K H y e ∧ d.ok = true ∧ e.ok = true ∧ SeqAt.shaped d.py = true ∧ SeqAt.shaped e.py = true ∧ Q (.bl (PyData.eqv d.py e.py)) H) := by
  intro pins s σ H x y v u Q I rx ry h
  obtain ⟨d, e, hd, he, o1, o2, sd, se, q⟩ := h
  obtain ⟨as, r1, _⟩ := Rep.reads I d x v hd o1 rx
  obtain ⟨bs, r2, _⟩ := Rep.reads I e y u he o2 ry
  exact SeqAt.compareEq_shaped r1 r2 sd se hu ⟨.bl _, H, I, rfl, q⟩
theorem op_neR (hu : X.A.units + 64 < cLine) : OpR X (compareOp .NotEq) (fun x y H Q => ∃ d e, Rep X.K H x d ∧ Rep X.K H y e ∧ d.ok = true ∧ e.ok = true ∧ SeqAt.shaped d.py = true ∧ SeqAt.shaped e.py = true ∧ Q (.bl (!PyData.eqv d.py e.py)) H) := by
  intro pins s σ H x y v u Q I rx ry h
  obtain ⟨d, e, hd, he, o1, o2, sd, se, q⟩ := h
  obtain ⟨as, r1, _⟩ := Rep.reads I d x v hd o1 rx
  obtain ⟨bs, r2, _⟩ := Rep.reads I e y u he o2 ry
  exact SeqAt.compareNe_shaped r1 r2 sd se hu ⟨.bl _, H, I, rfl, q⟩
end
end L3

namespace L3
open PySem PySem.Spec PyProof.Rows L2
/-! ### a source of draws: a list of two ints, of which only bounds are known -/
/-- the bits that an int of a script may have, and some more -/
def bigB : Nat := 1100000
/-- what the k-th int of a source may be -/
def DrawB (k : Int) (i : Int) : Prop := 0 ≤ i ∧ ((k = 0 ∧ i.natAbs < 2 ^ bigB) ∨ (k = 1 ∧ i < 2147483648))
def DrawAt (a : Addr) : Heap → Prop := fun h => ∃ (d s : Int) (t u : Tok) (n : Nat), h.get? a = some { cls := .type "list", data := .seq [Value.int d t, Value.int s u].toArray n } ∧ DrawB 0 d ∧ DrawB 1 s
abbrev dDraw : D := .ext DrawAt
section
variable {X : Cx} {pins : List (Addr × Obj)} {σ : L2.St} {H : Hp} {s : Shared} {a : Addr}
theorem draw_open (I : Inv X pins σ H s) (h : H a = some (.ext (DrawAt a))) : ∃ d z, DrawB 0 d ∧ DrawB 1 z ∧ Inv X pins σ (upd H a (.lst [.int d, .int z])) s := by
  obtain ⟨⟨d, z, t, u, n, e, b0, b1⟩, _, _⟩ := I.hok a _ h
  refine ⟨d, z, b0, b1, I.write (t' := s.toks) (h' := s.heap) (by rw [h]; trivial) (.inl rfl) (fun _ _ _ q => q) ⟨_, e⟩ ⟨by show 2 ≤ sizeLine; decide, _, n, .cons ⟨t, rfl⟩ (.cons ⟨u, rfl⟩ .nil), e⟩⟩
theorem draw_close {d z : Int} (I : Inv X pins σ H s) (h : H a = some (.lst [.int d, .int z])) (b0 : DrawB 0 d) (b1 : DrawB 1 z) : Inv X pins σ (upd H a (.ext (DrawAt a))) s := by
  obtain ⟨_, its, n, r, e⟩ := I.hok a _ h
  obtain ⟨u1, u2, rfl, ⟨t1, r1⟩, ⟨t2, r2⟩⟩ : ∃ u1 u2, its = [u1, u2] ∧ RelV (.int d) u1 ∧ RelV (.int z) u2 := by
    cases r with
    | cons p q =>
      cases q with
      | cons p' q' => cases q'; exact ⟨_, _, rfl, p, p'⟩
  subst r1 r2
  refine I.write (t' := s.toks) (h' := s.heap) (by rw [h]; trivial) (.inl rfl) (fun _ _ _ q => q) ⟨_, e⟩ ⟨⟨d, z, t1, t2, n, e, b0, b1⟩, ⟨_, e⟩, fun h1 h2 p k => ?_⟩
  obtain ⟨d', z', t', u', n', e', k0, k1⟩ := p
  exact ⟨d', z', t', u', n', k _ e', k0, k1⟩
theorem upd_back {o : HO} (h : H a = some o) {u : HO} : upd (upd H a u) a o = H := by
  funext b
  by_cases e : b = a
  · rw [e, upd_same, h]
  · rw [upd_ne e, upd_ne e]
theorem ix_draw : IxR X (fun x y H Q => ∃ a k, x = .ref a ∧ y = .int k ∧ (k = 0 ∨ k = 1) ∧ H a = some (.ext (DrawAt a)) ∧ ∀ w, DrawB k w → Q (.int w) H) := by
  intro value slice pins s σ H x y v u Q I rx ry h hsub
  obtain ⟨a, k, rfl, rfl, hk, ha, q⟩ := h
  obtain ⟨d, z, b0, b1, I2⟩ := draw_open I ha
  refine thn (ix_list value slice pins s σ _ _ _ v u (fun (v : V) (H' : Hp) => H' = upd H a (.lst [.int d, .int z]) ∧ v = if k = 0 then .int d else .int z) I2 rx ry ⟨a, [.int d, .int z], k, if k = 0 then .int d else .int z, rfl, rfl, SqL.of upd_same, ?_, rfl, rfl⟩ hsub) fun r s1 ⟨w, H', I3, rw', e1, e2⟩ => ?_
  · rcases hk with e | e <;> subst e <;> rfl
  · subst e1
    have I4 := draw_close I3 upd_same b0 b1
    rw [upd_back ha] at I4
    rcases hk with e | e
    · subst e
      exact ⟨_, H, I4, by rw [e2] at rw'; exact rw', q d b0⟩
    · subst e
      exact ⟨_, H, I4, by rw [e2] at rw'; exact rw', q z b1⟩
theorem set_draw : PSet X (fun o i v H Q => ∃ a k w, o = .ref a ∧ i = .int k ∧ (k = 0 ∨ k = 1) ∧ v = .int w ∧ DrawB k w ∧ H a = some (.ext (DrawAt a)) ∧ Q H) := by
  intro pins s σ H o i v ov iv u Q I ro ri rv h
  obtain ⟨a, k, w, rfl, rfl, hk, rfl, bw, ha, q⟩ := h
  obtain ⟨d, z, b0, b1, I2⟩ := draw_open I ha
  refine thn (set_list pins s σ _ _ _ _ ov iv u (fun H' => H' = upd (upd H a (.lst [.int d, .int z])) a (.lst ([V.int d, V.int z].set k.toNat (.int w)))) I2 ro ri rv ⟨a, [.int d, .int z], k, k.toNat, rfl, rfl, upd_same, ?_, rfl⟩) fun r s1 ⟨H', I3, e1⟩ => ?_
  · rcases hk with e | e <;> subst e <;> rfl
  · subst e1
    refine ⟨H, ?_, q⟩
    rcases hk with e | e
    · subst e
      have I4 := draw_close (d := w) (z := z) I3 upd_same bw b1
      rw [upd_upd, upd_back ha] at I4
      exact I4
    · subst e
      have I4 := draw_close (d := d) (z := w) I3 upd_same b0 bw
      rw [upd_upd, upd_back ha] at I4
      exact I4
end
section
variable {X : Cx} {Hb Hb' : Hp} {a b c e : Expr} {es : List Expr} {Γ : Slots} {pos p' apos cpos : Pos} {d x y : D} {ds : List D} {S S' : D → Prop} {fr : Bool} {D0 : Ends} {rest sts : List Stmt} {st : Stmt}
theorem evn_drawIx {k : Int} {fr' : Bool} (ha : Ev X Hb a Γ fr dDraw) (hb : Ev X Hb b Γ fr' (.int k)) (hk : k = 0 ∨ k = 1) (hs : PlainIx b := by intro _ _; rfl) : EvN X Hb (.Subscript a b pos) Γ true (fun z => ∃ w, z = .int w ∧ DrawB k w) := fun σ H en Q q =>
  SemE.of (pe_ix ix_draw (semE X a) (semE X b) hs) (ha σ H en _ fun v H1 d1 e1 x1 r1 _ => hb σ H1 (en.ex x1) _ fun w H2 d2 e2 x2 r2 _ => by
    subst e1 e2
    cases r1 with
    | ext hx =>
      cases r2
      exact ⟨_, k, rfl, rfl, hk, x2.ext hx, fun w bw => q _ H2 _ ⟨w, rfl, bw⟩ (x1.trans x2) (.int _) fun _ => trivial⟩)
/-- s[k] = e -/
theorem go_drawSet {ix : Expr} {p3 : Pos} {k : Int} {fr' fr'' : Bool} (he : EvN X Hb e Γ fr fun z => ∃ w, z = .int w ∧ DrawB k w) (ha : Ev X Hb a Γ fr' dDraw) (hb : Ev X Hb ix Γ fr'' (.int k)) (hk : k = 0 ∨ k = 1) (g : Go X Hb rest D0 Γ)
    (hs : swapsWithSole [.Subscript a ix p3] e pos.line X.env = pure false := by rfl) (hw : swappedStores [.Subscript a ix p3] e X.env = pure none := by rfl) (h1 : (assignEach [.Subscript a ix p3] X.env).map (·.2) = [assign (.Subscript a ix p3) X.env] := by rfl)
    (hsub : ∀ v, assign (.Subscript a ix p3) X.env v = (do
      let ov ← holding [v] (eval a X.env)
      let iv ← holding [v, ov] (eval ix X.env)
      standAt p3
      holding [v, ov, iv] (setItem ov iv v)
      release [v, ov, iv] []) := by intro _; rfl) : Go X Hb (.Assign [.Subscript a ix p3] e pos :: rest) D0 Γ := fun σ H en =>
  SemSs.cons (ps_asg (semE X e) (pg_sub (semE X a) (semE X ix) set_draw hsub) hs hw h1) (he σ H en _ fun v H1 d1 ⟨w, e1, bw⟩ x1 r1 _ => ha σ H1 (en.ex x1) _ fun o H2 d2 e2 x2 r2 _ => hb σ H2 (en.ex (x1.trans x2)) _ fun i H3 d3 e3 x3 r3 _ => by
    subst e1 e2 e3
    cases r1
    cases r3
    cases r2 with
    | ext hx => exact ⟨_, k, w, rfl, rfl, hk, rfl, bw, x3.ext hx, g σ H3 (en.ex ((x1.trans x2).trans x3))⟩)
/-- return [d, s]: a new source -/
theorem go_retDraw {p3 : Pos} {S1 : Int → Prop} {S2 : Int → Prop} (h : EvA X Hb [a, b] Γ fun z => ∃ i j, z = [.int i, .int j] ∧ DrawB 0 i ∧ DrawB 1 j) (hd : ∀ v H', Rt X.K Hb dDraw v H' → D0.rt v H') : Go X Hb (.Return (some (.List [a, b] p3)) pos :: rest) D0 Γ := fun σ H en => by
  refine SemSs.cons (ps_ret (semE X _)) ⟨fun pins s I => ?_⟩
  have k := h σ H en (fun vs H1 => vs.length ≤ sizeLine ∧ ∀ p, H1 p = none → (fun (v : V) (H2 : Hp) => ∃ (p : Addr) (i j : Int) (H1 : Hp), v = V.ref p ∧ H1 p = none ∧ Ex H H1 ∧ H2 = upd H1 p (.lst [.int i, .int j]) ∧ DrawB 0 i ∧ DrawB 1 j) (V.ref p) (upd H1 p (.lst vs))) fun vs H1 ds ⟨i, j, e1, b0, b1⟩ x r => by
    subst e1
    rw [r.int2]
    exact ⟨by show 2 ≤ sizeLine; decide, fun p hp => ⟨p, i, j, H1, rfl, hp, x, rfl, b0, b1⟩⟩
  have k2 := (pe_lst (pos := p3) (semA X [a, b])).run pins s σ H (fun (v : V) (H2 : Hp) => ∃ (p : Addr) (i j : Int) (H1 : Hp), v = V.ref p ∧ H1 p = none ∧ Ex H H1 ∧ H2 = upd H1 p (.lst [.int i, .int j]) ∧ DrawB 0 i ∧ DrawB 1 j) I k
  refine thn k2 fun u s1 hh => ?_
  obtain ⟨v, H2, I2, rv, p, i, j, H1, ev, hp, x, e2, b0, b1⟩ := hh
  subst e2 ev
  have I3 := draw_close I2 upd_same b0 b1
  rw [upd_upd] at I3
  exact ⟨_, _, I3, rv, hd _ _ ⟨en.base.trans (x.trans (Ex.new hp)), .ext upd_same, trivial⟩⟩
end
theorem intBits_natAbs {i : Int} {k : Nat} (h : Builtin.Int.intBits i ≤ k) : i.natAbs < 2 ^ k := by
  unfold Builtin.Int.intBits at h
  split at h
  · rename_i z
    have : i = 0 := by simpa using z
    rw [this]
    exact Nat.two_pow_pos k
  · exact Nat.lt_of_lt_of_le Nat.lt_log2_self (Nat.pow_le_pow_right (by decide) h)
end L3

namespace L3
open PySem PySem.Spec PyProof.Rows L2
/-! ### comprehensions -/
def wipeG (Γ : Slots) : List Nat → Slots
  | [] => Γ
  | v :: vs => (wipeG Γ vs).set v .any
theorem wipe_env {K : PySem.W.Frag} {Hb H : Hp} {Γ : Slots} {σ : L2.St} (h : EnvOk K Hb Γ σ H) : ∀ vs : List Nat, EnvOk K Hb (wipeG Γ vs) (wipe σ vs) H
  | [] => h
  | v :: vs => (wipe_env h vs).setAny
/-- where a comprehension's inside stands -/
abbrev inCx (X : Cx) (scope : Scope) (s : Shared) (H : Hp) (C : Addr) (cl : List (Str × Addr)) (fp : List Addr) : Cx := X.blk s H scope (compEnvC scope cl C X.env) fp
def AllIn (X : Cx) (scope : Scope) (f : Cx → Prop) : Prop := ∀ (s : Shared) (H : Hp) (C : Addr) (cl : List (Str × Addr)) (fp : List Addr), f (inCx X scope s H C cl fp)
def tIn (X : Cx) (scope : Scope) (e : Expr) : TE := fun σ H Q => AllIn X scope fun Y => SemE Y e σ H Q
theorem Rep.hide1 {K : PySem.W.Frag} {H : Hp} {p : Addr} {vs : List V} {v : V} {d : D} (hp : H p = some (.lst vs)) (r : Rep K H v d) (f : d.flat = true) : Rep K (L3.hide H [p]) v d :=
  r.hide (fun q hq => by rw [List.mem_singleton.mp hq]; exact ⟨.lst vs, hp, (trivial : Mu (.lst vs))⟩) f
theorem hide1_upd {H : Hp} {p : Addr} {o : HO} : hide (upd H p o) [p] = hide H [p] := by
  funext a
  by_cases e : a = p
  · rw [hide_in (by rw [e]; simp), hide_in (by rw [e]; simp)]
  · rw [hide_out (by simpa using e), hide_out (by simpa using e), upd_ne e]
theorem hide1_ex {H H' : Hp} {p : Addr} {xs : List V} (e : Ex H H') (h : H' p = some (.lst xs)) : Ex (hide H [p]) (hide H' [p]) := e.hides fun q m => ⟨.lst xs, by rw [List.mem_singleton.mp m]; exact h, (trivial : Mu (.lst xs))⟩
theorem Paired.snoc {α β : Type} {F : α → β → Prop} {a : α} {b : β} (h : F a b) : ∀ {l₁ : List α} {l₂ : List β}, Paired F l₁ l₂ → Paired F (l₁ ++ [a]) (l₂ ++ [b])
  | _, _, .nil => .cons h .nil
  | _, _, .cons q r => .cons q (Paired.snoc h r)
/-- a comprehension: what its list may be -/
def LcEv (X : Cx) (Hb : Hp) (elt tg iter : Expr) (ifs : List Expr) (scope : Scope) (own : List (Str × Nat)) (Γ : Slots) (S : D → Prop) : Prop :=
  X.calm = true ∧ X.N.Nodup ∧ BlkOk X.N X.env.scope scope own ∧ (∀ x, foldedSetIterable iter X.env x = pure x) ∧ ∃ (wi : TI) (g : TG) (tt : TT) (te : TE), PI X tg iter wi ∧ (AllIn X scope fun Y => PG Y tg g) ∧ (AllIn X scope fun Y => PTs Y ifs tt) ∧ (AllIn X scope fun Y => PE Y elt te) ∧
    ∀ σ H, EnvOk X.K Hb Γ σ H → ∀ Q : VK, (∀ v H' d, S d → Ex H H' → Rep X.K H' v d → FreshD X.K H H' v d → Q v H') → tLc wi g tt te (own.map (·.2)) σ H Q
/-- the new list of a comprehension: what has been made so far -/
def SoFar (K : PySem.W.Frag) (H1 : Hp) (L : Addr) (R : List D → Prop) (H : Hp) : Prop := Ex H1 H ∧ ∃ acc ys, H L = some (.lst acc) ∧ RepAll K (hide H [L]) acc ys ∧ R ys
theorem soFar_start {K : PySem.W.Frag} {H1 : Hp} {L : Addr} {R : List D → Prop} (hL : H1 L = none) (h : R []) : SoFar K H1 L R (upd H1 L (.lst [])) := ⟨Ex.new hL, [], [], upd_same, .nil, h⟩
theorem soFar_more {K : PySem.W.Frag} {H1 H H' : Hp} {L : Addr} {R R' : List D → Prop} {v : V} {d : D} (hL : H1 L = none) (h : SoFar K H1 L R H) (x : Ex H H') (r : Rep K H' v d) (f : d.flat = true) (hl : ∀ ys, R ys → ys.length < 100000) (hR : ∀ ys, R ys → R' (ys ++ [d])) :
    ∃ acc, H' L = some (.lst acc) ∧ acc.length < sizeLine ∧ SoFar K H1 L R' (upd H' L (.lst (acc ++ [v]))) := by
  obtain ⟨e, acc, ys, h1, h2, h3⟩ := h
  have h4 := x.lst h1
  refine ⟨acc, h4, by rw [h2.length]; exact Nat.lt_of_lt_of_le (hl ys h3) (by decide), Ex.mut (e.trans x) hL (by rw [h4]; trivial), acc ++ [v], ys ++ [d], upd_same, ?_, hR ys h3⟩
  rw [hide1_upd]
  exact (h2.ex (hide1_ex x h4)).append (.cons (r.hide1 h4 f) .nil)
section
variable {X : Cx} {Hb Hb' : Hp} {a b c e elt iter : Expr} {es ifs : List Expr} {Γ : Slots} {pos p' apos cpos : Pos} {d x y : D} {ds : List D} {S S' : D → Prop} {fr : Bool} {scope : Scope} {own : List (Str × Nat)}
theorem soFar_done {K : PySem.W.Frag} {H H1 H2 : Hp} {L : Addr} {R : List D → Prop} (hL : H1 L = none) (x : Ex H H1) (h : SoFar K H1 L R H2) : ∃ ys, R ys ∧ Ex H H2 ∧ Rep K H2 (.ref L) (.lst ys) ∧ FreshD K H H2 (.ref L) (.lst ys) := by
  obtain ⟨e, acc, ys, h1, h2, h3⟩ := h
  have r := h2.ex hide_ex
  exact ⟨ys, h3, x.trans e, .lst (SqL.of h1) r, L, acc, rfl, x.free hL, h1, r⟩
theorem yes_of {σ : L2.St} {H : Hp} {Q : Bool → Hp → Prop} (h : Q true H) : tYes σ H Q := h
theorem LcEv.ev {tg : Expr} (h : LcEv X Hb elt tg iter ifs scope own Γ S) : EvN X Hb (.ListComp elt [⟨tg, iter, ifs, 0⟩] scope pos) Γ true S := fun σ H en Q q => by
  obtain ⟨hc, nd, ok, hs, wi, g, tt, te, h1, h2, h3, h4, h5⟩ := h
  exact SemE.of (pe_lc hc nd h1 ok h2 h3 h4 hs) (h5 σ H en Q fun v H' d s x r f => q v H' d s x r fun _ => f)
theorem LcEv.imp {tg : Expr} (h : LcEv X Hb elt tg iter ifs scope own Γ S) (f : ∀ d, S d → S' d) : LcEv X Hb elt tg iter ifs scope own Γ S' := by
  obtain ⟨hc, nd, ok, hs, wi, g, tt, te, h1, h2, h3, h4, h5⟩ := h
  exact ⟨hc, nd, ok, hs, wi, g, tt, te, h1, h2, h3, h4, fun σ H en Q q => h5 σ H en Q fun v H' d s x r fd => q v H' d (f d s) x r fd⟩
theorem paired_det {α : Type} {g : α → D} : ∀ {l : List α} {ys : List D}, Paired (fun a d => d = g a) l ys → ys = l.map g
  | _, _, .nil => rfl
  | _, _, .cons h r => by rw [h, paired_det r]; rfl
end
end L3

namespace L3
open PySem PySem.Spec PyProof.Rows L2
section
variable {X : Cx} {Hb Hb' : Hp} {a b c e : Expr} {es : List Expr} {Γ : Slots} {pos p' apos cpos : Pos} {d x y : D} {ds : List D} {S S' : D → Prop} {fr fr' : Bool} {D0 : Ends} {rest sts : List Stmt} {st : Stmt}
/-- an int of which S holds -/
abbrev EvI1 (X : Cx) (Hb : Hp) (e : Expr) (Γ : Slots) (fr : Bool) (S : Int → Prop) : Prop := EvN X Hb e Γ fr fun z => ∃ i, z = .int i ∧ S i
theorem EvN.int1 {i : Int} (h : Ev X Hb e Γ fr (.int i)) : EvI1 X Hb e Γ fr (· = i) := h.imp fun _ z => ⟨i, z, rfl⟩
section
variable {S1 S2 S3 : Int → Prop}
theorem evi_add (ha : EvI1 X Hb a Γ fr S1) (hb : EvI1 X Hb b Γ fr' S2) (h : ∀ i j, S1 i → S2 j → S3 (i + j)) : EvI1 X Hb (.BinOp a .Add b pos) Γ true S3 :=
  evn_op (h := fun i j => .int (i + j)) (opI0' op_add) (fun _ _ _ => .int _) (fun _ _ => rfl) ha hb fun i j s1 s2 => ⟨trivial, _, rfl, h i j s1 s2⟩
theorem evi_mul (ha : EvI1 X Hb a Γ fr S1) (hb : EvI1 X Hb b Γ fr' S2) (h : ∀ i j, S1 i → S2 j → IntMulOk i j ∧ S3 (i * j)) : EvI1 X Hb (.BinOp a .Mult b pos) Γ true S3 :=
  evn_op (h := fun i j => .int (i * j)) (C := IntMulOk) (g := fun i j => .int (i * j)) (opI fun _ _ _ _ _ _ _ hc q => mul_int q hc) (fun _ _ _ => .int _) (fun _ _ => rfl) ha hb fun i j s1 s2 => ⟨(h i j s1 s2).1, _, rfl, (h i j s1 s2).2⟩
theorem evi_fdiv (ha : EvI1 X Hb a Γ fr S1) (hb : EvI1 X Hb b Γ fr' S2) (h : ∀ i j, S1 i → S2 j → CDivX i j ∧ S3 (i.fdiv j)) : EvI1 X Hb (.BinOp a .FloorDiv b pos) Γ true S3 :=
  evn_op (h := fun i j => .int (i.fdiv j)) op_fdivX (fun _ _ _ => .int _) (fun _ _ => rfl) ha hb fun i j s1 s2 => ⟨(h i j s1 s2).1, _, rfl, (h i j s1 s2).2⟩
theorem evi_mod (ha : EvI1 X Hb a Γ fr S1) (hb : EvI1 X Hb b Γ fr' S2) (h : ∀ i j, S1 i → S2 j → j ≠ 0 ∧ S3 (i.fmod j)) : EvI1 X Hb (.BinOp a .Mod b pos) Γ true S3 :=
  evn_op (h := fun i j => .int (i.fmod j)) op_modN (fun _ _ _ => .int _) (fun _ _ => rfl) ha hb fun i j s1 s2 => ⟨(h i j s1 s2).1, _, rfl, (h i j s1 s2).2⟩
theorem evi_pow (ha : EvI1 X Hb a Γ fr S1) (hb : EvI1 X Hb b Γ fr' S2) (h : ∀ i j, S1 i → S2 j → (0 ≤ j ∧ (Builtin.Int.intBits i : Int) * j ≤ 2 ^ 27) ∧ S3 (i ^ j.toNat)) : EvI1 X Hb (.BinOp a .Pow b pos) Γ true S3 :=
  evn_op (h := fun i j => .int (i ^ j.toNat)) op_powX (fun _ _ _ => .int _) (fun _ _ => rfl) ha hb fun i j s1 s2 => ⟨(h i j s1 s2).1, _, rfl, (h i j s1 s2).2⟩
theorem evi_toInt {pn : Pos} (hm : X.mg "int" = none) (h : EvI1 X Hb a Γ fr S1) (hg : Gl X "int" := by rfl) (he : starEach (a :: []) X.env = (false, eval a X.env) :: starEach [] X.env := by rfl) (hpl : (backTo pos (starEach [] X.env)).any (·.1) = false := by rfl) :
    EvI1 X Hb (.Call (.Name "int" pn) [a] [] pos) Γ true S1 :=
  evn_Ty call_int1 hm (eva_consN (S := fun z => ∃ i, z = [.int i] ∧ S1 i) h eva_nil (fun d ds ⟨i, e1, s⟩ e => ⟨i, by rw [e, e1], s⟩) he) (fun vs H ds' Q ⟨i, e1, s⟩ r k => by
    subst e1
    exact .inl ⟨i, r.int1, k _ _ _ ⟨i, rfl, s⟩ Ex.refl (.int _) (FreshD.flat rfl)⟩) (by decide +kernel) hg (by decide) (by decide) he hpl
/-- a comparison of ints of which bounds are known: both ways -/
theorem evt_cmpN {op : CmpOp} {g : Int → Int → Bool} {SB : Bool → Prop} (ho : OpR X (compareOp op) (rI0 fun i j => .bl (g i j))) (hm : behindInMarks op b = false) (ha : EvI1 X Hb a Γ fr S1) (hb : EvI1 X Hb b Γ fr' S2) (h : ∀ i j, S1 i → S2 j → SB (g i j)) :
    EvT X Hb (.Compare a [op] [b] pos) Γ SB := fun σ H en Q q =>
  SemT.of (pt_cmpR ho (semE X a) (semE X b) hm) (ha σ H en _ fun v H1 d1 ⟨i, e1, s1⟩ x1 r1 _ => hb σ H1 (en.ex x1) _ fun w H2 d2 ⟨j, e2, s2⟩ x2 r2 _ => by
    subst e1 e2
    cases r1
    cases r2
    exact ⟨i, j, rfl, rfl, _, rfl, q _ H2 (h i j s1 s2) (x1.trans x2)⟩)
end
/-- the size of an int's square and more -/
theorem natAbs_add_lt {x y : Int} {n : Nat} (hx : x.natAbs < 2 ^ n) (hy : y.natAbs < 2 ^ n) : (x + y).natAbs < 2 ^ (n + 1) := by
  have := Int.natAbs_add_le x y
  rw [Nat.pow_succ]
  omega
theorem mulOk_bits {i j : Int} {a b : Nat} (hi : i.natAbs < 2 ^ a) (hj : j.natAbs < 2 ^ b) (h : a + b ≤ 134217728) : IntMulOk i j :=
  mulOk_of_bits (intBits_le hi) (intBits_le hj) h
theorem natAbs_mul_lt {x y : Int} {n m : Nat} (hx : x.natAbs < 2 ^ n) (hy : y.natAbs < 2 ^ m) : (x * y).natAbs < 2 ^ (n + m) := wide_lt hx hy
theorem natAbs_mono {x : Int} {n m : Nat} (h : n ≤ m) (hx : x.natAbs < 2 ^ n) : x.natAbs < 2 ^ m := Nat.lt_of_lt_of_le hx (Nat.pow_le_pow_right (by decide) h)
/-- a divisor of at most 9000 bits -/
theorem divX {i j : Int} {n : Nat} (h0 : j ≠ 0) (h : j.natAbs < 2 ^ n) (hn : n ≤ 9000) (h1 : 0 < n) : CDivX i j := ⟨h0, PyProof.noPylong_of_log2 (Nat.lt_of_lt_of_le (log2_small h1 h) hn)⟩
theorem fdiv_natAbs {i j : Int} (hi : 0 ≤ i) (hj : 0 < j) : 0 ≤ i.fdiv j ∧ (i.fdiv j).natAbs ≤ i.natAbs := by
  rw [Int.fdiv_eq_ediv_of_nonneg i (Int.le_of_lt hj)]
  have h0 := Int.ediv_nonneg hi (Int.le_of_lt hj)
  have h1 := Int.ediv_le_self j hi
  exact ⟨h0, by omega⟩
theorem fmod_range {i j : Int} (hj : 0 < j) : 0 ≤ i.fmod j ∧ i.fmod j < j := by
  rw [Int.fmod_eq_emod_of_nonneg i (Int.le_of_lt hj)]
  exact ⟨Int.emod_nonneg i (by omega), Int.emod_lt_of_pos i hj⟩
end
end L3

namespace L3
open PySem PySem.Spec PyProof.Rows L2
/-- a script's ints -/
def ScriptB (ns : List Int) : Prop := ∀ n ∈ ns, n.natAbs < 2 ^ (bigB - 1)
/-- a law's promise: True comes out -/
def spLaw (K : PySem.W.Frag) : Sp := fun vs H Q _ => TbOk K H ∧ ∃ (a : Addr) (ns : List Int), vs = [.ref a] ∧ SqL K H a (ns.map V.int) ∧ ns.length ≤ 63 ∧ ScriptB ns ∧ ∀ H', Q (.bl true) H'
/-- where the law ends well -/
abbrev lawEnds : Ends := { nx := fun _ _ => False, rt := fun v _ => v = .bl true }
section
variable {P : Program} {w : World} {K : PySem.W.Frag} {mg : Str → Option Value} {base : Heap}
theorem fnG_law {st : Stmt} {f : Addr} {fd : FuncData} {N : List Str} {x : Str} {k : Nat} (F : Fun K "law" "law" st f fd) (Sc : FnScope N [x] (defScope st))
    (hbody : ∀ cdv A outer s H, (A.deeper (envOfC "law" (defScope st) s.heap.objs.size f cdv)).guards = some [] → Room k (A.deeper (envOfC "law" (defScope st) s.heap.objs.size f cdv)) → ∀ ns : List Int, ns.length ≤ 63 → ScriptB ns →
      Go (bodyCx P w K mg base N "law" (defScope st) f cdv A outer s H E0) H (defBody st) lawEnds (slots0 N [.lst (ns.map .int)])) : FnG P w K mg base (k + 1) f fd [x] (spLaw K) := by
  refine fnG_of F Sc (fun vs H Q E h => ?_) (fun cdv A outer s H vs Q hg hr h => ?_)
  · obtain ⟨_, a, ns, e, _⟩ := h
    rw [e]; rfl
  · obtain ⟨tb, a, ns, e, hq, hl, hb, hk⟩ := h
    subst e
    have go := hbody cdv A outer s H hg hr ns hl hb _ _ (env_start (N := N) (.cons (.lst hq (repAll_ints ns)) .nil) tb)
    exact go.mono (fun _ _ h => h.elim) (fun v H' q => by rw [show v = .bl true from q]; exact hk H') (fun _ _ h => h) fun _ _ h => h
/-- the def with the lambda, by the parts of K; or there is none -/
theorem tabAt_none {K : PySem.W.Frag} {h : Heap} (hn : PySem.W.nsIn K mainGlobals "sorted_fractions" = some none ∨ PySem.W.nsIn K mainGlobals "sorted_fractions" = none) : TabAt K h := fun c P hc => by
  unfold PySem.W.tabIn at hc
  rcases hn with e | e <;> rw [e] at hc <;> cases hc
end
end L3

namespace L3
open PySem PySem.Spec PyProof.Rows L2
section
variable {X : Cx} {Hb Hb' : Hp} {a b c e : Expr} {es : List Expr} {Γ : Slots} {pos p' apos cpos : Pos} {d x y : D} {ds : List D} {S S' : D → Prop} {fr fr' : Bool} {D0 : Ends} {rest sts : List Stmt} {st : Stmt}
def isNon : D → Bool
  | .non => true
  | _ => false
theorem Rep.isNon {K : PySem.W.Frag} {H : Hp} {v : V} (r : Rep K H v d) : decide (v = .non) = L3.isNon d := by
  cases r <;> rfl
/-- a <= b <= c, ints -/
theorem evt_chain {op op' : CmpOp} {g g' : Int → Int → Bool} {i j k : Int} {fr'' : Bool} (ho : OpR X (compareOp op) (rI0 fun i j => .bl (g i j))) (ho' : OpR X (compareOp op') (rI0 fun i j => .bl (g' i j))) (ha : Ev X Hb a Γ fr (.int i)) (hb : Ev X Hb b Γ fr' (.int j)) (hc : Ev X Hb c Γ fr'' (.int k))
    (hm : lastMarks [op, op'] [b, c] = false := by with_unfolding_all rfl) : EvB X Hb (.Compare a [op, op'] [b, c] pos) Γ (g i j && g' j k) := fun σ H en Q q =>
  SemT.of (pt_chain ho ho' (semE X a) (semE X b) (semE X c) hm) (ha σ H en _ fun v H1 e1 z1 x1 r1 _ => hb σ H1 (en.ex x1) _ fun w H2 e2 z2 x2 r2 _ => by
    subst z1 z2
    cases r1
    cases r2
    refine ⟨i, j, rfl, rfl, g i j, rfl, ?_⟩
    cases hg : g i j with
    | true =>
      refine iteT ?_
      refine hc σ H2 (en.ex (x1.trans x2)) _ fun u H3 e3 z3 x3 r3 _ => ?_
      subst z3
      cases r3
      exact ⟨j, k, rfl, rfl, _, rfl, q _ H3 (by rw [hg]; rfl) ((x1.trans x2).trans x3)⟩
    | false =>
      refine iteF ?_
      exact ⟨_, rfl, q _ H2 (by rw [hg]; rfl) (x1.trans x2)⟩)
/-! isinstance of a built-in class -/
/-- the type's name of data -/
def tyD : D → String
  | .non => "NoneType"
  | .bl _ => "bool"
  | .int _ => "int"
  | .str _ => "str"
  | .lst _ => "list"
  | .tup _ => "tuple"
  | .dct _ => "dict"
  | .ext _ => ""
  | .obj _ _ => ""
  | .ptr _ => ""
  | .exc _ _ _ => ""
theorem Rep.ty {K : PySem.W.Frag} {H : Hp} {v : V} (r : Rep K H v d) (ho : d.ok = true) : TyX K H v (.type (tyD d)) := by
  cases r with
  | non => exact .base .non
  | bl b => exact .base (.bl b)
  | int i => exact .base (.int i)
  | str x => exact .base (.str x)
  | lst hq _ =>
    rcases hq with (h | ⟨o, h⟩) | ⟨o, its, n, h, hc, _⟩
    · exact .base (.lst h)
    · exact .base (.frz h)
    · exact .kList h hc
  | tup hq _ =>
    rcases hq with (h | ⟨o, h⟩) | ⟨o, its, n, h, hc, _⟩
    · exact .base (.tup h)
    · exact .fTuple h
    · exact .kTuple h hc
  | dct hq _ =>
    rcases hq with h | ⟨o, h⟩
    · exact .base (.dK h)
    · exact .fDict h
  | ext _ => simp [D.ok] at ho
  | ptr _ => simp [D.ok] at ho
  | exc _ _ _ => simp [D.ok] at ho
  | obj _ _ => simp [D.ok] at ho
theorem evn_isI {S1 : D → Prop} {SB : Bool → Prop} {T x : Str} {Ts : String} {pn p2 : Pos} (hm : X.mg "isinstance" = none) (hm2 : X.mg x = none) (ha : EvN X Hb a Γ fr S1) (h : ∀ d, S1 d → d.ok = true ∧ ∃ k, kitB (tyD d) Ts = some k ∧ SB k) (hv : bootBuiltins x = some (.type Ts) := by decide +kernel)
    (hg : Gl X "isinstance" := by rfl) (hg2 : Gl X x := by rfl) (hn : x ≠ "__name__" := by decide) (hd : (x == ("__debug__" : Str)) = false := by decide) (he : starEach (a :: [.Name x p2]) X.env = (false, eval a X.env) :: starEach [.Name x p2] X.env := by rfl) (he2 : starEach ([.Name x p2]) X.env = (false, eval (.Name x p2) X.env) :: starEach [] X.env := by rfl) (hpl : (backTo pos (starEach [.Name x p2] X.env)).any (·.1) = false := by rfl) :
    EvN X Hb (.Call (.Name "isinstance" pn) [a, .Name x p2] [] pos) Γ true (fun z => ∃ k, z = .bl k ∧ SB k) := fun σ H en Q q =>
  SemE.of (pe_callB call_isi hg hm (by decide +kernel) (pa_cons (semE X a) (pa_cons (pe_bltn (v := .ty Ts) hg2 hm2 hv rfl hn hd) pa_nil he2) he) (by decide) (by decide) he hpl) (ha σ H en _ fun v H1 d1 s x1 r1 _ => by
    obtain ⟨ho, k, hk, sb⟩ := h d1 s
    exact ⟨v, .ty Ts, .type (tyD d1), .type Ts, k, rfl, .ty Ts, r1.ty ho, kit_ty hk, q _ H1 _ ⟨k, rfl, sb⟩ x1 (.bl k) fun _ => trivial⟩)
theorem kit_tt : kitB "tuple" "tuple" = some true := by decide +kernel
theorem kit_nt : kitB "NoneType" "tuple" = some false := by decide +kernel
theorem kit_lt : kitB "list" "tuple" = some false := by decide +kernel
theorem kit_it : kitB "int" "tuple" = some false := by decide +kernel
theorem kit_bt : kitB "bool" "tuple" = some false := by decide +kernel
theorem kit_ii : kitB "int" "int" = some true := by decide +kernel
theorem kit_bi : kitB "bool" "int" = some true := by decide +kernel
theorem kit_ni : kitB "NoneType" "int" = some false := by decide +kernel
theorem kit_li : kitB "list" "int" = some false := by decide +kernel
theorem kit_ti : kitB "tuple" "int" = some false := by decide +kernel
theorem kit_ib : kitB "int" "bool" = some false := by decide +kernel
theorem kit_bb : kitB "bool" "bool" = some true := by decide +kernel
theorem kit_nb : kitB "NoneType" "bool" = some false := by decide +kernel
theorem kit_lb : kitB "list" "bool" = some false := by decide +kernel
theorem kit_tb : kitB "tuple" "bool" = some false := by decide +kernel
end
end L3

namespace L3
open PySem PySem.Spec PyProof.Rows L2
/-- some slots alone are still told -/
def keepG : List Bool → Slots → Slots
  | _, [] => []
  | [], _ :: r => .any :: keepG [] r
  | true :: ks, e :: r => e :: keepG ks r
  | false :: ks, _ :: r => .any :: keepG ks r
theorem keep_paired {K : PySem.W.Frag} {Hz H : Hp} : ∀ {ks : List Bool} {Γ : Slots} {σ : L2.St}, Paired (EntOk K Hz H) Γ σ → Paired (EntOk K Hz H) (keepG ks Γ) σ
  | _, _, _, .nil => by cases ‹List Bool› <;> exact .nil
  | [], _, _, .cons _ r => .cons trivial (keep_paired r)
  | true :: _, _, _, .cons h r => .cons h (keep_paired r)
  | false :: _, _, _, .cons _ r => .cons trivial (keep_paired r)
theorem keep_owns : ∀ {ks : List Bool} {Γ : Slots}, (owns (keepG ks Γ)).Sublist (owns Γ)
  | ks, [] => by cases ks <;> exact List.Sublist.refl _
  | [], e :: r => by
    rw [owns_cons]
    exact List.sublist_append_of_sublist_right (keep_owns (ks := []) (Γ := r))
  | true :: ks, e :: r => by
    show (owns (e :: keepG ks r)).Sublist _
    rw [owns_cons, owns_cons]
    exact List.Sublist.append (List.Sublist.refl _) keep_owns
  | false :: ks, e :: r => by
    rw [owns_cons]
    exact List.sublist_append_of_sublist_right (keep_owns (ks := ks) (Γ := r))
theorem EnvOk.keep {K : PySem.W.Frag} {Hb H : Hp} {Γ : Slots} {σ : L2.St} (ks : List Bool) (h : EnvOk K Hb Γ σ H) : EnvOk K Hb (keepG ks Γ) σ H := by
  obtain ⟨Hz, h1, h2, h3, h4⟩ := h
  exact ⟨Hz, h1, h2, keep_paired h3, List.Nodup.sublist keep_owns h4⟩
section
variable {X : Cx} {Hb Hb' : Hp} {a b c e : Expr} {es : List Expr} {Γ : Slots} {pos p' apos cpos : Pos} {d x y : D} {ds : List D} {S S' : D → Prop} {fr fr' : Bool} {D0 : Ends} {rest sts : List Stmt} {st : Stmt}
end
end L3

namespace L3
open PySem PySem.Spec PyProof.Rows L2
theorem EvR.imp {X : Cx} {Hb : Hp} {e : Expr} {Γ : Slots} {SR SR' : Int → Nat → Prop} (h : EvR X Hb e Γ SR) (hs : ∀ lo n, SR lo n → SR' lo n) : EvR X Hb e Γ SR' :=
  let ⟨wi, h1, h2⟩ := h
  ⟨wi, h1, fun σ H en R q => h2 σ H en R fun lo n H' s x => q lo n H' (hs lo n s) x⟩
section
variable {X : Cx} {Hb Hb' : Hp} {a b c e : Expr} {es : List Expr} {Γ : Slots} {pos p' apos cpos : Pos} {d x y : D} {ds : List D} {S S' : D → Prop} {fr fr' : Bool} {D0 : Ends} {rest sts : List Stmt} {st : Stmt}
end
end L3

namespace L3
open PySem PySem.Spec PyProof.Rows L2
section
variable {X : Cx} {Hb Hb' : Hp} {a b c e : Expr} {es : List Expr} {Γ : Slots} {pos p' apos cpos : Pos} {d x y : D} {ds : List D} {S S' : D → Prop} {fr fr' : Bool} {D0 : Ends} {rest sts : List Stmt} {st : Stmt}
end
end L3

namespace L3
open PySem PySem.Spec PyProof.Rows L2
/-! ### targets: a name, a tuple of targets -/
inductive Tg where
  | nm (i : Nat)
  | tp (ts : List Tg)
mutual
def Tg.g (K : PySem.W.Frag) : Tg → TG
  | .nm i => gName i
  | .tp ts => gTup K ts.length (Tg.gs K ts)
def Tg.gs (K : PySem.W.Frag) : List Tg → TGs
  | [] => gNil
  | t :: ts => gCons (Tg.g K t) (Tg.gs K ts)
end
mutual
def Tg.slots : Tg → List Nat
  | .nm i => [i]
  | .tp ts => Tg.slotsAll ts
def Tg.slotsAll : List Tg → List Nat
  | [] => []
  | t :: ts => Tg.slots t ++ Tg.slotsAll ts
end
mutual
def Put : Tg → D → Slots → Slots → Prop
  | .nm i, d, Γ, Γ' => Sto Γ d ∧ Γ' = Γ.set i (.dat d)
  | .tp ts, d, Γ, Γ' => ∃ ds, d = .tup ds ∧ Puts ts ds Γ Γ'
def Puts : List Tg → List D → Slots → Slots → Prop
  | [], ds, Γ, Γ' => ds = [] ∧ Γ' = Γ
  | t :: ts, ds, Γ, Γ' => ∃ d dr Γ1, ds = d :: dr ∧ Put t d Γ Γ1 ∧ Puts ts dr Γ1 Γ'
end
theorem Puts.length : ∀ {ts : List Tg} {ds : List D} {Γ Γ' : Slots}, Puts ts ds Γ Γ' → ds.length = ts.length
  | [], _, _, _, h => by rw [h.1]; rfl
  | t :: ts, ds, Γ, Γ', h => by
    obtain ⟨d, dr, Γ1, e, _, h2⟩ := h
    rw [e, List.length_cons, List.length_cons, Puts.length h2]
theorem set_wipe {i : Nat} {v : Option V} : ∀ {own : List Nat} {σ : L2.St}, i ∈ own → wipe (σ.set i v) own = wipe σ own
  | j :: own, σ, h => by
    unfold wipe
    by_cases e : i ∈ own
    · rw [set_wipe e]
    · have hij : i = j := by rcases List.mem_cons.mp h with h | h; exact h; exact absurd h e
      subst hij
      have key : ∀ (own : List Nat) (σ : L2.St), i ∉ own → wipe (σ.set i v) own = (wipe σ own).set i v := by
        intro own
        induction own with
        | nil => intro σ _; rfl
        | cons k own ih =>
          intro σ hk
          unfold wipe
          rw [ih σ fun z => hk (List.mem_cons_of_mem _ z), List.set_comm _ _ fun z => hk (by rw [z]; exact List.mem_cons_self)]
      rw [key own σ e, List.set_set]
theorem wipe_wipe : ∀ (own : List Nat) (σ : L2.St), wipe (wipe σ own) own = wipe σ own := by
  have key : ∀ (vs own : List Nat) (σ : L2.St), (∀ i ∈ vs, i ∈ own) → wipe (wipe σ vs) own = wipe σ own := by
    intro vs
    induction vs with
    | nil => intro own σ _; rfl
    | cons v vs ih =>
      intro own σ h
      show wipe ((wipe σ vs).set v none) own = _
      rw [set_wipe (h v List.mem_cons_self), ih own σ fun i m => h i (List.mem_cons_of_mem _ m)]
  exact fun own σ => key own own σ fun _ h => h
mutual
theorem put_ok {K : PySem.W.Frag} {Hb H : Hp} {own : List Nat} : ∀ {t : Tg} {d : D} {Γ Γ' : Slots} {σ : L2.St} {v : V}, Put t d Γ Γ' → (∀ i ∈ t.slots, i ∈ own) → EnvOk K Hb Γ σ H → Rep K H v d → ∀ Q : L2.St → Hp → Prop, (∀ σ', EnvOk K Hb Γ' σ' H → wipe σ' own = wipe σ own → Q σ' H) → t.g K v σ H Q
  | .nm i, d, Γ, Γ', σ, v, ⟨h1, h2⟩, ho, en, r, Q, q => by
    subst h2
    exact q _ (en.setDat r h1) (set_wipe (ho i List.mem_cons_self))
  | .tp ts, d, Γ, Γ', σ, v, ⟨ds, e, h⟩, ho, en, r, Q, q => by
    subst e
    cases r with
    | tup hq ra => exact ⟨_, _, rfl, hq, by rw [ra.length]; exact Puts.length h, puts_ok h ho en ra Q q⟩
theorem puts_ok {K : PySem.W.Frag} {Hb H : Hp} {own : List Nat} : ∀ {ts : List Tg} {ds : List D} {Γ Γ' : Slots} {σ : L2.St} {vs : List V}, Puts ts ds Γ Γ' → (∀ i ∈ Tg.slotsAll ts, i ∈ own) → EnvOk K Hb Γ σ H → RepAll K H vs ds → ∀ Q : L2.St → Hp → Prop, (∀ σ', EnvOk K Hb Γ' σ' H → wipe σ' own = wipe σ own → Q σ' H) → Tg.gs K ts vs σ H Q
  | [], ds, Γ, Γ', σ, vs, ⟨e1, e2⟩, _, en, r, Q, q => by
    subst e1 e2
    cases r
    exact ⟨rfl, q σ en rfl⟩
  | t :: ts, ds, Γ, Γ', σ, vs, ⟨d, dr, Γ1, e, h1, h2⟩, ho, en, r, Q, q => by
    subst e
    cases r with
    | cons r1 r2 => exact ⟨_, _, rfl, put_ok h1 (fun i m => ho i (List.mem_append_left _ m)) en r1 _ fun σ' en' w' => puts_ok h2 (fun i m => ho i (List.mem_append_right _ m)) en' r2 Q fun σ'' en'' w'' => q σ'' en'' (w''.trans w')⟩
end
/-- two names -/
theorem pg_two {X : Cx} {i j k : Nat} {x y : Str} {p1 p2 p3 : Pos} (hc : X.calm = true) (h1 : PG X (.Name x p1) (gName i)) (h2 : PG X (.Name y p2) (gName j)) : PG X (.Tuple [.Name x p1, .Name y p2] k p3) (Tg.g X.K (.tp [.nm i, .nm j])) :=
  pg_tup hc (pgs_cons h1 (pgs_cons h2 pgs_nil))
/-! ### what a loop goes over, of any kind -/
def Jt (K : PySem.W.Frag) (Hz : Hp) (J : It) (ds : List D) : Prop :=
  ∃ (G : Hp → Prop) (Y : Nat → Hp → V → Hp → Prop), Walk J ds.length G Y ∧ (∀ H2, Ex Hz H2 → G H2) ∧ ∀ i H2 v H3, i < ds.length → Ex Hz H2 → Y i H2 v H3 → Ex H2 H3 ∧ ∃ d, ds[i]? = some d ∧ Rep K H3 v d
def EvJ (X : Cx) (Hb : Hp) (tg e : Expr) (Γ : Slots) (S : List D → Prop) : Prop :=
  ∃ wi : TI, PI X tg e wi ∧ ∀ σ H, EnvOk X.K Hb Γ σ H → ∀ R : It → Hp → Prop, (∀ J H' ds, S ds → Ex H H' → Jt X.K (hide H' (owns Γ)) J ds → R J H') → wi σ H R
section
variable {X : Cx} {Hb Hb' : Hp} {a b c e tg : Expr} {es : List Expr} {Γ : Slots} {pos p' apos cpos : Pos} {d x y : D} {ds : List D} {S S' : D → Prop} {fr fr' : Bool} {D0 : Ends} {rest sts : List Stmt} {st : Stmt}
theorem EvJ.imp {S1 S2 : List D → Prop} (h : EvJ X Hb tg e Γ S1) (f : ∀ ds, S1 ds → S2 ds) : EvJ X Hb tg e Γ S2 := let ⟨wi, h1, h2⟩ := h; ⟨wi, h1, fun σ H en R q => h2 σ H en R fun J H' ds s x j => q J H' ds (f ds s) x j⟩
theorem jt_list {K : PySem.W.Frag} {Hz : Hp} {p : Addr} {vs : List V} (hq : SqL K Hz p vs) (ra : RepAll K Hz vs ds) : Jt K Hz (Itl K p) ds := by
  refine ⟨_, _, ra.length ▸ walk_list (xs := vs), fun H2 e => SqL.ex e hq, fun i H2 v H3 hi e y => ?_⟩
  obtain ⟨rfl, hv⟩ := y
  obtain ⟨d, hd, r⟩ := ra.get' hv
  exact ⟨Ex.refl, d, hd, r.ex e⟩
theorem jt_range {K : PySem.W.Frag} {Hz : Hp} (lo : Int) (n : Nat) : Jt K Hz (Itr lo n) ((List.range n).map fun (i : Nat) => D.int (lo + i)) := by
  refine ⟨fun _ => True, YFn fun i => .int (lo + i), ?_, fun _ _ => trivial, fun i H2 v H3 hi e y => ?_⟩
  · rw [List.length_map, List.length_range]; exact walk_range
  · obtain ⟨rfl, rfl⟩ := y
    rw [List.length_map, List.length_range] at hi
    exact ⟨Ex.refl, _, by rw [List.getElem?_map, List.getElem?_range hi]; rfl, .int _⟩
theorem jt_enum {K : PySem.W.Frag} {Hz : Hp} {p : Addr} {vs : List V} (hq : SqL K Hz p vs) (ra : RepAll K Hz vs ds) : Jt K Hz (Ite K p) (ds.mapIdx fun i d => D.tup [.int (i : Nat), d]) := by
  refine ⟨_, _, by rw [List.length_mapIdx]; exact ra.length ▸ walk_enum (xs := vs), fun H2 e => SqL.ex e hq, fun i H2 v H3 hi e y => ?_⟩
  obtain ⟨T, x, y, rfl, hT, rfl, hx, hy⟩ := y
  cases hx
  obtain ⟨d, hd, r⟩ := ra.get' hy
  refine ⟨Ex.new hT, .tup [.int (i : Nat), d], by rw [List.getElem?_mapIdx, hd]; rfl, .tup (SqT.of upd_same) (.cons (.int _) (.cons ((r.ex e).ex (Ex.new hT)) .nil))⟩
theorem evj_i {S1 : List D → Prop} (h : EvI X Hb e Γ S1) : EvJ X Hb tg e Γ S1 := ⟨_, pi_list (semE X e), fun σ H en R q => h σ H en _ fun a vs H' ds s x hq ra => ⟨a, rfl, ⟨_, SqL.ex hide_ex hq⟩, q _ H' ds s x (jt_list hq ra)⟩⟩
theorem evj_r {lo : Int} {n : Nat} (h : EvR X Hb e Γ fun lo' n' => lo' = lo ∧ n' = n) : EvJ X Hb tg e Γ (· = (List.range n).map fun (i : Nat) => D.int (lo + i)) :=
  let ⟨wi, h1, h2⟩ := h
  ⟨wi, h1 _, fun σ H en R q => h2 σ H en R fun lo' n' H' ⟨e1, e2⟩ x => by subst e1 e2; exact q _ H' _ rfl x (jt_range _ _)⟩
theorem evj_enum {S1 : List D → Prop} {pn : Pos} {elts : List Expr} {kk : Nat} {tpos : Pos} (hm : X.mg "enumerate" = none) (h : EvI X Hb e Γ S1) (hg : Gl X "enumerate" := by rfl) (hs : starEach [e] X.env = [(false, eval e X.env)] := by rfl) :
    EvJ X Hb (.Tuple elts kk tpos) (.Call (.Name "enumerate" pn) [e] [] pos) Γ (fun z => ∃ ds, z = ds.mapIdx (fun i d => D.tup [.int (i : Nat), d]) ∧ S1 ds) :=
  ⟨_, pi_enum hg hm (pa_cons (semE X e) pa_nil hs) hs, fun σ H en R q => h σ H en _ fun a vs H' ds s x hq ra => ⟨a, vs, rfl, SqL.ex hide_ex hq, q _ H' _ ⟨ds, rfl, s⟩ x (jt_enum hq ra)⟩⟩
/-! ### loops over them -/
theorem go_forJ {body : List Stmt} (t : Tg) {S1 : List D → Prop} (I : List D → Nat → Slots → Prop) (hit : EvJ X Hb tg e Γ S1) (h0 : ∀ ds, S1 ds → I ds 0 Γ)
    (hs : ∀ Hb', Ex Hb Hb' → ∀ ds i x Γ', S1 ds → ds[i]? = some x → I ds i Γ' → ∃ Γ2, Put t x Γ' Γ2 ∧ Go X Hb' body { D0 with nx := Btw X Hb' (I ds (i + 1)), ct := Btw X Hb' (I ds (i + 1)), bk := fun σ H => SemSs X rest D0 σ H } Γ2)
    (hd : ∀ ds Γ', S1 ds → I ds ds.length Γ' → Go X Hb rest D0 Γ') (hp : PassesOwn (model X.prog X.w) X.A X.env X.xe) (hc : X.calm = true) (hg : PG X tg (t.g X.K))
    (hfs : ∀ x, foldedSetIterable e X.env x = pure x := by intro _; rfl) :
    Go X Hb (.For tg e body [] pos :: rest) D0 Γ := fun σ H en => by
  obtain ⟨wi, hpi, hw⟩ := hit
  refine SemSs.cons (ps_for hp hc hpi hg (semSs X body) hfs) ?_
  refine hw σ H en _ fun J H' ds s x ⟨G, Y, w, hG, hY⟩ => ?_
  have en' := en.ex x
  have eb : Ex Hb (hide H' (owns Γ)) := en'.wide.1.toEx
  refine for_it w (fun i σ H => Btw X (hide H' (owns Γ)) (I ds i) σ H) ⟨Γ, h0 ds s, ⟨_, en'.wide.1.self, en'.wide.2⟩⟩ (fun i σ H _ ⟨Γ', _, en2⟩ => hG _ en2.base) ?_ ?_
  · rintro i v σ2 H2 H3 hi ⟨Γ', hI, en2⟩ y
    obtain ⟨x3, d, hd, r⟩ := hY i H2 v H3 hi en2.base y
    obtain ⟨Γ2, hput, go⟩ := hs _ eb ds i d Γ' s hd hI
    exact put_ok (own := t.slots) hput (fun _ m => m) (en2.ex x3) r _ fun σ' en' _ => go σ' H3 en'
  · rintro σ2 H2 ⟨Γ', hI, en2⟩
    exact hd ds Γ' s hI _ H2 (en2.wb en'.wide.1)
end
/-! ### comprehensions over them -/
section
variable {X : Cx} {Hb Hb' : Hp} {a b c e elt iter tg : Expr} {es ifs : List Expr} {Γ : Slots} {pos p' apos cpos : Pos} {d x y : D} {ds : List D} {S S' : D → Prop} {fr : Bool} {scope : Scope} {own : List (Str × Nat)}
/-- [elt for t in xs] -/
theorem lcJ {α : Type} (t : Tg) (f : α → D) (SE : α → D → Prop) (xs : List α) (Γe : α → Slots) (hit : EvJ X Hb tg iter Γ (· = xs.map f)) (hput : ∀ a ∈ xs, Put t (f a) (wipeG Γ (own.map (·.2))) (Γe a))
    (he : ∀ a ∈ xs, AllIn X scope fun Y => EvN Y Hb elt (Γe a) fr (SE a)) (hfl : ∀ a d, SE a d → d.flat = true) (hlen : xs.length < 100000)
    (hc : X.calm = true) (nd : X.N.Nodup) (ok : BlkOk X.N X.env.scope scope own) (hown : ∀ i ∈ t.slots, i ∈ own.map (·.2))
    (hg : AllIn X scope fun Y => PG Y tg (t.g X.K)) (hs : ∀ x, foldedSetIterable iter X.env x = pure x := by intro _; rfl) :
    LcEv X Hb elt tg iter [] scope own Γ (fun z => ∃ ys, z = .lst ys ∧ Paired SE xs ys) := by
  obtain ⟨wi, hpi, hw⟩ := hit
  refine ⟨hc, nd, ok, hs, _, _, _, tIn X scope elt, hpi, hg, (fun s H C cl fp => pts_nil), fun s H C cl fp => ⟨fun pins s' σ H' Q I h => (h s H C cl fp).run pins s' I⟩, fun σ H en Q q => ?_⟩
  refine hw σ H en _ fun J H1 ds e1 x ⟨G, Y, w, hG, hY⟩ => ?_
  subst e1
  have en1 := en.ex x
  rw [List.length_map] at w hY
  refine fun L hL => lc_it w (fun i H => SoFar X.K H1 L (fun ys => Paired SE (xs.take i) ys) H) (soFar_start hL .nil) (fun i H2 _ h => hG _ (hide_ex.trans h.1)) ?_ ?_
  · intro i v H2 H3 hi sf y
    obtain ⟨x3, dx, hd, rv⟩ := hY i H2 v H3 hi (hide_ex.trans sf.1) y
    rw [List.getElem?_map] at hd
    obtain ⟨ax, hax, rfl⟩ : ∃ ax, xs[i]? = some ax ∧ dx = f ax := by
      cases z : xs[i]? with
      | none => rw [z] at hd; cases hd
      | some ax => rw [z] at hd; cases hd; exact ⟨ax, rfl, rfl⟩
    have hm := List.mem_of_getElem? hax
    have et : xs.take (i + 1) = xs.take i ++ [ax] := by rw [List.take_add_one, hax]; rfl
    have sf3 : SoFar X.K H1 L (fun ys => Paired SE (xs.take i) ys) H3 := by
      obtain ⟨e, acc, ys, h1, h2, h3⟩ := sf
      exact ⟨e.trans x3, acc, ys, x3.lst h1, h2.ex (hide1_ex x3 (x3.lst h1)), h3⟩
    refine put_ok (own := own.map (·.2)) (hput ax hm) hown (wipe_env (en1.ex sf3.1) _) rv _ fun σ' en2 hwp => ?_
    refine ⟨hwp.trans (wipe_wipe _ _) ▸ by rw [hwp, wipe_wipe], ?_⟩
    refine yes_of (L2.iteT ?_)
    intro s0 H0 C cl fp
    refine he ax hm s0 H0 C cl fp _ H3 en2 _ fun w H4 dw sw x4 rw4 _ => ?_
    refine soFar_more hL sf3 x4 rw4 (hfl ax dw sw) (fun ys h => ?_) fun ys h => ?_
    · rw [← Paired.length h, List.length_take]
      omega
    · rw [et]
      exact Paired.snoc sw h
  · intro H2 sf
    rw [List.take_length] at sf
    obtain ⟨ys, h1, h2, h3, h4⟩ := soFar_done hL x sf
    exact q _ _ _ ⟨ys, rfl, h1⟩ h2 h3 h4
end
end L3

namespace L3
open PySem PySem.Spec PyProof.Rows L2
/-- list + list, of any lists that are read -/
def rCatP (K : PySem.W.Frag) : R2 := fun x y H Q => ∃ l b xs zs, x = .ref l ∧ y = .ref b ∧ SqL K H l xs ∧ SqL K H b zs ∧ xs.length + zs.length ≤ sizeLine ∧ ∀ p, H p = none → Q (.ref p) (upd H p (.lst (xs ++ zs)))
theorem op_catP {X : Cx} : OpR X (binaryOp .Add) (rCatP X.K) := by
  intro pins s σ H x y v u Q I rx ry h
  obtain ⟨l, b, xs, zs, rfl, rfl, hl, hb, hz, q⟩ := h
  cases rx
  cases ry
  obtain ⟨its, r, ⟨⟨cls, dd, data, sl⟩, n, ho, hc, hd, he⟩, _⟩ := I.list hl
  obtain ⟨its2, r2, ⟨⟨cls2, dd2, data2, sl2⟩, n2, ho2, hc2, hd2, he2⟩, _⟩ := I.list hb
  simp only at hc hd he hc2 hd2 he2
  subst hc he hc2 he2
  have ea : its.toArray ++ its2.toArray = (its ++ its2).toArray := by simp
  refine concat_meets ⟨_, ho, rfl⟩ ⟨_, ho2, rfl⟩ noFill_list_add seq_list_add PySem.F.slot_list_add PySem.F.entry_list_add (PySem.F.args_list_add_2 _ _) (list_addW l b its.toArray its2.toArray n n2 dd dd2 sl sl2 (by rw [List.size_toArray, List.size_toArray, ← r.length, ← r2.length]; exact hz)) ⟨ho, ho2, ?_⟩
  rw [ea]
  exact ⟨.ref _, _, I.lnew (t' := s.toks) (r.append r2) (by rw [List.length_append]; omega), rfl, q _ I.fresh⟩
section
variable {X : Cx} {Hb Hb' : Hp} {a b c e : Expr} {es : List Expr} {Γ : Slots} {pos p' apos cpos : Pos} {d x y : D} {ds : List D} {S S' : D → Prop} {fr fr' : Bool} {D0 : Ends} {rest sts : List Stmt} {st : Stmt}
/-- {} -/
theorem ev_dct0 : Ev X Hb (.Dict [] [] pos) Γ true (.dct []) := fun σ H en Q q =>
  SemE.of pe_dnewK fun p hp => q _ _ _ rfl (Ex.new hp) (.dct (.inl upd_same) .nil) fun _ => ⟨p, [], rfl, hp, upd_same, .nil⟩
/-- a list of one's own that is changed no more -/
theorem EnvOk.freeze {K : PySem.W.Frag} {σ : L2.St} {H : Hp} {i : Nat} {p : Addr} (h : EnvOk K Hb Γ σ H) (e : Γ[i]? = some (.own p ds)) : EnvOk K Hb (Γ.set i (.dat (.lst ds))) σ H := by
  obtain ⟨h1, h2, h3, h4⟩ := h.wide
  obtain ⟨o, q, rfl, n, vs, q2, r2⟩ := Paired.getE h3 e
  have hno : p ∉ owns (Γ.set i .any) := by
    have key : ∀ {Γ : Slots} {i : Nat}, Γ[i]? = some (.own p ds) → (owns Γ).Nodup → p ∉ owns (Γ.set i .any) := by
      intro Γ
      induction Γ with
      | nil => intro i e; simp at e
      | cons x r ih =>
        intro i e nd
        cases i with
        | zero =>
          simp at e
          subst e
          exact (List.nodup_cons.mp nd).1
        | succ i =>
          have e' : r[i]? = some (.own p ds) := by simpa using e
          cases x with
          | any => exact ih e' nd
          | dat d => exact ih e' nd
          | own q' fs =>
            have nd' := List.nodup_cons.mp nd
            intro m
            rcases List.mem_cons.mp m with z | z
            · exact nd'.1 (z ▸ owns_of e')
            · exact ih e' nd'.2 z
          | ownD q' fs =>
            have nd' := List.nodup_cons.mp nd
            intro m
            rcases List.mem_cons.mp m with z | z
            · exact nd'.1 (z ▸ owns_of e')
            · exact ih e' nd'.2 z
          | ins C' q' dx' fs =>
            have nd' := List.nodup_cons.mp nd
            have nd2 := List.nodup_cons.mp nd'.2
            intro m
            rcases List.mem_cons.mp m with z | z
            · exact nd'.1 (z ▸ List.mem_cons_of_mem _ (owns_of e'))
            rcases List.mem_cons.mp z with z | z
            · exact nd2.1 (z ▸ owns_of e')
            · exact ih e' nd2.2 z
          | res qs v φ =>
            have nd' := nodup_app.mp (show (qs ++ owns r).Nodup from nd)
            intro m
            rcases List.mem_append.mp m with z | z
            · exact nd'.2.2 p z (owns_of e')
            · exact ih e' nd'.2.1 z
    exact key e h4
  have en1 : EnvOk K Hb (Γ.set i .any) σ H := h.forget
  obtain ⟨g1, g2, g3, g4⟩ := en1.wide
  have ez : Ex (hide H (owns Γ)) (hide H (owns (Γ.set i .any))) := Ex.of fun a u ea => by
    have hm : a ∉ owns (Γ.set i .any) := fun z => by
      have := (owns_set_cells (Γ := Γ) (i := i) (e := .any) rfl).subset z
      rw [hide_in this] at ea; cases ea
    rw [hide_out hm]
    by_cases m : a ∈ owns Γ
    · rw [hide_in m] at ea; cases ea
    · rw [hide_out m] at ea; exact ea
  have hp' : (hide H (owns (Γ.set i .any))) p = some (.lst vs) := by rw [hide_out hno]; exact q2
  have hs : (Γ.set i .any).set i (.dat (.lst ds)) = Γ.set i (.dat (.lst ds)) := List.set_set ..
  have hσ : σ.set i (some (.ref p)) = σ := by
    obtain ⟨hi, he⟩ := List.getElem?_eq_some_iff.mp q
    rw [← he]
    exact List.set_getElem_self hi
  have := Paired.setE (show EntOk K (hide H (owns (Γ.set i .any))) H (.dat (.lst ds)) (some (.ref p)) from ⟨_, rfl, .lst (SqL.of hp') (r2.ex ez)⟩) i g3
  rw [hs, hσ] at this
  refine ⟨_, g1, g2, this, ?_⟩
  rw [← hs]
  exact List.Nodup.sublist (owns_set_cells rfl) g4
theorem go_freeze (i : Nat) {p : Addr} (g : Go X Hb rest D0 (Γ.set i (.dat (.lst ds)))) (hG : Γ[i]? = some (.own p ds) := by rfl) : Go X Hb rest D0 Γ := go_weak (fun _ _ h => h.freeze hG) g
end
/-! ### defs whose answer need not be new -/
def spL (K : PySem.W.Frag) (P : Pr) : Sp := fun vs H Q _ => TbOk K H ∧ ∃ ds S, RepAll K H vs ds ∧ P ds S ∧ ∀ v H' d, S d → Ex H H' → Rep K H' v d → Q v H'
structure FnL (P : Program) (w : World) (K : PySem.W.Frag) (mg : Str → Option Value) (base : Heap) (x : Str) (k : Nat) (Q : Pr) : Prop where
  ex : ∃ (f : Addr) (fd : FuncData) (ps : List Str), FnOk P w K mg base CX0 k f fd ps (spL K Q) ∧ mg x = some (.ref f) ∧ PySem.W.keepIn K (.ref f) = true ∧ Binds K fd ps [] ∧ ∃ (oc : Value) (od : Option Addr) (osl : Array (Option Value)), K.lookup f = some ⟨oc, od, .func fd, osl⟩
section
variable {X : Cx} {Hb Hb' : Hp} {a b c e : Expr} {es : List Expr} {Γ : Slots} {pos p' apos cpos : Pos} {d x y : D} {ds : List D} {S S' : D → Prop} {fr fr' : Bool}
theorem evn_callL {x : Str} {pn : Pos} {k k' : Nat} {P : Pr} {SA : List D → Prop} (F : FnL X.prog X.w X.K X.mg X.base x k P) (hr : Room k' X.A) (hA : EvA X Hb (e :: es) Γ SA) (hP : ∀ ds, SA ds → ∃ S0, P ds S0 ∧ ∀ d, S0 d → S d)
    (hk : k ≤ k' := by decide) (hg : Gl X x := by rfl) (hdb : (x == ("__debug__" : Str)) = false := by decide) (he : starEach (e :: es) X.env = (false, eval e X.env) :: starEach es X.env := by rfl) (hpl : (backTo pos (starEach es X.env)).any (·.1) = false := by rfl) :
    EvN X Hb (.Call (.Name x pn) (e :: es) [] pos) Γ false S := fun σ H en Q q => by
  obtain ⟨f, fd, ps, G, hm, hkp, hb, _⟩ := F.ex
  refine SemE.of (pe_call G (hr.mono hk) hg hm hkp hb .nil pass0 (semA X (e :: es)) hdb he hpl) (hA σ H en _ fun vs H1 ds s x1 r => ?_)
  obtain ⟨S0, hS0, hS⟩ := hP ds s
  show spL _ _ (vs ++ []) H1 Q E0
  rw [List.append_nil]
  exact ⟨en.tb.ex (en.base.trans x1), ds, S0, r, hS0, fun v H' d s0 x2 r2 => q v H' d (hS d s0) (x1.trans x2) r2 fun z => nomatch z⟩
end
section
variable {P : Program} {w : World} {K : PySem.W.Frag} {mg : Str → Option Value} {base : Heap}
end
end L3

namespace L3
open PySem PySem.Spec PyProof.Rows L2
section
variable {X : Cx} {Hb Hb' : Hp} {a b c e elt iter tg : Expr} {es ifs : List Expr} {Γ : Slots} {pos p' apos cpos : Pos} {d x y : D} {ds : List D} {S S' : D → Prop} {fr fr' : Bool} {D0 : Ends} {rest sts : List Stmt} {st : Stmt} {scope : Scope} {own : List (Str × Nat)}
theorem eva_one {S1 : D → Prop} {S : List D → Prop} (h : EvN X Hb a Γ fr S1) (hS : ∀ d, S1 d → S [d]) (he : starEach (a :: []) X.env = (false, eval a X.env) :: starEach [] X.env := by rfl) : EvA X Hb [a] Γ S :=
  eva_consN (S := S) h eva_nil (fun d ds s1 e => by rw [e]; exact hS d s1) he
theorem EnvOk.len {K : PySem.W.Frag} {σ : L2.St} {H : Hp} (h : EnvOk K Hb Γ σ H) : Γ.length = σ.length := let ⟨_, _, _, h3, _⟩ := h; Paired.length h3
end
end L3

namespace L3
open PySem PySem.Spec PyProof.Rows L2
theorem alln {P : D → Prop} : ∀ x ∈ ([] : List D), P x := fun _ m => nomatch m
theorem allc {P : D → Prop} {a : D} {l : List D} (h : P a) (r : ∀ x ∈ l, P x) : ∀ x ∈ a :: l, P x := fun x m => by
  rcases List.mem_cons.mp m with e | e
  · rw [e]; exact h
  · exact r x e
section
variable {X : Cx} {Hb Hb' : Hp} {a b c e elt iter tg : Expr} {es ifs : List Expr} {Γ : Slots} {pos p' apos cpos : Pos} {d x y : D} {ds : List D} {S S' : D → Prop} {fr fr' : Bool} {D0 : Ends} {rest sts : List Stmt} {st : Stmt} {scope : Scope} {own : List (Str × Nat)}
theorem EvW.imp {S S' : Bool → Prop} (h : EvW X Hb e Γ S) (f : ∀ k, S k → S' k) : EvW X Hb e Γ S' := fun σ H en Q q => h σ H en Q fun b H' s x => q b H' (f b s) x
end
end L3

namespace L3
open PySem PySem.Spec PyProof.Rows L2
/-! ### compared with the empty list, the empty tuple -/
def rEq0 (K : PySem.W.Frag) (f : Bool → Bool) : R2 := fun x y H Q => ∃ a b xs, x = .ref a ∧ y = .ref b ∧ ((SqL K H a xs ∧ SqL K H b []) ∨ (SqT K H a xs ∧ SqT K H b [])) ∧ Q (.bl (f xs.isEmpty)) H
theorem PlainL.isList {h : Heap} {a : Addr} {its : Array Value} (p : PlainL h a its) : h.IsList a its := by
  obtain ⟨o, n, ho, hc, _, hd⟩ := p
  exact ⟨o, ho, hc, n, hd⟩
section
variable {X : Cx}
theorem op_eq0 (hu : X.A.units + 64 < cLine) : OpR X (compareOp .Eq) (rEq0 X.K id) := by
  intro pins s σ H x y v u Q I rx ry h
  obtain ⟨a, b, xs, rfl, rfl, h, q⟩ := h
  cases rx
  cases ry
  rcases h with ⟨ha, hb⟩ | ⟨ha, hb⟩
  · obtain ⟨its, r, p, _⟩ := I.list ha
    obtain ⟨its2, r2, p2, _⟩ := I.list hb
    cases r2
    cases xs with
    | nil =>
      cases r
      exact PySem.SeqAt.eq_listAt (e := fun _ => true) p.isList p2.isList rfl (by omega) (fun j h1 => absurd h1 (Nat.not_lt_zero _)) ⟨.bl true, H, I, rfl, q⟩
    | cons z zs =>
      cases r with
      | cons r1 r2 => exact PySem.SeqAt.eq_list_lengthsAt p.isList p2.isList (by simp) (by omega) ⟨.bl false, H, I, rfl, q⟩
  · obtain ⟨its, r, p, _⟩ := I.tuple ha
    obtain ⟨its2, r2, p2, _⟩ := I.tuple hb
    cases r2
    refine PySem.SeqAt.eq_tupleAt (e := fun _ => true) p p2 (by omega) (fun j _ h1 => absurd h1 (Nat.not_lt_zero _)) ⟨.bl xs.isEmpty, H, I, ?_, q⟩
    cases r with
    | nil => rfl
    | cons r1 r2 => show Value.bool _ = Value.bool false; simp
theorem op_ne0 (hu : X.A.units + 64 < cLine) : OpR X (compareOp .NotEq) (rEq0 X.K (!·)) := by
  intro pins s σ H x y v u Q I rx ry h
  obtain ⟨a, b, xs, rfl, rfl, h, q⟩ := h
  cases rx
  cases ry
  rcases h with ⟨ha, hb⟩ | ⟨ha, hb⟩
  · obtain ⟨its, r, p, _⟩ := I.list ha
    obtain ⟨its2, r2, p2, _⟩ := I.list hb
    cases r2
    cases xs with
    | nil =>
      cases r
      exact PySem.SeqAt.RcNeAt.lists (e := fun _ => true) p.isList p2.isList rfl (by omega) (fun j h1 => absurd h1 (Nat.not_lt_zero _)) _ _ _ _ ⟨.bl false, H, I, rfl, q⟩
    | cons z zs =>
      cases r with
      | cons r1 r2 => exact PySem.SeqAt.RcNeAt.lists_lengths p.isList p2.isList (by simp) (by omega) _ _ _ _ ⟨.bl true, H, I, rfl, q⟩
  · obtain ⟨its, r, p, _⟩ := I.tuple ha
    obtain ⟨its2, r2, p2, _⟩ := I.tuple hb
    cases r2
    refine PySem.SeqAt.RcNeAt.tuples (e := fun _ => true) p p2 (by omega) (fun j _ h1 => absurd h1 (Nat.not_lt_zero _)) _ _ _ _ ⟨.bl (!xs.isEmpty), H, I, ?_, q⟩
    cases r with
    | nil => rfl
    | cons r1 r2 => show Value.bool _ = Value.bool true; simp
end
section
variable {X : Cx} {Hb Hb' : Hp} {a b c e : Expr} {es : List Expr} {Γ : Slots} {pos p' apos cpos : Pos} {d x y : D} {ds : List D} {S S' : D → Prop} {fr fr' : Bool}
theorem sq_of {K : PySem.W.Frag} {H H' : Hp} {v w : V} {d e : D} (hd : (d = .lst ds ∧ e = .lst []) ∨ (d = .tup ds ∧ e = .tup [])) (x : Ex H H') (r : Rep K H v d) (r2 : Rep K H' w e) : ∃ a b xs, v = .ref a ∧ w = .ref b ∧ ((SqL K H' a xs ∧ SqL K H' b []) ∨ (SqT K H' a xs ∧ SqT K H' b [])) ∧ xs.isEmpty = ds.isEmpty := by
  rcases hd with ⟨rfl, rfl⟩ | ⟨rfl, rfl⟩
  · cases r with
    | lst h ra =>
      cases r2 with
      | lst h2 ra2 =>
        cases ra2
        exact ⟨_, _, _, rfl, rfl, .inl ⟨SqL.ex x h, h2⟩, by cases ra <;> rfl⟩
  · cases r with
    | tup h ra =>
      cases r2 with
      | tup h2 ra2 =>
        cases ra2
        exact ⟨_, _, _, rfl, rfl, .inr ⟨SqT.ex x h, h2⟩, by cases ra <;> rfl⟩
end
end L3

namespace L3
open PySem PySem.Spec PyProof.Rows L2
/-- a name of the top that holds d for good -/
def Gv (K : PySem.W.Frag) (mg : Str → Option Value) (x : Str) (d : D) : Prop := ∃ (u : Value) (v : V), mg x = some u ∧ RelV v u ∧ ∀ H, Rep K H v d
theorem ev_gv {X : Cx} {Hb : Hp} {Γ : Slots} {x : Str} {pos : Pos} {d : D} (h : Gv X.K X.mg x d) (hg : Gl X x := by rfl) (hd : (x == ("__debug__" : Str)) = false := by decide) : Ev X Hb (.Name x pos) Γ false d := fun σ H en Q q => by
  obtain ⟨u, v, hm, r, rep⟩ := h
  exact SemE.of (pe_glob hg hm r hd) (q v H d rfl Ex.refl (rep H) fun z => nomatch z)
section
variable {X : Cx} {Hb Hb' : Hp} {a b c e : Expr} {es : List Expr} {Γ : Slots} {pos p' apos cpos : Pos} {d x y : D} {ds : List D} {S S' : D → Prop} {fr fr' : Bool}
theorem ev_chain {op op' : CmpOp} {g g' : Int → Int → Bool} {i j k : Int} {fr'' : Bool} (ho : OpR X (compareOp op) (rI0 fun i j => .bl (g i j))) (ho' : OpR X (compareOp op') (rI0 fun i j => .bl (g' i j))) (ha : Ev X Hb a Γ fr (.int i)) (hb : Ev X Hb b Γ fr' (.int j)) (hc : Ev X Hb c Γ fr'' (.int k))
    (hm : lastMarks [op, op'] [b, c] = false := by with_unfolding_all rfl) : Ev X Hb (.Compare a [op, op'] [b, c] pos) Γ true (.bl (g i j && g' j k)) := fun σ H en Q q =>
  SemE.of (pe_chain ho ho' (semE X a) (semE X b) (semE X c) hm) (ha σ H en _ fun v H1 e1 z1 x1 r1 _ => hb σ H1 (en.ex x1) _ fun w H2 e2 z2 x2 r2 _ => by
    subst z1 z2
    cases r1
    cases r2
    refine ⟨i, j, rfl, rfl, g i j, rfl, ?_⟩
    cases hg : g i j with
    | true =>
      refine iteT ?_
      refine hc σ H2 (en.ex (x1.trans x2)) _ fun u H3 e3 z3 x3 r3 _ => ?_
      subst z3
      cases r3
      exact ⟨j, k, rfl, rfl, q _ H3 _ (by rw [hg]; rfl) ((x1.trans x2).trans x3) (.bl _) fun _ => FreshD.flat rfl⟩
    | false =>
      refine iteF ?_
      exact q _ H2 _ (by rw [hg]; rfl) (x1.trans x2) (.bl _) fun _ => FreshD.flat rfl)
end
end L3

namespace L3
open PySem PySem.Spec PyProof.Rows L2
/-! ### a tuple once: itself -/
theorem tuple_mul1W (l : Addr) (items : Array Value) (n : Nat) (dd : Option Addr) (sl : Array (Option Value)) (x : Int) (u : Tok) (c0 : (decide (x < -(2 ^ 63)) || decide (x ≥ 2 ^ 63)) = false) (c1 : (items.isEmpty || x == 1) = true) :
    Meets (Builtin.«tuple.__mul__» ⟨[.ref l, .int x u], []⟩) (fun _ R s => s.heap.get? l = some { cls := .type "tuple", dict := dd, data := .seq items n, slots := sl } ∧ R (.ok (.ret (Value.ref l))) s) :=
  .of_wp fun prog w A R s h => by
    obtain ⟨hp, g, d, tk, os⟩ := s
    obtain ⟨hl, h⟩ := h
    have f1 := AutoSeq1.idx_int
    wp_walk using wpAny_loadPart' hl
    repeat (first
      | (refine wpAny_ite_false (decide_eq_false (by rw [c0]; exact Bool.false_ne_true)) ?_; wp_walk using wpAny_loadPart' hl)
      | (refine wpAny_ite_true (decide_eq_true c1) ?_; wp_walk using wpAny_loadPart' hl))
    exact ⟨_, rfl, h⟩
def rRepT1 (K : PySem.W.Frag) : R2 := fun x y H Q => ∃ l xs, x = .ref l ∧ y = .int 1 ∧ SqT K H l xs ∧ Q (.ref l) H
theorem op_repT1 {X : Cx} : OpR X (binaryOp .Mult) (rRepT1 X.K) := by
  intro pins s σ H x y v u Q I rx ry h
  obtain ⟨l, xs, rfl, rfl, hT, q⟩ := h
  cases rx
  obtain ⟨t, rfl⟩ := ry
  obtain ⟨its, r, ⟨⟨cls, dd, data, sl⟩, ho, hc, n, hd⟩, hs⟩ := I.tuple hT
  simp only at hc hd
  subst hc hd
  refine wpAny_binaryOp_repeat_ref (T := "tuple") (U := "int") (by decide) ⟨_, ho, rfl⟩ (fun s' => typeIs_int s' 1 t) noFill_tuple_mul F.fills_int_mul F.slot_int_rmul repeat_tuple F.slot_int_index.lookup
    (call_meets F.slot_int_rmul (typeIs_int s 1 t) F.entry_int_rmul (F.args_int_rmul_2 _ _) (int_rmul_tuple 1 t l its.toArray n dd sl)
      ⟨ho, rfl, ⟨_, ho, rfl⟩, call_meets F.slot_tuple_mul ⟨_, ho, rfl⟩ F.entry_tuple_mul (F.args_tuple_mul_2 _ _) (tuple_mul1W l its.toArray n dd sl 1 t rfl (by simp)) ⟨ho, ?_⟩⟩)
  exact ⟨.ref l, H, I, rfl, q⟩
section
variable {X : Cx} {Hb Hb' : Hp} {a b c e : Expr} {es : List Expr} {Γ : Slots} {pos p' apos cpos : Pos} {d x y : D} {ds : List D} {S S' : D → Prop} {fr fr' : Bool}
end
end L3

namespace L3
open PySem PySem.Spec PyProof.Rows L2
/-! ### sum, max, min of a tuple of ints -/
/-- the walk over a tuple's iterator, whole -/
def TupGo (prog : Program) (w : World) (A : Around) (s s₂ : Shared) (l I : Addr) (its : Array Value) : Prop :=
  Walks prog w A I [I, l] [I] its.size (fun i v => its[i]? = some v) (fun i g => g.IsTupleIter I l i ∧ g.IsTuple l its) ∧ (s₂.heap.IsTupleIter I l 0 ∧ s₂.heap.IsTuple l its) ∧ (∀ c ∈ [I, l], c < s₂.heap.objs.size) ∧
    ∀ g : Heap, (∀ c u, c ∉ [I] → s₂.heap.get? c = some u → g.get? c = some u) → ∀ c u, s.heap.get? c = some u → g.get? c = some u
section
variable {prog : Program} {w : World} {A : Around} {E : Value → Shared → Prop} {s : Shared} {l : Addr} {Q : Value → Shared → Prop}
theorem tup_go {its : Array Value} (free : A.handled = none) (tl : s.heap.IsTuple l its) (k : ∀ s₂ I, True ∧ TupGo prog w A s s₂ l I its → (∃ g, s₂ = { s with heap := g }) → Q (.ref I) s₂) : wpAny (model prog w) A (pyIter (.ref l)) Q E s := by
  have below : l < s.heap.objs.size := tl.elim fun _ z => Heap.lt_size z.1
  have apart : l ≠ s.heap.objs.size := Nat.ne_of_lt below
  refine wpAny_pyIter_tuple tl (k _ _ ⟨trivial, Walks.tuple free _ _ apart its, ⟨⟨_, Heap.get?_push_size _ rfl, rfl, rfl⟩, tl.push _⟩, ?_, ?_⟩ ⟨_, rfl⟩)
  · have grown : (s.heap.push { cls := .type "tuple_iterator", data := .fields #[.ref l, .int 0 0] }).objs.size = s.heap.objs.size + 1 := Heap.size_push ..
    intro c mc
    refine Nat.lt_of_lt_of_eq ?_ grown.symm
    simp only [List.mem_cons, List.not_mem_nil, or_false] at mc
    rcases mc with e | e
    · rw [e]; exact Nat.lt_succ_self _
    · rw [e]; exact Nat.lt_succ_of_lt below
  · intro g keep c u hc
    have hlt : c < s.heap.objs.size := Heap.lt_size hc
    exact keep c u (fun z => Nat.lt_irrefl _ (by rw [List.mem_singleton.mp z] at hlt; exact hlt)) (Heap.get?_push_of_some _ hc)
theorem num_mem {xs : Array (Int × Tok)} {j : Nat} (hj : j < xs.size) : numAt xs j ∈ xs.toList.map (·.1) :=
  List.mem_map.mpr ⟨xs[j], by simp, by unfold numAt; simp [hj]⟩
theorem mem_num {xs : Array (Int × Tok)} {n : Int} (hn : n ∈ xs.toList.map (·.1)) : ∃ j, j < xs.size ∧ numAt xs j = n := by
  obtain ⟨p, hp, e⟩ := List.mem_map.mp hn
  obtain ⟨j, hj, e2⟩ := List.mem_iff_getElem.mp hp
  refine ⟨j, by simpa using hj, ?_⟩
  unfold numAt
  have : xs[j]? = some p := by rw [← Array.getElem?_toList, List.getElem?_eq_getElem hj, e2]
  rw [this]
  exact e
/-- a list of values that are ints, as pairs -/
theorem int_pairs {its : List Value} {ns : List Int} (hi : IntsAre its ns) : ∃ xs : Array (Int × Tok), its.toArray = intItems xs ∧ xs.toList.map (·.1) = ns := by
  obtain ⟨xs, e⟩ := hi.allInts.items
  refine ⟨xs, e, ?_⟩
  rw [← nums_intItems, ← e]
  exact hi.numsOf
theorem max_tup {its : List Value} {ns : List Int} (free : A.handled = none) (tl : s.heap.IsTuple l its.toArray) (hi : IntsAre its ns) (some1 : 0 < ns.length)
    (k : ∀ g tk M t, (∀ c u, s.heap.get? c = some u → g.get? c = some u) → M ∈ ns → (∀ n ∈ ns, n ≤ M) → Q (.int M t) { s with heap := g, toks := tk }) : wpAny (model prog w) A (call (.builtin "max") [.ref l]) Q E s := by
  obtain ⟨xs, e, en⟩ := int_pairs hi
  rw [e] at tl
  have size1 : 0 < xs.size := by rw [← en, List.length_map, Array.length_toList] at some1; exact some1
  refine call_max_walk (tup_go (A := A.in1) free tl fun s₂ I ⟨_, wk, st, lt, back⟩ ⟨g0, e2⟩ => ⟨I, _, _, _, _, _, _, rfl, wk, st, lt, by simpa [intItems] using size1, CmpOf.ints_gt (numAt xs) (fun _ _ hv => intItems_at hv), fun v g tk hv keep => ?_⟩)
  obtain ⟨t, rfl⟩ := intItems_at (show (intItems xs)[argBest _ _]? = some v from hv)
  rw [e2]
  have sz : (intItems xs).size = xs.size := by simp [intItems]
  obtain ⟨b1, b2⟩ := argBest_gt (numAt xs) ((intItems xs).size - 1)
  refine k g tk _ t (back g keep) (en ▸ num_mem (by omega)) fun n hn => ?_
  obtain ⟨j, hj, rfl⟩ := mem_num (en.symm ▸ hn)
  exact b2 j (by omega)
theorem min_tup {its : List Value} {ns : List Int} (free : A.handled = none) (tl : s.heap.IsTuple l its.toArray) (hi : IntsAre its ns) (some1 : 0 < ns.length)
    (k : ∀ g tk M t, (∀ c u, s.heap.get? c = some u → g.get? c = some u) → M ∈ ns → (∀ n ∈ ns, M ≤ n) → Q (.int M t) { s with heap := g, toks := tk }) : wpAny (model prog w) A (call (.builtin "min") [.ref l]) Q E s := by
  obtain ⟨xs, e, en⟩ := int_pairs hi
  rw [e] at tl
  have size1 : 0 < xs.size := by rw [← en, List.length_map, Array.length_toList] at some1; exact some1
  refine call_min_walk (tup_go (A := A.in1) free tl fun s₂ I ⟨_, wk, st, lt, back⟩ ⟨g0, e2⟩ => ⟨I, _, _, _, _, _, _, rfl, wk, st, lt, by simpa [intItems] using size1, CmpOf.ints_lt (numAt xs) (fun _ _ hv => intItems_at hv), fun v g tk hv keep => ?_⟩)
  obtain ⟨t, rfl⟩ := intItems_at (show (intItems xs)[argBest _ _]? = some v from hv)
  rw [e2]
  have sz : (intItems xs).size = xs.size := by simp [intItems]
  obtain ⟨b1, b2⟩ := argBest_lt (numAt xs) ((intItems xs).size - 1)
  refine k g tk _ t (back g keep) (en ▸ num_mem (by omega)) fun n hn => ?_
  obtain ⟨j, hj, rfl⟩ := mem_num (en.symm ▸ hn)
  exact b2 j (by omega)
end
section
variable {X : Cx}
def rTupI (K : PySem.W.Frag) (one : Bool) (C : List Int → Int → Prop) : List V → Hp → VK → Prop := fun vs H Q => ∃ (p : Addr) (ns : List Int), vs = [.ref p] ∧ SqT K H p (ns.map V.int) ∧ (one = true → 0 < ns.length) ∧ ∀ m, C ns m → Q (.int m) H
theorem cr_maxT (calm : X.calm = true) : CallR X (.builtin "max") (rTupI X.K true fun ns m => m ∈ ns ∧ ∀ n ∈ ns, n ≤ m) := fun pins s σ H vs us Q I r ⟨p, ns, e, ht, h1, q⟩ => by
  subst e
  obtain ⟨its, rv, tl, _⟩ := I.tuple ht
  rw [Vals.ref1 r]
  exact max_tup (I.ok.hd calm) tl rv.ints (h1 rfl) fun _ _ M t keep g1 g2 => ⟨.int M, H, I.kept keep, ⟨t, rfl⟩, q _ ⟨g1, g2⟩⟩
theorem cr_minT (calm : X.calm = true) : CallR X (.builtin "min") (rTupI X.K true fun ns m => m ∈ ns ∧ ∀ n ∈ ns, m ≤ n) := fun pins s σ H vs us Q I r ⟨p, ns, e, ht, h1, q⟩ => by
  subst e
  obtain ⟨its, rv, tl, _⟩ := I.tuple ht
  rw [Vals.ref1 r]
  exact min_tup (I.ok.hd calm) tl rv.ints (h1 rfl) fun _ _ M t keep g1 g2 => ⟨.int M, H, I.kept keep, ⟨t, rfl⟩, q _ ⟨g1, g2⟩⟩
end
theorem RepAll.tup1 {K : PySem.W.Frag} {H : Hp} {vs : List V} {ds : List D} (r : RepAll K H vs [.tup ds]) : ∃ p ws, vs = [.ref p] ∧ SqT K H p ws ∧ RepAll K H ws ds := by
  cases r with
  | cons r1 r2 =>
    cases r2
    cases r1 with
    | tup h ra => exact ⟨_, _, rfl, h, ra⟩
section
variable {X : Cx} {Hb Hb' : Hp} {a b c e : Expr} {es : List Expr} {Γ : Slots} {pos p' apos cpos : Pos} {d x y : D} {ds : List D} {S S' : D → Prop} {fr fr' : Bool}
end
end L3

namespace L3
open PySem PySem.Spec PyProof.Rows L2
section
variable {X : Cx} {Hb Hb' : Hp} {a b c e : Expr} {es : List Expr} {Γ : Slots} {pos p' p2 apos apos2 cpos cpos2 : Pos} {d x y : D} {ds es' : List D} {S S' : D → Prop} {fr fr' : Bool} {D0 : Ends} {rest sts : List Stmt} {st : Stmt}
end
end L3

namespace L3
open PySem PySem.Spec PyProof.Rows L2
/-! ### slots by their names -/
inductive Look : List Str → Slots → Str → Ent → Prop
  | z {N : List Str} {Γ : Slots} {x : Str} {e : Ent} : Look (x :: N) (e :: Γ) x e
  | s {N : List Str} {Γ : Slots} {x y : Str} {e e' : Ent} : Look N Γ x e → Look (y :: N) (e' :: Γ) x e
inductive Up : List Str → Slots → Str → Ent → Slots → Prop
  | z {N : List Str} {Γ : Slots} {x : Str} {e e' : Ent} : Up (x :: N) (e' :: Γ) x e (e :: Γ)
  | s {N : List Str} {Γ Γ' : Slots} {x y : Str} {e e' : Ent} : Up N Γ x e Γ' → Up (y :: N) (e' :: Γ) x e (e' :: Γ')
theorem Look.ix : ∀ {N : List Str} {Γ : Slots} {x : Str} {e : Ent}, Look N Γ x e → ∃ i : Nat, N[i]? = some x ∧ Γ[i]? = some e
  | _, _, _, _, .z => ⟨0, rfl, rfl⟩
  | _, _, _, _, .s h => let ⟨i, a, b⟩ := Look.ix h; ⟨i + 1, by simpa using a, by simpa using b⟩
theorem Up.ix : ∀ {N : List Str} {Γ Γ' : Slots} {x : Str} {e : Ent}, Up N Γ x e Γ' → ∃ i : Nat, N[i]? = some x ∧ Γ' = Γ.set i e
  | _, _, _, _, _, .z => ⟨0, rfl, rfl⟩
  | _, _, _, _, _, .s h => let ⟨i, a, b⟩ := Up.ix h; ⟨i + 1, by simpa using a, by rw [b]; rfl⟩
section
variable {X : Cx} {Hb Hb' : Hp} {a b c e : Expr} {es : List Expr} {Γ Γ' : Slots} {pos p' p2 apos cpos : Pos} {d x y : D} {ds : List D} {Q S S' : D → Prop} {fr : Bool} {D0 : Ends} {rest sts : List Stmt} {st : Stmt}
/-! ### the walk, by what is wanted behind -/
theorem EvN.fresh (h : EvN X Hb e Γ true S) : EvN X Hb e Γ fr S := by
  cases fr
  · exact h.weak
  · exact h
theorem w_det (h : Ev X Hb e Γ fr d) (q : Q d) : EvN X Hb e Γ fr Q := h.imp fun _ z => by rw [z]; exact q
theorem w_scal (h : EvN X Hb e Γ false fun d => isCont d = false ∧ Q d) : EvN X Hb e Γ true Q := fun σ H en Q' q => h σ H en Q' fun v H' d ⟨hc, s⟩ ex r _ => q v H' d s ex r fun _ => FreshD.flat hc
theorem and2 {A B : Prop} (b : B) (a : A) : A ∧ B := ⟨a, b⟩
theorem w_name {xn : Str} (hL : Look X.N Γ xn (.dat d)) (q : Q d) (hv : Vis X.env.scope xn := by first | exact Or.inl rfl | exact Or.inr (Or.inl rfl) | exact Or.inr (Or.inr rfl)) (hd : (xn == ("__debug__" : Str)) = false := by decide)
    (hcd : (xn == ("__classdict__" : Str)) = false := by decide) : EvN X Hb (.Name xn pos) Γ false Q := by
  obtain ⟨i, hN, hG⟩ := hL.ix
  exact w_det (ev_dat i hG hN hv hd hcd) q
theorem w_own {xn : Str} {p : Addr} (hL : Look X.N Γ xn (.own p ds)) (q : Q (.lst ds)) (hv : Vis X.env.scope xn := by first | exact Or.inl rfl | exact Or.inr (Or.inl rfl) | exact Or.inr (Or.inr rfl)) (hd : (xn == ("__debug__" : Str)) = false := by decide)
    (hcd : (xn == ("__classdict__" : Str)) = false := by decide) : EvN X Hb (.Name xn pos) Γ false Q := by
  obtain ⟨i, hN, hG⟩ := hL.ix
  exact w_det (ev_own i hG hN hv hd hcd) q
theorem w_gv {xn : Str} (h : Gv X.K X.mg xn d) (q : Q d) (hg : Gl X xn := by rfl) (hd : (xn == ("__debug__" : Str)) = false := by decide) : EvN X Hb (.Name xn pos) Γ false Q := w_det (ev_gv h hg hd) q
theorem w_int {i : Int} {j} (q : Q (.int i)) : EvN X Hb (.Constant (.int i) j pos) Γ fr Q := (w_det ev_int q).fresh
theorem w_bl {i : Bool} {j} (q : Q (.bl i)) : EvN X Hb (.Constant (.bool i) j pos) Γ fr Q := (w_det ev_bl q).fresh
theorem w_non {j} (q : Q .non) : EvN X Hb (.Constant .none j pos) Γ fr Q := (w_det ev_non q).fresh
theorem w_str {i : Str} {j} (q : Q (.str i)) : EvN X Hb (.Constant (.str i) j pos) Γ fr Q := (w_det ev_str q).fresh
/-! operators: what is asked of the data -/
/-- what f must do with d1, d2 -/
def OpD (X : Cx) (f : Value → Value → Sem Value) (d1 d2 : D) (Q : D → Prop) : Prop :=
  ∀ (pins : List (Addr × Obj)) (s : Shared) (σ : L2.St) (H : Hp) (x y : V) (v u : Value) (Q' : VK), Inv X pins σ H s → RelV x v → RelV y u → Rep X.K H x d1 → Rep X.K H y d2 → (∀ w H' d, Q d → Ex H H' → Rep X.K H' w d → FreshD X.K H H' w d → Q' w H') →
    wpAny (model X.prog X.w) X.A (f v u) (EP X pins σ Q') X.xe s
theorem OpD.of {f : Value → Value → Sem Value} {r : R2} {d1 d2 : D} (h : OpR X f r) (k : ∀ (x y : V) (H : Hp) (Q' : VK), Rep X.K H x d1 → Rep X.K H y d2 → (∀ w H' d, Q d → Ex H H' → Rep X.K H' w d → FreshD X.K H H' w d → Q' w H') → r x y H Q') : OpD X f d1 d2 Q :=
  fun pins s σ H x y v u Q' I rx ry r1 r2 q => h pins s σ H x y v u Q' I rx ry (k x y H Q' r1 r2 q)
theorem OpD.i {f : Value → Value → Sem Value} {C : Int → Int → Prop} {g : Int → Int → V} {i j : Int} {z : D} (h : OpR X f (rI C g)) (hc : C i j) (hz : ∀ H, Rep X.K H (g i j) z) (hf : isCont z = false) (q : Q z) : OpD X f (.int i) (.int j) Q :=
  OpD.of h fun x y H Q' r1 r2 k => by
    cases r1
    cases r2
    exact ⟨i, j, rfl, rfl, hc, k _ H z q Ex.refl (hz H) (FreshD.flat hf)⟩
def rSem (X : Cx) (f : Value → Value → Sem Value) : R2 := fun x y H Q => ∀ (pins : List (Addr × Obj)) (s : Shared) (σ : L2.St) (v u : Value), Inv X pins σ H s → RelV x v → RelV y u → wpAny (model X.prog X.w) X.A (f v u) (EP X pins σ Q) X.xe s
theorem rSem_op {f : Value → Value → Sem Value} : OpR X f (rSem X f) := fun pins s σ H x y v u Q I rx ry h => h pins s σ v u I rx ry
theorem w_bin {op : Operator} (h : EvN X Hb a Γ false fun d1 => EvN X Hb b Γ false fun d2 => OpD X (binaryOp op) d1 d2 Q) : EvN X Hb (.BinOp a op b pos) Γ fr Q := EvN.fresh fun σ H en Q' q =>
  SemE.of (pe_op rSem_op (semE X a) (semE X b)) (h σ H en _ fun v H1 d1 s1 x1 r1 _ => s1 σ H1 (en.ex x1) _ fun w H2 d2 s2 x2 r2 _ => fun pins s σ' v' u' I rx ry =>
    s2 pins s σ' H2 v w v' u' Q' I rx ry (r1.ex x2) r2 fun u H3 d3 q3 x3 r3 f3 => q u H3 d3 q3 ((x1.trans x2).trans x3) r3 fun _ => f3.back (x1.trans x2))
theorem opd_add {i j : Int} (q : Q (.int (i + j))) : OpD X (binaryOp .Add) (.int i) (.int j) Q := OpD.i (opI0' op_add) trivial (fun _ => .int _) rfl q
theorem opd_sub {i j : Int} (q : Q (.int (i - j))) : OpD X (binaryOp .Sub) (.int i) (.int j) Q := OpD.i (opI0' op_sub) trivial (fun _ => .int _) rfl q
theorem opd_mul {i j : Int} (q : Q (.int (i * j))) (hc : IntMulOk i j) : OpD X (binaryOp .Mult) (.int i) (.int j) Q := OpD.i (C := IntMulOk) (g := fun i j => .int (i * j)) (opI fun _ _ _ _ _ _ _ hc q => mul_int q hc) hc (fun _ => .int _) rfl q
theorem opd_fdiv {i j : Int} (q : Q (.int (i.fdiv j))) (hc : CDivX i j) : OpD X (binaryOp .FloorDiv) (.int i) (.int j) Q := OpD.i op_fdivX hc (fun _ => .int _) rfl q
theorem opd_mod {i j : Int} (q : Q (.int (i.fmod j))) (hc : j ≠ 0) : OpD X (binaryOp .Mod) (.int i) (.int j) Q := OpD.i op_modN hc (fun _ => .int _) rfl q
theorem opd_pow {i j : Int} (q : Q (.int (i ^ j.toNat))) (hc : 0 ≤ j ∧ (Builtin.Int.intBits i : Int) * j ≤ 2 ^ 27) : OpD X (binaryOp .Pow) (.int i) (.int j) Q := OpD.i op_powX hc (fun _ => .int _) rfl q
theorem opd_catL {xs ys : List D} (q : Q (.lst (xs ++ ys))) (hl : xs.length + ys.length ≤ 100000) : OpD X (binaryOp .Add) (.lst xs) (.lst ys) Q := OpD.of op_catP fun x y H Q' r1 r2 k => by
  cases r1 with
  | lst ha ra =>
    cases r2 with
    | lst hb rb =>
      refine ⟨_, _, _, _, rfl, rfl, ha, hb, by rw [ra.length, rb.length]; exact Nat.le_trans hl (by decide), fun p hp => ?_⟩
      have r3 := ra.append rb
      exact k _ _ _ q (Ex.new hp) (.lst (SqL.of upd_same) (r3.ex (Ex.new hp))) (freshL hp Ex.refl r3)
theorem opd_catT {xs ys : List D} (q : Q (.tup (xs ++ ys))) (hl : xs.length + ys.length ≤ 100000) : OpD X (binaryOp .Add) (.tup xs) (.tup ys) Q := OpD.of op_catA fun x y H Q' r1 r2 k => by
  cases r1 with
  | tup ha ra =>
    cases r2 with
    | tup hb rb =>
      refine ⟨_, _, _, _, rfl, rfl, ha, hb, by rw [ra.length, rb.length]; exact Nat.le_trans hl (by decide), fun e => ?_, fun _ e => ?_, fun _ _ p hp => ?_⟩
      · subst e
        cases ra
        exact k _ _ _ q Ex.refl (.tup hb rb) (FreshD.flat rfl)
      · subst e
        cases rb
        refine k _ _ _ q Ex.refl ?_ (FreshD.flat rfl)
        rw [List.append_nil]
        exact .tup ha ra
      · exact k _ _ _ q (Ex.new hp) (.tup (SqT.of upd_same) ((ra.ex (Ex.new hp)).append (rb.ex (Ex.new hp)))) (FreshD.flat rfl)
theorem opd_repT {xs : List D} {k : Int} (q : Q (.tup (List.replicate k.toNat xs).flatten)) (h : xs ≠ [] ∧ xs.length ≤ 1000 ∧ 1 ≤ k ∧ k ≤ 1000) : OpD X (binaryOp .Mult) (.tup xs) (.int k) Q := by
  obtain ⟨h0, hl, h1, h2⟩ := h
  refine OpD.of (r := fun x y H Q => rRepT1 X.K x y H Q ∨ rRepT X.K x y H Q) (fun pins s σ H x y v u Q I rx ry h => by
      rcases h with h | h
      · exact op_repT1 pins s σ H x y v u Q I rx ry h
      · exact op_repT pins s σ H x y v u Q I rx ry h) fun x y H Q' r1 r2 kk => ?_
  cases r2
  cases r1 with
  | tup hq ra =>
    by_cases e : k = 1
    · subst e
      have ef : (List.replicate (1 : Int).toNat xs).flatten = xs := by show (List.replicate 1 xs).flatten = xs; simp
      exact .inl ⟨_, _, rfl, rfl, hq, kk _ H (.tup xs) (ef ▸ q) Ex.refl (.tup hq ra) (FreshD.flat rfl)⟩
    · have r3 : ∀ n vs, RepAll X.K H vs xs → RepAll X.K H (List.replicate n vs).flatten (List.replicate n xs).flatten := fun n vs ra => by
        induction n with
        | zero => exact .nil
        | succ n ih => rw [List.replicate_succ, List.replicate_succ, List.flatten_cons, List.flatten_cons]; exact ra.append ih
      refine .inr ⟨_, k, _, rfl, rfl, hq, fun z => ?_, by omega, h2, by rw [ra.length]; exact hl, fun p hp => kk _ _ _ q (Ex.new hp) (.tup (SqT.of upd_same) ((r3 _ _ ra).ex (Ex.new hp))) (FreshD.flat rfl)⟩
      have := ra.length
      rw [z] at this
      exact h0 (List.eq_nil_of_length_eq_zero this.symm)
theorem w_neg (h : EvN X Hb a Γ false fun d => ∃ i, d = .int i ∧ Q (.int (-i))) : EvN X Hb (.UnaryOp .USub a pos) Γ fr Q := EvN.fresh fun σ H en Q' q =>
  SemE.of (pe_un un_neg (semE X a)) (h σ H en _ fun v H1 d1 ⟨i, e1, s⟩ x1 r1 _ => by
    subst e1
    cases r1
    exact ⟨i, rfl, q _ H1 _ s x1 (.int _) fun _ => FreshD.flat rfl⟩)
/-- a new list, so many times -/
theorem w_repL (h : EvN X Hb a Γ true fun d1 => EvN X Hb b Γ false fun d2 => ∃ xs k, d1 = .lst xs ∧ d2 = .int k ∧ (k < 100000 ∧ -1000 ≤ k ∧ xs.length * k.toNat ≤ 100000) ∧ Q (.lst (List.replicate k.toNat xs).flatten)) : EvN X Hb (.BinOp a .Mult b pos) Γ fr Q := EvN.fresh fun σ H en Q' q =>
  SemE.of (pe_op op_rep (semE X a) (semE X b)) (h σ H en _ fun v H1 d1 s1 x1 r1 f1 => s1 σ H1 (en.ex x1) _ fun w H2 d2 ⟨xs, k, e1, e2, ⟨h1, h0, hl2⟩, s⟩ x2 r2 _ => by
    subst e1 e2
    obtain ⟨p, vs, rfl, hp, hl, ra⟩ := f1 rfl
    have xx := x1.trans x2
    cases r2
    refine ⟨p, k, vs, rfl, rfl, x2.lst hl, by omega, by omega, by rw [ra.length]; exact Nat.le_trans hl2 (by decide), fun q' hq' => ?_⟩
    have r3 : ∀ n, RepAll X.K H2 (List.replicate n vs).flatten (List.replicate n xs).flatten := fun n => by
      induction n with
      | zero => exact .nil
      | succ n ih => rw [List.replicate_succ, List.replicate_succ, List.flatten_cons, List.flatten_cons]; exact (ra.ex x2).append ih
    exact q _ _ _ s (xx.trans (Ex.new hq')) (.lst (SqL.of upd_same) ((r3 _).ex (Ex.new hq'))) fun _ => freshL hq' xx (r3 _))
/-! comparisons -/
def CmpD (X : Cx) (op : CmpOp) (d1 d2 : D) (S : Bool → Prop) : Prop :=
  ∀ (pins : List (Addr × Obj)) (s : Shared) (σ : L2.St) (H : Hp) (x y : V) (v u : Value) (Q' : VK), Inv X pins σ H s → RelV x v → RelV y u → Rep X.K H x d1 → Rep X.K H y d2 → (∀ k, S k → Q' (.bl k) H) →
    wpAny (model X.prog X.w) X.A (compareOp op v u) (EP X pins σ Q') X.xe s
theorem CmpD.of {op : CmpOp} {r : R2} {d1 d2 : D} {S : Bool → Prop} (h : OpR X (compareOp op) r) (k : ∀ (x y : V) (H : Hp) (Q' : VK), Rep X.K H x d1 → Rep X.K H y d2 → (∀ k, S k → Q' (.bl k) H) → r x y H Q') : CmpD X op d1 d2 S :=
  fun pins s σ H x y v u Q' I rx ry r1 r2 q => h pins s σ H x y v u Q' I rx ry (k x y H Q' r1 r2 q)
theorem w_cmp {op : CmpOp} (h : EvN X Hb a Γ false fun d1 => EvN X Hb b Γ false fun d2 => CmpD X op d1 d2 fun k => Q (.bl k)) (hm : behindInMarks op b = false := by exact nomark _) : EvN X Hb (.Compare a [op] [b] pos) Γ fr Q := EvN.fresh fun σ H en Q' q =>
  SemE.of (pe_cmpR rSem_op (semE X a) (semE X b) hm) (h σ H en _ fun v H1 d1 s1 x1 r1 _ => s1 σ H1 (en.ex x1) _ fun w H2 d2 s2 x2 r2 _ => fun pins s σ' v' u' I rx ry =>
    s2 pins s σ' H2 v w v' u' Q' I rx ry (r1.ex x2) r2 fun k q3 => q _ H2 _ q3 (x1.trans x2) (.bl k) fun _ => FreshD.flat rfl)
theorem wt_cmp {op : CmpOp} {S : Bool → Prop} (h : EvN X Hb a Γ false fun d1 => EvN X Hb b Γ false fun d2 => CmpD X op d1 d2 S) (hm : behindInMarks op b = false := by exact nomark _) : EvT X Hb (.Compare a [op] [b] pos) Γ S := fun σ H en Q' q =>
  SemT.of (pt_cmpR rSem_op (semE X a) (semE X b) hm) (h σ H en _ fun v H1 d1 s1 x1 r1 _ => s1 σ H1 (en.ex x1) _ fun w H2 d2 s2 x2 r2 _ => fun pins s σ' v' u' I rx ry =>
    s2 pins s σ' H2 v w v' u' _ I rx ry (r1.ex x2) r2 fun k q3 => ⟨k, rfl, q k H2 q3 (x1.trans x2)⟩)
theorem CmpD.i {op : CmpOp} {g : Int → Int → Bool} {i j : Int} {S : Bool → Prop} (h : OpR X (compareOp op) (rI0 fun i j => .bl (g i j))) (q : S (g i j)) : CmpD X op (.int i) (.int j) S :=
  CmpD.of h fun x y H Q' r1 r2 k => by
    cases r1
    cases r2
    exact ⟨i, j, rfl, rfl, k _ q⟩
section
variable {i j : Int} {S : Bool → Prop}
theorem cmp_lt (q : S (decide (i < j))) : CmpD X .Lt (.int i) (.int j) S := CmpD.i op_lt q
theorem cmp_le (q : S (decide (i ≤ j))) : CmpD X .LtE (.int i) (.int j) S := CmpD.i op_le q
theorem cmp_gt (q : S (decide (j < i))) : CmpD X .Gt (.int i) (.int j) S := CmpD.i op_gt q
theorem cmp_ge (q : S (decide (j ≤ i))) : CmpD X .GtE (.int i) (.int j) S := CmpD.i op_ge q
theorem cmp_eqI (q : S (decide (i = j))) : CmpD X .Eq (.int i) (.int j) S := CmpD.i opEqI q
theorem cmp_neI (q : S (!decide (i = j))) : CmpD X .NotEq (.int i) (.int j) S := CmpD.i opNeI q
theorem cmp_eqS {i j : Str} (q : S (decide (i = j))) : CmpD X .Eq (.str i) (.str j) S := CmpD.of opEqS fun x y H Q' r1 r2 k => by
  cases r1; cases r2
  exact ⟨i, j, rfl, rfl, k _ q⟩
theorem cmp_neS {i j : Str} (q : S (!decide (i = j))) : CmpD X .NotEq (.str i) (.str j) S := CmpD.of opNeS fun x y H Q' r1 r2 k => by
  cases r1; cases r2
  exact ⟨i, j, rfl, rfl, k _ q⟩
theorem cmp_isB {i j : Bool} (q : S (decide (i = j))) : CmpD X .Is (.bl i) (.bl j) S := CmpD.of op_is_bl fun x y H Q' r1 r2 k => by
  cases r1; cases r2
  exact ⟨i, j, rfl, rfl, k _ q⟩
theorem cmp_notB {i j : Bool} (q : S (!decide (i = j))) : CmpD X .IsNot (.bl i) (.bl j) S := CmpD.of op_isnot_bl fun x y H Q' r1 r2 k => by
  cases r1; cases r2
  exact ⟨i, j, rfl, rfl, k _ q⟩
theorem cmp_isN (q : S (isNon d)) : CmpD X .Is d .non S := CmpD.of op_isN fun x y H Q' r1 r2 k => by
  cases r2
  refine ⟨rfl, ?_⟩
  rw [r1.isNon]
  exact k _ q
theorem cmp_notN (q : S (!isNon d)) : CmpD X .IsNot d .non S := CmpD.of op_notN fun x y H Q' r1 r2 k => by
  cases r2
  refine ⟨rfl, ?_⟩
  rw [r1.isNon]
  exact k _ q
theorem cmp_eqB {i j : Bool} (q : S (decide (i = j))) : CmpD X .Eq (.bl i) (.bl j) S := CmpD.of op_eq fun x y H Q' r1 r2 k => by
  cases r1; cases r2
  refine ⟨rfl, ?_⟩
  rw [show decide (V.bl i = V.bl j) = decide (i = j) from by simp]
  exact k _ q
theorem cmp_neB {i j : Bool} (q : S (!decide (i = j))) : CmpD X .NotEq (.bl i) (.bl j) S := CmpD.of op_ne fun x y H Q' r1 r2 k => by
  cases r1; cases r2
  refine ⟨rfl, ?_⟩
  rw [show decide (V.bl i = V.bl j) = decide (i = j) from by simp]
  exact k _ q
theorem cmp_eqD {n : Nat} {d1 d2 : D} (hr : Room n X.A) (q : S (PyData.eqv d1.py d2.py)) (h : (d1.ok = true ∧ d2.ok = true) ∧ SeqAt.shaped d1.py = true ∧ SeqAt.shaped d2.py = true) : CmpD X .Eq d1 d2 S := CmpD.of (op_eqR hr.units) fun x y H Q' r1 r2 k => ⟨_, _, r1, r2, h.1.1, h.1.2, h.2.1, h.2.2, k _ q⟩
theorem cmp_neD {n : Nat} {d1 d2 : D} (hr : Room n X.A) (q : S (!PyData.eqv d1.py d2.py)) (h : (d1.ok = true ∧ d2.ok = true) ∧ SeqAt.shaped d1.py = true ∧ SeqAt.shaped d2.py = true) : CmpD X .NotEq d1 d2 S := CmpD.of (op_neR hr.units) fun x y H Q' r1 r2 k => ⟨_, _, r1, r2, h.1.1, h.1.2, h.2.1, h.2.2, k _ q⟩
theorem cmp_eq0L {n : Nat} (hr : Room n X.A) (q : S ds.isEmpty) : CmpD X .Eq (.lst ds) (.lst []) S := CmpD.of (op_eq0 hr.units) fun x y H Q' r1 r2 k => by
  obtain ⟨a, b, xs, q1, q2, q3, q4⟩ := sq_of (.inl ⟨rfl, rfl⟩) Ex.refl r1 r2
  exact ⟨a, b, xs, q1, q2, q3, k _ (by rw [q4]; exact q)⟩
theorem cmp_eq0T {n : Nat} (hr : Room n X.A) (q : S ds.isEmpty) : CmpD X .Eq (.tup ds) (.tup []) S := CmpD.of (op_eq0 hr.units) fun x y H Q' r1 r2 k => by
  obtain ⟨a, b, xs, q1, q2, q3, q4⟩ := sq_of (.inr ⟨rfl, rfl⟩) Ex.refl r1 r2
  exact ⟨a, b, xs, q1, q2, q3, k _ (by rw [q4]; exact q)⟩
theorem cmp_ne0L {n : Nat} (hr : Room n X.A) (q : S (!ds.isEmpty)) : CmpD X .NotEq (.lst ds) (.lst []) S := CmpD.of (op_ne0 hr.units) fun x y H Q' r1 r2 k => by
  obtain ⟨a, b, xs, q1, q2, q3, q4⟩ := sq_of (.inl ⟨rfl, rfl⟩) Ex.refl r1 r2
  exact ⟨a, b, xs, q1, q2, q3, k _ (by rw [q4]; exact q)⟩
theorem cmp_ne0T {n : Nat} (hr : Room n X.A) (q : S (!ds.isEmpty)) : CmpD X .NotEq (.tup ds) (.tup []) S := CmpD.of (op_ne0 hr.units) fun x y H Q' r1 r2 k => by
  obtain ⟨a, b, xs, q1, q2, q3, q4⟩ := sq_of (.inr ⟨rfl, rfl⟩) Ex.refl r1 r2
  exact ⟨a, b, xs, q1, q2, q3, k _ (by rw [q4]; exact q)⟩
end
/-- a <= b <= c, ints -/
theorem w_chain {op op' : CmpOp} {g g' : Int → Int → Bool} (ho : OpR X (compareOp op) (rI0 fun i j => .bl (g i j))) (ho' : OpR X (compareOp op') (rI0 fun i j => .bl (g' i j))) {i j k : Int} (ha : Ev X Hb a Γ false (.int i)) (hb : Ev X Hb b Γ false (.int j)) (hc : Ev X Hb c Γ false (.int k)) (q : Q (.bl (g i j && g' j k)))
    (hm : lastMarks [op, op'] [b, c] = false := by with_unfolding_all rfl) : EvN X Hb (.Compare a [op, op'] [b, c] pos) Γ fr Q := (w_det (ev_chain ho ho' ha hb hc hm) q).fresh
theorem wt_chain {op op' : CmpOp} {g g' : Int → Int → Bool} {S : Bool → Prop} (ho : OpR X (compareOp op) (rI0 fun i j => .bl (g i j))) (ho' : OpR X (compareOp op') (rI0 fun i j => .bl (g' i j))) {i j k : Int} (ha : Ev X Hb a Γ false (.int i)) (hb : Ev X Hb b Γ false (.int j)) (hc : Ev X Hb c Γ false (.int k)) (q : S (g i j && g' j k))
    (hm : lastMarks [op, op'] [b, c] = false := by with_unfolding_all rfl) : EvT X Hb (.Compare a [op, op'] [b, c] pos) Γ S := (evt_chain ho ho' ha hb hc hm).imp fun _ z => by rw [z]; exact q
/-! tests -/
theorem wt_val {S : Bool → Prop} (h : EvN X Hb e Γ false fun z => ∃ k, z = .bl k ∧ S k) (he : ∀ whole, isTrue e X.env whole = (do let v ← whole; standAt e.pos; holding [v] (truthy v)) := by intro _; rfl) : EvT X Hb e Γ S := evt_val h he
theorem wt_not {S : Bool → Prop} (h : EvT X Hb e Γ fun b => S (!b)) : EvT X Hb (.UnaryOp .Not e pos) Γ S := evt_not h
theorem w_not (h : EvN X Hb a Γ false fun d => ∃ k, d = .bl k ∧ Q (.bl (!k))) : EvN X Hb (.UnaryOp .Not a pos) Γ fr Q := EvN.fresh fun σ H en Q' q =>
  SemE.of (pe_not (semE X a)) (h σ H en _ fun v H1 d1 ⟨k, e1, s⟩ x1 r1 _ => by
    subst e1
    cases r1
    exact ⟨k, rfl, q _ _ _ s x1 (.bl _) fun _ => FreshD.flat rfl⟩)
theorem wt_and {k k' : Bool} {S : Bool → Prop} (h : EvB X Hb a Γ k) (hb : k = true → EvW X Hb (.BoolOp .And (b :: es) pos) Γ (· = k')) (q : S (k && k')) : EvT X Hb (.BoolOp .And (a :: b :: es) pos) Γ S := (EvW.t (evw_andD h hb)).imp fun _ z => by rw [z]; exact q
theorem wt_or {k k' : Bool} {S : Bool → Prop} (h : EvB X Hb a Γ k) (hb : k = false → EvW X Hb (.BoolOp .Or (b :: es) pos) Γ (· = k')) (q : S (k || k')) : EvT X Hb (.BoolOp .Or (a :: b :: es) pos) Γ S := (EvW.t (evw_orD h hb)).imp fun _ z => by rw [z]; exact q
theorem w_and {k k' : Bool} (h : Ev X Hb a Γ false (.bl k)) (hb : k = true → Ev X Hb (.BoolOp .And (b :: es) pos) Γ true (.bl k')) (q : Q (.bl (k && k'))) : EvN X Hb (.BoolOp .And (a :: b :: es) pos) Γ fr Q := (w_det (ev_andD h hb) q).fresh
theorem w_or {k k' : Bool} (h : Ev X Hb a Γ false (.bl k)) (hb : k = false → Ev X Hb (.BoolOp .Or (b :: es) pos) Γ true (.bl k')) (q : Q (.bl (k || k'))) : EvN X Hb (.BoolOp .Or (a :: b :: es) pos) Γ fr Q := (w_det (ev_orD h hb) q).fresh
theorem w_if {k : Bool} {d1 d2 : D} (hc : EvB X Hb c Γ k) (ha : k = true → Ev X Hb a Γ fr d1) (hb : k = false → Ev X Hb b Γ fr d2) (q : Q (if k then d1 else d2)) : EvN X Hb (.IfExp c a b pos) Γ fr Q :=
  w_det (ev_if hc (fun z => by subst z; exact ha rfl) (fun z => by subst z; exact hb rfl)) q
theorem w_ifI {k : Bool} {i j : Int} (hc : EvB X Hb c Γ k) (ha : k = true → Ev X Hb a Γ fr (.int i)) (hb : k = false → Ev X Hb b Γ fr (.int j)) (q : Q (.int (if k then i else j))) : EvN X Hb (.IfExp c a b pos) Γ fr Q :=
  w_det (ev_if hc (fun z => by subst z; exact ha rfl) (fun z => by subst z; exact hb rfl)) q
/-! arguments, displays -/
theorem wa_nil {S : List D → Prop} (q : S []) : EvA X Hb [] Γ S := eva_nil.imp fun _ z => by rw [z]; exact q
theorem wa_cons {S : List D → Prop} (h : EvN X Hb e Γ false fun d => EvA X Hb es Γ fun ds => S (d :: ds)) (hs : starEach (e :: es) X.env = (false, eval e X.env) :: starEach es X.env := by rfl) : EvA X Hb (e :: es) Γ S := fun σ H en Q q =>
  SemA.of (pa_cons (semE X e) (semA X es) hs) (h σ H en _ fun v H1 d1 s1 x1 r1 _ => s1 σ H1 (en.ex x1) _ fun vs H2 ds s2 x2 r2 => q _ H2 _ s2 (x1.trans x2) (.cons (r1.ex x2) r2))
theorem w_tup {k : Nat} (h : EvA X Hb es Γ fun ds => ds.length ≤ 1000 ∧ Q (.tup ds)) : EvN X Hb (.Tuple es k pos) Γ fr Q := EvN.fresh fun σ H en Q' q =>
  SemE.of (pe_tup (semA X es)) (h σ H en _ fun vs H1 ds s x1 r => ⟨by rw [r.length]; exact Nat.le_trans s.1 (by decide), fun p hp => q _ _ _ s.2 (x1.trans (Ex.new hp)) (.tup (SqT.of upd_same) (r.ex (Ex.new hp))) fun _ => FreshD.flat rfl⟩)
theorem w_lst (h : EvA X Hb es Γ fun ds => ds.length ≤ 1000 ∧ Q (.lst ds)) : EvN X Hb (.List es pos) Γ fr Q := EvN.fresh fun σ H en Q' q =>
  SemE.of (pe_lst (semA X es)) (h σ H en _ fun vs H1 ds s x1 r => ⟨by rw [r.length]; exact Nat.le_trans s.1 (by decide), fun p hp => q _ _ _ s.2 (x1.trans (Ex.new hp)) (.lst (SqL.of upd_same) (r.ex (Ex.new hp))) fun _ => freshL hp x1 r⟩)
/-! items, slices -/
def IxD (X : Cx) (d1 d2 : D) (Q : D → Prop) : Prop :=
  ∃ r : R2, IxR X r ∧ ∀ (x y : V) (H : Hp) (Q' : VK), Rep X.K H x d1 → Rep X.K H y d2 → (∀ w d, Q d → Rep X.K H w d → Q' w H) → r x y H Q'
def rSemIx (X : Cx) (bx : Expr) : R2 := fun x y H Q => ∀ (value : Expr) (pins : List (Addr × Obj)) (s : Shared) (σ : L2.St) (v u : Value), Inv X pins σ H s → RelV x v → RelV y u → subscripted bx false v u = operate [v, u] (getItem v u) → wpAny (model X.prog X.w) X.A (subscriptTail value bx v u) (EP X pins σ Q) X.xe s
theorem w_ix (h : EvN X Hb a Γ false fun d1 => EvN X Hb b Γ false fun d2 => IxD X d1 d2 Q) (hs : PlainIx b := by intro _ _; rfl) : EvN X Hb (.Subscript a b pos) Γ false Q := fun σ H en Q' q => by
  have pe : PE X (.Subscript a b pos) (tOp (rSemIx X b) (SemE X a) (SemE X b)) := by
    refine ⟨fun pins s σ H Q I h => ?_⟩
    exact Subscript_ (binT (semE X a) (semE X b) I h fun v u s2 x y H2 I2 rx ry q => q a pins s2 σ v u I2 rx ry (hs _ _))
  refine SemE.of pe (h σ H en _ fun v H1 d1 s1 x1 r1 _ => s1 σ H1 (en.ex x1) _ fun w H2 d2 s2 x2 r2 _ => fun value pins s σ' v' u' I rx ry hsub => ?_)
  obtain ⟨r, hr, k⟩ := s2
  exact hr value b pins s σ' H2 v w v' u' Q' I rx ry (k v w H2 Q' (r1.ex x2) r2 fun z d qd rz => q z H2 d qd (x1.trans x2) rz fun z => nomatch z) hsub
theorem ix_T {xs : List D} {i : Int} (h : atI xs i = some d) (q : Q d) : IxD X (.tup xs) (.int i) Q := ⟨_, ix_tup, fun x y H Q' r1 r2 k => by
  cases r1 with
  | tup hq ra =>
    cases r2
    obtain ⟨v, hv, rv⟩ := atI_rep ra h
    exact ⟨_, _, i, v, rfl, rfl, hq, hv, k v d q rv⟩⟩
theorem ix_L {xs : List D} {i : Int} (h : atI xs i = some d) (q : Q d) : IxD X (.lst xs) (.int i) Q := ⟨_, ix_list, fun x y H Q' r1 r2 k => by
  cases r1 with
  | lst hq ra =>
    cases r2
    obtain ⟨v, hv, rv⟩ := atI_rep ra h
    exact ⟨_, _, i, v, rfl, rfl, hq, hv, k v d q rv⟩⟩
structure SemOP (X : Cx) (o : Option Expr) (σ : L2.St) (H : Hp) (Q : Option Int → Hp → Prop) : Prop where
  run : ∃ t, PO X o t ∧ t σ H Q
theorem PO.congr {o : Option Expr} : PO X o (fun σ H Q => SemOP X o σ H Q) := ⟨fun pins s σ H Q I h => by
  obtain ⟨t, p, h⟩ := h.run
  exact p.run pins s σ H Q I h⟩
def EvP (X : Cx) (Hb : Hp) (o : Option Expr) (Γ : Slots) (S : Option Int → Prop) : Prop := ∀ σ H, EnvOk X.K Hb Γ σ H → ∀ Q : Option Int → Hp → Prop, (∀ k H', S k → Ex H H' → Q k H') → SemOP X o σ H Q
theorem wo_none {S : Option Int → Prop} (q : S none) : EvP X Hb none Γ S := fun σ H en Q k => ⟨_, po_none, k none H q Ex.refl⟩
theorem wo_some {S : Option Int → Prop} (h : EvN X Hb e Γ false fun z => ∃ i, z = .int i ∧ S (some i)) : EvP X Hb (some e) Γ S := fun σ H en Q k => ⟨_, po_some (semE X e), h σ H en _ fun v H1 d1 ⟨i, e1, s⟩ x1 r1 _ => by
  subst e1
  cases r1
  exact ⟨i, rfl, k _ _ s x1⟩⟩
def SlD (X : Cx) (d : D) (o o' : Option Int) (Q : D → Prop) : Prop :=
  ∃ r : V → Option Int → Option Int → Hp → VK → Prop, SlR X r ∧ ∀ (x : V) (H : Hp) (Q' : VK), Rep X.K H x d → (∀ w H' d, Q d → Ex H H' → Rep X.K H' w d → FreshD X.K H H' w d → Q' w H') → r x o o' H Q'
def rSemSl (X : Cx) : V → Option Int → Option Int → Hp → VK → Prop := fun x lo hi H Q => ∃ r, SlR X r ∧ r x lo hi H Q
theorem rSemSl_ok : SlR X (rSemSl X) := fun pins s σ H x v vl vu lo hi sl Q I rx hs pl pu ⟨r, hr, q⟩ => hr pins s σ H x v vl vu lo hi sl Q I rx hs pl pu q
theorem w_slice {lo hi : Option Expr} (h : EvN X Hb a Γ false fun d => EvP X Hb lo Γ fun o => EvP X Hb hi Γ fun o' => SlD X d o o' Q) : EvN X Hb (.Subscript a (.Slice lo hi none p2) pos) Γ fr Q := EvN.fresh fun σ H en Q' q =>
  SemE.of (pe_slice rSemSl_ok (semE X a) PO.congr PO.congr) (h σ H en _ fun v H1 d1 s1 x1 r1 _ => s1 σ H1 (en.ex x1) _ fun o H2 s2 x2 => s2 σ H2 (en.ex (x1.trans x2)) _ fun o' H3 s3 x3 => by
    obtain ⟨r, hr, k⟩ := s3
    exact ⟨r, hr, k v H3 Q' (r1.ex (x2.trans x3)) fun w H4 d qd x4 rw4 f4 => q w H4 d qd (((x1.trans x2).trans x3).trans x4) rw4 fun _ => f4.back ((x1.trans x2).trans x3)⟩)
theorem sl_L {xs : List D} {o o' : Option Int} (q : Q (.lst (dcut xs o o'))) : SlD X (.lst xs) o o' Q := ⟨_, sl_list, fun x H Q' r k => by
  cases r with
  | lst hq ra => exact ⟨_, _, rfl, hq, fun p hp => k _ _ _ q (Ex.new hp) (.lst (SqL.of upd_same) ((ra.ex (Ex.new hp)).cut o o')) (freshL hp Ex.refl (ra.cut o o'))⟩⟩
theorem sl_T {xs : List D} {o o' : Option Int} (q : Q (.tup (dcut xs o o'))) : SlD X (.tup xs) o o' Q := ⟨_, sl_tupA, fun x H Q' r k => by
  cases r with
  | tup hq ra =>
    refine ⟨_, _, rfl, hq, fun hw => ?_, fun hw p hp => ?_⟩
    · refine k _ _ _ q Ex.refl ?_ (FreshD.flat rfl)
      rw [ra.length] at hw
      rw [dcut_whole hw]
      exact .tup hq ra
    · exact k _ _ _ q (Ex.new hp) (.tup (SqT.of upd_same) ((ra.ex (Ex.new hp)).cut o o')) (FreshD.flat rfl)⟩
/-! calls -/
def Cl (P : Pr) (ds : List D) (Q : D → Prop) : Prop := ∃ S0, P ds S0 ∧ ∀ d, S0 d → Q d
theorem w_call {x : Str} {pn : Pos} {k k' : Nat} {P : Pr} (F : FnP X.prog X.w X.K X.mg X.base x k P) (hr : Room k' X.A) (h : EvA X Hb (e :: es) Γ fun ds => Cl P ds Q)
    (hk : k ≤ k' := by decide) (hg : Gl X x := by rfl) (hdb : (x == ("__debug__" : Str)) = false := by decide) (he : starEach (e :: es) X.env = (false, eval e X.env) :: starEach es X.env := by rfl) (hpl : (backTo pos (starEach es X.env)).any (·.1) = false := by rfl) :
    EvN X Hb (.Call (.Name x pn) (e :: es) [] pos) Γ fr Q := EvN.fresh (evn_call F hr h (fun _ z => z) hk hg hdb he hpl)
theorem w_callL {x : Str} {pn : Pos} {k k' : Nat} {P : Pr} (F : FnL X.prog X.w X.K X.mg X.base x k P) (hr : Room k' X.A) (h : EvA X Hb (e :: es) Γ fun ds => Cl P ds Q)
    (hk : k ≤ k' := by decide) (hg : Gl X x := by rfl) (hdb : (x == ("__debug__" : Str)) = false := by decide) (he : starEach (e :: es) X.env = (false, eval e X.env) :: starEach es X.env := by rfl) (hpl : (backTo pos (starEach es X.env)).any (·.1) = false := by rfl) :
    EvN X Hb (.Call (.Name x pn) (e :: es) [] pos) Γ false Q := evn_callL F hr h (fun _ z => z) hk hg hdb he hpl
/-! built-ins -/
def LenQ (ds : List D) (Q : D → Prop) : Prop := ∃ xs, (ds = [.lst xs] ∨ ds = [.tup xs]) ∧ Q (.int xs.length)
theorem lenL {xs : List D} (q : Q (.int xs.length)) : LenQ [.lst xs] Q := ⟨_, .inl rfl, q⟩
theorem lenT {xs : List D} (q : Q (.int xs.length)) : LenQ [.tup xs] Q := ⟨_, .inr rfl, q⟩
theorem lenML {α : Type} {f : α → D} {xs : List α} (q : Q (.int (xs.length : Int))) : LenQ [.lst (xs.map f)] Q := ⟨_, .inl rfl, by rw [List.length_map]; exact q⟩
theorem lenMT {α : Type} {f : α → D} {xs : List α} (q : Q (.int (xs.length : Int))) : LenQ [.tup (xs.map f)] Q := ⟨_, .inr rfl, by rw [List.length_map]; exact q⟩
section
variable {pn : Pos}
theorem w_len (hm : X.mg "len" = none) (h : EvA X Hb [a] Γ fun ds => LenQ ds Q) (hg : Gl X "len" := by rfl) (he : starEach (a :: []) X.env = (false, eval a X.env) :: starEach [] X.env := by rfl) (hpl : (backTo pos (starEach [] X.env)).any (·.1) = false := by rfl) :
    EvN X Hb (.Call (.Name "len" pn) [a] [] pos) Γ fr Q := EvN.fresh <|
  evn_B call_len_seq hm h (fun vs H ds' Q' ⟨xs, s, q⟩ r k => by
    rcases s with e | e <;> subst e
    · cases r with
      | cons r1 r2 =>
        cases r2
        cases r1 with
        | lst hq ra => exact ⟨_, _, rfl, .inl hq, by rw [ra.length]; exact k _ _ _ q Ex.refl (.int _) (FreshD.flat rfl)⟩
    · cases r with
      | cons r1 r2 =>
        cases r2
        cases r1 with
        | tup hq ra => exact ⟨_, _, rfl, .inr hq, by rw [ra.length]; exact k _ _ _ q Ex.refl (.int _) (FreshD.flat rfl)⟩) PySem.boot_len hg (by decide) (by decide) he hpl
theorem w_max2 (hm : X.mg "max" = none) (h : EvA X Hb [a, b] Γ fun ds => ∃ i j, ds = [.int i, .int j] ∧ Q (.int (max i j))) (hc : X.calm = true := by rfl) (hg : Gl X "max" := by rfl) (he : starEach (a :: [b]) X.env = (false, eval a X.env) :: starEach [b] X.env := by rfl) (hpl : (backTo pos (starEach [b] X.env)).any (·.1) = false := by rfl) :
    EvN X Hb (.Call (.Name "max" pn) [a, b] [] pos) Γ fr Q := EvN.fresh <|
  evn_B (call_max2 hc) hm h (fun vs H ds' Q s r k => by
    obtain ⟨i, j, s, q⟩ := s
    subst s
    refine ⟨i, j, r.int2, ?_⟩
    rw [show (if j > i then j else i) = max i j from by split <;> omega]
    exact k _ _ _ q Ex.refl (.int _) (FreshD.flat rfl)) (by decide +kernel) hg (by decide) (by decide) he hpl
theorem w_min2 (hm : X.mg "min" = none) (h : EvA X Hb [a, b] Γ fun ds => ∃ i j, ds = [.int i, .int j] ∧ Q (.int (min i j))) (hc : X.calm = true := by rfl) (hg : Gl X "min" := by rfl) (he : starEach (a :: [b]) X.env = (false, eval a X.env) :: starEach [b] X.env := by rfl) (hpl : (backTo pos (starEach [b] X.env)).any (·.1) = false := by rfl) :
    EvN X Hb (.Call (.Name "min" pn) [a, b] [] pos) Γ fr Q := EvN.fresh <|
  evn_B (call_min2 hc) hm h (fun vs H ds' Q s r k => by
    obtain ⟨i, j, s, q⟩ := s
    subst s
    refine ⟨i, j, r.int2, ?_⟩
    rw [show (if j < i then j else i) = min i j from by split <;> omega]
    exact k _ _ _ q Ex.refl (.int _) (FreshD.flat rfl)) (by decide +kernel) hg (by decide) (by decide) he hpl
theorem w_abs (hm : X.mg "abs" = none) (h : EvA X Hb [a] Γ fun ds => ∃ i, ds = [.int i] ∧ Q (.int (i.natAbs : Int))) (hg : Gl X "abs" := by rfl) (he : starEach (a :: []) X.env = (false, eval a X.env) :: starEach [] X.env := by rfl) (hpl : (backTo pos (starEach [] X.env)).any (·.1) = false := by rfl) :
    EvN X Hb (.Call (.Name "abs" pn) [a] [] pos) Γ fr Q := EvN.fresh <|
  evn_B call_abs hm h (fun vs H ds' Q s r k => by
    obtain ⟨i, s, q⟩ := s
    subst s
    refine ⟨i, r.int1, ?_⟩
    rw [show (if i < 0 then -i else i) = (i.natAbs : Int) from by split <;> omega]
    exact k _ _ _ q Ex.refl (.int _) (FreshD.flat rfl)) (by decide +kernel) hg (by decide) (by decide) he hpl
theorem w_toInt (hm : X.mg "int" = none) (h : EvA X Hb [a] Γ fun ds => ∃ i, ds = [.int i] ∧ Q (.int i)) (hg : Gl X "int" := by rfl) (he : starEach (a :: []) X.env = (false, eval a X.env) :: starEach [] X.env := by rfl) (hpl : (backTo pos (starEach [] X.env)).any (·.1) = false := by rfl) :
    EvN X Hb (.Call (.Name "int" pn) [a] [] pos) Γ fr Q := EvN.fresh <|
  evn_Ty call_int1 hm h (fun vs H ds' Q s r k => by
    obtain ⟨i, s, q⟩ := s
    subst s
    exact .inl ⟨i, r.int1, k _ _ _ q Ex.refl (.int _) (FreshD.flat rfl)⟩) (by decide +kernel) hg (by decide) (by decide) he hpl
/-- the greatest, the least of ints -/
theorem w_maxL (hm : X.mg "max" = none) (h : EvA X Hb [a] Γ fun ds => ∃ ns : List Int, (ds = [.lst (ns.map .int)] ∨ ds = [.tup (ns.map .int)]) ∧ ns ≠ [] ∧ ∀ m, m ∈ ns → (∀ y ∈ ns, y ≤ m) → Q (.int m)) (hc : X.calm = true := by rfl) (hg : Gl X "max" := by rfl) (he : starEach (a :: []) X.env = (false, eval a X.env) :: starEach [] X.env := by rfl) (hpl : (backTo pos (starEach [] X.env)).any (·.1) = false := by rfl) :
    EvN X Hb (.Call (.Name "max" pn) [a] [] pos) Γ fr Q := EvN.fresh fun σ H en Q' q =>
  SemE.of (pe_callB (r := fun vs H Q => (∃ (p : Addr) (ns : List Int), vs = [.ref p] ∧ SqL X.K H p (ns.map V.int) ∧ 0 < ns.length ∧ ∀ m, m ∈ ns → (∀ y ∈ ns, y ≤ m) → Q (.int m) H) ∨ (∃ (p : Addr) (ns : List Int), vs = [.ref p] ∧ SqT X.K H p (ns.map V.int) ∧ 0 < ns.length ∧ ∀ m, m ∈ ns → (∀ y ∈ ns, y ≤ m) → Q (.int m) H))
      (fun pins s σ H vs us Q I r h => by
        rcases h with ⟨p, ns, e, h1, h2, h3⟩ | ⟨p, ns, e, h1, h2, h3⟩
        · exact cr_max hc pins s σ H vs us Q I r ⟨p, ns, e, h1, h2, h3⟩
        · exact cr_maxT hc pins s σ H vs us Q I r ⟨p, ns, e, h1, fun _ => h2, fun m ⟨a, b⟩ => h3 m a b⟩) hg hm (by decide +kernel) (semA X [a]) (by decide) (by decide) he hpl) (h σ H en _ fun vs H1 ds ⟨ns, e, h0, hq⟩ x1 r => by
    rcases e with e | e <;> subst e
    · obtain ⟨p, ws, e, h2, ra⟩ := r.lst1
      rw [ra.ints] at h2
      exact .inl ⟨p, ns, e, h2, List.length_pos_iff.mpr h0, fun m h3 h4 => q _ _ _ (hq m h3 h4) x1 (.int _) fun _ => FreshD.flat rfl⟩
    · obtain ⟨p, ws, e, h2, ra⟩ := r.tup1
      rw [ra.ints] at h2
      exact .inr ⟨p, ns, e, h2, List.length_pos_iff.mpr h0, fun m h3 h4 => q _ _ _ (hq m h3 h4) x1 (.int _) fun _ => FreshD.flat rfl⟩)
theorem w_minL (hm : X.mg "min" = none) (h : EvA X Hb [a] Γ fun ds => ∃ ns : List Int, (ds = [.lst (ns.map .int)] ∨ ds = [.tup (ns.map .int)]) ∧ ns ≠ [] ∧ ∀ m, m ∈ ns → (∀ y ∈ ns, m ≤ y) → Q (.int m)) (hc : X.calm = true := by rfl) (hg : Gl X "min" := by rfl) (he : starEach (a :: []) X.env = (false, eval a X.env) :: starEach [] X.env := by rfl) (hpl : (backTo pos (starEach [] X.env)).any (·.1) = false := by rfl) :
    EvN X Hb (.Call (.Name "min" pn) [a] [] pos) Γ fr Q := EvN.fresh fun σ H en Q' q =>
  SemE.of (pe_callB (r := fun vs H Q => (∃ (p : Addr) (ns : List Int), vs = [.ref p] ∧ SqL X.K H p (ns.map V.int) ∧ 0 < ns.length ∧ ∀ m, m ∈ ns → (∀ y ∈ ns, m ≤ y) → Q (.int m) H) ∨ (∃ (p : Addr) (ns : List Int), vs = [.ref p] ∧ SqT X.K H p (ns.map V.int) ∧ 0 < ns.length ∧ ∀ m, m ∈ ns → (∀ y ∈ ns, m ≤ y) → Q (.int m) H))
      (fun pins s σ H vs us Q I r h => by
        rcases h with ⟨p, ns, e, h1, h2, h3⟩ | ⟨p, ns, e, h1, h2, h3⟩
        · exact cr_min hc pins s σ H vs us Q I r ⟨p, ns, e, h1, h2, h3⟩
        · exact cr_minT hc pins s σ H vs us Q I r ⟨p, ns, e, h1, fun _ => h2, fun m ⟨a, b⟩ => h3 m a b⟩) hg hm (by decide +kernel) (semA X [a]) (by decide) (by decide) he hpl) (h σ H en _ fun vs H1 ds ⟨ns, e, h0, hq⟩ x1 r => by
    rcases e with e | e <;> subst e
    · obtain ⟨p, ws, e, h2, ra⟩ := r.lst1
      rw [ra.ints] at h2
      exact .inl ⟨p, ns, e, h2, List.length_pos_iff.mpr h0, fun m h3 h4 => q _ _ _ (hq m h3 h4) x1 (.int _) fun _ => FreshD.flat rfl⟩
    · obtain ⟨p, ws, e, h2, ra⟩ := r.tup1
      rw [ra.ints] at h2
      exact .inr ⟨p, ns, e, h2, List.length_pos_iff.mpr h0, fun m h3 h4 => q _ _ _ (hq m h3 h4) x1 (.int _) fun _ => FreshD.flat rfl⟩)
theorem w_list (hm : X.mg "list" = none) (h : EvA X Hb [a] Γ fun ds => ∃ xs, (ds = [.lst xs] ∨ ds = [.tup xs]) ∧ Q (.lst xs)) (hg : Gl X "list" := by rfl) (he : starEach (a :: []) X.env = (false, eval a X.env) :: starEach [] X.env := by rfl) (hpl : (backTo pos (starEach [] X.env)).any (·.1) = false := by rfl) :
    EvN X Hb (.Call (.Name "list" pn) [a] [] pos) Γ fr Q := EvN.fresh <|
  evn_Ty call_list_of hm h (fun vs H ds' Q s r k => by
    obtain ⟨xs, s, q⟩ := s
    rcases s with e | e <;> subst e
    · obtain ⟨p, ws, e, hq, ra⟩ := r.lst1
      exact ⟨_, _, e, .inl hq, fun l hl => k _ _ _ q (Ex.new hl) (.lst (SqL.of upd_same) (ra.ex (Ex.new hl))) (freshL hl Ex.refl ra)⟩
    · obtain ⟨p, ws, e, hq, ra⟩ := r.tup1
      exact ⟨_, _, e, .inr hq, fun l hl => k _ _ _ q (Ex.new hl) (.lst (SqL.of upd_same) (ra.ex (Ex.new hl))) (freshL hl Ex.refl ra)⟩) (by decide +kernel) hg (by decide) (by decide) he hpl
theorem w_tuple (hm : X.mg "tuple" = none) (h : EvA X Hb [a] Γ fun ds => ∃ xs, ds = [.lst xs] ∧ Q (.tup xs)) (hg : Gl X "tuple" := by rfl) (he : starEach (a :: []) X.env = (false, eval a X.env) :: starEach [] X.env := by rfl) (hpl : (backTo pos (starEach [] X.env)).any (·.1) = false := by rfl) :
    EvN X Hb (.Call (.Name "tuple" pn) [a] [] pos) Γ fr Q := EvN.fresh <|
  evn_Ty call_tuple_of hm h (fun vs H ds' Q s r k => by
    obtain ⟨xs, s, q⟩ := s
    subst s
    obtain ⟨p, ws, e, hq, ra⟩ := r.lst1
    exact ⟨p, ws, e, .inl ⟨hq, fun l hl => k _ _ _ q (Ex.new hl) (.tup (SqT.of upd_same) (ra.ex (Ex.new hl))) (FreshD.flat rfl)⟩⟩) (by decide +kernel) hg (by decide) (by decide) he hpl
theorem w_repr (hg : X.A.guards = some []) {k : Nat} (hr : Room k X.A) (hm : X.mg "repr" = none) (h : EvA X Hb [a] Γ fun ds => ∃ d, ds = [d] ∧ Sh 40 10000000 d ∧ Q (.str (reprD d))) (hgl : Gl X "repr" := by rfl) (he : starEach (a :: []) X.env = (false, eval a X.env) :: starEach [] X.env := by rfl) (hpl : (backTo pos (starEach [] X.env)).any (·.1) = false := by rfl) :
    EvN X Hb (.Call (.Name "repr" pn) [a] [] pos) Γ fr Q := EvN.fresh <|
  evn_B (call_reprD hg hr.units) hm h (fun vs H ds Q ⟨d, e1, s, q⟩ r k => by
    subst e1
    cases r with
    | cons r1 r2 =>
      cases r2
      exact ⟨_, d, rfl, r1, s, k _ _ _ q Ex.refl (.str _) (FreshD.flat rfl)⟩) boot_repr hgl (by decide) (by decide) he hpl
end
end
end L3

namespace L3
open PySem PySem.Spec PyProof.Rows L2
/-- a name whose list is to be changed -/
structure Own (x : Str) : Prop where
inductive OwnIf : Bool → Str → Prop
  | t {x : Str} : Own x → OwnIf true x
  | f {x : Str} : OwnIf false x
theorem Look.z' {N : List Str} {Γ : Slots} {x y : Str} {e : Ent} (h : y = x) : Look (y :: N) (e :: Γ) x e := by subst h; exact .z
inductive Has : List Str → Str → Prop
  | z {N : List Str} {x y : Str} (h : y = x) : Has (y :: N) x
  | s {N : List Str} {x y : Str} : Has N x → Has (y :: N) x
theorem Has.ix : ∀ {N : List Str} {x : Str}, Has N x → ∃ i : Nat, N[i]? = some x
  | _, _, .z h => ⟨0, by rw [h]; rfl⟩
  | _, _, .s h => let ⟨i, a⟩ := Has.ix h; ⟨i + 1, by simpa using a⟩
theorem Up.z' {N : List Str} {Γ : Slots} {x y : Str} {e e' : Ent} (h : y = x) : Up (y :: N) (e' :: Γ) x e (e :: Γ) := by subst h; exact .z
def Up1 (N : List Str) (Γ : Slots) (x : Str) (e : Ent) (k : Slots → Prop) : Prop := ∃ Γ', Up N Γ x e Γ' ∧ k Γ'
theorem up1 {N : List Str} {Γ Γ' : Slots} {x : Str} {e : Ent} {k : Slots → Prop} (hu : Up N Γ x e Γ') (g : k Γ') : Up1 N Γ x e k := ⟨Γ', hu, g⟩
def StoreD (own : Bool) (N : List Str) (Γ : Slots) (xn : Str) (d : D) (k : Slots → Prop) : Prop :=
  (own = false ∧ Sto Γ d ∧ Up1 N Γ xn (.dat d) k) ∨ (own = true ∧ ∃ ds, d = .lst ds ∧ D.flatAll ds = true ∧ ∀ p, Up1 N Γ xn (.own p ds) k) ∨ (own = true ∧ ∃ ds, d = .dct ds ∧ D.flatKV ds = true ∧ ∀ p, Up1 N Γ xn (.ownD p ds) k)
theorem sto_dat {N : List Str} {Γ : Slots} {xn : Str} {d : D} {k : Slots → Prop} (h : Up1 N Γ xn (.dat d) k) (hs : Sto Γ d) : StoreD false N Γ xn d k := .inl ⟨rfl, hs, h⟩
theorem sto_own {N : List Str} {Γ : Slots} {xn : Str} {ds : List D} {k : Slots → Prop} (h : ∀ p, Up1 N Γ xn (.own p ds) k) (hf : D.flatAll ds = true) : StoreD true N Γ xn (.lst ds) k := .inr (.inl ⟨rfl, ds, rfl, hf, h⟩)
theorem sto_ownD {N : List Str} {Γ : Slots} {xn : Str} {ds : List (Key × D)} {k : Slots → Prop} (h : ∀ p, Up1 N Γ xn (.ownD p ds) k) (hf : D.flatKV ds = true) : StoreD true N Γ xn (.dct ds) k := .inr (.inr ⟨rfl, ds, rfl, hf, h⟩)
theorem nodup_ix {N : List Str} (nd : N.Nodup) {i j : Nat} {x : Str} (h1 : N[i]? = some x) (h2 : N[j]? = some x) : i = j := by
  have hi : i < N.length := (List.getElem?_eq_some_iff.mp h1).1
  exact (List.getElem?_inj hi nd).mp (h1.trans h2.symm)
theorem StoreD.ok {K : PySem.W.Frag} {Hb H H' : Hp} {Γ : Slots} {σ : L2.St} {own : Bool} {N : List Str} (nd : N.Nodup) {i : Nat} {xn : Str} (hi : N[i]? = some xn) {v : V} {d : D} {k : Slots → Prop} (en : EnvOk K Hb Γ σ H) (x : Ex H H') (r : Rep K H' v d) (f : own = true → FreshD K H H' v d) (h : StoreD own N Γ xn d k) :
    ∃ Γ', k Γ' ∧ EnvOk K Hb Γ' (σ.set i (some v)) H' := by
  rcases h with ⟨rfl, hs, Γ', hu, g⟩ | ⟨rfl, ds, rfl, hf, h⟩ | ⟨rfl, ds, rfl, hf, h⟩
  · obtain ⟨j, hj, rfl⟩ := hu.ix
    have := nodup_ix nd hi hj
    subst this
    exact ⟨_, g, (en.ex x).setDat r hs⟩
  · obtain ⟨p, vs, rfl, hp, hl, ra⟩ := f rfl
    obtain ⟨Γ', hu, g⟩ := h p
    obtain ⟨j, hj, rfl⟩ := hu.ix
    have := nodup_ix nd hi hj
    subst this
    exact ⟨_, g, en.setOwn hp x hl ra hf⟩
  · obtain ⟨p, vs, rfl, hp, hl, ra⟩ := f rfl
    obtain ⟨Γ', hu, g⟩ := h p
    obtain ⟨j, hj, rfl⟩ := hu.ix
    have := nodup_ix nd hi hj
    subst this
    exact ⟨_, g, en.setOwnD hp x hl ra hf⟩
section
variable {X : Cx} {Hb Hb' : Hp} {a b c e : Expr} {es : List Expr} {Γ Γ' : Slots} {pos p' p2 apos cpos : Pos} {d x y : D} {ds : List D} {Q S S' : D → Prop} {fr : Bool} {D0 : Ends} {rest sts : List Stmt} {st : Stmt} {e0 e1 e2 e3 : Ent}
/-- x = e -/
theorem s_set {own : Bool} {xn : Str} (_ho : OwnIf own xn) (h : EvN X Hb e Γ own fun d => StoreD own X.N Γ xn d fun Γ' => Go X Hb rest D0 Γ') (nd : X.N.Nodup) (hL : Has X.N xn) (hx : Loc X.env.scope xn := by first | exact Or.inl rfl | exact Or.inr rfl)
    (hsw : swapsWith e (some (.Name xn p')) pos.line X.env = pure false := by rfl) (hf : X.fn xn = true ∨ X.env.scope.names.lookup xn = some .local := by first | exact .inl rfl | exact .inr rfl) : Go X Hb (.Assign [.Name xn p'] e pos :: rest) D0 Γ := fun σ H en => by
  obtain ⟨i, hi⟩ := hL.ix
  exact SemSs.cons (ps_set nd hi hx (semE X e) hsw hf) (h σ H en _ fun v H' d s x r f => by
    obtain ⟨Γ', g, en'⟩ := s.ok nd hi en x r f
    exact g _ H' en')
/-- x, y = a, b, plain locals -/
theorem s_par {o1 o2 : Bool} {xn yn : Str} {px py pt : Pos} {kt k2 : Nat} {pt2 : Pos} (_h1 : OwnIf o1 xn) (_h2 : OwnIf o2 yn) (h : EvN X Hb a Γ o1 fun d1 => EvN X Hb b Γ o2 fun d2 => StoreD o1 X.N Γ xn d1 fun Γ1 => StoreD o2 X.N Γ1 yn d2 fun Γ2 => Go X Hb rest D0 Γ2)
    (nd : X.N.Nodup) (hL : Has X.N xn) (hL2 : Has X.N yn) (hne : xn ≠ yn) (hw : swappedStores [.Tuple [.Name xn px, .Name yn py] kt pt] (.Tuple [a, b] k2 pt2) X.env = pure (some [xn, yn])) (hc : X.calm = true := by rfl)
    (hx : X.env.scope.names.lookup xn = some .local := by rfl) (hy : X.env.scope.names.lookup yn = some .local := by rfl)
    (hsw : swapsWithSole [.Tuple [.Name xn px, .Name yn py] kt pt] (.Tuple [a, b] k2 pt2) pos.line X.env = pure false := by rfl) (hs : starEach (a :: [b]) X.env = (false, eval a X.env) :: starEach [b] X.env := by rfl) (hs2 : starEach (b :: []) X.env = (false, eval b X.env) :: starEach [] X.env := by rfl) :
    Go X Hb (.Assign [.Tuple [.Name xn px, .Name yn py] kt pt] (.Tuple [a, b] k2 pt2) pos :: rest) D0 Γ := fun σ H en => by
  obtain ⟨i, hi⟩ := hL.ix
  obtain ⟨j, hj⟩ := hL2.ix
  have hij : i ≠ j := fun z => by subst z; rw [hi] at hj; exact hne (Option.some.inj hj)
  refine SemSs.cons (ps_par hc nd hi hj hij hx hy (pa_cons (semE X a) (pa_cons (semE X b) pa_nil hs2) hs) hw hsw) (h σ H en _ fun v1 H1 d1 s1 x1 r1 f1 => s1 σ H1 (en.ex x1) _ fun v2 H2 d2 s2 x2 r2 f2 => ?_)
  obtain ⟨Γ1, g1, en1⟩ := s2.ok nd hi en x1 r1 f1
  obtain ⟨Γ2, g2, en2⟩ := g1.ok nd hj en1 x2 r2 f2
  exact ⟨_, _, rfl, g2 _ H2 en2⟩
theorem s_par3 {o1 o2 o3 : Bool} {xn yn zn : Str} {px py pz pt : Pos} {kt k2 : Nat} {pt2 : Pos} (_h1 : OwnIf o1 xn) (_h2 : OwnIf o2 yn) (_h3 : OwnIf o3 zn) (h : EvN X Hb a Γ o1 fun d1 => EvN X Hb b Γ o2 fun d2 => EvN X Hb c Γ o3 fun d3 => StoreD o1 X.N Γ xn d1 fun Γ1 => StoreD o2 X.N Γ1 yn d2 fun Γ2 => StoreD o3 X.N Γ2 zn d3 fun Γ3 => Go X Hb rest D0 Γ3)
    (nd : X.N.Nodup) (hL : Has X.N xn) (hL2 : Has X.N yn) (hL3 : Has X.N zn) (hne : xn ≠ yn ∧ xn ≠ zn ∧ yn ≠ zn) (hw : swappedStores [.Tuple [.Name xn px, .Name yn py, .Name zn pz] kt pt] (.Tuple [a, b, c] k2 pt2) X.env = pure (some [xn, yn, zn])) (hc : X.calm = true := by rfl)
    (hx : X.env.scope.names.lookup xn = some .local := by rfl) (hy : X.env.scope.names.lookup yn = some .local := by rfl) (hz : X.env.scope.names.lookup zn = some .local := by rfl)
    (hsw : swapsWithSole [.Tuple [.Name xn px, .Name yn py, .Name zn pz] kt pt] (.Tuple [a, b, c] k2 pt2) pos.line X.env = pure false := by rfl) (hs : starEach (a :: [b, c]) X.env = (false, eval a X.env) :: starEach [b, c] X.env := by rfl) (hs2 : starEach (b :: [c]) X.env = (false, eval b X.env) :: starEach [c] X.env := by rfl) (hs3 : starEach (c :: []) X.env = (false, eval c X.env) :: starEach [] X.env := by rfl) :
    Go X Hb (.Assign [.Tuple [.Name xn px, .Name yn py, .Name zn pz] kt pt] (.Tuple [a, b, c] k2 pt2) pos :: rest) D0 Γ := fun σ H en => by
  obtain ⟨i, hi⟩ := hL.ix
  obtain ⟨j, hj⟩ := hL2.ix
  obtain ⟨l, hl⟩ := hL3.ix
  have hij : i ≠ j := fun z => by subst z; rw [hi] at hj; exact hne.1 (Option.some.inj hj)
  have hil : i ≠ l := fun z => by subst z; rw [hi] at hl; exact hne.2.1 (Option.some.inj hl)
  have hjl : j ≠ l := fun z => by subst z; rw [hj] at hl; exact hne.2.2 (Option.some.inj hl)
  refine SemSs.cons (ps_par3 hc nd hi hj hl hij hil hjl hx hy hz (pa_cons (semE X a) (pa_cons (semE X b) (pa_cons (semE X c) pa_nil hs3) hs2) hs) hw hsw) (h σ H en _ fun v1 H1 d1 s1 x1 r1 f1 => s1 σ H1 (en.ex x1) _ fun v2 H2 d2 s2 x2 r2 f2 => s2 σ H2 (en.ex (x1.trans x2)) _ fun v3 H3 d3 s3 x3 r3 f3 => ?_)
  obtain ⟨Γ1, g1, en1⟩ := s3.ok nd hi en x1 r1 f1
  obtain ⟨Γ2, g2, en2⟩ := g1.ok nd hj en1 x2 r2 f2
  obtain ⟨Γ3, g3, en3⟩ := g2.ok nd hl en2 x3 r3 f3
  exact ⟨_, _, _, rfl, g3 _ H3 en3⟩
/-- the same where a name is a cell, or more than three -/
theorem s_tup2 {o1 o2 : Bool} {xn yn : Str} {px py pt : Pos} {kt k2 : Nat} {pt2 : Pos} (_h1 : OwnIf o1 xn) (_h2 : OwnIf o2 yn) (h : EvN X Hb a Γ o1 fun d1 => EvN X Hb b Γ o2 fun d2 => StoreD o1 X.N Γ xn d1 fun Γ1 => StoreD o2 X.N Γ1 yn d2 fun Γ2 => Go X Hb rest D0 Γ2)
    (nd : X.N.Nodup) (hL : Has X.N xn) (hL2 : Has X.N yn) (hw : swappedStores [.Tuple [.Name xn px, .Name yn py] kt pt] (.Tuple [a, b] k2 pt2) X.env = pure none := by rfl) (hc : X.calm = true := by rfl)
    (hx : Loc X.env.scope xn := by first | exact Or.inl rfl | exact Or.inr rfl) (hy : Loc X.env.scope yn := by first | exact Or.inl rfl | exact Or.inr rfl)
    (hf : X.fn xn = true ∨ X.env.scope.names.lookup xn = some .local := by first | exact .inl rfl | exact .inr rfl) (hf2 : X.fn yn = true ∨ X.env.scope.names.lookup yn = some .local := by first | exact .inl rfl | exact .inr rfl)
    (hn : (assignEach [.Name xn px, .Name yn py] X.env).length = 2 := by rfl) (hst : (assignEach [.Name xn px, .Name yn py] X.env).findIdx? (·.1) = none := by rfl)
    (hz1 : (assignEach (.Name xn px :: [.Name yn py]) X.env).map (·.2) = assign (.Name xn px) X.env :: (assignEach [.Name yn py] X.env).map (·.2) := by rfl) (hz2 : (assignEach (.Name yn py :: []) X.env).map (·.2) = assign (.Name yn py) X.env :: (assignEach [] X.env).map (·.2) := by rfl)
    (hsw : swapsWithSole [.Tuple [.Name xn px, .Name yn py] kt pt] (.Tuple [a, b] k2 pt2) pos.line X.env = pure false := by rfl) (h1 : (assignEach [.Tuple [.Name xn px, .Name yn py] kt pt] X.env).map (·.2) = [assign (.Tuple [.Name xn px, .Name yn py] kt pt) X.env] := by rfl)
    (hs : starEach (a :: [b]) X.env = (false, eval a X.env) :: starEach [b] X.env := by rfl) (hs2 : starEach (b :: []) X.env = (false, eval b X.env) :: starEach [] X.env := by rfl) :
    Go X Hb (.Assign [.Tuple [.Name xn px, .Name yn py] kt pt] (.Tuple [a, b] k2 pt2) pos :: rest) D0 Γ := fun σ H en => by
  obtain ⟨i, hi⟩ := hL.ix
  obtain ⟨j, hj⟩ := hL2.ix
  refine SemSs.cons (ps_asg (pe_tup (pa_cons (semE X a) (pa_cons (semE X b) pa_nil hs2) hs)) (pg_tup hc (pgs_cons (pg_name nd hi hx hf) (pgs_cons (pg_name nd hj hy hf2) pgs_nil hz2) hz1) hn hst) hsw hw h1) (h σ H en _ fun v1 H1 d1 s1 x1 r1 f1 => s1 σ H1 (en.ex x1) _ fun v2 H2 d2 s2 x2 r2 f2 => ⟨by show 2 ≤ sizeLine; decide, fun T hT => ?_⟩)
  obtain ⟨Γ1, g1, en1⟩ := s2.ok nd hi en x1 r1 f1
  obtain ⟨Γ2, g2, en2⟩ := g1.ok nd hj en1 x2 r2 f2
  exact ⟨T, _, rfl, SqT.of upd_same, rfl, _, _, rfl, _, _, rfl, rfl, g2 _ _ (en2.ex (Ex.new hT))⟩
theorem s_tup3 {o1 o2 o3 : Bool} {xn yn zn : Str} {px py pz pt : Pos} {kt k2 : Nat} {pt2 : Pos} (_h1 : OwnIf o1 xn) (_h2 : OwnIf o2 yn) (_h3 : OwnIf o3 zn) (h : EvN X Hb a Γ o1 fun d1 => EvN X Hb b Γ o2 fun d2 => EvN X Hb c Γ o3 fun d3 => StoreD o1 X.N Γ xn d1 fun Γ1 => StoreD o2 X.N Γ1 yn d2 fun Γ2 => StoreD o3 X.N Γ2 zn d3 fun Γ3 => Go X Hb rest D0 Γ3)
    (nd : X.N.Nodup) (hL : Has X.N xn) (hL2 : Has X.N yn) (hL3 : Has X.N zn) (hw : swappedStores [.Tuple [.Name xn px, .Name yn py, .Name zn pz] kt pt] (.Tuple [a, b, c] k2 pt2) X.env = pure none := by rfl) (hc : X.calm = true := by rfl)
    (hx : Loc X.env.scope xn := by first | exact Or.inl rfl | exact Or.inr rfl) (hy : Loc X.env.scope yn := by first | exact Or.inl rfl | exact Or.inr rfl) (hz : Loc X.env.scope zn := by first | exact Or.inl rfl | exact Or.inr rfl)
    (hf : X.fn xn = true ∨ X.env.scope.names.lookup xn = some .local := by first | exact .inl rfl | exact .inr rfl) (hf2 : X.fn yn = true ∨ X.env.scope.names.lookup yn = some .local := by first | exact .inl rfl | exact .inr rfl) (hf3 : X.fn zn = true ∨ X.env.scope.names.lookup zn = some .local := by first | exact .inl rfl | exact .inr rfl)
    (hn : (assignEach [.Name xn px, .Name yn py, .Name zn pz] X.env).length = 3 := by rfl) (hst : (assignEach [.Name xn px, .Name yn py, .Name zn pz] X.env).findIdx? (·.1) = none := by rfl)
    (hz1 : (assignEach (.Name xn px :: [.Name yn py, .Name zn pz]) X.env).map (·.2) = assign (.Name xn px) X.env :: (assignEach [.Name yn py, .Name zn pz] X.env).map (·.2) := by rfl) (hz2 : (assignEach (.Name yn py :: [.Name zn pz]) X.env).map (·.2) = assign (.Name yn py) X.env :: (assignEach [.Name zn pz] X.env).map (·.2) := by rfl) (hz3 : (assignEach (.Name zn pz :: []) X.env).map (·.2) = assign (.Name zn pz) X.env :: (assignEach [] X.env).map (·.2) := by rfl)
    (hsw : swapsWithSole [.Tuple [.Name xn px, .Name yn py, .Name zn pz] kt pt] (.Tuple [a, b, c] k2 pt2) pos.line X.env = pure false := by rfl) (h1 : (assignEach [.Tuple [.Name xn px, .Name yn py, .Name zn pz] kt pt] X.env).map (·.2) = [assign (.Tuple [.Name xn px, .Name yn py, .Name zn pz] kt pt) X.env] := by rfl)
    (hs : starEach (a :: [b, c]) X.env = (false, eval a X.env) :: starEach [b, c] X.env := by rfl) (hs2 : starEach (b :: [c]) X.env = (false, eval b X.env) :: starEach [c] X.env := by rfl) (hs3 : starEach (c :: []) X.env = (false, eval c X.env) :: starEach [] X.env := by rfl) :
    Go X Hb (.Assign [.Tuple [.Name xn px, .Name yn py, .Name zn pz] kt pt] (.Tuple [a, b, c] k2 pt2) pos :: rest) D0 Γ := fun σ H en => by
  obtain ⟨i, hi⟩ := hL.ix
  obtain ⟨j, hj⟩ := hL2.ix
  obtain ⟨l, hl⟩ := hL3.ix
  refine SemSs.cons (ps_asg (pe_tup (pa_cons (semE X a) (pa_cons (semE X b) (pa_cons (semE X c) pa_nil hs3) hs2) hs)) (pg_tup hc (pgs_cons (pg_name nd hi hx hf) (pgs_cons (pg_name nd hj hy hf2) (pgs_cons (pg_name nd hl hz hf3) pgs_nil hz3) hz2) hz1) hn hst) hsw hw h1) (h σ H en _ fun v1 H1 d1 s1 x1 r1 f1 => s1 σ H1 (en.ex x1) _ fun v2 H2 d2 s2 x2 r2 f2 => s2 σ H2 (en.ex (x1.trans x2)) _ fun v3 H3 d3 s3 x3 r3 f3 => ⟨by show 3 ≤ sizeLine; decide, fun T hT => ?_⟩)
  obtain ⟨Γ1, g1, en1⟩ := s3.ok nd hi en x1 r1 f1
  obtain ⟨Γ2, g2, en2⟩ := g1.ok nd hj en1 x2 r2 f2
  obtain ⟨Γ3, g3, en3⟩ := g2.ok nd hl en2 x3 r3 f3
  exact ⟨T, _, rfl, SqT.of upd_same, rfl, _, _, rfl, _, _, rfl, _, _, rfl, rfl, g3 _ _ (en3.ex (Ex.new hT))⟩
/-- x, y = e, a tuple -/
theorem s_unp2 {xn yn : Str} {px py pt : Pos} {kt : Nat} (h : EvN X Hb e Γ false fun d => ∃ d1 d2, d = .tup [d1, d2] ∧ StoreD false X.N Γ xn d1 fun Γ1 => StoreD false X.N Γ1 yn d2 fun Γ2 => Go X Hb rest D0 Γ2)
    (nd : X.N.Nodup) (hL : Has X.N xn) (hL2 : Has X.N yn) (hw : swappedStores [.Tuple [.Name xn px, .Name yn py] kt pt] e X.env = pure none := by rfl) (hc : X.calm = true := by rfl)
    (hx : Loc X.env.scope xn := by first | exact Or.inl rfl | exact Or.inr rfl) (hy : Loc X.env.scope yn := by first | exact Or.inl rfl | exact Or.inr rfl)
    (hf : X.fn xn = true ∨ X.env.scope.names.lookup xn = some .local := by first | exact .inl rfl | exact .inr rfl) (hf2 : X.fn yn = true ∨ X.env.scope.names.lookup yn = some .local := by first | exact .inl rfl | exact .inr rfl)
    (hn : (assignEach [.Name xn px, .Name yn py] X.env).length = 2 := by rfl) (hst : (assignEach [.Name xn px, .Name yn py] X.env).findIdx? (·.1) = none := by rfl)
    (hz1 : (assignEach (.Name xn px :: [.Name yn py]) X.env).map (·.2) = assign (.Name xn px) X.env :: (assignEach [.Name yn py] X.env).map (·.2) := by rfl) (hz2 : (assignEach (.Name yn py :: []) X.env).map (·.2) = assign (.Name yn py) X.env :: (assignEach [] X.env).map (·.2) := by rfl)
    (hsw : swapsWithSole [.Tuple [.Name xn px, .Name yn py] kt pt] e pos.line X.env = pure false := by rfl) (h1 : (assignEach [.Tuple [.Name xn px, .Name yn py] kt pt] X.env).map (·.2) = [assign (.Tuple [.Name xn px, .Name yn py] kt pt) X.env] := by rfl) :
    Go X Hb (.Assign [.Tuple [.Name xn px, .Name yn py] kt pt] e pos :: rest) D0 Γ := fun σ H en => by
  obtain ⟨i, hi⟩ := hL.ix
  obtain ⟨j, hj⟩ := hL2.ix
  refine SemSs.cons (ps_asg (semE X e) (pg_tup hc (pgs_cons (pg_name nd hi hx hf) (pgs_cons (pg_name nd hj hy hf2) pgs_nil hz2) hz1) hn hst) hsw hw h1) (h σ H en _ fun v1 H1 d1 ⟨da, db, ed, s⟩ x1 r1 _ => ?_)
  subst ed
  cases r1 with
  | tup hq ra =>
    cases ra with
    | cons ra rr =>
      cases rr with
      | cons rb rr =>
        cases rr
        obtain ⟨Γ1, g1, en1⟩ := s.ok (own := false) nd hi en x1 ra fun z => nomatch z
        obtain ⟨Γ2, g2, en2⟩ := g1.ok (own := false) nd hj en1 Ex.refl rb fun z => nomatch z
        exact ⟨_, _, rfl, hq, rfl, _, _, rfl, _, _, rfl, rfl, g2 _ _ en2⟩
theorem s_unp3 {xn yn zn : Str} {px py pz pt : Pos} {kt : Nat} (h : EvN X Hb e Γ false fun d => ∃ d1 d2 d3, d = .tup [d1, d2, d3] ∧ StoreD false X.N Γ xn d1 fun Γ1 => StoreD false X.N Γ1 yn d2 fun Γ2 => StoreD false X.N Γ2 zn d3 fun Γ3 => Go X Hb rest D0 Γ3)
    (nd : X.N.Nodup) (hL : Has X.N xn) (hL2 : Has X.N yn) (hL3 : Has X.N zn) (hw : swappedStores [.Tuple [.Name xn px, .Name yn py, .Name zn pz] kt pt] e X.env = pure none := by rfl) (hc : X.calm = true := by rfl)
    (hx : Loc X.env.scope xn := by first | exact Or.inl rfl | exact Or.inr rfl) (hy : Loc X.env.scope yn := by first | exact Or.inl rfl | exact Or.inr rfl) (hz : Loc X.env.scope zn := by first | exact Or.inl rfl | exact Or.inr rfl)
    (hf : X.fn xn = true ∨ X.env.scope.names.lookup xn = some .local := by first | exact .inl rfl | exact .inr rfl) (hf2 : X.fn yn = true ∨ X.env.scope.names.lookup yn = some .local := by first | exact .inl rfl | exact .inr rfl) (hf3 : X.fn zn = true ∨ X.env.scope.names.lookup zn = some .local := by first | exact .inl rfl | exact .inr rfl)
    (hn : (assignEach [.Name xn px, .Name yn py, .Name zn pz] X.env).length = 3 := by rfl) (hst : (assignEach [.Name xn px, .Name yn py, .Name zn pz] X.env).findIdx? (·.1) = none := by rfl)
    (hz1 : (assignEach (.Name xn px :: [.Name yn py, .Name zn pz]) X.env).map (·.2) = assign (.Name xn px) X.env :: (assignEach [.Name yn py, .Name zn pz] X.env).map (·.2) := by rfl) (hz2 : (assignEach (.Name yn py :: [.Name zn pz]) X.env).map (·.2) = assign (.Name yn py) X.env :: (assignEach [.Name zn pz] X.env).map (·.2) := by rfl) (hz3 : (assignEach (.Name zn pz :: []) X.env).map (·.2) = assign (.Name zn pz) X.env :: (assignEach [] X.env).map (·.2) := by rfl)
    (hsw : swapsWithSole [.Tuple [.Name xn px, .Name yn py, .Name zn pz] kt pt] e pos.line X.env = pure false := by rfl) (h1 : (assignEach [.Tuple [.Name xn px, .Name yn py, .Name zn pz] kt pt] X.env).map (·.2) = [assign (.Tuple [.Name xn px, .Name yn py, .Name zn pz] kt pt) X.env] := by rfl) :
    Go X Hb (.Assign [.Tuple [.Name xn px, .Name yn py, .Name zn pz] kt pt] e pos :: rest) D0 Γ := fun σ H en => by
  obtain ⟨i, hi⟩ := hL.ix
  obtain ⟨j, hj⟩ := hL2.ix
  obtain ⟨l, hl⟩ := hL3.ix
  refine SemSs.cons (ps_asg (semE X e) (pg_tup hc (pgs_cons (pg_name nd hi hx hf) (pgs_cons (pg_name nd hj hy hf2) (pgs_cons (pg_name nd hl hz hf3) pgs_nil hz3) hz2) hz1) hn hst) hsw hw h1) (h σ H en _ fun v1 H1 d1 ⟨da, db, dc, ed, s⟩ x1 r1 _ => ?_)
  subst ed
  cases r1 with
  | tup hq ra =>
    cases ra with
    | cons ra rr =>
      cases rr with
      | cons rb rr =>
        cases rr with
        | cons rc rr =>
          cases rr
          obtain ⟨Γ1, g1, en1⟩ := s.ok (own := false) nd hi en x1 ra fun z => nomatch z
          obtain ⟨Γ2, g2, en2⟩ := g1.ok (own := false) nd hj en1 Ex.refl rb fun z => nomatch z
          obtain ⟨Γ3, g3, en3⟩ := g2.ok (own := false) nd hl en2 Ex.refl rc fun z => nomatch z
          exact ⟨_, _, rfl, hq, rfl, _, _, rfl, _, _, rfl, _, _, rfl, rfl, g3 _ _ en3⟩
/-- x op= e -/
theorem s_aug {xn : Str} {op : Operator} {d0 : D} (hL : Look X.N Γ xn (.dat d0)) (h : EvN X Hb e Γ false fun d => OpD X (inplaceOp op) d0 d fun z => StoreD false X.N Γ xn z fun Γ' => Go X Hb rest D0 Γ') (nd : X.N.Nodup)
    (hx : Loc X.env.scope xn := by first | exact Or.inl rfl | exact Or.inr rfl) (hf : X.fn xn = true ∨ X.env.scope.names.lookup xn = some .local := by first | exact .inl rfl | exact .inr rfl) :
    Go X Hb (.AugAssign (.Name xn p') op e pos :: rest) D0 Γ := fun σ H en => by
  obtain ⟨i, hi, hG⟩ := hL.ix
  obtain ⟨v, hσ, r0⟩ := en.dat hG
  refine SemSs.cons (ps_aug (ti := rSem X (inplaceOp op)) nd hi hx (semE X e) (fun pins s σ H x y v u Q I r1 r2 q => q pins s σ v u I r1 r2) hf) ⟨v, hσ, h σ H en _ fun w H' d s x r _ => ?_⟩
  intro pins s' σ' v' u' I r1 r2
  refine s pins s' σ' H' v w v' u' _ I r1 r2 (r0.ex x) r fun z H2 dz qz x2 rz _ => ?_
  obtain ⟨Γ', g, en'⟩ := StoreD.ok (own := false) nd hi (en.ex x) x2 rz (fun z => nomatch z) qz
  exact g _ H2 en'
theorem iop_add {i j : Int} (q : Q (.int (i + j))) : OpD X (inplaceOp .Add) (.int i) (.int j) Q := fun pins s σ H x y v u Q' I rx ry r1 r2 k => by
  cases r1; cases r2
  exact ip_add pins s σ H _ _ v u Q' I rx ry ⟨i, j, rfl, rfl, k _ H _ q Ex.refl (.int _) (FreshD.flat rfl)⟩
theorem iop_sub {i j : Int} (q : Q (.int (i - j))) : OpD X (inplaceOp .Sub) (.int i) (.int j) Q := fun pins s σ H x y v u Q' I rx ry r1 r2 k => by
  cases r1; cases r2
  exact ip_sub pins s σ H _ _ v u Q' I rx ry ⟨i, j, rfl, rfl, k _ H _ q Ex.refl (.int _) (FreshD.flat rfl)⟩
/-- x.append(e) -/
theorem s_append {p : Addr} {xn : Str} (hL : Look X.N Γ xn (.own p ds)) (h : EvN X Hb e Γ false fun d => d.flat = true ∧ Up1 X.N Γ xn (.own p (ds ++ [d])) fun Γ' => Go X Hb rest D0 Γ') (nd : X.N.Nodup) (hl : ds.length ≤ 100000)
    (hv : Vis X.env.scope xn := by first | exact Or.inl rfl | exact Or.inr (Or.inl rfl) | exact Or.inr (Or.inr rfl)) (hdb : (xn == ("__debug__" : Str)) = false := by decide) (hcd : (xn == ("__classdict__" : Str)) = false := by decide)
    (hbase : attributeBase (.Name xn p') "append" X.env (eval (.Name xn p') X.env) = eval (.Name xn p') X.env := by rfl)
    (hfew : ((backTo cpos (starEach (e :: []) X.env)).all (fun x => !x.1) && (backToKw cpos (keywordEach [] X.env)).all (fun x => x.1.isSome) && decide ((e :: []).length + ([] : List Keyword).length + (if ([] : List Keyword).isEmpty then 0 else 1) < 30)) = true := by rfl)
    (hline : (apos.endLine == cpos.line) = true := by rfl) (hs : starEach (e :: []) X.env = (false, eval e X.env) :: starEach [] X.env := by rfl) (hplain : (backTo cpos (starEach [] X.env)).any (·.1) = false := by rfl)
    (hsw : swapsWith (.Call (.Attribute (.Name xn p') "append" apos) [e] [] cpos) none pos.line X.env = pure false := by rfl) :
    Go X Hb (.Expr (.Call (.Attribute (.Name xn p') "append" apos) [e] [] cpos) pos :: rest) D0 Γ := by
  obtain ⟨i, hi, hG⟩ := hL.ix
  refine go_appendN i h hG (fun d z => z.1) hl (fun d ⟨_, Γ', hu, g⟩ => ?_) hi hv hdb hcd hbase hfew hline hs hplain hsw
  obtain ⟨j, hj, rfl⟩ := hu.ix
  have := nodup_ix nd hi hj
  subst this
  exact g
/-- return e -/
def RetD (K : PySem.W.Frag) (D0 : Ends) (Hb : Hp) (d : D) : Prop := ∀ v H', Rt K Hb d v H' → D0.rt v H'
theorem s_ret (h : EvN X Hb e Γ true fun d => RetD X.K D0 Hb d) : Go X Hb (.Return (some e) pos :: rest) D0 Γ := go_retN h fun v H' d s x r f => s v H' ⟨x, r, f rfl⟩
theorem s_retOwn {p : Addr} {xn : Str} (hL : Look X.N Γ xn (.own p ds)) (h : RetD X.K D0 Hb (.lst ds)) (hv : Vis X.env.scope xn := by first | exact Or.inl rfl | exact Or.inr (Or.inl rfl) | exact Or.inr (Or.inr rfl)) (hdb : (xn == ("__debug__" : Str)) = false := by decide)
    (hcd : (xn == ("__classdict__" : Str)) = false := by decide) : Go X Hb (.Return (some (.Name xn p')) pos :: rest) D0 Γ := by
  obtain ⟨i, hi, hG⟩ := hL.ix
  exact go_retOwn i h hG hi hv hdb hcd
theorem ret_fn {K : PySem.W.Frag} {H : Hp} (s : S d) (ex : Ex H Hb) (hD : D0.rt = fun v H' => ∃ d, S d ∧ Rt K H d v H' := by rfl) : RetD K D0 Hb d := fun v H' ⟨x, r, f⟩ => by
  rw [hD]
  exact ⟨d, s, ex.trans x, r, f.back ex⟩
theorem ret_law {K : PySem.W.Frag} (s : d = .bl true) (hD : D0.rt = fun v _ => v = .bl true := by rfl) : RetD K D0 Hb d := fun v H' ⟨x, r, f⟩ => by
  rw [hD]
  subst s
  cases r
  rfl
/-- return e, of a def whose answer need not be new -/
def RetL (K : PySem.W.Frag) (D0 : Ends) (Hb : Hp) (d : D) : Prop := ∀ v H', Ex Hb H' → Rep K H' v d → D0.rt v H'
theorem ret_fnL {K : PySem.W.Frag} {H : Hp} (s : S d) (ex : Ex H Hb) (hD : D0.rt = fun v H' => ∃ d, S d ∧ Ex H H' ∧ Rep K H' v d := by rfl) : RetL K D0 Hb d := fun v H' x r => by
  rw [hD]
  exact ⟨d, s, ex.trans x, r⟩
/-- if -/
theorem s_if {as bs : List Stmt} {k : Bool} (h : EvB X Hb c Γ k) (ha : k = true → Go X Hb as { D0 with nx := fun σ H => SemSs X rest D0 σ H } Γ) (hb : k = false → Go X Hb bs { D0 with nx := fun σ H => SemSs X rest D0 σ H } Γ) : Go X Hb (.If c as bs pos :: rest) D0 Γ := go_if h ha hb
/-- if, the answer known -/
theorem s_ifT {as bs : List Stmt} {k : Bool} (h : EvB X Hb c Γ k) (hk : k = true) (ha : Go X Hb as { D0 with nx := fun σ H => SemSs X rest D0 σ H } Γ) : Go X Hb (.If c as bs pos :: rest) D0 Γ := go_if h (fun _ => ha) fun z => by rw [hk] at z; cases z
theorem s_ifF {as bs : List Stmt} {k : Bool} (h : EvB X Hb c Γ k) (hk : k = false) (hb : Go X Hb bs { D0 with nx := fun σ H => SemSs X rest D0 σ H } Γ) : Go X Hb (.If c as bs pos :: rest) D0 Γ := go_if h (fun z => by rw [hk] at z; cases z) fun _ => hb
theorem s_pass (g : Go X Hb rest D0 Γ) : Go X Hb (.Pass pos :: rest) D0 Γ := go_pass g
theorem flat_map {α : Type} {f : α → D} (h : ∀ a, (f a).flat = true) : ∀ xs : List α, D.flatAll (xs.map f) = true
  | [] => rfl
  | x :: xs => by rw [List.map_cons]; show (D.flat (f x) && D.flatAll (xs.map f)) = true; rw [h x, flat_map h xs]; rfl
theorem flat_app : ∀ {xs ys : List D}, D.flatAll xs = true → D.flatAll ys = true → D.flatAll (xs ++ ys) = true
  | [], _, _, h => h
  | x :: xs, ys, h1, h2 => by
    have h1' : (D.flat x && D.flatAll xs) = true := h1
    obtain ⟨a, b⟩ := Bool.and_eq_true_iff.mp h1'
    show (D.flat x && D.flatAll (xs ++ ys)) = true
    rw [a, flat_app b h2]
    rfl
end
/-! loops, by the next slots -/
section
variable {X : Cx} {Hb Hb' : Hp} {a b c e : Expr} {es : List Expr} {Γ Γ' : Slots} {pos p' p2 apos cpos : Pos} {d x y : D} {ds : List D} {Q S S' : D → Prop} {fr : Bool} {D0 : Ends} {rest sts : List Stmt} {st : Stmt} {e0 e1 e2 e3 : Ent}
/-- the end of a turn, of a branch: what the slots say is kept in part -/
inductive Sub : Slots → Slots → Prop
  | nil : Sub [] []
  | keep {e : Ent} {Γ Γ' : Slots} : Sub Γ Γ' → Sub (e :: Γ) (e :: Γ')
  | drop {e : Ent} {Γ Γ' : Slots} : Sub Γ Γ' → Sub (e :: Γ) (.any :: Γ')
theorem Sub.refl : ∀ {Γ : Slots}, Sub Γ Γ
  | [] => .nil
  | _ :: _ => .keep Sub.refl
theorem Sub.eq {e e' : Ent} {Γ Γ' : Slots} (h : e = e') (r : Sub Γ Γ') : Sub (e :: Γ) (e' :: Γ') := by subst h; exact .keep r
theorem Sub.owns {Γ Γ' : Slots} (h : Sub Γ Γ') : (L3.owns Γ').Sublist (L3.owns Γ) := by
  induction h with
  | nil => exact List.Sublist.refl _
  | @keep e Γ Γ' r ih =>
    rw [owns_cons, owns_cons]
    exact List.Sublist.append (List.Sublist.refl _) ih
  | @drop e Γ Γ' r ih =>
    rw [owns_cons, owns_cons]
    exact List.sublist_append_of_sublist_right ih
theorem Sub.paired {K : PySem.W.Frag} {Hz H : Hp} : ∀ {Γ Γ' : Slots} {σ : L2.St}, Sub Γ Γ' → Paired (EntOk K Hz H) Γ σ → Paired (EntOk K Hz H) Γ' σ
  | _, _, _, .nil, h => h
  | _, _, _, .keep r, .cons h t => .cons h (Sub.paired r t)
  | _, _, _, .drop r, .cons h t => .cons trivial (Sub.paired r t)
theorem EnvOk.sub {K : PySem.W.Frag} {Hb H : Hp} {Γ Γ' : Slots} {σ : L2.St} (s : Sub Γ Γ') (h : EnvOk K Hb Γ σ H) : EnvOk K Hb Γ' σ H := by
  obtain ⟨Hz, h1, h2, h3, h4⟩ := h
  exact ⟨Hz, h1, h2, s.paired h3, List.Nodup.sublist s.owns h4⟩
theorem s_end (hD : D0.nx = fun σ H => EnvOk X.K Hb Γ' σ H := by rfl) (s : Sub Γ Γ' := by walk_at "sub") : Go X Hb [] D0 Γ := go_end (fun _ _ h => h.sub s) (by rw [hD]; exact fun _ _ h => h)
/-- join behind an if, some slots forgotten -/
theorem s_join (g : Go X Hb rest D0 Γ) : Go X Hb [] { D0 with nx := fun σ H => SemSs X rest D0 σ H } Γ := go_join g
theorem up_set {N : List Str} {Γ Γ' : Slots} {x : Str} {e : Ent} {i : Nat} (nd : N.Nodup) (hi : N[i]? = some x) (h : Up N Γ x e Γ') : Γ.set i e = Γ' := by
  obtain ⟨j, hj, rfl⟩ := h.ix
  have := nodup_ix nd hi hj
  subst this
  rfl
/-- for i in range(..), nothing carried -/
theorem s_rep {body : List Stmt} {xn : Str} {Γe : D → Slots} (SR : Int → Nat → Prop) (Γ0 : Slots) (hit : EvR X Hb e Γ SR)
    (hs : ∀ (lo : Int) (n i : Nat), SR lo n → i < n → Go X Hb body { D0 with nx := fun σ H => EnvOk X.K Hb Γ0 σ H, ct := fun σ H => EnvOk X.K Hb Γ0 σ H, bk := fun σ H => SemSs X rest D0 σ H } (Γe (.int (lo + i))))
    (hd : Go X Hb rest D0 Γ0) (h0 : Sub Γ Γ0 := by walk_at "sub") (hL : Has X.N xn := by walk_at "has") (hu : ∀ x, Up X.N Γ0 xn (.dat x) (Γe x) := by intro _; walk_at "up") (nd : X.N.Nodup := by assumption) (hp : PassesOwn (model X.prog X.w) X.A X.env X.xe := by exact PassesOwn.never) (hc : X.calm = true := by rfl) (hx : Loc X.env.scope xn := by first | exact Or.inl rfl | exact Or.inr rfl)
    (hfs : ∀ x, foldedSetIterable e X.env x = pure x := by intro _; rfl) (hf : X.fn xn = true ∨ X.env.scope.names.lookup xn = some .local := by first | exact .inl rfl | exact .inr rfl) :
    Go X Hb (.For (.Name xn p') e body [] pos :: rest) D0 Γ := by
  intro σ H en
  obtain ⟨i, hi⟩ := hL.ix
  have en0 : EnvOk X.K Hb Γ0 σ H := en.sub h0
  obtain ⟨wi, hpi, hw⟩ := hit
  refine SemSs.cons (ps_for hp hc (hpi _) (pg_name nd hi hx hf) (semSs X body) hfs) ?_
  refine hw σ H en _ fun lo n H' s x => ?_
  refine for_range (lo := lo) (n := n) (fun i σ H => EnvOk X.K Hb Γ0 σ H) (en0.ex x) ?_ ?_
  · intro j σ2 H2 hin en2
    exact hs lo n j s hin _ H2 (by rw [← up_set nd hi (hu _)]; exact en2.setDat (.int _) (.inl rfl))
  · intro σ2 H2 en2
    exact hd _ H2 en2
theorem EvI.imp {S1 S2 : List D → Prop} (h : EvI X Hb e Γ S1) (f : ∀ ds, S1 ds → S2 ds) : EvI X Hb e Γ S2 := fun σ H en Q q => h σ H en Q fun a vs H' ds s => q a vs H' ds (f ds s)
theorem wr_1 {pn : Pos} {S : Int → Nat → Prop} (hm : X.mg "range" = none) (h : EvA X Hb [a] Γ fun z => ∃ i, z = [.int i] ∧ S 0 i.toNat ∧ (-(2 ^ 62) ≤ i ∧ i < 2 ^ 62)) (hg : Gl X "range" := by rfl) (hs : starEach [a] X.env = [(false, eval a X.env)] := by rfl) :
    EvR X Hb (.Call (.Name "range" pn) [a] [] pos) Γ S :=
  (evr_1N (S1 := fun i => S 0 i.toNat ∧ (-(2 ^ 62) ≤ i ∧ i < 2 ^ 62)) h (fun i s => s.2) hm hg hs).imp fun lo n ⟨e1, i, s, e2⟩ => by rw [e1, e2]; exact s.1
end

section
variable {X : Cx} {Hb Hb' : Hp} {a b c e : Expr} {es : List Expr} {Γ Γ' : Slots} {pos p' p2 apos cpos : Pos} {d x y : D} {ds : List D} {Q S S' : D → Prop} {fr : Bool} {D0 : Ends} {rest sts : List Stmt} {st : Stmt} {e0 e1 e2 e3 : Ent}
theorem w_and1 (h : EvN X Hb a Γ fr Q) : EvN X Hb (.BoolOp .And [a] pos) Γ fr Q := ev_one h
theorem w_or1 (h : EvN X Hb a Γ fr Q) : EvN X Hb (.BoolOp .Or [a] pos) Γ fr Q := ev_one h
theorem ww_and1 {S : Bool → Prop} (h : EvT X Hb a Γ S) : EvW X Hb (.BoolOp .And [a] pos) Γ S := evw_and1 h
theorem ww_or1 {S : Bool → Prop} (h : EvT X Hb a Γ S) : EvW X Hb (.BoolOp .Or [a] pos) Γ S := evw_or1 h
theorem ww_and {k k' : Bool} {S : Bool → Prop} (h : EvB X Hb a Γ k) (hb : k = true → EvW X Hb (.BoolOp .And (b :: es) pos) Γ (· = k')) (q : S (k && k')) : EvW X Hb (.BoolOp .And (a :: b :: es) pos) Γ S := (evw_andD h hb).imp fun _ z => by rw [z]; exact q
theorem ww_or {k k' : Bool} {S : Bool → Prop} (h : EvB X Hb a Γ k) (hb : k = false → EvW X Hb (.BoolOp .Or (b :: es) pos) Γ (· = k')) (q : S (k || k')) : EvW X Hb (.BoolOp .Or (a :: b :: es) pos) Γ S := (evw_orD h hb).imp fun _ z => by rw [z]; exact q
end
end L3

namespace L3
open PySem PySem.Spec PyProof.Rows L2
/-- the place of a name -/
inductive At : List Str → Str → Nat → Prop
  | z {N : List Str} {x y : Str} (h : y = x) : At (y :: N) x 0
  | s {N : List Str} {x y : Str} {i : Nat} : At N x i → At (y :: N) x (i + 1)
theorem At.ix : ∀ {N : List Str} {x : Str} {i : Nat}, At N x i → N[i]? = some x
  | _, _, _, .z h => by rw [h]; rfl
  | _, _, _, .s h => by simpa using At.ix h
section
variable {X : Cx} {Hb Hb' : Hp} {a b c e elt iter tg : Expr} {es ifs : List Expr} {Γ Γ' : Slots} {pos p' p1 p2 p3 apos cpos : Pos} {d x y : D} {ds : List D} {Q S S' : D → Prop} {fr : Bool} {D0 : Ends} {rest sts : List Stmt} {st : Stmt} {scope : Scope} {own : List (Str × Nat)}
/-! comprehensions -/
def LcX (X : Cx) (Hb : Hp) (elt tg iter : Expr) (ifs : List Expr) (scope : Scope) (Γ : Slots) (S : D → Prop) : Prop := ∃ own, LcEv X Hb elt tg iter ifs scope own Γ S
theorem w_lc (h : LcX X Hb elt tg iter ifs scope Γ Q) : EvN X Hb (.ListComp elt [⟨tg, iter, ifs, 0⟩] scope pos) Γ fr Q := let ⟨_, h⟩ := h; EvN.fresh (LcEv.ev h)
theorem s_setLc {o : Bool} {yn : Str} {py spos : Pos} (_ho : OwnIf o yn) (h : LcX X Hb elt tg iter ifs scope Γ fun d => StoreD o X.N Γ yn d fun Γ' => Go X Hb rest D0 Γ') (hL : Has X.N yn) (hsw : swapsWith (.ListComp elt [⟨tg, iter, ifs, 0⟩] scope pos) (some (.Name yn py)) spos.line X.env = pure true)
    (hyl : X.env.scope.names.lookup yn = some .local := by rfl) : Go X Hb (.Assign [.Name yn py] (.ListComp elt [⟨tg, iter, ifs, 0⟩] scope pos) spos :: rest) D0 Γ := fun σ H en => by
  obtain ⟨i, hy⟩ := hL.ix
  obtain ⟨own, hc, nd, ok, hs, wi, g, tt, te, h1, h2, h3, h4, h5⟩ := h
  exact SemSs.cons (ps_setLc hc nd hy hyl hsw h1 ok h2 h3 h4 hs) (h5 σ H en _ fun v H' d s x r f => by
    obtain ⟨Γ', g, en'⟩ := s.ok nd hy en x r fun _ => f
    exact g _ H' en')
theorem up_wipe {N : List Str} {i : Nat} {xn : Str} (nd : N.Nodup) (hi : N[i]? = some xn) (h : Up N Γ xn (.dat d) Γ') (hs : Sto (Γ.set i .any) d) : Put (.nm i) d (wipeG Γ [i]) Γ' := by
  refine ⟨hs, ?_⟩
  obtain ⟨j, hj, rfl⟩ := h.ix
  have := nodup_ix nd hi hj
  subst this
  show _ = (Γ.set i .any).set i _
  rw [List.set_set]
theorem sto_sub (h : Sto Γ d) {i : Nat} : Sto (Γ.set i .any) d := h.imp id fun z => by
  have := owns_set_cells (Γ := Γ) (i := i) (e := .any) rfl
  rw [z] at this
  exact List.sublist_nil.mp this
/-- [elt for x in xs] -/
theorem lc1 {α : Type} {xn : Str} {Γe : α → Slots} {i : Nat} (f : α → D) (xs : List α) (g : α → D) (hit : EvJ X Hb (.Name xn p') iter Γ (· = xs.map f))
    (he : ∀ a ∈ xs, ∀ (s : Shared) (H : Hp) (C : Addr) (cl : List (Str × Addr)) (fp : List Addr), Ev (inCx X scope s H C cl fp) Hb elt (Γe a) false (g a)) (q : Q (.lst (xs.map g))) (hlen : xs.length < 100000)
    (hi : At X.N xn i := by walk_at "ati") (hu : ∀ a, Up X.N Γ xn (.dat (f a)) (Γe a) := by intro _; walk_at "up") (hst : ∀ a ∈ xs, Sto Γ (f a) := by intro _ _; walk_at "sto") (hfl : ∀ a ∈ xs, (g a).flat = true := by intro _ _; walk_at "flat1")
    (nd : X.N.Nodup := by assumption) (hc : X.calm = true := by rfl) (ok : blkC X.N X.env.scope scope [(xn, i)] = true := by walk_at "blk")
    (hg : AllIn X scope fun Y => PG Y (.Name xn p') (gName i) := by exact fun _ _ _ _ _ => pg_name (by assumption) rfl (Or.inl rfl)) (hs : ∀ x, foldedSetIterable iter X.env x = pure x := by intro _; rfl) :
    LcX X Hb elt (.Name xn p') iter [] scope Γ Q := by
  refine ⟨_, (lcJ (own := [(xn, i)]) (.nm i) f (fun a z => z = g a ∧ z.flat = true) xs Γe hit (fun a ha => up_wipe nd hi.ix (hu a) (sto_sub (hst a ha))) (fun a ha s H C cl fp => (he a ha s H C cl fp).imp fun z e => ⟨e, by rw [e]; exact hfl a ha⟩) (fun a d s => s.2) hlen hc nd (blkOk_by ok) (fun j m => m) hg hs).imp ?_⟩
  rintro z ⟨ys, rfl, hp⟩
  have : ys = xs.map g := paired_det (Paired.mapE hp fun a b _ s => s.1)
  rw [this]
  exact q
/-! what is gone over -/
theorem wj_i {S1 : List D → Prop} (h : EvI X Hb e Γ S1) : EvJ X Hb tg e Γ S1 := evj_i h
/-- range(n): from 0 on -/
theorem wj_r0 {n : Nat} (h : EvR X Hb e Γ fun lo' n' => lo' = 0 ∧ n' = n) : EvJ X Hb tg e Γ (· = (List.range n).map fun (i : Nat) => D.int i) := (evj_r h).imp fun z e => by
  rw [e]
  refine List.map_congr_left fun i _ => ?_
  rw [Int.zero_add]
end
end L3

namespace L3
open PySem PySem.Spec PyProof.Rows L2
section
variable {P : Program} {w : World} {K : PySem.W.Frag} {mg : Str → Option Value} {base : Heap}
end
/-- data that == may look at -/
def Shp (d : D) : Prop := d.ok = true ∧ SeqAt.shaped d.py = true
section
variable {X : Cx} {S : Bool → Prop} {d : D}
end
theorem canLay_all : ∀ {ds : List D}, (∀ d ∈ ds, d.py.canLay0 = true) → PyData.canLayAll0 (D.pyAll ds) = true
  | [], _ => rfl
  | d :: ds, h => by
    show (d.py.canLay0 && PyData.canLayAll0 (D.pyAll ds)) = true
    rw [h d List.mem_cons_self, canLay_all fun x m => h x (List.mem_cons_of_mem _ m)]
    rfl
theorem ok_all : ∀ {ds : List D}, (∀ d ∈ ds, d.ok = true) → D.okAll ds = true
  | [], _ => rfl
  | d :: ds, h => by
    show (d.ok && D.okAll ds) = true
    rw [h d List.mem_cons_self, ok_all fun x m => h x (List.mem_cons_of_mem _ m)]
    rfl
/-- data of small depth -/
structure ShpN (n : Nat) (d : D) : Prop where
  ok : d.ok = true
  lay : d.py.canLay0 = true
  deep : d.py.depth ≤ n
theorem ShpN.shp {n : Nat} {d : D} (h : ShpN n d) (hn : n ≤ 64) : Shp d := ⟨h.ok, by unfold SeqAt.shaped; rw [h.lay, decide_eq_true (Nat.le_trans h.deep hn)]; rfl⟩
theorem shpN_lst {n : Nat} {ds : List D} (h : ∀ d ∈ ds, ShpN n d) : ShpN (n + 1) (.lst ds) := by
  refine ⟨ok_all fun d m => (h d m).ok, canLay_all fun d m => (h d m).lay, ?_⟩
  rw [D.py, PyData.depth]
  exact Nat.succ_le_succ (deepAll ds fun d m => (h d m).deep)
theorem shpN_tup {n : Nat} {ds : List D} (h : ∀ d ∈ ds, ShpN n d) : ShpN (n + 1) (.tup ds) := by
  refine ⟨ok_all fun d m => (h d m).ok, canLay_all fun d m => (h d m).lay, ?_⟩
  rw [D.py, PyData.depth]
  exact Nat.succ_le_succ (deepAll ds fun d m => (h d m).deep)
end L3

namespace L3
open PySem PySem.Spec PyProof.Rows L2
open AutoSeq1 (wpAny_loadPart')
section
variable {prog : Program} {w : World} {A : Around} {E : Value → Shared → Prop} {s : Shared}
end
section
variable {X : Cx} {Hb Hb' : Hp} {e tg : Expr} {Γ : Slots} {pos : Pos} {ds : List D}
/-- enumerate, by places: of f i the i-th -/
theorem mapIdx_range {α : Type} (f : α → D) (xs : List α) (z : α) : (xs.map f).mapIdx (fun i d => D.tup [.int (i : Nat), d]) = (List.range xs.length).map fun (i : Nat) => .tup [.int (i : Int), f (xs.getD i z)] := by
  refine List.ext_getElem? fun i => ?_
  rw [List.getElem?_mapIdx, List.getElem?_map, List.getElem?_map]
  by_cases h : i < xs.length
  · rw [List.getElem?_range h, List.getElem?_eq_getElem h]
    show some (D.tup [.int (i : Int), f xs[i]]) = some (D.tup [.int (i : Int), f (xs.getD i z)])
    rw [List.getD_eq_getElem?_getD, List.getElem?_eq_getElem h]
    rfl
  · rw [List.getElem?_eq_none (by omega), List.getElem?_eq_none (by rw [List.length_range]; omega)]
    rfl
theorem wj_enumL {α : Type} {f : α → D} {xs : List α} {pn : Pos} {elts : List Expr} {kk : Nat} {tpos : Pos} (z : α) (hm : X.mg "enumerate" = none) (h : EvI X Hb e Γ (· = xs.map f)) (hg : Gl X "enumerate" := by rfl) (hs : starEach [e] X.env = [(false, eval e X.env)] := by rfl) :
    EvJ X Hb (.Tuple elts kk tpos) (.Call (.Name "enumerate" pn) [e] [] pos) Γ (· = (List.range xs.length).map fun (i : Nat) => .tup [.int (i : Int), f (xs.getD i z)]) :=
  (evj_enum hm h hg hs).imp fun y ⟨ds, e1, e2⟩ => by rw [e1, e2, mapIdx_range f xs z]
end
end L3

namespace L3
open PySem PySem.Spec PyProof.Rows L2
theorem kit_ll : kitB "list" "list" = some true := by decide +kernel
theorem kit_tl : kitB "tuple" "list" = some false := by decide +kernel
theorem kit_il : kitB "int" "list" = some false := by decide +kernel
theorem kd_tt {xs : List D} : kitB (tyD (.tup xs)) "tuple" = some true := kit_tt
theorem kd_lt {xs : List D} : kitB (tyD (.lst xs)) "tuple" = some false := kit_lt
theorem kd_it {i : Int} : kitB (tyD (.int i)) "tuple" = some false := kit_it
theorem kd_bt {i : Bool} : kitB (tyD (.bl i)) "tuple" = some false := kit_bt
theorem kd_nt : kitB (tyD .non) "tuple" = some false := kit_nt
theorem kd_tl {xs : List D} : kitB (tyD (.tup xs)) "list" = some false := kit_tl
theorem kd_ll {xs : List D} : kitB (tyD (.lst xs)) "list" = some true := kit_ll
theorem kd_il {i : Int} : kitB (tyD (.int i)) "list" = some false := kit_il
theorem kd_ti {xs : List D} : kitB (tyD (.tup xs)) "int" = some false := kit_ti
theorem kd_li {xs : List D} : kitB (tyD (.lst xs)) "int" = some false := kit_li
theorem kd_ii {i : Int} : kitB (tyD (.int i)) "int" = some true := kit_ii
theorem kd_bi {i : Bool} : kitB (tyD (.bl i)) "int" = some true := kit_bi
theorem kd_ni : kitB (tyD .non) "int" = some false := kit_ni
theorem kd_tb {xs : List D} : kitB (tyD (.tup xs)) "bool" = some false := kit_tb
theorem kd_lb {xs : List D} : kitB (tyD (.lst xs)) "bool" = some false := kit_lb
theorem kd_ib {i : Int} : kitB (tyD (.int i)) "bool" = some false := kit_ib
theorem kd_bb {i : Bool} : kitB (tyD (.bl i)) "bool" = some true := kit_bb
theorem kd_nb : kitB (tyD .non) "bool" = some false := kit_nb
theorem ok_mapT {α : Type} {f : α → D} (h : ∀ a, (f a).ok = true) (xs : List α) : (D.tup (xs.map f)).ok = true := ok_all fun d m => by
  obtain ⟨a, _, rfl⟩ := List.mem_map.mp m
  exact h a
theorem ok_mapL {α : Type} {f : α → D} (h : ∀ a, (f a).ok = true) (xs : List α) : (D.lst (xs.map f)).ok = true := ok_all fun d m => by
  obtain ⟨a, _, rfl⟩ := List.mem_map.mp m
  exact h a
section
variable {X : Cx} {Hb Hb' : Hp} {a b c e : Expr} {es : List Expr} {Γ Γ' : Slots} {pos p' p2 apos cpos : Pos} {d x y : D} {ds : List D} {Q S S' : D → Prop} {fr : Bool} {D0 : Ends} {rest sts : List Stmt} {st : Stmt}
def KitD (d : D) (Ts : String) (Q : Bool → Prop) : Prop := d.ok = true ∧ ∃ k, kitB (tyD d) Ts = some k ∧ Q k
theorem kitd {Ts : String} {k : Bool} {Q : Bool → Prop} (q : Q k) (h : kitB (tyD d) Ts = some k) (ho : d.ok = true) : KitD d Ts Q := ⟨ho, k, h, q⟩
theorem w_isI {T : Str} {Ts : String} {pn p2 : Pos} (hm : X.mg "isinstance" = none) (hm2 : X.mg T = none) (h : EvN X Hb a Γ false fun d => KitD d Ts fun k => Q (.bl k)) (hv : bootBuiltins T = some (.type Ts) := by decide +kernel)
    (hg : Gl X "isinstance" := by rfl) (hg2 : Gl X T := by rfl) (hn : T ≠ "__name__" := by decide) (hd : (T == ("__debug__" : Str)) = false := by decide) (he : starEach (a :: [.Name T p2]) X.env = (false, eval a X.env) :: starEach [.Name T p2] X.env := by rfl) (he2 : starEach ([.Name T p2]) X.env = (false, eval (.Name T p2) X.env) :: starEach [] X.env := by rfl) (hpl : (backTo pos (starEach [.Name T p2] X.env)).any (·.1) = false := by rfl) :
    EvN X Hb (.Call (.Name "isinstance" pn) [a, .Name T p2] [] pos) Γ fr Q := EvN.fresh <|
  (evn_isI (SB := fun k => Q (.bl k)) (T := T) hm hm2 h (fun d' e => e) hv hg hg2 hn hd he he2 hpl).imp fun _ ⟨k', e1, e2⟩ => by rw [e1]; exact e2
/-- for i in range(n), nothing carried, nothing forgotten -/
theorem s_range {body : List Stmt} {xn : Str} {Γe : D → Slots} {pn : Pos} (n : Nat) (hm : X.mg "range" = none) (h : EvA X Hb [a] Γ fun z => ∃ i, z = [.int i] ∧ i.toNat = n ∧ (-(2 ^ 62) ≤ i ∧ i < 2 ^ 62))
    (hs : ∀ i : Nat, i < n → Go X Hb body { D0 with nx := fun σ H => EnvOk X.K Hb Γ σ H, ct := fun σ H => EnvOk X.K Hb Γ σ H, bk := fun σ H => SemSs X rest D0 σ H } (Γe (.int i)))
    (hd : Go X Hb rest D0 Γ) (hL : Has X.N xn := by walk_at "has") (hu : ∀ x, Up X.N Γ xn (.dat x) (Γe x) := by intro _; walk_at "up") (nd : X.N.Nodup := by assumption) (hp : PassesOwn (model X.prog X.w) X.A X.env X.xe := by exact PassesOwn.never) (hc : X.calm = true := by rfl) (hx : Loc X.env.scope xn := by first | exact Or.inl rfl | exact Or.inr rfl)
    (hg : Gl X "range" := by rfl) (hse : starEach [a] X.env = [(false, eval a X.env)] := by rfl)
    (hfs : ∀ x, foldedSetIterable (.Call (.Name "range" pn) [a] [] pos) X.env x = pure x := by intro _; rfl) (hf : X.fn xn = true ∨ X.env.scope.names.lookup xn = some .local := by first | exact .inl rfl | exact .inr rfl) :
    Go X Hb (.For (.Name xn p') (.Call (.Name "range" pn) [a] [] pos) body [] p2 :: rest) D0 Γ :=
  s_rep (fun lo m => lo = 0 ∧ m = n) Γ (wr_1 hm (h.imp fun z ⟨i, e, e2, hb⟩ => ⟨i, e, ⟨rfl, e2⟩, hb⟩) hg hse) (fun lo m i ⟨e1, e2⟩ hi => by
    subst e1 e2
    rw [Int.zero_add]
    exact hs i hi) hd Sub.refl hL hu nd hp hc hx hfs hf
end
end L3

namespace L3
open PySem PySem.Spec PyProof.Rows L2
section
variable {X : Cx} {Hb Hb' : Hp} {a b c e : Expr} {es : List Expr} {Γ Γ' : Slots} {pos p' p2 apos cpos : Pos} {d x y : D} {ds : List D} {Q S S' : D → Prop} {fr : Bool} {D0 : Ends} {rest sts : List Stmt} {st : Stmt}
theorem s_btw {I : Slots → Prop} {rt : VK} {bk ct : L2.St → Hp → Prop} (hI : I Γ') (s : Sub Γ Γ' := by walk_at "sub") : Go X Hb [] { nx := Btw X Hb I, rt := rt, bk := bk, ct := ct } Γ := go_btw hI (fun _ _ h => h.sub s) fun _ _ h => h
theorem s_tup4 {o1 o2 o3 o4 : Bool} {xn yn zn un : Str} {px py pz pu pt : Pos} {kt k2 : Nat} {pt2 : Pos} (_h1 : OwnIf o1 xn) (_h2 : OwnIf o2 yn) (_h3 : OwnIf o3 zn) (_h4 : OwnIf o4 un) (h : EvN X Hb a Γ o1 fun d1 => EvN X Hb b Γ o2 fun d2 => EvN X Hb c Γ o3 fun d3 => EvN X Hb e Γ o4 fun d4 => StoreD o1 X.N Γ xn d1 fun Γ1 => StoreD o2 X.N Γ1 yn d2 fun Γ2 => StoreD o3 X.N Γ2 zn d3 fun Γ3 => StoreD o4 X.N Γ3 un d4 fun Γ4 => Go X Hb rest D0 Γ4)
    (nd : X.N.Nodup) (hL : Has X.N xn) (hL2 : Has X.N yn) (hL3 : Has X.N zn) (hL4 : Has X.N un) (hw : swappedStores [.Tuple [.Name xn px, .Name yn py, .Name zn pz, .Name un pu] kt pt] (.Tuple [a, b, c, e] k2 pt2) X.env = pure none := by rfl) (hc : X.calm = true := by rfl)
    (hx : Loc X.env.scope xn := by first | exact Or.inl rfl | exact Or.inr rfl) (hy : Loc X.env.scope yn := by first | exact Or.inl rfl | exact Or.inr rfl) (hz : Loc X.env.scope zn := by first | exact Or.inl rfl | exact Or.inr rfl) (hu : Loc X.env.scope un := by first | exact Or.inl rfl | exact Or.inr rfl)
    (hf : X.fn xn = true ∨ X.env.scope.names.lookup xn = some .local := by first | exact .inl rfl | exact .inr rfl) (hf2 : X.fn yn = true ∨ X.env.scope.names.lookup yn = some .local := by first | exact .inl rfl | exact .inr rfl) (hf3 : X.fn zn = true ∨ X.env.scope.names.lookup zn = some .local := by first | exact .inl rfl | exact .inr rfl) (hf4 : X.fn un = true ∨ X.env.scope.names.lookup un = some .local := by first | exact .inl rfl | exact .inr rfl)
    (hn : (assignEach [.Name xn px, .Name yn py, .Name zn pz, .Name un pu] X.env).length = 4 := by rfl) (hst : (assignEach [.Name xn px, .Name yn py, .Name zn pz, .Name un pu] X.env).findIdx? (·.1) = none := by rfl)
    (hz1 : (assignEach (.Name xn px :: [.Name yn py, .Name zn pz, .Name un pu]) X.env).map (·.2) = assign (.Name xn px) X.env :: (assignEach [.Name yn py, .Name zn pz, .Name un pu] X.env).map (·.2) := by rfl)
    (hz2 : (assignEach (.Name yn py :: [.Name zn pz, .Name un pu]) X.env).map (·.2) = assign (.Name yn py) X.env :: (assignEach [.Name zn pz, .Name un pu] X.env).map (·.2) := by rfl)
    (hz3 : (assignEach (.Name zn pz :: [.Name un pu]) X.env).map (·.2) = assign (.Name zn pz) X.env :: (assignEach [.Name un pu] X.env).map (·.2) := by rfl)
    (hz4 : (assignEach (.Name un pu :: []) X.env).map (·.2) = assign (.Name un pu) X.env :: (assignEach [] X.env).map (·.2) := by rfl)
    (hsw : swapsWithSole [.Tuple [.Name xn px, .Name yn py, .Name zn pz, .Name un pu] kt pt] (.Tuple [a, b, c, e] k2 pt2) pos.line X.env = pure false := by rfl) (h1 : (assignEach [.Tuple [.Name xn px, .Name yn py, .Name zn pz, .Name un pu] kt pt] X.env).map (·.2) = [assign (.Tuple [.Name xn px, .Name yn py, .Name zn pz, .Name un pu] kt pt) X.env] := by rfl)
    (hs1 : starEach (a :: [b, c, e]) X.env = (false, eval a X.env) :: starEach [b, c, e] X.env := by rfl)
    (hs2 : starEach (b :: [c, e]) X.env = (false, eval b X.env) :: starEach [c, e] X.env := by rfl)
    (hs3 : starEach (c :: [e]) X.env = (false, eval c X.env) :: starEach [e] X.env := by rfl)
    (hs4 : starEach (e :: []) X.env = (false, eval e X.env) :: starEach [] X.env := by rfl)
    : Go X Hb (.Assign [.Tuple [.Name xn px, .Name yn py, .Name zn pz, .Name un pu] kt pt] (.Tuple [a, b, c, e] k2 pt2) pos :: rest) D0 Γ := fun σ H en => by
  obtain ⟨i, hi⟩ := hL.ix
  obtain ⟨j, hj⟩ := hL2.ix
  obtain ⟨l, hl⟩ := hL3.ix
  obtain ⟨m, hm⟩ := hL4.ix
  refine SemSs.cons (ps_asg (pe_tup (pa_cons (semE X a) (pa_cons (semE X b) (pa_cons (semE X c) (pa_cons (semE X e) pa_nil hs4) hs3) hs2) hs1)) (pg_tup hc (pgs_cons (pg_name nd hi hx hf) (pgs_cons (pg_name nd hj hy hf2) (pgs_cons (pg_name nd hl hz hf3) (pgs_cons (pg_name nd hm hu hf4) pgs_nil hz4) hz3) hz2) hz1) hn hst) hsw hw h1) (h σ H en _ fun v1 H1 d1 s1 x1 r1 f1 => s1 σ H1 (en.ex x1) _ fun v2 H2 d2 s2 x2 r2 f2 => s2 σ H2 (en.ex (x1.trans x2)) _ fun v3 H3 d3 s3 x3 r3 f3 => s3 σ H3 (en.ex ((x1.trans x2).trans x3)) _ fun v4 H4 d4 s4 x4 r4 f4 => ⟨by show 4 ≤ sizeLine; decide, fun T hT => ?_⟩)
  obtain ⟨Γ1, g1, en1⟩ := s4.ok nd hi en x1 r1 f1
  obtain ⟨Γ2, g2, en2⟩ := g1.ok nd hj en1 x2 r2 f2
  obtain ⟨Γ3, g3, en3⟩ := g2.ok nd hl en2 x3 r3 f3
  obtain ⟨Γ4, g4, en4⟩ := g3.ok nd hm en3 x4 r4 f4
  exact ⟨T, _, rfl, SqT.of upd_same, rfl, _, _, rfl, _, _, rfl, _, _, rfl, _, _, rfl, rfl, g4 _ _ (en4.ex (Ex.new hT))⟩
end
end L3

namespace L3
open PySem PySem.Spec PyProof.Rows L2
section
variable {X : Cx} {Hb Hb' : Hp} {a b c e o : Expr} {es : List Expr} {Γ Γ' : Slots} {pos p' p2 apos cpos : Pos} {d x y : D} {ds : List D} {Q S S' : D → Prop} {fr : Bool} {D0 : Ends} {rest sts : List Stmt} {st : Stmt}
/-- f(..).append(e), the list thrown away -/
theorem s_appendNew (h : EvN X Hb o Γ true fun d => ∃ ds, d = .lst ds ∧ ds.length ≤ 100000 ∧ EvN X Hb e Γ false fun _ => Go X Hb rest D0 Γ)
    (hbase : attributeBase o "append" X.env (eval o X.env) = eval o X.env := by rfl)
    (hfew : ((backTo cpos (starEach (e :: []) X.env)).all (fun x => !x.1) && (backToKw cpos (keywordEach [] X.env)).all (fun x => x.1.isSome) && decide ((e :: []).length + ([] : List Keyword).length + (if ([] : List Keyword).isEmpty then 0 else 1) < 30)) = true := by rfl)
    (hline : (apos.endLine == cpos.line) = true := by rfl) (hs : starEach (e :: []) X.env = (false, eval e X.env) :: starEach [] X.env := by rfl) (hplain : (backTo cpos (starEach [] X.env)).any (·.1) = false := by rfl)
    (hsw : swapsWith (.Call (.Attribute o "append" apos) [e] [] cpos) none pos.line X.env = pure false := by rfl) :
    Go X Hb (.Expr (.Call (.Attribute o "append" apos) [e] [] cpos) pos :: rest) D0 Γ := fun σ H en => by
  refine SemSs.cons (ps_expr (pe_bm PySem.F.plainAttrs_list PySem.F.slot_list_append PySem.F.type_list_append mt_append (semE X o) (pa_cons (semE X e) pa_nil hs) hbase hfew hline hs hplain) hsw) ?_
  refine h σ H en _ fun v H1 d ⟨ds, hd, hl, k⟩ x1 r1 f1 => ?_
  subst hd
  obtain ⟨p, vs, rfl, hp, hpl, ra⟩ := f1 rfl
  refine ⟨.inl ⟨rfl, _, SqL.of hpl⟩, k σ H1 (en.ex x1) _ fun w H2 d2 s2 x2 r2 _ => ?_⟩
  refine ⟨p, vs, w, rfl, rfl, x2.lst hpl, by rw [ra.length]; exact Nat.lt_of_le_of_lt hl (by decide), ?_⟩
  exact s2 σ _ (en.ex (Ex.mut (x1.trans x2) hp (by rw [x2.lst hpl]; trivial)))
end
end L3

/-! Core33: any, all of a list of truths. -/
namespace L3
open PySem PySem.Spec PyProof.Rows L2
theorem ownNil {α : Type} {p : Addr} {f : α → D} : Ent.own p [] = Ent.own p (List.map f []) := rfl
section
variable {X : Cx} {Hb : Hp} {a : Expr} {Γ : Slots} {pos pn : Pos} {Q : D → Prop} {fr : Bool}
theorem w_any (hm : X.mg "any" = none) (h : EvA X Hb [a] Γ fun ds => ∃ ns : List Bool, ds = [.lst (ns.map .bl)] ∧ Q (.bl (ns.any id))) (hc : X.calm = true := by rfl) (hg : Gl X "any" := by rfl) (he : starEach (a :: []) X.env = (false, eval a X.env) :: starEach [] X.env := by rfl) (hpl : (backTo pos (starEach [] X.env)).any (·.1) = false := by rfl) :
    EvN X Hb (.Call (.Name "any" pn) [a] [] pos) Γ fr Q := EvN.fresh <|
  evn_B (cr_any hc) hm h (fun vs H ds Q' ⟨ns, e, q⟩ r k => by
    subst e
    obtain ⟨p, ws, e, hq, ra⟩ := r.lst1
    rw [ra.bls] at hq
    exact ⟨p, ns, e, hq, k _ _ _ q Ex.refl (.bl _) (FreshD.flat rfl)⟩) (by decide +kernel) hg (by decide) (by decide) he hpl
theorem w_all (hm : X.mg "all" = none) (h : EvA X Hb [a] Γ fun ds => ∃ ns : List Bool, ds = [.lst (ns.map .bl)] ∧ Q (.bl (ns.all id))) (hc : X.calm = true := by rfl) (hg : Gl X "all" := by rfl) (he : starEach (a :: []) X.env = (false, eval a X.env) :: starEach [] X.env := by rfl) (hpl : (backTo pos (starEach [] X.env)).any (·.1) = false := by rfl) :
    EvN X Hb (.Call (.Name "all" pn) [a] [] pos) Γ fr Q := EvN.fresh <|
  evn_B (cr_all hc) hm h (fun vs H ds Q' ⟨ns, e, q⟩ r k => by
    subst e
    obtain ⟨p, ws, e, hq, ra⟩ := r.lst1
    rw [ra.bls] at hq
    exact ⟨p, ns, e, hq, k _ _ _ q Ex.refl (.bl _) (FreshD.flat rfl)⟩) (by decide +kernel) hg (by decide) (by decide) he hpl
/-- sum of ints -/
theorem w_sum (hm : X.mg "sum" = none) (h : EvA X Hb [a] Γ fun ds => ∃ ns : List Int, ds = [.lst (ns.map .int)] ∧ Q (.int ns.sum)) (hc : X.calm = true := by rfl) (hg : Gl X "sum" := by rfl) (he : starEach (a :: []) X.env = (false, eval a X.env) :: starEach [] X.env := by rfl) (hpl : (backTo pos (starEach [] X.env)).any (·.1) = false := by rfl) :
    EvN X Hb (.Call (.Name "sum" pn) [a] [] pos) Γ fr Q := EvN.fresh <|
  evn_B (cr_sum hc) hm h (fun vs H ds Q' ⟨ns, e, q⟩ r k => by
    subst e
    obtain ⟨p, ws, e, hq, ra⟩ := r.lst1
    rw [ra.ints] at hq
    exact ⟨p, ns, e, hq, k _ _ _ q Ex.refl (.int _) (FreshD.flat rfl)⟩) (by decide +kernel) hg (by decide) (by decide) he hpl
end
end L3

/-! Core34: in, not in: data in lists and tuples; two names out of a list; over a tuple not stored. -/
namespace L3
open PySem PySem.Spec PyProof.Rows L2
section
variable {X : Cx} {Hb : Hp} {a b e : Expr} {Γ : Slots} {pos pn : Pos} {Q : D → Prop} {S : Bool → Prop} {fr : Bool} {d1 : D} {ds : List D} {D0 : Ends} {rest : List Stmt}
theorem op_inLR (hu : X.A.units + 65 < cLine) : OpR X (compareOp .In) (fun x y H Q => ∃ d ds, Rep X.K H x d ∧ Rep X.K H y (.lst ds) ∧ (d.ok = true ∧ (D.lst ds).ok = true) ∧ (SeqAt.shaped d.py = true ∧ SeqAt.shaped (D.lst ds).py = true) ∧ Q (.bl ((D.pyAll ds).any fun z => PyData.eqv z d.py)) H) := by
  intro pins s σ H x y v u Q I rx ry ⟨d, ds, h1, h2, ho, hs, q⟩
  obtain ⟨as, r1, _⟩ := Rep.reads I d x v h1 ho.1 rx
  obtain ⟨bs, r2, _⟩ := Rep.reads I _ y u h2 ho.2 ry
  exact SeqAt.in_list_reads r2 r1 (SeqAt.canLay_of_shaped hs.2) (SeqAt.canLay_of_shaped hs.1) (room_in_shaped hs.1 hu) ⟨.bl _, H, I, rfl, q⟩
theorem op_inTR (hu : X.A.units + 65 < cLine) : OpR X (compareOp .In) (fun x y H Q => ∃ d ds, Rep X.K H x d ∧ Rep X.K H y (.tup ds) ∧ (d.ok = true ∧ (D.tup ds).ok = true) ∧ (SeqAt.shaped d.py = true ∧ SeqAt.shaped (D.tup ds).py = true) ∧ Q (.bl ((D.pyAll ds).any fun z => PyData.eqv z d.py)) H) := by
  intro pins s σ H x y v u Q I rx ry ⟨d, ds, h1, h2, ho, hs, q⟩
  obtain ⟨as, r1, _⟩ := Rep.reads I d x v h1 ho.1 rx
  obtain ⟨bs, r2, _⟩ := Rep.reads I _ y u h2 ho.2 ry
  exact SeqAt.in_tuple_reads r2 r1 (SeqAt.canLay_of_shaped hs.2) (SeqAt.canLay_of_shaped hs.1) (room_in_shaped hs.1 hu) ⟨.bl _, H, I, rfl, q⟩
theorem cmp_inL {n : Nat} (hr : Room n X.A) (q : S ((D.pyAll ds).any fun z => PyData.eqv z d1.py)) (h : (d1.ok = true ∧ (D.lst ds).ok = true) ∧ SeqAt.shaped d1.py = true ∧ SeqAt.shaped (D.lst ds).py = true) : CmpD X .In d1 (.lst ds) S := CmpD.of (op_inLR (by have := hr.un; omega)) fun x y H Q' r1 r2 k => ⟨_, _, r1, r2, h.1, h.2, k _ q⟩
theorem cmp_inT {n : Nat} (hr : Room n X.A) (q : S ((D.pyAll ds).any fun z => PyData.eqv z d1.py)) (h : (d1.ok = true ∧ (D.tup ds).ok = true) ∧ SeqAt.shaped d1.py = true ∧ SeqAt.shaped (D.tup ds).py = true) : CmpD X .In d1 (.tup ds) S := CmpD.of (op_inTR (by have := hr.un; omega)) fun x y H Q' r1 r2 k => ⟨_, _, r1, r2, h.1, h.2, k _ q⟩
end
end L3

/-! Core35: a loop with a state that is one of some. -/
namespace L3
open PySem PySem.Spec PyProof.Rows L2
section
variable {X : Cx} {Hb : Hp} {a b e : Expr} {Γ : Slots} {pos pn p' : Pos} {D0 : Ends} {rest : List Stmt}
/-- for x in ..: behind i turns the state is one of I i -/
theorem s_stJ {α β : Type} {body : List Stmt} {xn : Str} {Γe : β → α → Slots} {i : Nat} (f : α → D) (xs : List α) (G : β → Slots) (I : Nat → β → Prop) (s0 : β) (h0 : I 0 s0) (hit : EvJ X Hb (.Name xn p') e (G s0) (· = xs.map f))
    (hs : ∀ Hb', Ex Hb Hb' → ∀ n a s, xs[n]? = some a → I n s → Go X Hb' body { D0 with nx := Btw X Hb' (fun Γ' => ∃ s', I (n + 1) s' ∧ Γ' = G s'), ct := Btw X Hb' (fun Γ' => ∃ s', I (n + 1) s' ∧ Γ' = G s'), bk := fun σ H => SemSs X rest D0 σ H } (Γe s a))
    (hd : ∀ s, I xs.length s → Go X Hb rest D0 (G s)) (hsub : Sub Γ (G s0) := by walk_at "sub") (hi : At X.N xn i := by walk_at "ati") (hu : ∀ s a, Up X.N (G s) xn (.dat (f a)) (Γe s a) := by intro _ _; walk_at "up") (hst : ∀ s a, a ∈ xs → Sto (G s) (f a) := by intro _ _ _; walk_at "sto") (nd : X.N.Nodup := by assumption)
    (hp : PassesOwn (model X.prog X.w) X.A X.env X.xe := by exact PassesOwn.never) (hc : X.calm = true := by rfl) (hx : Loc X.env.scope xn := by first | exact Or.inl rfl | exact Or.inr rfl)
    (hfs : ∀ x, foldedSetIterable e X.env x = pure x := by intro _; rfl) (hf : X.fn xn = true ∨ X.env.scope.names.lookup xn = some .local := by first | exact .inl rfl | exact .inr rfl) :
    Go X Hb (.For (.Name xn p') e body [] pos :: rest) D0 Γ := by
  refine go_weak (fun _ _ h => h.sub hsub) (go_forJ (.nm i) (fun _ n Γ' => ∃ s, I n s ∧ Γ' = G s) hit (fun _ _ => ⟨s0, h0, rfl⟩) (fun Hb' eb ds n x Γ' es hx' hI => ?_) (fun ds Γ' es hI => ?_) hp hc (pg_name nd hi.ix hx hf) hfs)
  · subst es
    obtain ⟨s, hI, rfl⟩ := hI
    rw [List.getElem?_map] at hx'
    obtain ⟨a, ha, rfl⟩ : ∃ a, xs[n]? = some a ∧ x = f a := by
      cases z : xs[n]? with
      | none => rw [z] at hx'; cases hx'
      | some a => rw [z] at hx'; cases hx'; exact ⟨a, rfl, rfl⟩
    refine ⟨(G s).set i (.dat (f a)), ⟨hst s a (List.mem_of_getElem? ha), rfl⟩, ?_⟩
    rw [up_set nd hi.ix (hu s a)]
    exact hs Hb' eb n a s ha hI
  · subst es
    obtain ⟨s, hI, rfl⟩ := hI
    rw [List.length_map] at hI
    exact hd s hI
end
end L3

/-! Core36: calls of the own defs by names alone. -/
namespace L3
open PySem PySem.Spec PyProof.Rows L2
/-- the things, by places -/
def putIn {α : Type} (z : α) (perm : List Nat) (l : List α) : List α := perm.map fun i => l.getD i z
/-- how a call by the names ks binds: the i-th parameter gets what stands at place perm[i] -/
structure KwB (K : PySem.W.Frag) (mg : Str → Option Value) (x : Str) (ps ks : List Str) (perm : List Nat) : Prop where
  ex : ∃ (f : Addr) (fd : FuncData) (oc : Value) (od : Option Addr) (osl : Array (Option Value)), mg x = some (.ref f) ∧ K.lookup f = some ⟨oc, od, .func fd, osl⟩ ∧
    (∀ us : List Value, us.length = ps.length → bindArgs fd ⟨us, []⟩ = pure (ps.zip us)) ∧ ∀ ws : List Value, ws.length = ks.length → bindArgs fd ⟨[], ks.zip ws⟩ = pure (ps.zip (putIn .none perm ws))
  len : perm.length = ps.length
  few : ∀ i ∈ perm, i < ks.length
theorem vals_put {zs : List V} {ws : List Value} (r : Vals zs ws) : ∀ {perm : List Nat}, (∀ i ∈ perm, i < zs.length) → Vals (putIn .non perm zs) (putIn .none perm ws)
  | [], _ => .nil
  | i :: perm, h => by
    have hi : i < zs.length := h i List.mem_cons_self
    have e : zs[i]? = some zs[i] := List.getElem?_eq_getElem hi
    obtain ⟨u, hu, ru⟩ := r.get e
    refine .cons ?_ (vals_put r fun j m => h j (List.mem_cons_of_mem _ m))
    show RelV (zs.getD i .non) (ws.getD i .none)
    rw [List.getD_eq_getElem?_getD, e, List.getD_eq_getElem?_getD, hu]
    exact ru
theorem rep_put {K : PySem.W.Frag} {H : Hp} {vs : List V} {ds : List D} (r : RepAll K H vs ds) : ∀ {perm : List Nat}, (∀ i ∈ perm, i < vs.length) → RepAll K H (putIn .non perm vs) (putIn .non perm ds)
  | [], _ => .nil
  | i :: perm, h => by
    have hi : i < vs.length := h i List.mem_cons_self
    have e : vs[i]? = some vs[i] := List.getElem?_eq_getElem hi
    obtain ⟨d, hd, rd⟩ := r.get' e
    refine .cons ?_ (rep_put r fun j m => h j (List.mem_cons_of_mem _ m))
    show Rep K H (vs.getD i .non) (ds.getD i .non)
    rw [List.getD_eq_getElem?_getD, e, List.getD_eq_getElem?_getD, hd]
    exact rd
theorem zip_inj {ps qs : List Str} {us : List Value} (h1 : us.length = ps.length) (h2 : us.length = qs.length) (h : ps.zip us = qs.zip us) : ps = qs := by
  have := congrArg (List.map Prod.fst) h
  rwa [List.map_fst_zip (by omega), List.map_fst_zip (by omega)] at this
theorem binds_one {K : PySem.W.Frag} {fd : FuncData} {ps qs : List Str} {s : Shared} (hk : K.In s.heap) (hb : Binds K fd qs []) (he : ∀ us : List Value, us.length = ps.length → bindArgs fd ⟨us, []⟩ = pure (ps.zip us)) (hl : qs.length = ps.length) (M : Model) (A : Around) (G : PySem.Ctx) (p : Pos) (hG : G.In A) : qs = ps := by
  have l1 : (List.replicate ps.length Value.none).length = ps.length := List.length_replicate
  have h := hb s (List.replicate ps.length Value.none) hk (by rw [List.append_nil, l1, hl]) M A (fun _ _ => False) (fun b _ => b = qs.zip (List.replicate ps.length Value.none ++ [])) rfl
  rw [he _ l1, List.append_nil] at h
  have h2 : ps.zip (List.replicate ps.length Value.none) = qs.zip (List.replicate ps.length Value.none) := h G p hG
  exact (zip_inj l1 (by rw [l1, hl]) h2).symm
section
variable {X : Cx} {Hb : Hp} {e : Expr} {Γ : Slots} {pos pn : Pos} {Q : D → Prop} {S S1 : List D → Prop} {fr : Bool} {kws : List Keyword}
structure SemKP (X : Cx) (kws : List Keyword) (σ : L2.St) (H : Hp) (Q : List V → Hp → Prop) : Prop where
  run : ∀ pos pins s, Inv X pins σ H s → wpAny (model X.prog X.w) X.A (evalAll ((backToKw pos (keywordEach kws X.env)).map (·.2))) (AP X pins σ Q) X.xe s
abbrev SemK (X : Cx) (kws : List Keyword) : TA := fun σ H Q => SemKP X kws σ H Q
theorem semK (X : Cx) (kws : List Keyword) : PK X kws (SemK X kws) := ⟨fun pos pins s _ _ _ I h => h.run pos pins s I⟩
theorem SemK.of {t : TA} {σ : L2.St} {H : Hp} {Q : List V → Hp → Prop} (h : PK X kws t) (q : t σ H Q) : SemK X kws σ H Q := ⟨fun pos pins s I => h.run pos pins s σ H Q I q⟩
/-- the values of keywords, as they stand -/
def EvK (X : Cx) (Hb : Hp) (kws : List Keyword) (Γ : Slots) (S : List D → Prop) : Prop := ∀ σ H, EnvOk X.K Hb Γ σ H → ∀ Q : List V → Hp → Prop, (∀ vs H' ds, S ds → Ex H H' → RepAll X.K H' vs ds → Q vs H') → SemK X kws σ H Q
theorem wk_nil (q : S []) : EvK X Hb [] Γ S := fun σ H en Q k => SemK.of pk_nil (k [] H [] q Ex.refl .nil)
theorem wk_cons {nm : Option Str} {kpos : Pos} (h : EvN X Hb e Γ false fun d => EvK X Hb kws Γ fun ds => S (d :: ds)) (hn : nm.isSome = true := by rfl) : EvK X Hb (⟨nm, e, kpos⟩ :: kws) Γ S := by
  obtain ⟨nm, rfl⟩ := Option.isSome_iff_exists.mp hn
  exact fun σ H en Q k => SemK.of (pk_cons (semE X e) (semK X kws)) (h σ H en _ fun v H1 d s1 x1 r1 _ => s1 σ H1 (en.ex x1) _ fun vs H2 ds s2 x2 r2 => k _ H2 _ s2 (x1.trans x2) (.cons (r1.ex x2) r2))
/-- f(k = v, ..) -/
theorem w_callK {x : Str} {k k' : Nat} {P : Pr} {ps ks : List Str} {perm : List Nat} (KB : KwB X.K X.mg x ps ks perm) (F : FnP X.prog X.w X.K X.mg X.base x k P) (hr : Room k' X.A) (h : EvK X Hb kws Γ fun ds => Cl P (putIn .non perm ds) Q ∧ ds.length = ks.length) (hk : k ≤ k' := by decide)
    (hg : Gl X x := by rfl) (hall : (backToKw pos (keywordEach kws X.env)).all (·.1.isSome) = true := by rfl) (hks : (backToKw pos (keywordEach kws X.env)).filterMap (·.1) = ks := by rfl)
    (hdb : (x == ("__debug__" : Str)) = false := by decide) (hpl : ((backTo pos (starEach [] X.env)).any (·.1) || (backToKw pos (keywordEach kws X.env)).any (·.1.isNone)) = false := by rfl) :
    EvN X Hb (.Call (.Name x pn) [] kws pos) Γ fr Q := EvN.fresh fun σ H en Q' q => by
  obtain ⟨f, fd, ps', G, hm, hkp, hb, oc, od, osl, lk⟩ := F.ex
  obtain ⟨f2, fd2, oc2, od2, osl2, hm2, lk2, he, hw⟩ := KB.ex
  rw [hm] at hm2
  cases hm2
  rw [lk] at lk2
  cases lk2
  refine ⟨fun pins s I => ?_⟩
  refine wpAny_Call_Name_kw (ld_glob I hg hm ?_ hdb)
  refine PySem.W.callWith_KW0 (h₀ := X.base) I.ok.mod.kin hkp hall (thn ((h σ H en (fun zs H2 => ∃ ds, RepAll X.K H2 zs ds ∧ Ex H H2 ∧ Cl P (putIn .non perm ds) Q ∧ ds.length = ks.length) fun vs H1 ds s1 x1 r => ⟨ds, r, x1, s1⟩).run pos pins s I) fun ws s2 ⟨zs, H2, I2, rz, ds, ra, x2, hcl, hl⟩ => ⟨I2.kIn, ?_⟩) hpl
  rw [hks]
  have hz : zs.length = ks.length := ra.length.trans hl
  obtain ⟨S0, hP, hS⟩ := hcl
  have hp : RepAll X.K H2 (putIn .non perm zs) (putIn .non perm ds) := rep_put ra fun i m => by rw [hz]; exact KB.few i m
  have hv : Vals (putIn .non perm zs) (putIn .none perm ws) := vals_put rz fun i m => by rw [hz]; exact KB.few i m
  have hsp : spN X.K P (putIn .non perm zs) H2 Q' E0 := ⟨en.tb.ex (en.base.trans x2), _, S0, hp, hP, fun v H' d s0 x3 r3 f3 => q v H' d (hS d s0) (x2.trans x3) r3 fun _ => f3.back x2⟩
  have hlen : ps'.length = ps.length := by
    rw [← G.len _ _ _ _ hsp]
    show (perm.map _).length = _
    rw [List.length_map, KB.len]
  intro G0 p0 hG0
  have e := binds_one I2.kIn hb he hlen (model X.prog X.w) X.A G0 p0 hG0
  subst e
  refine wpAny_call (codeAny_mono (G.run X.A X.stack s2 H2 ⟨[], ks.zip ws⟩ (putIn .none perm ws) (putIn .non perm zs) Q' E0 (hr.mono hk) I2.env0 (BindsTo.of_eq (hw ws (rz.length.symm.trans hz))) hv hsp) fun r s' hq => ?_) G0 p0 hG0
  cases r with
  | error e => exact pass0 pins σ H2 s2 e s' I2 hq
  | ok fl =>
    cases fl with
    | ret u => exact I2.after hq
    | next => exact False.elim hq
    | brk => exact False.elim hq
    | cont => exact False.elim hq
end
end L3

/-! Core37: items of a list of one's own that are set: xs[i] = e; xs[i], xs[j] = a, b; xs[i], y = a, b. -/
namespace L3
open PySem PySem.Spec PyProof.Rows L2
section
variable {X : Cx} {Hb : Hp} {e ix i1 i2 : Expr} {Γ : Slots} {pos p1 p2 q1 q2 pt : Pos} {D0 : Ends} {rest : List Stmt} {ds : List D}
/-- xs[i], xs[j] = a, b -/
theorem s_setTwo {p : Addr} {xn : Str} {kt : Nat} (hL : Look X.N Γ xn (.own p ds)) (h : EvN X Hb e Γ false fun d => ∃ d1 d2, d = .tup [d1, d2] ∧ (d1.flat = true ∧ d2.flat = true) ∧ EvN X Hb i1 Γ false fun z1 => ∃ k1, z1 = .int k1 ∧ ∃ j1, ixN ds.length k1 = some j1 ∧ Up1 X.N Γ xn (.own p (ds.set j1 d1)) fun Γ1 => EvN X Hb i2 Γ1 false fun z2 => ∃ k2, z2 = .int k2 ∧ ∃ j2, ixN ds.length k2 = some j2 ∧ Up1 X.N Γ1 xn (.own p ((ds.set j1 d1).set j2 d2)) fun Γ2 => Go X Hb rest D0 Γ2) (nd : X.N.Nodup)
    (hv : Vis X.env.scope xn := by first | exact Or.inl rfl | exact Or.inr (Or.inl rfl) | exact Or.inr (Or.inr rfl)) (hdb : (xn == ("__debug__" : Str)) = false := by decide) (hcd : (xn == ("__classdict__" : Str)) = false := by decide) (hc : X.calm = true := by rfl)
    (hw : swappedStores [.Tuple [.Subscript (.Name xn q1) i1 p1, .Subscript (.Name xn q2) i2 p2] kt pt] e X.env = pure none := by rfl)
    (hn : (assignEach [.Subscript (.Name xn q1) i1 p1, .Subscript (.Name xn q2) i2 p2] X.env).length = 2 := by rfl) (hst : (assignEach [.Subscript (.Name xn q1) i1 p1, .Subscript (.Name xn q2) i2 p2] X.env).findIdx? (·.1) = none := by rfl)
    (hz1 : (assignEach (.Subscript (.Name xn q1) i1 p1 :: [.Subscript (.Name xn q2) i2 p2]) X.env).map (·.2) = assign (.Subscript (.Name xn q1) i1 p1) X.env :: (assignEach [.Subscript (.Name xn q2) i2 p2] X.env).map (·.2) := by rfl) (hz2 : (assignEach (.Subscript (.Name xn q2) i2 p2 :: []) X.env).map (·.2) = assign (.Subscript (.Name xn q2) i2 p2) X.env :: (assignEach [] X.env).map (·.2) := by rfl)
    (hsw : swapsWithSole [.Tuple [.Subscript (.Name xn q1) i1 p1, .Subscript (.Name xn q2) i2 p2] kt pt] e pos.line X.env = pure false := by rfl) (h1 : (assignEach [.Tuple [.Subscript (.Name xn q1) i1 p1, .Subscript (.Name xn q2) i2 p2] kt pt] X.env).map (·.2) = [assign (.Tuple [.Subscript (.Name xn q1) i1 p1, .Subscript (.Name xn q2) i2 p2] kt pt) X.env] := by rfl)
    (hs1 : ∀ v, assign (.Subscript (.Name xn q1) i1 p1) X.env v = (do
      let ov ← holding [v] (eval (.Name xn q1) X.env)
      let iv ← holding [v, ov] (eval i1 X.env)
      standAt p1
      holding [v, ov, iv] (setItem ov iv v)
      release [v, ov, iv] []) := by intro _; rfl)
    (hs2 : ∀ v, assign (.Subscript (.Name xn q2) i2 p2) X.env v = (do
      let ov ← holding [v] (eval (.Name xn q2) X.env)
      let iv ← holding [v, ov] (eval i2 X.env)
      standAt p2
      holding [v, ov, iv] (setItem ov iv v)
      release [v, ov, iv] []) := by intro _; rfl) :
    Go X Hb (.Assign [.Tuple [.Subscript (.Name xn q1) i1 p1, .Subscript (.Name xn q2) i2 p2] kt pt] e pos :: rest) D0 Γ := fun σ H en => by
  obtain ⟨i, hi, hG⟩ := hL.ix
  refine SemSs.cons (ps_asg (semE X e) (pg_tup hc (pgs_cons (pg_sub (pe_var hi hv hdb hcd) (semE X i1) set_list hs1) (pgs_cons (pg_sub (pe_var hi hv hdb hcd) (semE X i2) set_list hs2) pgs_nil hz2) hz1) hn hst) hsw hw h1) (h σ H en _ fun v1 H1 d1 ⟨da, db, ed, ⟨fa, fb⟩, s⟩ x1 r1 _ => ?_)
  subst ed
  cases r1 with
  | tup hq ra =>
    cases ra with
    | cons ra rr =>
      cases rr with
      | cons rb rr =>
        cases rr
        have en1 := en.ex x1
        obtain ⟨hσ, _⟩ := en1.ownW hG
        refine ⟨_, _, rfl, hq, rfl, _, _, rfl, _, hσ, s σ H1 en1 _ fun w1 H2 z1 ⟨k1, ez, j1, hj1, Γ1, hu1, s2⟩ x2 r2 _ => ?_⟩
        subst ez
        cases r2
        have en2 := en1.ex x2
        obtain ⟨_, ws, hw2, rw2, ls⟩ := en2.ownW hG
        refine ⟨p, ws, k1, j1, rfl, rfl, hw2, by rw [rw2.length]; exact hj1, ?_⟩
        have rb2 := (rb.ex x2).hide ls fb
        have exH : ∀ o, Ex (hide H2 (owns Γ)) (upd H2 p o) := fun o => Ex.mut hide_ex (hide_in (owns_of hG)) (by rw [hw2]; trivial)
        have en3 := en2.mutOwn hG (RepAll.set ((ra.ex x2).hide ls fa) j1 rw2)
        obtain ⟨jj, hjj, rfl⟩ := hu1.ix
        have := nodup_ix nd hi hjj
        subst this
        have hG1 : (Γ.set i (.own p (ds.set j1 da)))[i]? = some (.own p (ds.set j1 da)) := by
          have hlt : i < Γ.length := (List.getElem?_eq_some_iff.mp hG).1
          rw [List.getElem?_set_self hlt]
        obtain ⟨hσ3, _⟩ := en3.ownW hG1
        refine ⟨_, _, rfl, _, hσ3, s2 σ _ en3 _ fun w2 H3 z2 ⟨k2, ez2, j2, hj2, Γ2, hu2, g⟩ x3 r3 _ => ?_⟩
        subst ez2
        cases r3
        have en4 := en3.ex x3
        obtain ⟨_, ws4, hw4, rw4, ls4⟩ := en4.ownW hG1
        refine ⟨p, ws4, k2, j2, rfl, rfl, hw4, by rw [rw4.length, List.length_set]; exact hj2, ?_⟩
        have en5 := en4.mutOwn hG1 (RepAll.set (((rb2.ex (exH _)).ex x3).hide ls4 fb) j2 rw4)
        obtain ⟨jj, hjj, rfl⟩ := hu2.ix
        have := nodup_ix nd hi hjj
        subst this
        exact ⟨rfl, g σ _ en5⟩
/-- xs[i], y = a, b -/
theorem s_setNm {p : Addr} {xn yn : Str} {kt : Nat} (hL : Look X.N Γ xn (.own p ds)) (h : EvN X Hb e Γ false fun d => ∃ d1 d2, d = .tup [d1, d2] ∧ (d1.flat = true ∧ d2.flat = true) ∧ EvN X Hb i1 Γ false fun z1 => ∃ k1, z1 = .int k1 ∧ ∃ j1, ixN ds.length k1 = some j1 ∧ Up1 X.N Γ xn (.own p (ds.set j1 d1)) fun Γ1 => Up1 X.N Γ1 yn (.dat d2) fun Γ2 => Go X Hb rest D0 Γ2) (nd : X.N.Nodup) (hL2 : Has X.N yn)
    (hv : Vis X.env.scope xn := by first | exact Or.inl rfl | exact Or.inr (Or.inl rfl) | exact Or.inr (Or.inr rfl)) (hdb : (xn == ("__debug__" : Str)) = false := by decide) (hcd : (xn == ("__classdict__" : Str)) = false := by decide) (hc : X.calm = true := by rfl)
    (hy : Loc X.env.scope yn := by first | exact Or.inl rfl | exact Or.inr rfl) (hf2 : X.fn yn = true ∨ X.env.scope.names.lookup yn = some .local := by first | exact .inl rfl | exact .inr rfl)
    (hw : swappedStores [.Tuple [.Subscript (.Name xn q1) i1 p1, .Name yn q2] kt pt] e X.env = pure none := by rfl)
    (hn : (assignEach [.Subscript (.Name xn q1) i1 p1, .Name yn q2] X.env).length = 2 := by rfl) (hst : (assignEach [.Subscript (.Name xn q1) i1 p1, .Name yn q2] X.env).findIdx? (·.1) = none := by rfl)
    (hz1 : (assignEach (.Subscript (.Name xn q1) i1 p1 :: [.Name yn q2]) X.env).map (·.2) = assign (.Subscript (.Name xn q1) i1 p1) X.env :: (assignEach [.Name yn q2] X.env).map (·.2) := by rfl) (hz2 : (assignEach (.Name yn q2 :: []) X.env).map (·.2) = assign (.Name yn q2) X.env :: (assignEach [] X.env).map (·.2) := by rfl)
    (hsw : swapsWithSole [.Tuple [.Subscript (.Name xn q1) i1 p1, .Name yn q2] kt pt] e pos.line X.env = pure false := by rfl) (h1 : (assignEach [.Tuple [.Subscript (.Name xn q1) i1 p1, .Name yn q2] kt pt] X.env).map (·.2) = [assign (.Tuple [.Subscript (.Name xn q1) i1 p1, .Name yn q2] kt pt) X.env] := by rfl)
    (hs1 : ∀ v, assign (.Subscript (.Name xn q1) i1 p1) X.env v = (do
      let ov ← holding [v] (eval (.Name xn q1) X.env)
      let iv ← holding [v, ov] (eval i1 X.env)
      standAt p1
      holding [v, ov, iv] (setItem ov iv v)
      release [v, ov, iv] []) := by intro _; rfl) :
    Go X Hb (.Assign [.Tuple [.Subscript (.Name xn q1) i1 p1, .Name yn q2] kt pt] e pos :: rest) D0 Γ := fun σ H en => by
  obtain ⟨i, hi, hG⟩ := hL.ix
  obtain ⟨j, hj⟩ := hL2.ix
  refine SemSs.cons (ps_asg (semE X e) (pg_tup hc (pgs_cons (pg_sub (pe_var hi hv hdb hcd) (semE X i1) set_list hs1) (pgs_cons (pg_name nd hj hy hf2) pgs_nil hz2) hz1) hn hst) hsw hw h1) (h σ H en _ fun v1 H1 d1 ⟨da, db, ed, ⟨fa, fb⟩, s⟩ x1 r1 _ => ?_)
  subst ed
  cases r1 with
  | tup hq ra =>
    cases ra with
    | cons ra rr =>
      cases rr with
      | cons rb rr =>
        cases rr
        have en1 := en.ex x1
        obtain ⟨hσ, _⟩ := en1.ownW hG
        refine ⟨_, _, rfl, hq, rfl, _, _, rfl, _, hσ, s σ H1 en1 _ fun w1 H2 z1 ⟨k1, ez, j1, hj1, Γ1, hu1, Γ2, hu2, g⟩ x2 r2 _ => ?_⟩
        subst ez
        cases r2
        have en2 := en1.ex x2
        obtain ⟨_, ws, hw2, rw2, ls⟩ := en2.ownW hG
        refine ⟨p, ws, k1, j1, rfl, rfl, hw2, by rw [rw2.length]; exact hj1, ?_⟩
        have rb2 := (rb.ex x2).hide ls fb
        have exH : ∀ o, Ex (hide H2 (owns Γ)) (upd H2 p o) := fun o => Ex.mut hide_ex (hide_in (owns_of hG)) (by rw [hw2]; trivial)
        have en3 := en2.mutOwn hG (RepAll.set ((ra.ex x2).hide ls fa) j1 rw2)
        obtain ⟨jj, hjj, rfl⟩ := hu1.ix
        have := nodup_ix nd hi hjj
        subst this
        obtain ⟨j2, hj2, rfl⟩ := hu2.ix
        have := nodup_ix nd hj hj2
        subst this
        exact ⟨_, _, rfl, rfl, g _ _ (en3.setDat (rb2.ex (exH _)) (.inl fb))⟩
end
end L3

/-! Core38: [elt for x in range(..)] where the range is one of some. -/
namespace L3
open PySem PySem.Spec PyProof.Rows L2
section
variable {X : Cx} {Hb : Hp} {elt iter : Expr} {scope : Scope} {Γ : Slots} {p' : Pos} {Q : D → Prop}
end
end L3

/-! Core39: a loop over things of a kind, nothing carried. -/
namespace L3
open PySem PySem.Spec PyProof.Rows L2
section
variable {X : Cx} {Hb : Hp} {a b e : Expr} {Γ : Slots} {pos pn p' : Pos} {D0 : Ends} {rest : List Stmt} {ds : List D} {es : List Expr}
end
end L3

/-! Core40: sorted(xs, key=lambda v: v[0] * (b // v[1])), b a name of the def. -/
namespace L3
open PySem PySem.Spec PyProof.Rows L2
/-! ### expressions that change no object -/
section
variable {prog : Program} {w : World} {A : Around} {env : Env} {s : Shared} {a b : Expr} {pos p1 : Pos}
end
/-! ### the lambda made -/
section
variable {X : Cx} {pins : List (Addr × Obj)} {σ : L2.St} {H : Hp} {s : Shared}
end
structure KeySc (sc : Scope) (xv yb : Str) : Prop where
  kind : sc.kind = .function
  co : sc.isCoroutine = false
  gen : sc.isGenerator = false
  names : sc.names = [(xv, .local), (yb, .free)]
  ne : xv ≠ yb
section
variable {X : Cx} {Hb : Hp} {a : Expr} {Γ : Slots} {pos pn lpos kpos : Pos} {Q : D → Prop}
end
/-! ### a def whose code object is known -/
section
variable {P : Program} {w : World} {K : PySem.W.Frag} {mg : Str → Option Value} {base : Heap}
end
end L3

/-! Core41: int(b) of a truth value. -/
namespace L3
open PySem PySem.Spec PyProof.Rows L2
section
variable {X : Cx} {Hb : Hp} {a : Expr} {Γ : Slots} {pos pn : Pos} {Q : D → Prop} {fr : Bool}
end
end L3

/-! Core42: not in. -/
namespace L3
open PySem PySem.Spec PyProof.Rows L2
section
variable {X : Cx} {d1 : D} {ds : List D} {S : Bool → Prop}
theorem op_ninL (hu : X.A.units + 65 < cLine) : OpR X (compareOp .NotIn) (fun x y H Q => ∃ d ds, Rep X.K H x d ∧ Rep X.K H y (.lst ds) ∧ (d.ok = true ∧ (D.lst ds).ok = true) ∧ (SeqAt.shaped d.py = true ∧ SeqAt.shaped (D.lst ds).py = true) ∧ Q (.bl (!(D.pyAll ds).any fun z => PyData.eqv z d.py)) H) := by
  intro pins s σ H x y v u Q I rx ry ⟨d, ds, h1, h2, ho, hs, q⟩
  obtain ⟨as, r1, _⟩ := Rep.reads I d x v h1 ho.1 rx
  obtain ⟨bs, r2, _⟩ := Rep.reads I _ y u h2 ho.2 ry
  exact SeqAt.notIn_list_reads r2 r1 (SeqAt.canLay_of_shaped hs.2) (SeqAt.canLay_of_shaped hs.1) (room_in_shaped hs.1 hu) ⟨.bl _, H, I, rfl, q⟩
theorem cmp_ninL {n : Nat} (hr : Room n X.A) (q : S (!(D.pyAll ds).any fun z => PyData.eqv z d1.py)) (h : (d1.ok = true ∧ (D.lst ds).ok = true) ∧ SeqAt.shaped d1.py = true ∧ SeqAt.shaped (D.lst ds).py = true) : CmpD X .NotIn d1 (.lst ds) S := CmpD.of (op_ninL (by have := hr.un; omega)) fun x y H Q' r1 r2 k => ⟨_, _, r1, r2, h.1, h.2, k _ q⟩
end
end L3

/-! Core43: zip of two tuples. -/
namespace L3
open PySem PySem.Spec PyProof.Rows L2
section
variable {X : Cx} {Hb : Hp} {a b : Expr} {Γ : Slots} {pos p' : Pos} {ds : List D}
end
end L3

/-! Core44: what is passed by names, by places. -/
namespace L3
open PySem PySem.Spec PyProof.Rows L2
section
variable {P : Pr} {Q : D → Prop} {x0 x1 x2 x3 : D}
theorem cput0 (h : Cl P [x0] Q) : Cl P (putIn .non [0] [x0]) Q := h
theorem cput01 (h : Cl P [x0, x1] Q) : Cl P (putIn .non [0, 1] [x0, x1]) Q := h
theorem cput10 (h : Cl P [x1, x0] Q) : Cl P (putIn .non [1, 0] [x0, x1]) Q := h
theorem cput012 (h : Cl P [x0, x1, x2] Q) : Cl P (putIn .non [0, 1, 2] [x0, x1, x2]) Q := h
theorem cput021 (h : Cl P [x0, x2, x1] Q) : Cl P (putIn .non [0, 2, 1] [x0, x1, x2]) Q := h
theorem cput102 (h : Cl P [x1, x0, x2] Q) : Cl P (putIn .non [1, 0, 2] [x0, x1, x2]) Q := h
theorem cput120 (h : Cl P [x1, x2, x0] Q) : Cl P (putIn .non [1, 2, 0] [x0, x1, x2]) Q := h
theorem cput201 (h : Cl P [x2, x0, x1] Q) : Cl P (putIn .non [2, 0, 1] [x0, x1, x2]) Q := h
theorem cput210 (h : Cl P [x2, x1, x0] Q) : Cl P (putIn .non [2, 1, 0] [x0, x1, x2]) Q := h
theorem cput0123 (h : Cl P [x0, x1, x2, x3] Q) : Cl P (putIn .non [0, 1, 2, 3] [x0, x1, x2, x3]) Q := h
theorem cput1032 (h : Cl P [x1, x0, x3, x2] Q) : Cl P (putIn .non [1, 0, 3, 2] [x0, x1, x2, x3]) Q := h
theorem cput2301 (h : Cl P [x2, x3, x0, x1] Q) : Cl P (putIn .non [2, 3, 0, 1] [x0, x1, x2, x3]) Q := h
theorem cput3210 (h : Cl P [x3, x2, x1, x0] Q) : Cl P (putIn .non [3, 2, 1, 0] [x0, x1, x2, x3]) Q := h
end
end L3

/-! Core45: xs.index(e), a list of ints. -/
namespace L3
open PySem PySem.Spec PyProof.Rows L2
section
variable {X : Cx} {Hb : Hp} {o e : Expr} {Γ : Slots} {cpos apos : Pos} {Q : D → Prop} {fr : Bool}
end
end L3

/-! Core46: *e in a display; sorted(set(xs)), len(set(xs)) of tuples of ints; xs.extend(e). -/
namespace L3
open PySem PySem.Spec PyProof.Rows L2
section
variable {X : Cx} {Hb : Hp} {a b e : Expr} {es : List Expr} {Γ : Slots} {pos p' apos cpos q0 : Pos} {ds : List D} {Q : D → Prop} {fr : Bool} {D0 : Ends} {rest : List Stmt}
end
end L3

/-! Core47: len(set(xs)) of tuples of ints; xs.extend(e) by walking. -/
namespace L3
open PySem PySem.Spec PyProof.Rows L2
section
variable {X : Cx} {Hb : Hp} {a b e : Expr} {es : List Expr} {Γ : Slots} {pos p' apos cpos q0 : Pos} {ds : List D} {Q : D → Prop} {fr : Bool} {D0 : Ends} {rest : List Stmt}
end
end L3

/-! Core48: for x, y, z in .., nothing carried. -/
namespace L3
open PySem PySem.Spec PyProof.Rows L2
section
variable {X : Cx} {Hb Hb' : Hp} {e : Expr} {Γ : Slots} {pos p1 p2 p3 p4 : Pos} {D0 : Ends} {rest : List Stmt}
local macro_rules | `(tactic| walk_at "ati") => `(tactic| first | (apply At.z; with_reducible rfl) | (apply At.s; walk_at "ati"))
end
end L3

/-! Core49: sorted(set(xs)), xs a list of ints. -/
namespace L3
open PySem PySem.Spec PyProof.Rows L2
section
variable {P : Program} {w : World} {A : Around} {E : Value → Shared → Prop} {s : Shared}
end
section
variable {X : Cx} {Hb : Hp} {a b e : Expr} {es : List Expr} {Γ : Slots} {pos p' apos cpos q0 : Pos} {ds : List D} {Q : D → Prop} {fr : Bool} {D0 : Ends} {rest : List Stmt}
end
end L3

/-! Core50: a list taken apart into two names; xs[::-1]. -/
namespace L3
open PySem PySem.Spec PyProof.Rows L2
section
variable {X : Cx} {Hb : Hp} {a b c e : Expr} {es : List Expr} {Γ : Slots} {pos p' : Pos} {ds : List D} {Q : D → Prop} {fr : Bool} {D0 : Ends} {rest : List Stmt}
end
end L3

/-! Core51: defs that use repr, called where no repr is under way. -/
namespace L3
open PySem PySem.Spec PyProof.Rows L2
section
variable {X : Cx} {Hb : Hp} {e : Expr} {es : List Expr} {Γ : Slots} {pos p : Pos} {S Q : D → Prop} {fr : Bool}
theorem run_fnG {k : Nat} {f : Addr} {fd : FuncData} {ps : List Str} {sp : Sp} {ds : List Value} {dvs : List V} {pins : List (Addr × Obj)} {σ : L2.St} {H : Hp} {s : Shared} {Q : VK} {us : List Value} {vs : List V} (F : FnG X.prog X.w X.K X.mg X.base k f fd ps sp) (hgd : X.A.guards = some []) (hr : Room k X.A) (hb : Binds X.K fd ps ds) (hd : Vals dvs ds)
    (I : Inv X pins σ H s) (r : Vals vs us) (h : sp (vs ++ dvs) H Q E0) : wpAny (model X.prog X.w) X.A (call (.ref f) us) (EP X pins σ Q) X.xe s := by
  have r2 : Vals (vs ++ dvs) (us ++ ds) := r.append hd
  have hl : (us ++ ds).length = ps.length := by rw [← r2.length]; exact F.ar _ _ _ _ h
  refine wpAny_call (codeAny_mono (F.go X.A X.stack s H ⟨us, []⟩ (us ++ ds) (vs ++ dvs) Q hgd hr I.env0 (hb s us I.kIn hl) r2 h) fun r s' hq => ?_)
  cases r with
  | error e => exact pass0 pins σ H s e s' I hq
  | ok fl =>
    cases fl with
    | ret u => exact I.after hq
    | next => exact False.elim hq
    | brk => exact False.elim hq
    | cont => exact False.elim hq
structure FnPG (P : Program) (w : World) (K : PySem.W.Frag) (mg : Str → Option Value) (base : Heap) (x : Str) (k : Nat) (Q : Pr) : Prop where
  ex : ∃ (f : Addr) (fd : FuncData) (ps : List Str), FnG P w K mg base k f fd ps (spN K Q) ∧ mg x = some (.ref f) ∧ PySem.W.keepIn K (.ref f) = true ∧ Binds K fd ps []
theorem evn_callG {x : Str} {pn : Pos} {k k' : Nat} {P : Pr} {SA : List D → Prop} (F : FnPG X.prog X.w X.K X.mg X.base x k P) (hgd : X.A.guards = some []) (hr : Room k' X.A) (hA : EvA X Hb (e :: es) Γ SA) (hP : ∀ ds, SA ds → ∃ S0, P ds S0 ∧ ∀ d, S0 d → S d)
    (hk : k ≤ k' := by decide) (hg : Gl X x := by rfl) (hdb : (x == ("__debug__" : Str)) = false := by decide) (he : starEach (e :: es) X.env = (false, eval e X.env) :: starEach es X.env := by rfl) (hpl : (backTo pos (starEach es X.env)).any (·.1) = false := by rfl) :
    EvN X Hb (.Call (.Name x pn) (e :: es) [] pos) Γ true S := fun σ H en Q q => by
  obtain ⟨f, fd, ps, G, hm, hkp, hb⟩ := F.ex
  refine ⟨fun pins s I => ?_⟩
  refine wpAny_Call_Name_kw (ld_glob I hg hm ?_ hdb)
  refine PySem.W.callWith_K (h₀ := X.base) I.ok.mod.kin hkp (thn ((semA X (e :: es)).run pos pins s σ H _ I (hA σ H en (fun vs H1 => spN X.K P (vs ++ []) H1 Q E0) fun vs H1 ds s x1 r => ?_)) fun us s1 ⟨vs, H1, I1, r, q⟩ => ⟨I1.kIn, run_fnG G hgd (hr.mono hk) hb .nil I1 r q⟩) he hpl
  obtain ⟨S0, hS0, hS⟩ := hP ds s
  show spN _ _ (vs ++ []) H1 Q E0
  rw [List.append_nil]
  exact ⟨en.tb.ex (en.base.trans x1), ds, S0, r, hS0, fun v H' d s0 x2 r2 f2 => q v H' d (hS d s0) (x1.trans x2) r2 fun _ => f2.back x1⟩
theorem w_callG {x : Str} {pn : Pos} {k k' : Nat} {P : Pr} (F : FnPG X.prog X.w X.K X.mg X.base x k P) (hgd : X.A.guards = some []) (hr : Room k' X.A) (h : EvA X Hb (e :: es) Γ fun ds => Cl P ds Q)
    (hk : k ≤ k' := by decide) (hg : Gl X x := by rfl) (hdb : (x == ("__debug__" : Str)) = false := by decide) (he : starEach (e :: es) X.env = (false, eval e X.env) :: starEach es X.env := by rfl) (hpl : (backTo pos (starEach es X.env)).any (·.1) = false := by rfl) :
    EvN X Hb (.Call (.Name x pn) (e :: es) [] pos) Γ fr Q := EvN.fresh (evn_callG F hgd hr h (fun ds h => h) hk hg hdb he hpl)
end
section
variable {P : Program} {w : World} {K : PySem.W.Frag} {mg : Str → Option Value} {base : Heap}
end
end L3

/-! Core52: comprehensions over a list of one's own. -/
namespace L3
open PySem PySem.Spec PyProof.Rows L2
section
variable {X : Cx} {Hb Hb' : Hp} {a b c e elt iter tg : Expr} {es ifs : List Expr} {Γ : Slots} {pos p' apos cpos : Pos} {d x y : D} {ds : List D} {S S' : D → Prop} {fr : Bool} {scope : Scope} {own : List (Str × Nat)}
end
section
variable {X : Cx} {Hb Hb' : Hp} {a b c e elt iter tg : Expr} {es ifs : List Expr} {Γ Γ' : Slots} {pos p' p1 p2 p3 apos cpos : Pos} {d x y : D} {ds : List D} {Q S S' : D → Prop} {fr : Bool} {D0 : Ends} {rest sts : List Stmt} {st : Stmt} {scope : Scope} {own : List (Str × Nat)}
end
end L3

/-! Core53: an attribute as a target. -/
namespace L3
open PySem PySem.Spec PyProof.Rows L2
section
variable {X : Cx} {o : Expr} {f : Str} {pos : Pos} {ob : TE}
end
end L3

/-! Core54: {key: value for .. in ..} with tuples of ints as keys. -/
namespace L3
open PySem PySem.Spec PyProof.Rows L2
section
variable {X : Cx} {pins : List (Addr × Obj)} {σ : L2.St} {H : Hp}
/-- a dict whose keys are tuples of ints: key, the tuple's place, the value, an int -/
abbrev DEnt := List Int × Addr × Int
variable {Q : VK} {ke ve tg it : Expr} {sc : Scope} {own : List (Str × Nat)} {pos p2 : Pos} {wi : TI} {g : TG} {kt vt : TE}
end
section
variable {X : Cx} {i o : Expr} {pos : Pos} {ty td : TE}
end
end L3

/-! Core55: objects of one's own in a slot: methods, made by a class. -/
namespace L3
open PySem PySem.Spec PyProof.Rows L2
section
variable {K : PySem.W.Frag} {Hb Hz H H' : Hp} {Γ : Slots} {σ : L2.St}
theorem ex_hides {ps qs : List Addr} (hl : Lsts H ps) (h : ∀ p ∈ ps, p ∈ qs) : Ex (hide H qs) (hide H ps) := ex_hide hide_ex hl fun p m => hide_in (h p m)
theorem EnvOk.resW {i : Nat} {ps : List Addr} {v : V} {φ : List HO → Hp → Prop} (h : EnvOk K Hb Γ σ H) (e : Γ[i]? = some (.res ps v φ)) : σ[i]? = some (some v) ∧ Lsts H (owns Γ) ∧ Lsts H ps ∧ ∃ us, Cells H ps us ∧ φ us (hide H ps) := by
  obtain ⟨h1, h2, h3, h4⟩ := h.wide
  obtain ⟨o, q, rfl, us, c, n, f⟩ := Paired.getE h3 e
  have hl : Lsts H ps := Cells.mem c
  exact ⟨q, owns_lsts h3, hl, us, c, f _ (ex_hides hl fun p m => owns_cells e p m)⟩
/-- the cells of an entry are changed, and more may stand -/
theorem EnvOk.mutEx {i : Nat} {e e' : Ent} {v : V} (h : EnvOk K Hb Γ σ H) (he : Γ[i]? = some e) (hv : σ[i]? = some (some v)) (hc : e'.cells = e.cells) (x : Ex (hide H e.cells) H') (hm : ∀ p ∈ e.cells, ∃ u, H' p = some u ∧ Mu u)
    (hok : ∀ Hz, Ex Hz H' → (∀ p ∈ e.cells, Hz p = none) → Lsts H' (owns Γ) → Ex (hide H' (owns Γ)) Hz → EntOk K Hz H' e' (some v)) : EnvOk K Hb (Γ.set i e') σ H' := by
  obtain ⟨h1, h2, h3, h4⟩ := h.wide
  have hl := owns_lsts h3
  have le : Lsts H e.cells := fun p m => hl p (owns_cells he p m)
  have x1 : Ex (hide H (owns Γ)) H' := (ex_hides le fun p m => owns_cells he p m).trans x
  have st : ∀ p u, p ∉ e.cells → H p = some u → Mu u → H' p = some u := fun p u m q mu => x.get p u (by rw [hide_out m]; exact q) mu.nt
  have l2 : Lsts H' (owns Γ) := fun p m => by
    by_cases z : p ∈ e.cells
    · exact hm p z
    · obtain ⟨u, q, mu⟩ := hl p m
      exact ⟨u, st p u z q mu, mu⟩
  have x2 : Ex (hide H (owns Γ)) (hide H' (owns Γ)) := ex_hide x1 l2 fun p m => hide_in m
  have go : ∀ {Γ' : Slots} {σ' : L2.St} {j : Nat}, Paired (EntOk K (hide H (owns Γ)) H) Γ' σ' → Γ'[j]? = some e → σ'[j]? = some (some v) → (owns Γ').Nodup → (∀ p ∈ owns Γ', p ∈ owns Γ) → Paired (EntOk K (hide H' (owns Γ)) H') (Γ'.set j e') σ' ∧ owns (Γ'.set j e') = owns Γ' := by
    have oth : ∀ {Γ' : Slots} {σ' : L2.St}, Paired (EntOk K (hide H (owns Γ)) H) Γ' σ' → (∀ p ∈ e.cells, p ∉ owns Γ') → (∀ p ∈ owns Γ', p ∈ owns Γ) → Paired (EntOk K (hide H' (owns Γ)) H') Γ' σ' := fun {Γ' σ'} k np sb => Paired.mapE k fun a b m q => by
      obtain ⟨j, hj, hmm⟩ := List.mem_iff_getElem.mp m
      have ha : Γ'[j]? = some a := by rw [List.getElem?_eq_getElem hj, hmm]
      refine q.growC x2 fun p u mc q1 mu q2 => ⟨st p u (fun z => np p z (owns_cells ha p mc)) q1 mu, hide_in (sb p (owns_cells ha p mc))⟩
    intro Γ'
    induction Γ' with
    | nil => intro σ' j _ z; simp at z
    | cons a rr ih =>
      intro σ' j k z zv nd sb
      rw [owns_cons] at nd sb
      have nd' := nodup_app.mp nd
      cases k with
      | cons k1 k2 =>
        cases j with
        | zero =>
          simp at z
          subst z
          simp at zv
          subst zv
          refine ⟨.cons (hok _ hide_ex (fun p m => hide_in (owns_cells he p m)) l2 Ex.refl) (oth k2 nd'.2.2 fun p m => sb p (List.mem_append_right _ m)), ?_⟩
          show owns (e' :: rr) = owns (a :: rr)
          rw [owns_cons, owns_cons, hc]
        | succ j =>
          have z' : rr[j]? = some e := by simpa using z
          obtain ⟨u1, u2⟩ := ih k2 z' (by simpa using zv) nd'.2.1 fun p m => sb p (List.mem_append_right _ m)
          refine ⟨.cons (k1.growC x2 fun p u mc q1 mu q2 => ⟨st p u (fun w => nd'.2.2 p mc (owns_cells z' p w)) q1 mu, hide_in (sb p (List.mem_append_left _ mc))⟩) u1, ?_⟩
          show owns (a :: rr.set j e') = owns (a :: rr)
          rw [owns_cons, owns_cons, u2]
  obtain ⟨u1, u2⟩ := go h3 he hv h4 fun p m => m
  exact ⟨_, h1.trans x2, hide_ex, u1, by rw [u2]; exact h4⟩
end
/-- what a method promises: a of α says which case; cells ps, what stands there ahead and behind, the arguments, the answer -/
structure MSpec (α : Type) where
  ps : α → List Addr
  self : α → V
  pre : α → List HO → Hp → Prop
  args : α → List D
  ok : α → Prop
  post : α → List HO → List HO → Hp → Prop
  res : α → D
/-- what an __init__ promises -/
structure ISpec (α : Type) where
  args : α → List D
  ok : α → Prop
  post : α → Addr → Addr → List HO → Hp → Prop
section
variable {X : Cx} {Hb Hb' : Hp} {a b c e : Expr} {es : List Expr} {Γ Γ' : Slots} {pos p' p2 apos cpos : Pos} {d x y : D} {ds : List D} {Q S S' : D → Prop} {fr : Bool} {D0 : Ends} {rest sts : List Stmt} {st : Stmt}
/-- what a method call asks of its slot -/
structure HasM (K : PySem.W.Frag) (C : Addr) (m : Str) (ps : List Addr) (v : V) (φ : List HO → Hp → Prop) : Prop where
  at_ : ∀ us Hz, φ us Hz → ∃ o dx fs rest r2, v = .ref o ∧ ps = o :: rest ∧ us = .ins C dx fs :: r2 ∧ fs.lookup m = none
end
end L3

/-! Core56: x, y = C(..), e; a dict of words and their places. -/
namespace L3
open PySem PySem.Spec PyProof.Rows L2
section
variable {X : Cx} {Hb : Hp} {a b e : Expr} {es : List Expr} {Γ : Slots} {pos p1 p2 p3 cpos : Pos} {ds : List D} {Q : D → Prop} {D0 : Ends} {rest : List Stmt}
end
structure DicWs (ps : List DEnt) (ws : List (List Int)) : Prop where
  k : ps.map (·.1) = ws
  v : ps.map (·.2.2) = (List.range ws.length).map fun (i : Nat) => (i : Int)
theorem DicWs.at_ {ps : List DEnt} {ws : List (List Int)} (h : DicWs ps ws) {i : Nat} {p : DEnt} (e : ps[i]? = some p) : ws[i]? = some p.1 ∧ p.2.2 = (i : Int) := by
  have h1 : ws[i]? = some p.1 := by rw [← h.k, List.getElem?_map, e]; rfl
  have hi : i < ws.length := (List.getElem?_eq_some_iff.mp h1).1
  have h2 : (ps.map (·.2.2))[i]? = some p.2.2 := by rw [List.getElem?_map, e]; rfl
  rw [h.v, List.getElem?_map, List.getElem?_range hi] at h2
  exact ⟨h1, (Option.some.inj h2).symm⟩
section
variable {X : Cx} {Hb : Hp} {tg it : Expr} {Γ : Slots} {own : List (Str × Nat)}
end
end L3

/-! Core57: C(..).m(..), a new object asked and thrown away. -/
namespace L3
open PySem PySem.Spec PyProof.Rows L2
section
variable {X : Cx} {Hb : Hp} {a b e : Expr} {es bs : List Expr} {Γ : Slots} {pos p1 p2 p3 cpos apos : Pos} {ds : List D} {Q : D → Prop} {fr : Bool}
end
end L3

/-! Core58: divmod. -/
namespace L3
open PySem PySem.Spec PyProof.Rows L2
section
variable {X : Cx} {Hb : Hp} {a b e : Expr} {es : List Expr} {Γ : Slots} {pos p1 p2 p3 cpos apos : Pos} {ds : List D} {Q : D → Prop} {fr : Bool} {D0 : Ends} {rest : List Stmt}
variable {elt iter tg : Expr} {ifs : List Expr} {scope : Scope} {Γ2 : Slots}
end
end L3

/-! Core59: x, (y, z) = a, b. -/
namespace L3
open PySem PySem.Spec PyProof.Rows L2
section
variable {X : Cx} {Hb : Hp} {a b e : Expr} {es : List Expr} {Γ : Slots} {pos p1 p2 p3 cpos apos : Pos} {ds : List D} {Q : D → Prop} {fr : Bool} {D0 : Ends} {rest : List Stmt}
end
end L3

/-! Core60: a new list of two new lists, kept in a slot; x[0].append(e). -/
namespace L3
open PySem PySem.Spec PyProof.Rows L2
section
variable {X : Cx} {Hb Hb' : Hp} {a b c e : Expr} {es : List Expr} {Γ Γ' : Slots} {pos p' p2 apos cpos : Pos} {d x y : D} {ds : List D} {Q S S' : D → Prop} {fr : Bool} {D0 : Ends} {rest sts : List Stmt} {st : Stmt}
end
end L3

/-! Core61: a def that returns a new list of two new lists of ints; x, y = f(..), e. -/
namespace L3
open PySem PySem.Spec PyProof.Rows L2
/-- a new list of two new ones -/
def RtN2 (H : Hp) (ns1 ns2 : List Int) (v : V) (H' : Hp) : Prop := ∃ p qa qb, v = .ref p ∧ [p, qa, qb].Nodup ∧ (∀ q ∈ [p, qa, qb], H q = none) ∧ Ex H H' ∧ Cells H' [p, qa, qb] [.lst [.ref qa, .ref qb], .lst (ns1.map .int), .lst (ns2.map .int)]
def spT2 (K : PySem.W.Frag) (R : List D → List Int → List Int → Prop) : Sp := fun vs H Q _ => TbOk K H ∧ ∃ ds ns1 ns2, RepAll K H vs ds ∧ R ds ns1 ns2 ∧ ∀ v H', RtN2 H ns1 ns2 v H' → Q v H'
structure FnT2 (P : Program) (w : World) (K : PySem.W.Frag) (mg : Str → Option Value) (base : Heap) (x : Str) (k : Nat) (R : List D → List Int → List Int → Prop) : Prop where
  ex : ∃ (f : Addr) (fd : FuncData) (ps : List Str), FnOk P w K mg base CX0 k f fd ps (spT2 K R) ∧ mg x = some (.ref f) ∧ PySem.W.keepIn K (.ref f) = true ∧ Binds K fd ps []
section
variable {P : Program} {w : World} {K : PySem.W.Frag} {mg : Str → Option Value} {base : Heap}
end
section
variable {X : Cx} {Hb Hb' : Hp} {a b c e : Expr} {es : List Expr} {Γ Γ' : Slots} {pos p' p2 apos cpos : Pos} {d x y : D} {ds : List D} {Q S S' : D → Prop} {fr : Bool} {D0 : Ends} {rest sts : List Stmt} {st : Stmt}
end
end L3

/-! Core62: for x, y in ..: a loop with a state that is one of some. -/
namespace L3
open PySem PySem.Spec PyProof.Rows L2
section
variable {X : Cx} {Hb : Hp} {a b e : Expr} {Γ : Slots} {pos pn p' p1 p2 p3 : Pos} {D0 : Ends} {rest : List Stmt}
/-- for x, y in ..: behind i turns the state is one of I i -/
theorem s_stJ2 {α β : Type} {body : List Stmt} {xn yn : Str} {kt : Nat} {Γ1 Γe : β → α → Slots} {i j : Nat} (f1 f2 : α → D) (xs : List α) (G : β → Slots) (I : Nat → β → Prop) (s0 : β) (h0 : I 0 s0) (hit : EvJ X Hb (.Tuple [.Name xn p1, .Name yn p2] kt p3) e (G s0) (· = xs.map fun a => .tup [f1 a, f2 a]))
    (hs : ∀ Hb', Ex Hb Hb' → ∀ n a s, xs[n]? = some a → I n s → Go X Hb' body { D0 with nx := Btw X Hb' (fun Γ' => ∃ s', I (n + 1) s' ∧ Γ' = G s'), ct := Btw X Hb' (fun Γ' => ∃ s', I (n + 1) s' ∧ Γ' = G s'), bk := fun σ H => SemSs X rest D0 σ H } (Γe s a))
    (hd : ∀ s, I xs.length s → Go X Hb rest D0 (G s)) (hsub : Sub Γ (G s0) := by walk_at "sub") (hi : At X.N xn i := by walk_at "ati") (hj : At X.N yn j := by walk_at "ati") (hu : ∀ s a, Up X.N (G s) xn (.dat (f1 a)) (Γ1 s a) := by intro _ _; walk_at "up") (hu2 : ∀ s a, Up X.N (Γ1 s a) yn (.dat (f2 a)) (Γe s a) := by intro _ _; walk_at "up")
    (hst : ∀ s a, a ∈ xs → Sto (G s) (f1 a) ∧ Sto (Γ1 s a) (f2 a) := by intro _ _ _; exact ⟨by walk_at "sto", by walk_at "sto"⟩) (nd : X.N.Nodup := by assumption)
    (hp : PassesOwn (model X.prog X.w) X.A X.env X.xe := by exact PassesOwn.never) (hc : X.calm = true := by rfl)
    (hg : PG X (.Tuple [.Name xn p1, .Name yn p2] kt p3) (Tg.g X.K (.tp [.nm i, .nm j])) := by exact pg_two rfl (pg_name (by assumption) rfl (by first | exact Or.inl rfl | exact Or.inr rfl)) (pg_name (by assumption) rfl (by first | exact Or.inl rfl | exact Or.inr rfl)))
    (hfs : ∀ x, foldedSetIterable e X.env x = pure x := by intro _; rfl) :
    Go X Hb (.For (.Tuple [.Name xn p1, .Name yn p2] kt p3) e body [] pos :: rest) D0 Γ := by
  refine go_weak (fun _ _ h => h.sub hsub) (go_forJ (.tp [.nm i, .nm j]) (fun _ n Γ' => ∃ s, I n s ∧ Γ' = G s) hit (fun _ _ => ⟨s0, h0, rfl⟩) (fun Hb' eb ds n x Γ' es hx' hI => ?_) (fun ds Γ' es hI => ?_) hp hc hg hfs)
  · subst es
    obtain ⟨s, hI, rfl⟩ := hI
    rw [List.getElem?_map] at hx'
    obtain ⟨a, ha, rfl⟩ : ∃ a, xs[n]? = some a ∧ x = .tup [f1 a, f2 a] := by
      cases z : xs[n]? with
      | none => rw [z] at hx'; cases hx'
      | some a => rw [z] at hx'; cases hx'; exact ⟨a, rfl, rfl⟩
    have hm := List.mem_of_getElem? ha
    exact ⟨Γe s a, ⟨_, rfl, _, _, _, rfl, ⟨(hst s a hm).1, (up_set nd hi.ix (hu s a)).symm⟩, _, _, _, rfl, ⟨(hst s a hm).2, (up_set nd hj.ix (hu2 s a)).symm⟩, rfl, rfl⟩, hs Hb' eb n a s ha hI⟩
  · subst es
    obtain ⟨s, hI, rfl⟩ := hI
    rw [List.length_map] at hI
    exact hd s hI
end
end L3

/-! Core63: zip of three lists. -/
namespace L3
local macro_rules | `(tactic| walk_at "nx") => `(tactic| first | omega | (show @Ne Nat _ _; omega))
open PySem PySem.Spec PyProof.Rows L2
abbrev Zp (h : Heap) (n : Nat) (f0 : Value) : Prop := h.get? (n + 5) = some { cls := .type "zip", dict := none, data := .fields #[f0, .bool false, .bool false, .ref (n + 3), .ref (n + 4)], slots := #[] }
abbrev Tr3 (h : Heap) (T : Addr) (a b c : Value) : Prop := h.get? T = some { cls := .type "tuple", data := .seq #[a, b, c] }
structure Z3 (h : Heap) (n l1 l2 l3 k : Nat) (f0 : Value) : Prop where
  z : Zp h n f0
  ti : Tr3 h (n + 3) (.ref n) (.ref (n + 1)) (.ref (n + 2))
  to : ∃ a b c, Tr3 h (n + 4) a b c
  i1 : h.IsListIter n l1 k
  i2 : h.IsListIter (n + 1) l2 k
  i3 : h.IsListIter (n + 2) l3 k
structure Lt3 (n l1 l2 l3 : Nat) : Prop where
  a : l1 < n
  b : l2 < n
  c : l3 < n
section
variable {prog : Program} {w : World} {A : Around} {E : Value → Shared → Prop} {s : Shared} {n l1 l2 l3 k : Nat}
end
end L3

namespace L3
local macro_rules | `(tactic| walk_at "nx") => `(tactic| first | omega | (show @Ne Nat _ _; omega))
open PySem PySem.Spec PyProof.Rows L2
section
variable {prog : Program} {w : World} {A : Around} {E : Value → Shared → Prop} {s : Shared} {l1 l2 l3 : Nat}
end
end L3

namespace L3
local macro_rules | `(tactic| walk_at "nx") => `(tactic| first | omega | (show @Ne Nat _ _; omega))
open PySem PySem.Spec PyProof.Rows L2
end L3

/-! Core66: a loop over zip of three lists. -/
namespace L3
open PySem PySem.Spec PyProof.Rows L2
section
variable {X : Cx} {Hb : Hp} {a b c : Expr} {Γ : Slots} {pos p' : Pos}
end
end L3

/-! Core67: a comprehension of new lists. -/
namespace L3
open PySem PySem.Spec PyProof.Rows L2
section
variable {X : Cx} {Hb Hb' : Hp} {a b c e elt iter tg : Expr} {es ifs : List Expr} {Γ : Slots} {pos p' apos cpos : Pos} {d x y : D} {ds : List D} {Q S S' : D → Prop} {fr : Bool} {scope : Scope} {own : List (Str × Nat)}
end
end L3

/-! Core68: what stands apart from one's own lists; x.append of such a thing. -/
namespace L3
open PySem PySem.Spec PyProof.Rows L2
/-- the value stands apart from the lists of one's own -/
def EvH (X : Cx) (Hb : Hp) (e : Expr) (Γ : Slots) (S : D → Prop) : Prop := ∀ σ H, EnvOk X.K Hb Γ σ H → ∀ Q : VK, (∀ v H' d, S d → Ex H H' → Rep X.K (hide H' (owns Γ)) v d → Q v H') → SemE X e σ H Q
section
variable {X : Cx} {Hb Hb' : Hp} {a b c e : Expr} {es : List Expr} {Γ Γ' : Slots} {pos p' p2 apos cpos : Pos} {d x y : D} {ds : List D} {Q S S' S1 S2 : D → Prop} {fr : Bool} {D0 : Ends} {rest : List Stmt}
theorem EvH.imp (h : EvH X Hb e Γ S) (f : ∀ d, S d → S' d) : EvH X Hb e Γ S' := fun σ H en Q q => h σ H en Q fun v H' d s => q v H' d (f d s)
end
end L3

/-! Core69: texts: len, slices, in, int(..), str(..), f'..', a loop over the signs. -/
namespace L3
open PySem PySem.Spec PyProof.Rows L2
section
variable {X : Cx} {Hb Hb' : Hp} {a b c e : Expr} {es : List Expr} {Γ Γ' : Slots} {pos p' p2 pn apos cpos : Pos} {d x y : D} {ds : List D} {Q S' : D → Prop} {S : Bool → Prop} {fr : Bool} {D0 : Ends} {rest : List Stmt}
end
end L3

/-! Core70: dicts that are locked while a loop goes over them. -/
namespace L3
open PySem PySem.Spec PyProof.Rows L2
/-! ### alike but for a lock -/
def isFrz : HO → Bool
  | .frz _ _ => true
  | _ => false
theorem Rd.one {H : Hp} {a : Addr} {kvs : List (Key × V)} {u : HO} (h : Rd H a (.dK kvs)) (h' : Rd H a u) (n : isFrz u = false) : u = .dK kvs := by
  rcases h with h | ⟨o, h⟩ <;> rcases h' with h' | ⟨o', h'⟩ <;> rw [h] at h' <;> injection h' with e
  · exact e.symm
  · cases e
  · rw [← e] at n; cases n
  · injection e with _ e; exact e.symm
structure Lok (a : Addr) (kvs : List (Key × V)) (H H1 : Hp) : Prop where
  off : ∀ b, b ≠ a → H1 b = H b
  l : Rd H a (.dK kvs)
  r : Rd H1 a (.dK kvs)
section
variable {K : PySem.W.Frag} {H H1 : Hp} {a : Addr} {kvs : List (Key × V)}
theorem Lok.rd (h : Lok a kvs H H1) {b : Addr} {u : HO} (r : Rd H b u) (n : isFrz u = false) : Rd H1 b u := by
  by_cases e : b = a
  · subst e
    rw [Rd.one h.l r n]
    exact h.r
  · rcases r with r | ⟨o, r⟩
    · exact .inl (by rw [h.off b e]; exact r)
    · exact .inr ⟨o, by rw [h.off b e]; exact r⟩
theorem Lok.at_ (h : Lok a kvs H H1) {b : Addr} {u : HO} (r : H b = some u) (n : isFrz u = false) (m : ∀ k, u ≠ .dK k) : H1 b = some u := by
  rw [h.off b fun e => ?_]
  · exact r
  · subst e
    exact m _ (Rd.one h.l (.inl r) n)
theorem Lok.tab (h : Lok a kvs H H1) {P : Addr} {q : Str} (t : LamX.TabS H P q) : LamX.TabS H1 P q := by
  obtain ⟨ps, h1, h2, h3⟩ := t
  have key : ∀ b u, H b = some u → (∀ k, u ≠ .dK k) → (isFrz u = false) → H1 b = some u := fun b u e n f => h.at_ e f n
  refine ⟨ps, key _ _ h1 (fun k z => nomatch z) rfl, h2, fun pos cv hc => ?_⟩
  obtain ⟨c, e1, e2⟩ := h3 pos cv hc
  exact ⟨c, e1, key _ _ e2 (fun k z => nomatch z) rfl⟩
end
/-- no thing in cells of its own kind -/
def noRes : Slots → Bool
  | [] => true
  | .res _ _ _ :: _ => false
  | _ :: r => noRes r
section
variable {K : PySem.W.Frag} {Hb H H1 Hz Hz1 : Hp} {Γ Γb : Slots} {σ : L2.St} {a : Addr} {kvs : List (Key × V)} {ob : Obj}
end
/-- what is handed back in a loop over a locked dict -/
structure LkRet (K : PySem.W.Frag) (D0 : Ends) (Hb : Hp) (D' : Ends) (Hb' : Hp) : Prop where
  h : ∀ d, RetD K D0 Hb d → RetD K D' Hb' d
  l : ∀ d, RetL K D0 Hb d → RetL K D' Hb' d
theorem ret_lk {K : PySem.W.Frag} {D0 D' D1 : Ends} {Hb Hb' Hb1 : Hp} {d : D} (h : LkRet K D0 Hb D' Hb') (q : RetD K D0 Hb d) (ex : Ex Hb' Hb1) (e : D1.rt = D'.rt := by rfl) : RetD K D1 Hb1 d := fun v H' ⟨x, r, f⟩ => by
  rw [e]
  exact h.h d q v H' ⟨ex.trans x, r, f.back ex⟩
section
variable {X : Cx} {Hb Hb' : Hp} {a b c e elt iter tg tst : Expr} {es ifs : List Expr} {Γ Γb Γ' : Slots} {pos p' p2 apos cpos : Pos} {d x y : D} {ds : List D} {Q S S' : D → Prop} {fr : Bool} {D0 : Ends} {rest body : List Stmt} {scope : Scope}
/-- a key as data -/
def kD : Key → D
  | .inl i => .int i
  | .inr x => .str x
theorem rep_kD {K : PySem.W.Frag} {H : Hp} (k : Key) : Rep K H (kV k) (kD k) := by cases k with | inl i => exact .int i | inr x => exact .str x
theorem RepKV.get' {K : PySem.W.Frag} {H : Hp} : ∀ {vs : List (Key × V)} {ds : List (Key × D)} {i : Nat} {k : Key} {v : V}, RepKV K H vs ds → vs[i]? = some (k, v) → ∃ d, ds[i]? = some (k, d) ∧ Rep K H v d
  | _, _, _, _, _, .nil, e => by simp at e
  | _, _, 0, _, _, .cons h _, e => by simp at e; obtain ⟨rfl, rfl⟩ := e; exact ⟨_, rfl, h⟩
  | _, _, i + 1, k, v, .cons _ r, e => by
    obtain ⟨d, h1, h2⟩ := RepKV.get' (i := i) (k := k) (v := v) r (by simpa using e)
    exact ⟨d, by simpa using h1, h2⟩
theorem RepKV.length {K : PySem.W.Frag} {H : Hp} : ∀ {vs : List (Key × V)} {ds : List (Key × D)}, RepKV K H vs ds → vs.length = ds.length
  | _, _, .nil => rfl
  | _, _, .cons _ r => congrArg (· + 1) (RepKV.length r)
variable {kds : List (Key × D)}
end
end L3

/-! Core71: loops and comprehensions over dicts. -/
namespace L3
open PySem PySem.Spec PyProof.Rows L2
section
variable {X : Cx} {Hb Hb' : Hp} {a b c e elt iter tg tst : Expr} {es ifs : List Expr} {Γ Γb Γ' : Slots} {pos p' p1 p2 p3 apos cpos : Pos} {d x y : D} {ds : List D} {Q S S' : D → Prop} {fr : Bool} {D0 : Ends} {rest body : List Stmt} {scope : Scope} {kds : List (Key × D)}
/-! ### comprehensions -/
/-- a comprehension that may be locked -/
def LcK (X : Cx) (Hb : Hp) (elt tg iter : Expr) (ifs : List Expr) (scope : Scope) (Γ : Slots) (S : D → Prop) : Prop :=
  ∃ own : List (Str × Nat), X.calm = true ∧ X.N.Nodup ∧ BlkOk X.N X.env.scope scope own ∧ (∀ x, foldedSetIterable iter X.env x = pure x) ∧ ∃ (wi : TI) (g : TG) (tt : TT) (te : TE), PI X tg iter wi ∧ (AllIn X scope fun Y => PG Y tg g) ∧ (AllIn X scope fun Y => PTs Y ifs tt) ∧ (AllIn X scope fun Y => PE Y elt te) ∧
    ∀ σ H, EnvOk X.K Hb Γ σ H → ∀ Q : VK, (∀ v H' d, S d → Ex H H' → Rep X.K H' v d → FreshD X.K H H' v d → Q v H') → tLc wi g tt te (own.map (·.2)) σ H Q ∨ tLockE (tLc wi g tt te (own.map (·.2))) σ H Q
theorem w_lcK (h : LcK X Hb elt tg iter ifs scope Γ Q) : EvN X Hb (.ListComp elt [⟨tg, iter, ifs, 0⟩] scope pos) Γ fr Q := EvN.fresh fun σ H en Q' q => by
  obtain ⟨own, hc, nd, ok, hs, wi, g, tt, te, h1, h2, h3, h4, h5⟩ := h
  rcases h5 σ H en Q' fun v H' d s x r f => q v H' d s x r fun _ => f with h | h
  · exact SemE.of (pe_lc hc nd h1 ok h2 h3 h4 hs) h
  · exact SemE.of (pe_lock (pe_lc hc nd h1 ok h2 h3 h4 hs)) h
theorem s_setLcK {o : Bool} {yn : Str} {py spos : Pos} (_ho : OwnIf o yn) (h : LcK X Hb elt tg iter ifs scope Γ fun d => StoreD o X.N Γ yn d fun Γ' => Go X Hb rest D0 Γ') (hL : Has X.N yn) (hsw : swapsWith (.ListComp elt [⟨tg, iter, ifs, 0⟩] scope pos) (some (.Name yn py)) spos.line X.env = pure true)
    (hyl : X.env.scope.names.lookup yn = some .local := by rfl) : Go X Hb (.Assign [.Name yn py] (.ListComp elt [⟨tg, iter, ifs, 0⟩] scope pos) spos :: rest) D0 Γ := fun σ H en => by
  obtain ⟨i, hy⟩ := hL.ix
  obtain ⟨own, hc, nd, ok, hs, wi, g, tt, te, h1, h2, h3, h4, h5⟩ := h
  rcases h5 σ H en (fun v H' => SemSs X rest D0 (σ.set i (some v)) H') fun v H' d s x r f => by
      obtain ⟨Γ', g, en'⟩ := s.ok nd hy en x r fun _ => f
      exact g _ H' en' with h | ⟨a, u, ha, mu, h⟩
  · exact SemSs.cons (ps_setLc hc nd hy hyl hsw h1 ok h2 h3 h4 hs) h
  · exact SemSs.cons (ps_lock (ps_setLc hc nd hy hyl hsw h1 ok h2 h3 h4 hs)) ⟨a, u, ha, mu, h⟩
end
end L3

/-! Core72: which dict is gone over; loops and comprehensions by names. -/
namespace L3
open PySem PySem.Spec PyProof.Rows L2
/-- what stands at a key -/
def lookD (ds : List (Key × D)) (k : Key) : Option D := (ds.find? fun q => decide (q.1 = k)).map (·.2)
theorem lookD_cons {q : Key × D} {ds : List (Key × D)} {k : Key} : lookD (q :: ds) k = if q.1 = k then some q.2 else lookD ds k := by
  unfold lookD
  rw [List.find?_cons]
  by_cases h : q.1 = k
  · rw [if_pos h, decide_eq_true h]; rfl
  · rw [if_neg h, decide_eq_false h]
section
variable {K : PySem.W.Frag} {H : Hp}
theorem RepKV.look : ∀ {vs : List (Key × V)} {ds : List (Key × D)} (k : Key), RepKV K H vs ds → (lookD ds k = none ∧ valV vs k = none) ∨ ∃ d v, lookD ds k = some d ∧ valV vs k = some v ∧ Rep K H v d
  | _, _, k, .nil => .inl ⟨rfl, rfl⟩
  | _, _, k, @RepKV.cons _ _ k' v vs d ds h r => by
    by_cases e : k' = k
    · exact .inr ⟨d, v, by rw [lookD_cons, if_pos e], valV_pos (p := (k', v)) e, h⟩
    · rw [lookD_cons, if_neg e, valV_neg (p := (k', v)) e]
      exact RepKV.look k r
theorem fkv_look : ∀ (fs : List (Str × V)) (f : Str), valV (fkv fs) (.inr f) = fs.lookup f
  | [], f => rfl
  | (g, v) :: r, f => by
    have e1 : fkv ((g, v) :: r) = ((.inr g, v) : Key × V) :: fkv r := rfl
    rw [e1]
    by_cases e : g = f
    · subst e
      rw [valV_pos (p := ((.inr g, v) : Key × V)) rfl, List.lookup_cons]
      simp
    · rw [valV_neg (p := ((.inr g, v) : Key × V)) (fun z => e (by injection z)), fkv_look r f, List.lookup_cons]
      have : (f == g) = false := by simpa using fun z => e z.symm
      rw [this]
end
section
variable {X : Cx} {Hb Hb' : Hp} {a b c e elt iter tg tst : Expr} {es ifs : List Expr} {Γ Γb Γ' : Slots} {pos p' p1 p2 p3 apos cpos : Pos} {d x y : D} {ds : List D} {Q S S' : D → Prop} {fr : Bool} {D0 : Ends} {rest body : List Stmt} {scope : Scope} {kds : List (Key × D)}
theorem nodup_owns_set {p : Addr} : ∀ {Γ : Slots} {i : Nat} {e : Ent}, Γ[i]? = some e → p ∈ e.cells → (owns Γ).Nodup → p ∉ owns (Γ.set i .any)
  | [], i, e, h, _, _ => by simp at h
  | x :: r, 0, e, h, hp, nd => by
    simp at h
    subst h
    rw [owns_cons] at nd
    exact (nodup_app.mp nd).2.2 p hp
  | x :: r, i + 1, e, h, hp, nd => by
    have h' : r[i]? = some e := by simpa using h
    rw [owns_cons] at nd
    have nd' := nodup_app.mp nd
    show p ∉ owns (x :: r.set i .any)
    rw [owns_cons]
    intro m
    rcases List.mem_append.mp m with z | z
    · exact nd'.2.2 p z (owns_cells h' p hp)
    · exact nodup_owns_set h' hp nd'.2.1 z
end
end L3

/-! Core73: what is done with dicts. -/
namespace L3
open PySem PySem.Spec PyProof.Rows L2
/-- in its place, or at the end -/
def putD (ds : List (Key × D)) (k : Key) (d : D) : List (Key × D) := if (ds.any fun q => decide (q.1 = k)) = true then ds.map (fun q => if q.1 = k then (q.1, d) else q) else ds ++ [(k, d)]
def dropD (ds : List (Key × D)) (k : Key) : List (Key × D) := ds.filter fun q => decide (q.1 ≠ k)
def mergeD (ds more : List (Key × D)) : List (Key × D) := more.foldl (fun acc q => putD acc q.1 q.2) ds
section
variable {K : PySem.W.Frag} {H : Hp}
theorem RepKV.append : ∀ {vs ws : List (Key × V)} {ds es : List (Key × D)}, RepKV K H vs ds → RepKV K H ws es → RepKV K H (vs ++ ws) (ds ++ es)
  | _, _, _, _, .nil, s => s
  | _, _, _, _, .cons h r, s => .cons h (RepKV.append r s)
theorem RepKV.mapPut {k : Key} {v : V} {d : D} (h : Rep K H v d) : ∀ {vs : List (Key × V)} {ds : List (Key × D)}, RepKV K H vs ds → RepKV K H (vs.map fun kv => if kv.1 = k then (kv.1, v) else kv) (ds.map fun q => if q.1 = k then (q.1, d) else q)
  | _, _, .nil => .nil
  | _, _, @RepKV.cons _ _ k' v' vs d' ds q r => by
    rw [List.map_cons, List.map_cons]
    by_cases e : k' = k
    · rw [if_pos e, if_pos e]; exact .cons h (RepKV.mapPut h r)
    · rw [if_neg e, if_neg e]; exact .cons q (RepKV.mapPut h r)
theorem RepKV.any {k : Key} : ∀ {vs : List (Key × V)} {ds : List (Key × D)}, RepKV K H vs ds → (vs.any fun kv => decide (kv.1 = k)) = ds.any fun q => decide (q.1 = k)
  | _, _, .nil => rfl
  | _, _, .cons q r => by rw [List.any_cons, List.any_cons, RepKV.any r]
theorem RepKV.put {k : Key} {v : V} {d : D} {vs : List (Key × V)} {ds : List (Key × D)} (r : RepKV K H vs ds) (h : Rep K H v d) : RepKV K H (putK vs k v) (putD ds k d) := by
  unfold putK putD
  rw [r.any]
  split
  · exact r.mapPut h
  · exact r.append (.cons h .nil)
theorem RepKV.drop {k : Key} : ∀ {vs : List (Key × V)} {ds : List (Key × D)}, RepKV K H vs ds → RepKV K H (dropK vs k) (dropD ds k)
  | _, _, .nil => .nil
  | _, _, @RepKV.cons _ _ k' v' vs d' ds q r => by
    unfold dropK dropD
    rw [List.filter_cons, List.filter_cons]
    by_cases e : k' = k
    · rw [if_neg (by simp [e]), if_neg (by simp [e])]; exact RepKV.drop r
    · rw [if_pos (by simp [e]), if_pos (by simp [e])]; exact .cons q (RepKV.drop r)
theorem RepKV.merge : ∀ {more : List (Key × V)} {ms : List (Key × D)} {vs : List (Key × V)} {ds : List (Key × D)}, RepKV K H more ms → RepKV K H vs ds → RepKV K H (mergeK vs more) (mergeD ds ms)
  | _, _, _, _, .nil, s => s
  | _, _, vs, ds, @RepKV.cons _ _ k v more d ms h r, s => by
    show RepKV K H (mergeK (putK vs k v) more) (mergeD (putD ds k d) ms)
    exact RepKV.merge r (s.put h)
theorem RepKV.keys : ∀ {vs : List (Key × V)} {ds : List (Key × D)}, RepKV K H vs ds → vs.map (·.1) = ds.map (·.1)
  | _, _, .nil => rfl
  | _, _, .cons _ r => by rw [List.map_cons, List.map_cons, RepKV.keys r]
theorem RepKV.keysR : ∀ {vs : List (Key × V)} {ds : List (Key × D)}, RepKV K H vs ds → RepAll K H (vs.map fun kv => kV kv.1) (ds.map fun q => kD q.1)
  | _, _, .nil => .nil
  | _, _, .cons _ r => .cons (rep_kD _) (RepKV.keysR r)
end
section
variable {X : Cx} {Hb Hb' : Hp} {a b c e i : Expr} {es : List Expr} {Γ Γ' : Slots} {pos p' p2 apos cpos : Pos} {d x y : D} {ds : List D} {Q S' : D → Prop} {S : Bool → Prop} {fr : Bool} {D0 : Ends} {rest : List Stmt} {kds kes : List (Key × D)} {n : Nat} {k : Key} {s : Str}
/-! ### read -/
def rDGet : R2 := fun x y H Q => ∃ a v, x = .ref a ∧ DGet H a y (some v) ∧ Q v H
theorem ix_dict (hu : X.A.units + 1 < cLine) : IxR X rDGet := by
  intro value slice pins s σ H x y v u Q I rx ry h hs
  obtain ⟨a, w, ex, g, q⟩ := h
  subst ex
  obtain rfl : v = Value.ref a := rx
  have hT := dict_typeIs I g
  unfold subscriptTail
  refine wpAny_bind ?_
  rw [getitemInPython_of_ne hT.not_modules]
  refine wpAny_bind (wpAny_specialOf hT PySem.F.slot_dict_getitem.lookup ?_)
  have fin : wpAny (model X.prog X.w) X.A (subscripted slice false (.ref a) u) (fun r s₃ => wpAny (model X.prog X.w) X.A (letTemporaryGo value (.ref a) r >>= fun _ => pure r) (EP X pins σ Q) X.xe s₃) X.xe s := by
    rw [hs]
    exact wpAny_operating (d_getItem hu I g ry fun w' s3 I3 rw' => wpAny_bind (wpAny_letTemporaryGo (wpAny_pure ⟨w, H, I3, rw', q⟩)))
  first
    | exact wpAny_pure (wpAny_bind fin)
    | exact wpAny_bind (wpAny_pure (wpAny_bind fin))
    | exact wpAny_bind fin
theorem Rep.dget {H : Hp} {x : V} (r : Rep X.K H x (.dct kds)) (k : Key) : ∃ a, x = .ref a ∧ ((lookD kds k = none ∧ DGet H a (kV k) none) ∨ ∃ d v, lookD kds k = some d ∧ DGet H a (kV k) (some v) ∧ Rep X.K H v d) := by
  cases r with
  | @dct a kvs _ hq rk =>
    refine ⟨a, rfl, ?_⟩
    rcases rk.look k with ⟨h1, h2⟩ | ⟨d, v, h1, h2, h3⟩
    · exact .inl ⟨h1, .inl ⟨kvs, k, hq, rfl, h2.symm⟩⟩
    · exact .inr ⟨d, v, h1, .inl ⟨kvs, k, hq, rfl, h2.symm⟩, h3⟩
theorem ix_D (hr : Room n X.A) (h : lookD kds k = some d) (q : Q d) : IxD X (.dct kds) (kD k) Q := ⟨rDGet, ix_dict (hu_of hr), fun x y H Q' r1 r2 kk => by
  obtain ⟨a, rfl, ⟨h1, _⟩ | ⟨d', v, h1, h2, h3⟩⟩ := r1.dget k
  · rw [h] at h1; cases h1
  · rw [h] at h1
    cases h1
    have ey : y = kV k := by
      cases k with
      | inl i => cases r2; rfl
      | inr z => cases r2; rfl
    subst ey
    exact ⟨a, v, rfl, h2, kk v d q h3⟩⟩
theorem ix_DS (hr : Room n X.A) (h : lookD kds (.inr s) = some d) (q : Q d) : IxD X (.dct kds) (.str s) Q := ix_D (k := .inr s) hr h q
theorem cmp_inDS (hr : Room n X.A) (q : S (lookD kds (.inr s)).isSome) : CmpD X .In (.str s) (.dct kds) S := fun pins s' σ H x y v u Q' I rx ry r1 r2 kk => by
  cases r1
  obtain ⟨a, rfl, h⟩ := r2.dget (.inr s)
  obtain rfl : u = Value.ref a := ry
  rcases h with ⟨h1, h2⟩ | ⟨d', w, h1, h2, _⟩
  · rw [h1] at q
    exact d_in (hu_of hr) I h2 rx fun s3 I3 => ⟨.bl false, H, I3, rfl, kk _ q⟩
  · rw [h1] at q
    exact d_in (hu_of hr) I h2 rx fun s3 I3 => ⟨.bl true, H, I3, rfl, kk _ q⟩
theorem cmp_ninDS (hr : Room n X.A) (q : S (!(lookD kds (.inr s)).isSome)) : CmpD X .NotIn (.str s) (.dct kds) S := fun pins s' σ H x y v u Q' I rx ry r1 r2 kk => by
  cases r1
  obtain ⟨a, rfl, h⟩ := r2.dget (.inr s)
  obtain rfl : u = Value.ref a := ry
  rcases h with ⟨h1, h2⟩ | ⟨d', w, h1, h2, _⟩
  · rw [h1] at q
    exact d_notIn (hu_of hr) I h2 rx fun s3 I3 => ⟨.bl true, H, I3, rfl, kk _ q⟩
  · rw [h1] at q
    exact d_notIn (hu_of hr) I h2 rx fun s3 I3 => ⟨.bl false, H, I3, rfl, kk _ q⟩
/-! ### == -/
def eqKV (es : List (Key × D)) : List (Key × D) → Bool
  | [] => true
  | q :: r => match lookD es q.1 with
    | none => false
    | some u => PyData.eqv q.2.py u.py && eqKV es r
def eqDct (ds es : List (Key × D)) : Bool := ds.length == es.length && eqKV es ds
theorem hits_of {pins : List (Addr × Obj)} {σ : L2.St} {H : Hp} {s : Shared} {A : Around} (I : Inv X pins σ H s) (hu : A.units + 60 < cLine) {ls : List (Key × V)} {es : List (Key × D)} {vb : List (Key × Value)} (rb : KV ls vb) (re : RepKV X.K H ls es) (he : ∀ q ∈ es, ShpN 60 q.2) :
    ∀ {ks : List (Key × V)} {ds : List (Key × D)} {va : List (Key × Value)}, KV ks va → RepKV X.K H ks ds → (∀ q ∈ ds, ShpN 60 q.2) → PySem.W.KeqHits A s vb va (eqKV es ds)
  | _, _, _, .nil, .nil, _ => .nil
  | (k, v) :: ks, (_, d) :: ds, (_, u) :: va, .cons ⟨e1, ru⟩ rr, .cons rd rds, h => by
    simp only at e1 ru
    subst e1
    have vv := rb.val k
    rcases re.look k with ⟨h1, h2⟩ | ⟨d2, v2, h1, h2, h3⟩
    · have : eqKV es ((k, d) :: ds) = false := by unfold eqKV; rw [h1]
      rw [this]
      rw [h2] at vv
      refine .miss ?_
      cases z : valueAt vb k with
      | none => rfl
      | some w => rw [z] at vv; exact vv.elim
    · have : eqKV es ((k, d) :: ds) = (PyData.eqv d.py d2.py && eqKV es ds) := by
        show (match lookD es k with | none => false | some u => PyData.eqv d.py u.py && eqKV es ds) = _
        rw [h1]
      rw [this]
      rw [h2] at vv
      cases z : valueAt vb k with
      | none => rw [z] at vv; exact vv.elim
      | some w =>
        rw [z] at vv
        have hd := h (k, d) List.mem_cons_self
        have hd2 : ShpN 60 d2 := by
          have : ∃ q ∈ es, q.2 = d2 := by
            unfold lookD at h1
            cases f : es.find? fun q => decide (q.1 = k) with
            | none => rw [f] at h1; cases h1
            | some q => rw [f] at h1; cases h1; exact ⟨q, List.mem_of_find?_eq_some f, rfl⟩
          obtain ⟨q, m, e⟩ := this
          rw [← e]
          exact he q m
        obtain ⟨as, r1, _⟩ := Rep.reads I d v u rd hd.ok ru
        obtain ⟨bs, r2, _⟩ := Rep.reads I d2 v2 w h3 hd2.ok vv
        refine .hit z (SeqAt.eqAt_reads _ _ _ _ _ _ _ _ r1 r2 hd.lay hd2.lay ?_) (hits_of I hu rb re he rr rds fun q m => h q (List.mem_cons_of_mem _ m))
        have := hd.deep
        have : min d.py.depth d2.py.depth ≤ 60 := Nat.le_trans (Nat.min_le_left _ _) hd.deep
        omega
theorem cmp_eqDct (hr : Room n X.A) (q : S (eqDct kds kes)) (h1 : ∀ q ∈ kds, ShpN 60 q.2) (h2 : ∀ q ∈ kes, ShpN 60 q.2) : CmpD X .Eq (.dct kds) (.dct kes) S := fun pins s' σ H x y v u Q' I rx ry r1 r2 kk => by
  cases r1 with
  | @dct a ks _ hqa ra =>
    cases r2 with
    | @dct b ls _ hqb rb =>
      obtain rfl : v = Value.ref a := rx
      obtain rfl : u = Value.ref b := ry
      obtain ⟨_, ya, va, kva, da⟩ := dk_rd I.hok hqa
      obtain ⟨_, yb, vb, kvb, db⟩ := dk_rd I.hok hqb
      refine PySem.W.keq_eq (knd := mixKind X.prog X.w) (r := eqKV kes kds) ya yb da db hr.units0 (fun _ => hits_of I (by have := hr.units; show X.A.units + 1 + 60 < cLine; omega) kvb rb h2 kva ra h1) (fin_bl I (kk _ q) ?_)
      unfold eqDct
      rw [← ra.length, ← rb.length, kva.length, kvb.length]
theorem cmp_neDct (hr : Room n X.A) (q : S (!eqDct kds kes)) (h1 : ∀ q ∈ kds, ShpN 60 q.2) (h2 : ∀ q ∈ kes, ShpN 60 q.2) : CmpD X .NotEq (.dct kds) (.dct kes) S := fun pins s' σ H x y v u Q' I rx ry r1 r2 kk => by
  cases r1 with
  | @dct a ks _ hqa ra =>
    cases r2 with
    | @dct b ls _ hqb rb =>
      obtain rfl : v = Value.ref a := rx
      obtain rfl : u = Value.ref b := ry
      obtain ⟨_, ya, va, kva, da⟩ := dk_rd I.hok hqa
      obtain ⟨_, yb, vb, kvb, db⟩ := dk_rd I.hok hqb
      refine PySem.W.keq_ne (knd := mixKind X.prog X.w) (r := eqKV kes kds) ya yb da db hr.units0 (fun _ => hits_of I (by have := hr.units; show X.A.units + 1 + 60 < cLine; omega) kvb rb h2 kva ra h1) (fin_bl I (kk _ q) ?_)
      unfold eqDct
      rw [← ra.length, ← rb.length, kva.length, kvb.length]
/-! ### as a whole -/
/-- the length of a list, a tuple, a dict -/
def LenA (ds : List D) (Q : D → Prop) : Prop := LenQ ds Q ∨ ∃ kds, ds = [.dct kds] ∧ Q (.int kds.length)
theorem lenA (h : LenQ ds Q) : LenA ds Q := .inl h
theorem lenD (q : Q (.int kds.length)) : LenA [.dct kds] Q := .inr ⟨kds, rfl, q⟩
def rLenD : List V → Hp → VK → Prop := fun vs H Q => ∃ a kvs, vs = [V.ref a] ∧ Rd H a (.dK kvs) ∧ Q (.int kvs.length) H
theorem cr_lenD : CallR X (.builtin "len") rLenD := by
  intro pins s σ H xs us Q I r q
  obtain ⟨a, kvs, ex, hd, q⟩ := q
  subst ex
  obtain ⟨u, eu, rx⟩ := vals1 r
  subst eu
  cases rx
  exact d_len I hd fun t s' I' => ⟨.int kvs.length, H, I', ⟨t, rfl⟩, q⟩
theorem CallR.or {f : Value} {r r' : List V → Hp → VK → Prop} (h : CallR X f r) (h' : CallR X f r') : CallR X f (fun vs H Q => r vs H Q ∨ r' vs H Q) := by
  intro pins s σ H xs us Q I rv q
  rcases q with q | q
  · exact h pins s σ H xs us Q I rv q
  · exact h' pins s σ H xs us Q I rv q
theorem w_lenA {pn : Pos} (hm : X.mg "len" = none) (h : EvA X Hb [a] Γ fun ds => LenA ds Q) (hg : Gl X "len" := by rfl) (he : starEach (a :: []) X.env = (false, eval a X.env) :: starEach [] X.env := by rfl) (hpl : (backTo pos (starEach [] X.env)).any (·.1) = false := by rfl) :
    EvN X Hb (.Call (.Name "len" pn) [a] [] pos) Γ fr Q := EvN.fresh <|
  evn_B (CallR.or call_len_seq cr_lenD) hm h (fun vs H ds' Q' s r k => by
    rcases s with ⟨xs, s, q⟩ | ⟨kds, e, q⟩
    · rcases s with e | e <;> subst e
      · cases r with
        | cons r1 r2 =>
          cases r2
          cases r1 with
          | lst hq ra => exact .inl ⟨_, _, rfl, .inl hq, by rw [ra.length]; exact k _ _ _ q Ex.refl (.int _) (FreshD.flat rfl)⟩
      · cases r with
        | cons r1 r2 =>
          cases r2
          cases r1 with
          | tup hq ra => exact .inl ⟨_, _, rfl, .inr hq, by rw [ra.length]; exact k _ _ _ q Ex.refl (.int _) (FreshD.flat rfl)⟩
    · subst e
      cases r with
      | cons r1 r2 =>
        cases r2
        cases r1 with
        | dct hq rk => exact .inr ⟨_, _, rfl, hq, by rw [rk.length]; exact k _ _ _ q Ex.refl (.int _) (FreshD.flat rfl)⟩) PySem.boot_len hg (by decide) (by decide) he hpl
/-- list(..) of a list, a tuple, a dict -/
def LstA (ds : List D) (Q : D → Prop) : Prop := (∃ xs, (ds = [.lst xs] ∨ ds = [.tup xs]) ∧ Q (.lst xs)) ∨ ∃ kds, ds = [.dct kds] ∧ Q (.lst (kds.map fun q => kD q.1))
theorem lstL {xs : List D} (q : Q (.lst xs)) : LstA [.lst xs] Q := .inl ⟨xs, .inl rfl, q⟩
theorem lstT {xs : List D} (q : Q (.lst xs)) : LstA [.tup xs] Q := .inl ⟨xs, .inr rfl, q⟩
theorem lstD (q : Q (.lst (kds.map fun q => kD q.1))) : LstA [.dct kds] Q := .inr ⟨kds, rfl, q⟩
theorem w_listA {pn : Pos} (hm : X.mg "list" = none) (h : EvA X Hb [a] Γ fun ds => LstA ds Q) (hc : X.calm = true := by rfl) (hg : Gl X "list" := by rfl) (he : starEach (a :: []) X.env = (false, eval a X.env) :: starEach [] X.env := by rfl) (hpl : (backTo pos (starEach [] X.env)).any (·.1) = false := by rfl) :
    EvN X Hb (.Call (.Name "list" pn) [a] [] pos) Γ fr Q := EvN.fresh <|
  evn_Ty (CallR.or call_list_of (call_listD hc)) hm h (fun vs H ds' Q s r k => by
    rcases s with ⟨xs, s, q⟩ | ⟨kds, e, q⟩
    · rcases s with e | e <;> subst e
      · obtain ⟨p, ws, e, hq, ra⟩ := r.lst1
        exact .inl ⟨_, _, e, .inl hq, fun l hl => k _ _ _ q (Ex.new hl) (.lst (SqL.of upd_same) (ra.ex (Ex.new hl))) (freshL hl Ex.refl ra)⟩
      · obtain ⟨p, ws, e, hq, ra⟩ := r.tup1
        exact .inl ⟨_, _, e, .inr hq, fun l hl => k _ _ _ q (Ex.new hl) (.lst (SqL.of upd_same) (ra.ex (Ex.new hl))) (freshL hl Ex.refl ra)⟩
    · subst e
      cases r with
      | cons r1 r2 =>
        cases r2
        cases r1 with
        | dct hq rk => exact .inr ⟨_, _, rfl, hq, fun l hl => k _ _ _ q (Ex.new hl) (.lst (SqL.of upd_same) (rk.keysR.ex (Ex.new hl))) (freshL hl Ex.refl rk.keysR)⟩) (by decide +kernel) hg (by decide) (by decide) he hpl
theorem freshDct {K : PySem.W.Frag} {H : Hp} {p : Addr} {vs : List (Key × V)} (h : H p = none) (r : RepKV K H vs kds) : FreshD K H (upd H p (.dK vs)) (.ref p) (.dct kds) := ⟨p, vs, rfl, h, upd_same, r.ex (Ex.new h)⟩
/-- dict(..) of a dict, of a list of pairs -/
def DctA (ds : List D) (Q : D → Prop) : Prop := (∃ kds, ds = [.dct kds] ∧ Q (.dct kds)) ∨ ∃ kds : List (Key × D), ds = [.lst (kds.map fun q => .tup [kD q.1, q.2])] ∧ Q (.dct (mergeD [] kds))
theorem dctD (q : Q (.dct kds)) : DctA [.dct kds] Q := .inl ⟨kds, rfl, q⟩
theorem pairs_rep {K : PySem.W.Frag} {H : Hp} : ∀ {vs : List V} {kds : List (Key × D)}, RepAll K H vs (kds.map fun q => .tup [kD q.1, q.2]) → ∃ ps kvs, vs = ps.map V.ref ∧ Paired (fun p (kv : Key × V) => SqT K H p [kV kv.1, kv.2]) ps kvs ∧ RepKV K H kvs kds
  | [], [], .nil => ⟨[], [], rfl, .nil, .nil⟩
  | v :: vs, (k, d) :: kds, .cons h t => by
    obtain ⟨ps, kvs, rfl, h2, h3⟩ := pairs_rep t
    cases h with
    | @tup p ws _ hq ra =>
      cases ra with
      | cons r1 r2 =>
        cases r2 with
        | cons r2 r3 =>
          cases r3
          rename_i w1 w2
          have : w1 = kV k := by
            cases k with
            | inl i => cases r1; rfl
            | inr z => cases r1; rfl
          subst this
          exact ⟨p :: ps, (k, w2) :: kvs, rfl, .cons hq h2, .cons r2 h3⟩
theorem w_dictA {pn : Pos} (hm : X.mg "dict" = none) (h : EvA X Hb [a] Γ fun ds => DctA ds Q) (hc : X.calm = true := by rfl) (hg : Gl X "dict" := by rfl) (he : starEach (a :: []) X.env = (false, eval a X.env) :: starEach [] X.env := by rfl) (hpl : (backTo pos (starEach [] X.env)).any (·.1) = false := by rfl) :
    EvN X Hb (.Call (.Name "dict" pn) [a] [] pos) Γ fr Q := EvN.fresh <|
  evn_Ty (CallR.or call_dictD (call_dictP hc)) hm h (fun vs H ds' Q s r k => by
    rcases s with ⟨kds, e, q⟩ | ⟨kds, e, q⟩ <;> subst e
    · cases r with
      | cons r1 r2 =>
        cases r2
        cases r1 with
        | dct hq rk => exact .inl ⟨_, _, rfl, hq, fun l hl => k _ _ _ q (Ex.new hl) (.dct (.inl upd_same) (rk.ex (Ex.new hl))) (freshDct hl rk)⟩
    · obtain ⟨p, ws, e, hq, ra⟩ := r.lst1
      obtain ⟨ps, kvs, rfl, h2, h3⟩ := pairs_rep ra
      have rm := h3.merge (RepKV.nil (K := X.K) (H := H))
      exact .inr ⟨_, _, _, e, hq, h2, fun l hl => k _ _ _ q (Ex.new hl) (.dct (.inl upd_same) (rm.ex (Ex.new hl))) (freshDct hl rm)⟩) (by decide +kernel) hg (by decide) (by decide) he hpl
/-- sorted(d), its keys texts -/
theorem w_sortedD {pn : Pos} (hm : X.mg "sorted" = none) (h : EvA X Hb [a] Γ fun ds => ∃ (kds : List (Key × D)) (ks : List Str), ds = [.dct kds] ∧ kds.map (·.1) = ks.map Sum.inr ∧ ks.length < 64 ∧ ∀ ys : List Str, ys.Perm ks → sortedS ys = true → Q (.lst (ys.map .str))) (hc : X.calm = true := by rfl) (hg : Gl X "sorted" := by rfl) (he : starEach (a :: []) X.env = (false, eval a X.env) :: starEach [] X.env := by rfl) (hpl : (backTo pos (starEach [] X.env)).any (·.1) = false := by rfl) :
    EvN X Hb (.Call (.Name "sorted" pn) [a] [] pos) Γ fr Q := EvN.fresh <|
  evn_B (call_sortedD hc) hm h (fun vs H ds' Q s r k => by
    obtain ⟨kds, ks, e, hk, hl, q⟩ := s
    subst e
    cases r with
    | cons r1 r2 =>
      cases r2
      cases r1 with
      | dct hq rk =>
        refine ⟨_, _, ks, rfl, hq, by rw [rk.keys, hk], hl, fun ys p hp hs hn => ?_⟩
        have ra : ∀ zs : List Str, RepAll X.K H (zs.map V.str) (zs.map D.str) := fun zs => by
          induction zs with
          | nil => exact .nil
          | cons z zs ih => exact .cons (.str z) ih
        exact k _ _ _ (q ys hp hs) (Ex.new hn) (.lst (SqL.of upd_same) ((ra ys).ex (Ex.new hn))) (freshL hn Ex.refl (ra ys))) (by decide +kernel) hg (by decide) (by decide) he hpl
/-- a dict of one's own, read -/
theorem w_ownD {xn : Str} {p : Addr} (hL : Look X.N Γ xn (.ownD p kds)) (q : Q (.dct kds)) (hv : Vis X.env.scope xn := by first | exact Or.inl rfl | exact Or.inr (Or.inl rfl) | exact Or.inr (Or.inr rfl)) (hd : (xn == ("__debug__" : Str)) = false := by decide)
    (hcd : (xn == ("__classdict__" : Str)) = false := by decide) : EvN X Hb (.Name xn pos) Γ false Q := fun σ H en Q' q' => by
  obtain ⟨i, hN, hG⟩ := hL.ix
  obtain ⟨h1, h2, h3, h4⟩ := en.wide
  obtain ⟨o, hσ, rfl, nn, kvs, hp, rk⟩ := Paired.getE h3 hG
  exact SemE.of (pe_var hN hv hd hcd) ⟨_, hσ, q' _ H _ q Ex.refl (.dct (.inl hp) (rk.ex hide_ex)) fun z => nomatch z⟩
/-- {} -/
theorem w_dct0 (q : Q (.dct [])) : EvN X Hb (.Dict [] [] pos) Γ fr Q := (w_det ev_dct0 q).fresh
/-- o.f, a thing that stays -/
theorem w_fldO {f : Str} {C : Addr} (h : EvN X Hb a Γ false fun z => ∃ fs d, z = .obj C fs ∧ lookD fs (.inr f) = some d ∧ Q d) (c : Cls X.K C) (no : NoAttr X.K C f) (hbase : attributeBase a f X.env (eval a X.env) = eval a X.env := by rfl) : EvN X Hb (.Attribute a f pos) Γ false Q := fun σ H en Q' q =>
  SemE.of (pe_fld (semE X a) hbase) (h σ H en _ fun v H1 z ⟨fs, d, e, hf, qd⟩ x1 r1 _ => by
    subst e
    cases r1 with
    | @obj o _ dx fvs _ ho rf =>
      rcases rf.look (.inr f) with ⟨z, _⟩ | ⟨d', v', z1, z2, rv⟩
      · rw [hf] at z; cases z
      · rw [hf] at z1
        cases z1
        rw [fkv_look] at z2
        exact ⟨o, C, dx, fvs, v', rfl, ho, c, no, z2, q v' H1 _ qd x1 rv fun z => nomatch z⟩)
end
end L3

/-! Core74: dicts of one's own, changed. -/
namespace L3
open PySem PySem.Spec PyProof.Rows L2
section
variable {X : Cx} {Hb Hb' : Hp} {a b c e i : Expr} {es : List Expr} {Γ Γ' : Slots} {pos p' p2 apos cpos : Pos} {d x y : D} {ds : List D} {Q S' : D → Prop} {S : Bool → Prop} {fr : Bool} {D0 : Ends} {rest : List Stmt} {kds kes : List (Key × D)} {n : Nat} {k : Key} {s : Str}
theorem EnvOk.ownDW {K : PySem.W.Frag} {σ : L2.St} {H : Hp} {i : Nat} {p : Addr} (h : EnvOk K Hb Γ σ H) (e : Γ[i]? = some (.ownD p kds)) : σ[i]? = some (some (.ref p)) ∧ ∃ kvs, H p = some (.dK kvs) ∧ RepKV K (hide H (owns Γ)) kvs kds ∧ Lsts H (owns Γ) ∧ Hb p = none := by
  obtain ⟨h1, h2, h3, h4⟩ := h.wide
  obtain ⟨o, q, rfl, n, vs, q2, r2⟩ := Paired.getE h3 e
  exact ⟨q, vs, q2, r2, owns_lsts h3, h1.toEx.free n⟩
theorem EnvOk.mutOwnD {K : PySem.W.Frag} {σ : L2.St} {H : Hp} {i : Nat} {p : Addr} {ws : List (Key × V)} (h : EnvOk K Hb Γ σ H) (e : Γ[i]? = some (.ownD p kds)) (r : RepKV K (hide H (owns Γ)) ws kes) : EnvOk K Hb (Γ.set i (.ownD p kes)) σ (upd H p (.dK ws)) := by
  obtain ⟨h1, h2, h3, h4⟩ := h.wide
  obtain ⟨o, q, rfl, n, vs, q2, r2⟩ := Paired.getE h3 e
  exact h.mutNew e q rfl (fun a m => upd_ne fun z => m (by rw [z]; exact List.mem_cons_self)) (Ex.mut h2 n (by rw [q2]; trivial)) ⟨rfl, n, ws, upd_same, r⟩
theorem Up.same {N : List Str} (nd : N.Nodup) {i : Nat} {xn : Str} {e : Ent} (hN : N[i]? = some xn) (hu : Up N Γ xn e Γ') : Γ' = Γ.set i e := by
  obtain ⟨j, hj, rfl⟩ := hu.ix
  rw [nodup_ix nd hN hj]
/-- d[k] = e -/
theorem s_dput {xn : Str} {p : Addr} (hr : Room n X.A) (hL : Look X.N Γ xn (.ownD p kds)) (h : EvN X Hb e Γ false fun d => d.flat = true ∧ EvN X Hb i Γ false fun z => ∃ k, z = kD k ∧ Up1 X.N Γ xn (.ownD p (putD kds k d)) fun Γ' => Go X Hb rest D0 Γ') (nd : X.N.Nodup) (hl : kds.length ≤ 100000)
    (hv : Vis X.env.scope xn := by first | exact Or.inl rfl | exact Or.inr (Or.inl rfl) | exact Or.inr (Or.inr rfl)) (hdb : (xn == ("__debug__" : Str)) = false := by decide) (hcd : (xn == ("__classdict__" : Str)) = false := by decide)
    (hs : swapsWith e (some (.Subscript (.Name xn p') i p2)) pos.line X.env = pure false := by rfl) :
    Go X Hb (.Assign [.Subscript (.Name xn p') i p2] e pos :: rest) D0 Γ := fun σ H en => by
  obtain ⟨j, hN, hG⟩ := hL.ix
  refine SemSs.cons (ps_dput (hu_of hr) (pe_var hN hv hdb hcd) (semE X i) (semE X e) hs) ?_
  refine h σ H en _ fun v H1 d1 ⟨fl, h2⟩ x1 r1 _ => ?_
  obtain ⟨hσ, _⟩ := en.ownDW hG
  refine ⟨_, hσ, h2 σ H1 (en.ex x1) _ fun y H2 z ⟨k, ez, Γ1, hu, g⟩ x2 r2 _ => ?_⟩
  subst ez
  have en2 := (en.ex x1).ex x2
  obtain ⟨_, kvs, hp, rk, ls, _⟩ := en2.ownDW hG
  have ey : y = kV k := by
    cases k with
    | inl i => cases r2; rfl
    | inr z => cases r2; rfl
  subst ey
  refine ⟨p, _, rfl, DPut.k hp (by rw [rk.length]; exact Nat.lt_of_le_of_lt hl (by decide)), ?_⟩
  rw [Up.same nd hN hu] at g
  exact g σ _ (en2.mutOwnD hG (rk.put ((r1.ex x2).hide ls fl)))
/-- d.clear() -/
theorem s_dclear {xn : Str} {p : Addr} (hL : Look X.N Γ xn (.ownD p kds)) (h : Up1 X.N Γ xn (.ownD p []) fun Γ' => Go X Hb rest D0 Γ') (nd : X.N.Nodup)
    (hv : Vis X.env.scope xn := by first | exact Or.inl rfl | exact Or.inr (Or.inl rfl) | exact Or.inr (Or.inr rfl)) (hdb : (xn == ("__debug__" : Str)) = false := by decide) (hcd : (xn == ("__classdict__" : Str)) = false := by decide)
    (hbase : attributeBase (.Name xn p') "clear" X.env (eval (.Name xn p') X.env) = eval (.Name xn p') X.env := by rfl) (hline : (apos.endLine == cpos.line) = true := by rfl)
    (hsw : swapsWith (.Call (.Attribute (.Name xn p') "clear" apos) [] [] cpos) none pos.line X.env = pure false := by rfl) :
    Go X Hb (.Expr (.Call (.Attribute (.Name xn p') "clear" apos) [] [] cpos) pos :: rest) D0 Γ := fun σ H en => by
  obtain ⟨j, hN, hG⟩ := hL.ix
  obtain ⟨hσ, kvs, hp, rk, ls, _⟩ := en.ownDW hG
  obtain ⟨Γ1, hu, g⟩ := h
  rw [Up.same nd hN hu] at g
  refine SemSs.cons (ps_expr (pe_dclear (pe_var hN hv hdb hcd) hbase hline) hsw) ?_
  exact ⟨_, hσ, .inr (.inr (.inl ⟨rfl, .inl ⟨kvs, hp⟩⟩)), p, kvs, rfl, rfl, hp, g σ _ (en.mutOwnD hG .nil)⟩
/-- d.update(e), e a dict that stands apart -/
def rDUpd : V → List V → Hp → VK → Prop := fun x vs H Q => ∃ (d o : Addr) (kvs more : List (Key × V)), x = .ref d ∧ vs = [.ref o] ∧ d ≠ o ∧ H d = some (.dK kvs) ∧ Rd H o (.dK more) ∧ kvs.length + more.length ≤ sizeLine ∧ Q .non (upd H d (.dK (mergeK kvs more)))
theorem mt_dupd : MtR X "dict.update" rDUpd := by
  intro pins s σ H x vs v us Q I rx rv h
  obtain ⟨d, o, kvs, more, ex, ev, hne, e, e2, hl, q⟩ := h
  subst ex
  subst ev
  obtain rfl : v = Value.ref d := rx
  obtain ⟨u, eu, ru⟩ := vals1 rv
  subst eu
  obtain rfl : u = Value.ref o := ru
  obtain ⟨z, hd, vs1, rel, dd⟩ := dk_of I.hok e
  obtain ⟨z2, hd2, vs2, rel2, dd2⟩ := dk_rd I.hok e2
  refine call_meetsIn PySem.F.slot_dict_update dd.typeIs PySem.F.entry_dict_update (PySem.F.args_dict_update_2 _ _) (meets_dict_update (mixKind X.prog X.w) d o hne hd2) ⟨vs1, vs2, dd, dd2, by rw [← rel.length, ← rel2.length]; exact hl, fun h' dd' _ hs => ?_⟩
  have he : ∃ q, h'.get? d = some q := let ⟨q, _, _, hq, _⟩ := dd'; ⟨q, hq⟩
  have hz : (mergeK kvs more).length ≤ sizeLine := Nat.le_trans (length_mergeK more kvs) hl
  exact ⟨.non, _, d_write (t' := s.toks) I (by rw [e]; exact True.intro) hs he (dk_new hz hd (KV.merge rel2 rel) dd'), rfl, q⟩
theorem s_dupd {xn : Str} {p : Addr} (hL : Look X.N Γ xn (.ownD p kds)) (h : EvN X Hb e Γ true fun z => ∃ kes, z = .dct kes ∧ D.flatKV kes = true ∧ kds.length + kes.length ≤ 100000 ∧ Up1 X.N Γ xn (.ownD p (mergeD kds kes)) fun Γ' => Go X Hb rest D0 Γ') (nd : X.N.Nodup)
    (hv : Vis X.env.scope xn := by first | exact Or.inl rfl | exact Or.inr (Or.inl rfl) | exact Or.inr (Or.inr rfl)) (hdb : (xn == ("__debug__" : Str)) = false := by decide) (hcd : (xn == ("__classdict__" : Str)) = false := by decide)
    (hbase : attributeBase (.Name xn p') "update" X.env (eval (.Name xn p') X.env) = eval (.Name xn p') X.env := by rfl)
    (hfew : ((backTo cpos (starEach (e :: []) X.env)).all (fun x => !x.1) && (backToKw cpos (keywordEach [] X.env)).all (fun x => x.1.isSome) && decide ((e :: []).length + ([] : List Keyword).length + (if ([] : List Keyword).isEmpty then 0 else 1) < 30)) = true := by rfl)
    (hline : (apos.endLine == cpos.line) = true := by rfl) (hs : starEach (e :: []) X.env = (false, eval e X.env) :: starEach [] X.env := by rfl) (hplain : (backTo cpos (starEach [] X.env)).any (·.1) = false := by rfl)
    (hsw : swapsWith (.Call (.Attribute (.Name xn p') "update" apos) [e] [] cpos) none pos.line X.env = pure false := by rfl) :
    Go X Hb (.Expr (.Call (.Attribute (.Name xn p') "update" apos) [e] [] cpos) pos :: rest) D0 Γ := fun σ H en => by
  obtain ⟨j, hN, hG⟩ := hL.ix
  obtain ⟨hσ, kvs, hp, rk, ls, _⟩ := en.ownDW hG
  refine SemSs.cons (ps_expr (pe_bm PySem.F.plainAttrs_dict PySem.F.slot_dict_update PySem.F.type_dict_update mt_dupd (pe_var hN hv hdb hcd) (pa_cons (semE X e) pa_nil hs) hbase hfew hline hs hplain) hsw) ?_
  refine ⟨_, hσ, .inr (.inr (.inl ⟨rfl, .inl ⟨kvs, hp⟩⟩)), h σ H en _ fun v H1 z ⟨kes, ez, fl, hl, Γ1, hu, g⟩ x1 r1 f1 => ?_⟩
  subst ez
  rw [Up.same nd hN hu] at g
  obtain ⟨o, kv2, rfl, ho, ho2, rk2⟩ := f1 rfl
  have en1 := en.ex x1
  obtain ⟨_, kvs1, hp1, rk1, ls1, _⟩ := en1.ownDW hG
  have hne : p ≠ o := fun z => by rw [z, ho] at hp; cases hp
  refine ⟨p, o, kvs1, kv2, rfl, rfl, hne, hp1, .inl ho2, by rw [rk1.length, rk2.length]; exact Nat.le_trans hl (by decide), ?_⟩
  exact g σ _ (en1.mutOwnD hG ((rk2.hide ls1 fl).merge rk1))
/-- return d, a dict of one's own -/
theorem s_retOwnD {p : Addr} {xn : Str} (hL : Look X.N Γ xn (.ownD p kds)) (h : RetD X.K D0 Hb (.dct kds)) (hv : Vis X.env.scope xn := by first | exact Or.inl rfl | exact Or.inr (Or.inl rfl) | exact Or.inr (Or.inr rfl)) (hdb : (xn == ("__debug__" : Str)) = false := by decide)
    (hcd : (xn == ("__classdict__" : Str)) = false := by decide) : Go X Hb (.Return (some (.Name xn p')) pos :: rest) D0 Γ := fun σ H en => by
  obtain ⟨j, hN, hG⟩ := hL.ix
  obtain ⟨hσ, kvs, hp, rk, ls, hb⟩ := en.ownDW hG
  have rk' := rk.ex hide_ex
  exact SemSs.cons (ps_ret (pe_var hN hv hdb hcd)) ⟨_, hσ, h _ H ⟨en.base, .dct (.inl hp) rk', p, kvs, rfl, hb, hp, rk'⟩⟩
end
end L3

/-! Core75: things of a class that stay as they were made: made, their properties, their methods. -/
namespace L3
open PySem PySem.Spec PyProof.Rows L2
section
variable {X : Cx} {Hb Hb' : Hp} {a b c e i : Expr} {es : List Expr} {Γ Γ' : Slots} {pos p' p2 apos cpos pc : Pos} {d x y : D} {ds : List D} {Q S' : D → Prop} {S : Bool → Prop} {fr : Bool} {D0 : Ends} {rest : List Stmt} {k k' : Nat} {C f g p : Addr} {fd : FuncData} {pns : List Str}
end
section
variable {P : Program} {w : World} {K : PySem.W.Frag} {mg : Str → Option Value} {base : Heap}
end
end L3

/-! Core76: {key: value for .. in ..}, keys texts or ints; texts in lists. -/
namespace L3
open PySem PySem.Spec PyProof.Rows L2
/-- the new dict: what has been made so far -/
def SoFarD (K : PySem.W.Frag) (H1 : Hp) (L : Addr) (ds : List (Key × D)) (H : Hp) : Prop := Ex H1 H ∧ ∃ acc, H L = some (.dK acc) ∧ RepKV K (hide H [L]) acc ds
theorem hide1_exD {H H' : Hp} {p : Addr} {xs : List (Key × V)} (e : Ex H H') (h : H' p = some (.dK xs)) : Ex (hide H [p]) (hide H' [p]) := e.hides fun q m => ⟨.dK xs, by rw [List.mem_singleton.mp m]; exact h, (trivial : Mu (.dK xs))⟩
theorem SoFarD.ex {K : PySem.W.Frag} {H1 H H' : Hp} {L : Addr} {ds : List (Key × D)} (h : SoFarD K H1 L ds H) (x : Ex H H') : SoFarD K H1 L ds H' := by
  obtain ⟨e, acc, h1, h2⟩ := h
  have h3 := x.dK h1
  exact ⟨e.trans x, acc, h3, h2.ex (hide1_exD x h3)⟩
section
variable {X : Cx} {Hb Hb' : Hp} {a b c e kx vx iter tg tst : Expr} {es ifs : List Expr} {Γ Γb Γ' : Slots} {pos p' p1 p2 p3 apos cpos : Pos} {d x y : D} {ds : List D} {Q S S' : D → Prop} {fr : Bool} {D0 : Ends} {rest body : List Stmt} {scope : Scope} {kds : List (Key × D)} {n : Nat} {s : Str}
theorem LcX.k {elt : Expr} (h : LcX X Hb elt tg iter ifs scope Γ Q) : LcK X Hb elt tg iter ifs scope Γ Q := by
  obtain ⟨own, hc, nd, ok, hs, wi, g, tt, te, h1, h2, h3, h4, h5⟩ := h
  exact ⟨own, hc, nd, ok, hs, wi, g, tt, te, h1, h2, h3, h4, fun σ H en Q q => .inl (h5 σ H en Q q)⟩
/-! ### texts in lists -/
theorem eqv_str (x z : Str) : PyData.eqv (.str x) (.str z) = decide (x = z) := by
  show (x == z) = _
  by_cases h : x = z
  · rw [decide_eq_true h, h]; simp
  · rw [decide_eq_false h]; simpa using h
theorem pyAll_strs : ∀ (xs : List Str) (z : Str), (D.pyAll (xs.map .str)).any (fun y => PyData.eqv y (D.str z).py) = decide (z ∈ xs)
  | [], _ => rfl
  | x :: xs, z => by
    show (PyData.eqv (.str x) (.str z) || (D.pyAll (xs.map .str)).any _) = _
    rw [pyAll_strs xs z, eqv_str]
    by_cases h : x = z
    · subst h
      rw [decide_eq_true rfl, decide_eq_true List.mem_cons_self]; rfl
    · rw [decide_eq_false h, Bool.false_or]
      exact decide_eq_decide.mpr ⟨fun m => List.mem_cons_of_mem _ m, fun m => (List.mem_cons.mp m).resolve_left fun e => h e.symm⟩
def StrsOk (xs : List Str) : Prop := ∀ x ∈ xs, PyData.strOk x = true
theorem shp_strL {xs : List Str} (h : StrsOk xs) : Shp (.lst (xs.map .str)) := (shpN_lst (n := 0) fun d m => by obtain ⟨x, hx, rfl⟩ := List.mem_map.mp m; exact ⟨rfl, h x hx, Nat.le_refl _⟩).shp (by decide)
theorem shp_strT {xs : List Str} (h : StrsOk xs) : Shp (.tup (xs.map .str)) := (shpN_tup (n := 0) fun d m => by obtain ⟨x, hx, rfl⟩ := List.mem_map.mp m; exact ⟨rfl, h x hx, Nat.le_refl _⟩).shp (by decide)
theorem shp_str1 (h : PyData.strOk s = true) : Shp (.str s) := (show ShpN 0 (.str s) from ⟨rfl, h, Nat.le_refl _⟩).shp (by decide)
theorem cmp_inLS {S : Bool → Prop} {xs : List Str} (hr : Room n X.A) (q : S (decide (s ∈ xs))) (h : PyData.strOk s = true ∧ StrsOk xs) : CmpD X .In (.str s) (.lst (xs.map .str)) S :=
  cmp_inL hr (by rw [pyAll_strs]; exact q) ⟨⟨(shp_str1 h.1).1, (shp_strL h.2).1⟩, (shp_str1 h.1).2, (shp_strL h.2).2⟩
theorem cmp_inTS {S : Bool → Prop} {xs : List Str} (hr : Room n X.A) (q : S (decide (s ∈ xs))) (h : PyData.strOk s = true ∧ StrsOk xs) : CmpD X .In (.str s) (.tup (xs.map .str)) S :=
  cmp_inT hr (by rw [pyAll_strs]; exact q) ⟨⟨(shp_str1 h.1).1, (shp_strT h.2).1⟩, (shp_str1 h.1).2, (shp_strT h.2).2⟩
theorem cmp_ninLS {S : Bool → Prop} {xs : List Str} (hr : Room n X.A) (q : S (!decide (s ∈ xs))) (h : PyData.strOk s = true ∧ StrsOk xs) : CmpD X .NotIn (.str s) (.lst (xs.map .str)) S :=
  cmp_ninL hr (by rw [pyAll_strs]; exact q) ⟨⟨(shp_str1 h.1).1, (shp_strL h.2).1⟩, (shp_str1 h.1).2, (shp_strL h.2).2⟩
end
end L3

/-! Core77: *d in a display, d a dict. -/
namespace L3
open PySem PySem.Spec PyProof.Rows L2
section
variable {X : Cx} {Hb : Hp} {a b e : Expr} {es : List Expr} {Γ : Slots} {pos p p' apos cpos : Pos} {ds : List D} {Q : D → Prop} {fr : Bool} {D0 : Ends} {rest : List Stmt} {te : TE} {t : TA}
end
end L3

/-! Core78: [elt for x, y in xs if t] over a list or a tuple. -/
namespace L3
open PySem PySem.Spec PyProof.Rows L2
section
variable {X : Cx} {Hb : Hp} {elt iter tst : Expr} {Γ : Slots} {p1 p2 p3 : Pos} {Q : D → Prop} {scope : Scope}
end
end L3

/-! Core79: a loop over a drawn list, with a state. -/
namespace L3
open PySem PySem.Spec PyProof.Rows L2
section
variable {X : Cx} {Hb : Hp} {e : Expr} {Γ : Slots} {pos p' : Pos} {D0 : Ends} {rest : List Stmt}
end
end L3

/-! Core80: a list of one's own gone over; x.remove(text). -/
namespace L3
open PySem PySem.Spec PyProof.Rows L2
section
variable {X : Cx} {Hb : Hp} {e : Expr} {Γ : Slots} {pos p' p2 apos cpos : Pos} {D0 : Ends} {rest : List Stmt} {n : Nat}
end
end L3

/-! Core81: x.remove(text); comprehensions over a list of one's own. -/
namespace L3
open PySem PySem.Spec PyProof.Rows L2
theorem LcX.weak {X : Cx} {Hb : Hp} {elt tg iter : Expr} {ifs : List Expr} {scope : Scope} {Γ Γb : Slots} {Q : D → Prop} (h : LcX X Hb elt tg iter ifs scope Γb Q) (w : ∀ σ H, EnvOk X.K Hb Γ σ H → EnvOk X.K Hb Γb σ H) : LcX X Hb elt tg iter ifs scope Γ Q := by
  obtain ⟨own, hc, nd, ok, hs, wi, g, tt, te, h1, h2, h3, h4, h5⟩ := h
  exact ⟨own, hc, nd, ok, hs, wi, g, tt, te, h1, h2, h3, h4, fun σ H en Q q => h5 σ H (w σ H en) Q q⟩
section
variable {X : Cx} {Hb : Hp} {e : Expr} {Γ : Slots} {pos p' apos cpos : Pos} {D0 : Ends} {rest : List Stmt} {n : Nat}
end
end L3

/-! Core82: a list whose things hold lists, gone over beside lists of one's own. -/
namespace L3
open PySem PySem.Spec PyProof.Rows L2
section
variable {X : Cx} {Hb : Hp} {e : Expr} {Γ : Slots} {pos p' p2 apos cpos : Pos} {D0 : Ends} {rest : List Stmt} {n : Nat}
end
end L3

/-! Core83: {k: v}. -/
namespace L3
open PySem PySem.Spec PyProof.Rows L2
section
variable {X : Cx} {Hb : Hp} {a b : Expr} {Γ : Slots} {pos : Pos} {Q : D → Prop} {fr : Bool}
theorem w_dct1 (h : EvN X Hb a Γ false fun x => ∃ k, x = kD k ∧ EvN X Hb b Γ false fun d => d.flat = true ∧ Q (.dct [(k, d)])) : EvN X Hb (.Dict [some a] [b] pos) Γ fr Q := EvN.fresh fun σ H en Q' q =>
  SemE.of (pe_disp (pps_cons (semE X a) (semE X b) pps_nil) rfl rfl (by simp) (by show 1 ≤ 15; decide)) fun p hp => h σ _ (en.ex (Ex.new hp)) _ fun v H2 x ⟨k, ex, h2⟩ x2 r2 _ => h2 σ H2 ((en.ex (Ex.new hp)).ex x2) _ fun w H3 d ⟨fl, qd⟩ x3 r3 _ => by
    subst ex
    have ev : v = kV k := by
      cases k with
      | inl i => cases r2; rfl
      | inr z => cases r2; rfl
    subst ev
    have x23 : Ex (upd H p (.dK [])) H3 := x2.trans x3
    have hp3 : H3 p = some (.dK []) := x23.get _ _ upd_same fun _ z => nomatch z
    refine ⟨hp3, [(k, w)], rfl, by show 1 ≤ 15; decide, ?_⟩
    have lo : Lsts H3 [p] := fun q m => by rw [List.mem_singleton.mp m]; exact ⟨_, hp3, trivial⟩
    have xm : Ex (hide H3 [p]) (upd H3 p (.dK (mergeK [] [(k, w)]))) := Ex.mut hide_ex (hide_in List.mem_cons_self) (by rw [hp3]; trivial)
    have rk : RepKV X.K (upd H3 p (.dK (mergeK [] [(k, w)]))) [(k, w)] [(k, d)] := .cons ((r3.hide lo fl).ex xm) .nil
    exact q _ _ _ qd (Ex.mut ((Ex.new hp).trans x23) hp (by rw [hp3]; trivial)) (.dct (.inl upd_same) rk) fun _ => ⟨p, _, rfl, hp, upd_same, rk⟩
end
end L3

/-! Core84: x = y, a dict of one's own that goes over to x. -/
namespace L3
open PySem PySem.Spec PyProof.Rows L2
section
variable {X : Cx} {Hb : Hp} {Γ : Slots} {pos p' p2 : Pos} {D0 : Ends} {rest : List Stmt}
end
end L3

/-! Core85: sorted texts. -/
namespace L3
open PySem PySem.Spec PyProof.Rows L2
section
variable {X : Cx} {Hb : Hp} {a : Expr} {Γ : Slots} {pos : Pos} {Q : D → Prop} {fr : Bool}
end
end L3

/-! Core86: [elt for x in d], its elements drawn. -/
namespace L3
open PySem PySem.Spec PyProof.Rows L2
section
variable {X : Cx} {Hb : Hp} {elt iter : Expr} {Γ Γb : Slots} {p' : Pos} {Q : D → Prop} {scope : Scope}
end
end L3

/-! Core87: {**a, k: v}. -/
namespace L3
open PySem PySem.Spec PyProof.Rows L2
open Sem (wp)
section
variable {prog : Program} {w : World} {A : Around} {E : Value → Shared → Prop} {s : Shared}
end
end L3

/-! Core88: {**a, k: v}, the walk. -/
namespace L3
open PySem PySem.Spec PyProof.Rows L2
open Sem (wp)
section
variable {X : Cx} {pos : Pos} {a k v : Expr} {ta tk tv : TE}
variable {Hb : Hp} {Γ : Slots} {Q : D → Prop} {fr : Bool}
end
end L3

/-! Core89: x == y of a class with its own __eq__. -/
namespace L3
open PySem PySem.Spec PyProof.Rows L2
section
variable {X : Cx} {Hb : Hp} {a b : Expr} {Γ : Slots} {pos : Pos} {Q : D → Prop} {fr : Bool}
end
end L3

/-! Core90: isinstance(x, C), C a class of the program. -/
namespace L3
open PySem PySem.Spec PyProof.Rows L2
structure OwnIs (K : PySem.W.Frag) (C : Addr) : Prop where
  cl : Cls K C
  ha : PySem.W.findIn K (.ref C) "__class__" = some (some (.builtin "object.__class__"))
  hn : PySem.W.specialIn K (.builtin "object.__class__") "__get__" = some (some (.builtin "getset_descriptor.__get__"))
  ht : PySem.W.takesIn K (.builtin "object.__class__") = some true
  hm : PySem.W.mroIn K C (.type "object") = some true
section
variable {X : Cx} {Hb : Hp} {a : Expr} {Γ : Slots} {pos : Pos} {Q : D → Prop} {fr : Bool}
end
end L3

/-! Core91: a def that ends without return; {k: v for x, y in d.items() if t}. -/
namespace L3
open PySem PySem.Spec PyProof.Rows L2
section
variable {X : Cx} {Hb : Hp} {iter tst kx vx : Expr} {Γ Γb : Slots} {p1 p2 p3 : Pos} {Q : D → Prop} {scope : Scope}
end
end L3

/-! Core92: list(d.items()), d a dict that may be locked. -/
namespace L3
open PySem PySem.Spec PyProof.Rows L2
section
variable {X : Cx} {e : Expr} {te : TE} {pn ap cp pos : Pos}
variable {Hb : Hp} {Γ : Slots} {Q : D → Prop} {fr : Bool}
end
end L3

/-! Core93: *d.values() in a display, list(d.values()). -/
namespace L3
open PySem PySem.Spec PyProof.Rows L2
section
variable {X : Cx} {e : Expr} {es : List Expr} {te : TE} {t : TA} {pn ap cp pos p : Pos}
theorem RepKV.vals {K : PySem.W.Frag} {H : Hp} : ∀ {vs : List (Key × V)} {ds : List (Key × D)}, RepKV K H vs ds → RepAll K H (vs.map (·.2)) (ds.map (·.2))
  | _, _, .nil => .nil
  | _, _, .cons h r => .cons h (RepKV.vals r)
variable {Hb : Hp} {Γ : Slots} {Q : D → Prop} {fr : Bool}
end
end L3

/-! Core94: {k: v, ..}, up to fifteen entries; text + text. -/
namespace L3
open PySem PySem.Spec PyProof.Rows L2
section
variable {X : Cx} {Hb : Hp} {Γ : Slots} {pos : Pos} {Q : D → Prop} {fr : Bool}
end
end L3

/-! Core95: == and != of tuples whose things may be dicts, where they are alike. -/
namespace L3
open PySem PySem.Spec PyProof.Rows L2
section
variable {prog : Program} {w : World} {A : Around} {E : Value → Shared → Prop} {s : Shared}
/-- == says yes, in this program and this world -/
def YesAt (prog : Program) (w : World) (A : Around) (s : Shared) (y x : Value) : Prop := ∀ (E : Value → Shared → Prop) (Q : Bool → Shared → Prop), Q true s → wpAny (model prog w) A (eqBool y x) Q E s
theorem YesAt.of {y x : Value} (h : SeqAt.EqAt A s y x true) : YesAt prog w A s y x := fun E Q q => h prog w E Q q
open SeqAt AutoSeq1 MeetsSeq MeetsSeq2 MeetsSeq3 in
open SeqAt AutoSeq1 MeetsSeq MeetsSeq2 MeetsSeq3 in
end
section
variable {X : Cx} {n : Nat} {S : Bool → Prop} {ds es : List D} {d e : D}
/-- alike, as == sees it -/
inductive AlikeD : D → D → Prop
  | dct {a b : List (Key × D)} : eqDct a b = true → (∀ q ∈ a, ShpN 60 q.2) → (∀ q ∈ b, ShpN 60 q.2) → AlikeD (.dct a) (.dct b)
  | dat {d e : D} : PyData.eqv d.py e.py = true → ShpN 60 d → ShpN 60 e → AlikeD d e
end
end L3

/-! Core96: *xs in a display, xs a list. -/
namespace L3
open PySem PySem.Spec PyProof.Rows L2
section
variable {X : Cx} {Hb : Hp} {e : Expr} {es : List Expr} {Γ : Slots}
end
end L3

/-! Core97: gone over: x[i], a dict in a tuple. -/
namespace L3
open PySem PySem.Spec PyProof.Rows L2
section
variable {X : Cx} {Hb : Hp} {Γ : Slots} {ds : List D} {kds : List (Key × D)} {pos p1 p2 : Pos}
end
end L3

/-! Core98: a def that returns a new tuple of two new dicts; x, y = f(..). -/
namespace L3
open PySem PySem.Spec PyProof.Rows L2
/-- a new tuple of two new dicts -/
def RtTD (K : PySem.W.Frag) (H : Hp) (k1 k2 : List (Key × D)) (v : V) (H' : Hp) : Prop := ∃ t qa qb kv1 kv2, v = .ref t ∧ qa ≠ qb ∧ H qa = none ∧ H qb = none ∧ Ex H H' ∧ SqT K H' t [.ref qa, .ref qb] ∧ H' qa = some (.dK kv1) ∧ H' qb = some (.dK kv2) ∧ (RepKV K H' kv1 k1 ∧ D.flatKV k1 = true) ∧ (RepKV K H' kv2 k2 ∧ D.flatKV k2 = true)
def spTD (K : PySem.W.Frag) (R : List D → (List (Key × D) → List (Key × D) → Prop) → Prop) : Sp := fun vs H Q _ => TbOk K H ∧ ∃ ds Post, RepAll K H vs ds ∧ R ds Post ∧ ∀ k1 k2 v H', Post k1 k2 → RtTD K H k1 k2 v H' → Q v H'
structure FnTD (P : Program) (w : World) (K : PySem.W.Frag) (mg : Str → Option Value) (base : Heap) (x : Str) (k : Nat) (R : List D → (List (Key × D) → List (Key × D) → Prop) → Prop) : Prop where
  ex : ∃ (f : Addr) (fd : FuncData) (ps : List Str), FnOk P w K mg base CX0 k f fd ps (spTD K R) ∧ mg x = some (.ref f) ∧ PySem.W.keepIn K (.ref f) = true ∧ Binds K fd ps []
section
variable {P : Program} {w : World} {K : PySem.W.Frag} {mg : Str → Option Value} {base : Heap}
end
section
variable {X : Cx} {Hb Hb' : Hp} {e : Expr} {es : List Expr} {Γ Γ' : Slots} {pos p' p2 cpos : Pos} {D0 : Ends} {rest : List Stmt}
end
end L3

/-! Core99: an if whose answer is drawn, the ways meet. -/
namespace L3
open PySem PySem.Spec PyProof.Rows L2
section
variable {X : Cx} {Hb : Hp} {c : Expr} {Γ : Slots} {pos : Pos} {D0 : Ends} {rest : List Stmt}
theorem s_ifJN {as bs : List Stmt} (I : Slots → Prop) (h : EvT X Hb c Γ fun _ => True) (ha : Go X Hb as { D0 with nx := Btw X Hb I } Γ) (hb : Go X Hb bs { D0 with nx := Btw X Hb I } Γ) (hd : ∀ Γ', I Γ' → Go X Hb rest D0 Γ') : Go X Hb (.If c as bs pos :: rest) D0 Γ :=
  go_ifN h (fun _ σ H en => (ha σ H en).mono (fun σ H ⟨Γ', hI, en'⟩ => hd Γ' hI σ H en') (fun _ _ h => h) (fun _ _ h => h) fun _ _ h => h) fun _ σ H en => (hb σ H en).mono (fun σ H ⟨Γ', hI, en'⟩ => hd Γ' hI σ H en') (fun _ _ h => h) (fun _ _ h => h) fun _ _ h => h
end
end L3

/-! Core100: for x, (y, z, u) in d.items(), a state. -/
namespace L3
open PySem PySem.Spec PyProof.Rows L2
section
variable {X : Cx} {Hb : Hp} {e : Expr} {Γ : Slots} {pos p1 p2 p3 p4 p5 p6 : Pos} {D0 : Ends} {rest body : List Stmt}
end
end L3

/-! Core101: {k: v for x in d}. -/
namespace L3
open PySem PySem.Spec PyProof.Rows L2
section
variable {X : Cx} {Hb : Hp} {iter tst kx vx : Expr} {Γ Γb : Slots} {p' : Pos} {Q : D → Prop} {scope : Scope}
end
end L3

/-! Core102: text + text; d.pop(k), an expression that changes a dict of one's own, in statements and conditions. -/
namespace L3
open PySem PySem.Spec PyProof.Rows L2
section
variable {X : Cx} {Hb : Hp} {e a b i : Expr} {es : List Expr} {Γ Γ' : Slots} {pos p' p2 cpos apos : Pos} {D0 : Ends} {rest : List Stmt} {kds : List (Key × D)}
end
end L3

/-! Core103: t[::-1] of a tuple. -/
namespace L3
open PySem PySem.Spec PyProof.Rows L2
section
variable {prog : Program} {w : World} {A : Around} {E : Value → Shared → Prop} {s : Shared}
end
section
variable {X : Cx}
end
end L3

/-! Core104: d.update(t[i]), a dict in a tuple. -/
namespace L3
open PySem PySem.Spec PyProof.Rows L2
section
variable {X : Cx} {Hb : Hp} {Γ Γ' : Slots} {pos p' p1 p2 p3 cpos apos : Pos} {D0 : Ends} {rest : List Stmt} {kds kes : List (Key × D)} {ds : List D}
end
end L3

/-! Core105: what is one's own is put aside while an expression is evaluated that does not touch it. -/
namespace L3
open PySem PySem.Spec PyProof.Rows L2
/-- cells that may be put aside -/
structure HidOk (H : Hp) (ps : List Addr) : Prop where
  cells : ∀ p ∈ ps, (∃ vs, H p = some (.lst vs)) ∨ (∃ kvs, H p = some (.dK kvs)) ∨ (∃ C dx fs, H p = some (.ins C dx fs) ∧ dx ∈ ps) ∨ ∃ a C fs, H p = some (.own a) ∧ H a = some (.ins C p fs) ∧ a ∈ ps
section
variable {X : Cx} {pins : List (Addr × Obj)} {σ : L2.St} {H H0 : Hp} {s s' : Shared} {ps : List Addr}
theorem HidOk.mu (h : HidOk H ps) : Lsts H ps := fun p m => by
  rcases h.cells p m with ⟨vs, e⟩ | ⟨kvs, e⟩ | ⟨C, dx, fs, e, _⟩ | ⟨a, C, fs, e, _⟩
  · exact ⟨_, e, trivial⟩
  · exact ⟨_, e, trivial⟩
  · exact ⟨_, e, trivial⟩
  · exact ⟨_, e, trivial⟩
theorem HidOk.dx (h : HidOk H ps) {dx a : Addr} (hd : H dx = some (.own a)) (hn : a ∉ ps) : dx ∉ ps := fun m => by
  rcases h.cells dx m with ⟨vs, e⟩ | ⟨kvs, e⟩ | ⟨C, d2, fs, e, _⟩ | ⟨b, C2, fs2, e, _, hb⟩
  · rw [hd] at e; cases e
  · rw [hd] at e; cases e
  · rw [hd] at e; cases e
  · rw [hd] at e
    cases e
    exact hn hb
theorem HidOk.not (h : HidOk H ps) {p : Addr} {o : HO} (e : H p = some o) (ho : ¬ Mu o) : p ∉ ps := fun m => by
  obtain ⟨u, e2, hu⟩ := h.mu p m
  rw [e] at e2
  cases e2
  exact ho hu
theorem objOk_sub {H H' : Hp} {P : Program} {w : World} {hp : Heap} {a : Addr} (f1 : ∀ dx, H dx = some (.own a) → H' dx = some (.own a)) (f2 : ∀ b xs, H b = some (.tup xs) → H' b = some (.tup xs)) : ∀ o : HO, ObjOk P w H hp a o → ObjOk P w H' hp a o
  | .lst _, x => x
  | .tup _, x => x
  | .dK _, x => x
  | .dT _, x => by
    obtain ⟨z, hs, xs, pr, r⟩ := x
    exact ⟨z, hs, xs, Paired.mapE pr fun p q _ ⟨h1, h2, h3⟩ => ⟨h1, f2 _ _ h2, h3⟩, r⟩
  | .set _ _, x => x
  | .ins _ dx _, x => ⟨f1 dx x.1, x.2⟩
  | .own _, x => x
  | .xd _, x => x
  | .rng _ _, x => x
  | .frz _ u, x => ⟨x.1, objOk_sub f1 f2 u x.2⟩
  | .tbl _, x => x
  | .met _ _, x => x
  | .ext _, x => x
/-- the objects that are put aside -/
def aside (s : Shared) (ps : List Addr) : List (Addr × Obj) := ps.filterMap fun p => (s.heap.get? p).map fun o => (p, o)
theorem mem_aside {p : Addr × Obj} : p ∈ aside s ps ↔ p.1 ∈ ps ∧ s.heap.get? p.1 = some p.2 := by
  unfold aside
  rw [List.mem_filterMap]
  constructor
  · rintro ⟨a, ha, e⟩
    cases z : s.heap.get? a with
    | none => rw [z] at e; cases e
    | some o =>
      rw [z] at e
      have e : (a, o) = p := Option.some.inj e
      rw [← e]
      exact ⟨ha, z⟩
  · rintro ⟨h1, h2⟩
    exact ⟨p.1, h1, by rw [h2]; rfl⟩
theorem HidOk.data (I : Inv X pins σ H s) (h : HidOk H ps) {p : Addr} (m : p ∈ ps) : ∃ o, s.heap.get? p = some o ∧ ∀ v, o.data ≠ .cell v := by
  rcases h.cells p m with ⟨vs, e⟩ | ⟨kvs, e⟩ | ⟨C, dx, fs, e, _⟩ | ⟨a, C, fs, _, ha, _⟩
  · obtain ⟨_, its, n, _, hg⟩ := I.hok _ _ e
    exact ⟨_, hg, fun v z => by cases z⟩
  · obtain ⟨_, _, vs, _, o, es, ep, hg, _, hd, _⟩ := I.hok _ _ e
    exact ⟨o, hg, fun v z => by rw [hd] at z; cases z⟩
  · obtain ⟨_, _, _, hg, _⟩ := I.hok _ _ e
    exact ⟨_, hg, fun v z => by cases z⟩
  · obtain ⟨_, _, _, _, mA, ⟨o, es, ep, hg, hd, _⟩, _⟩ := I.hok _ _ ha
    exact ⟨o, hg, fun v z => by rw [hd] at z; cases z⟩
theorem Inv.nofr (I : Inv X pins σ H s) {p : Addr} {o : HO} (e : H p = some o) : p ∉ X.fs ∧ p ≠ X.env.locals := by
  refine ⟨fun hb => ?_, fun z => ?_⟩
  · obtain ⟨_, ob, ho, _⟩ := I.ok.funs.mem hb
    have := I.base.free p ob ho (I.ok.frf p hb) fun z => I.ok.exfs p z hb
    rw [e] at this
    cases this
  · have := I.free
    rw [← z, e] at this
    cases this
/-- with the cells put aside -/
theorem Inv.aside (I : Inv X pins σ H s) (h : HidOk H ps) : Inv X (pins ++ aside s ps) σ (hide H ps) s where
  ok := I.ok
  os := I.os
  bare := I.bare
  base := {
    keep := I.base.keep
    slot := I.base.slot
    free := fun b o q n x => by
      by_cases z : b ∈ ps
      · exact hide_in z
      · rw [hide_out z]; exact I.base.free b o q n x
    there := I.base.there
    tups := fun b xs q => by
      have e := I.base.tups b xs q
      rw [hide_out (h.not e (fun z => z))]
      exact e
    frzs := fun b o u q => by
      have e := I.base.frzs b o u q
      rw [hide_out (h.not e (fun z => z))]
      exact e
    tbls := fun b ts q => by
      obtain ⟨more, e⟩ := I.base.tbls b ts q
      exact ⟨more, by rw [hide_out (h.not e (fun z => z))]; exact e⟩ }
  loc := I.loc
  cell := I.cell
  free := by
    by_cases z : X.env.locals ∈ ps
    · exact hide_in z
    · rw [hide_out z]; exact I.free
  freeC := fun x c e => by
    by_cases z : c ∈ ps
    · exact hide_in z
    · rw [hide_out z]; exact I.freeC x c e
  pin := fun p m => by
    rw [← List.append_assoc] at m
    rcases List.mem_append.mp m with m | m
    · obtain ⟨h1, h2, h3, h4, h5⟩ := I.pin p m
      refine ⟨h1, ?_, h3, h4, h5⟩
      by_cases z : p.1 ∈ ps
      · exact hide_in z
      · rw [hide_out z]; exact h2
    · obtain ⟨h1, h2⟩ := mem_aside.mp m
      obtain ⟨u, e, _⟩ := h.mu p.1 h1
      obtain ⟨n1, n2⟩ := Inv.nofr I e
      obtain ⟨o, ho, hd⟩ := h.data I h1
      rw [ho] at h2
      cases h2
      exact ⟨ho, hide_in h1, n2, n1, hd⟩
  hok := fun a o e => by
    have ha : a ∉ ps := fun z => by rw [hide_in z] at e; cases e
    rw [hide_out ha] at e
    exact objOk_sub (fun dx q => by rw [hide_out (h.dx q ha)]; exact q) (fun b xs q => by rw [hide_out (h.not q (fun z => z))]; exact q) o (I.hok a o e)
  len := I.len
/-- the cells as they were, beside what stands now -/
def joinH (H H0 : Hp) (ps : List Addr) : Hp := fun a => if a ∈ ps then H a else H0 a
theorem join_in {a : Addr} (h : a ∈ ps) : joinH H H0 ps a = H a := if_pos h
theorem join_out {a : Addr} (h : a ∉ ps) : joinH H H0 ps a = H0 a := if_neg h
/-- the cells come back -/
theorem Inv.back {σ' : L2.St} (I : Inv X pins σ H s) (h : HidOk H ps) (J : Inv X (pins ++ L3.aside s ps) σ' H0 s') : (∀ p ∈ ps, H0 p = none) ∧ Inv X pins σ' (joinH H H0 ps) s' := by
  have hp : ∀ p ∈ ps, ∃ o, s.heap.get? p = some o ∧ s'.heap.get? p = some o ∧ H0 p = none := fun p m => by
    obtain ⟨o, ho, _⟩ := h.data I m
    have hm : ((p, o) : Addr × Obj) ∈ X.pn ++ (pins ++ L3.aside s ps) := List.mem_append_right _ (List.mem_append_right _ (mem_aside.mpr ⟨m, ho⟩))
    obtain ⟨q1, q2, _⟩ := J.pin _ hm
    exact ⟨o, ho, q1, q2⟩
  have hg : ∀ p ∈ ps, ∀ o, s.heap.get? p = some o → s'.heap.get? p = some o := fun p m o e => by
    obtain ⟨o', e1, e2, _⟩ := hp p m
    rw [e] at e1
    cases e1
    exact e2
  have hn : ∀ p ∈ ps, H0 p = none := fun p m => by
    obtain ⟨_, _, _, e⟩ := hp p m
    exact e
  refine ⟨hn, { ok := J.ok, os := J.os, bare := J.bare, base := ?_, loc := J.loc, cell := J.cell, free := ?_, freeC := ?_, pin := ?_, hok := ?_, len := J.len }⟩
  · refine { keep := J.base.keep, slot := J.base.slot, free := fun b o q n x => ?_, there := J.base.there, tups := fun b xs q => ?_, frzs := fun b o u q => ?_, tbls := fun b ts q => ?_ }
    · by_cases z : b ∈ ps
      · rw [join_in z]; exact I.base.free b o q n x
      · rw [join_out z]; exact J.base.free b o q n x
    · by_cases z : b ∈ ps
      · rw [join_in z]; exact I.base.tups b xs q
      · rw [join_out z]; exact J.base.tups b xs q
    · by_cases z : b ∈ ps
      · rw [join_in z]; exact I.base.frzs b o u q
      · rw [join_out z]; exact J.base.frzs b o u q
    · by_cases z : b ∈ ps
      · obtain ⟨more, e⟩ := I.base.tbls b ts q
        exact ⟨more, by rw [join_in z]; exact e⟩
      · obtain ⟨more, e⟩ := J.base.tbls b ts q
        exact ⟨more, by rw [join_out z]; exact e⟩
  · by_cases z : X.env.locals ∈ ps
    · rw [join_in z]; exact I.free
    · rw [join_out z]; exact J.free
  · intro x c e
    by_cases z : c ∈ ps
    · rw [join_in z]; exact I.freeC x c e
    · rw [join_out z]; exact J.freeC x c e
  · intro p m
    have m2 : p ∈ X.pn ++ (pins ++ L3.aside s ps) := by
      rw [← List.append_assoc]
      exact List.mem_append_left _ m
    obtain ⟨q1, q2, q3, q4, q5⟩ := J.pin p m2
    refine ⟨q1, ?_, q3, q4, q5⟩
    by_cases z : p.1 ∈ ps
    · rw [join_in z]; exact (I.pin p m).2.1
    · rw [join_out z]; exact q2
  · intro a o e
    by_cases z : a ∈ ps
    · rw [join_in z] at e
      rcases h.cells a z with ⟨vs, q⟩ | ⟨kvs, q⟩ | ⟨C, dx, fs, q, hdx⟩ | ⟨b, C, fs, q, _, _⟩
      · rw [e] at q
        cases q
        obtain ⟨z1, its, n, r, g⟩ := I.hok _ _ e
        exact ⟨z1, its, n, r, hg a z _ g⟩
      · rw [e] at q
        cases q
        obtain ⟨z1, z2, vs, kv, dd⟩ := I.hok _ _ e
        exact ⟨z1, z2, vs, kv, dd.at fun o q => hg a z o q⟩
      · rw [e] at q
        cases q
        obtain ⟨z1, z2, z3, g, mA, nn, r1, r2⟩ := I.hok _ _ e
        exact ⟨by rw [join_in hdx]; exact z1, z2, z3, hg a z _ g, mA, nn.at fun o q => hg dx hdx o q, r1, r2⟩
      · rw [e] at q
        cases q
        obtain ⟨ob, _, g, _⟩ := hp a z
        exact ⟨ob, g⟩
    · rw [join_out z] at e
      exact objOk_sub (fun dx q => by rw [join_out fun m => by rw [hn dx m] at q; cases q]; exact q) (fun b xs q => by rw [join_out fun m => by rw [hn b m] at q; cases q]; exact q) o (J.hok a o e)
end
end L3

/-! Core106: slots whose things are one's own, put aside: things that are not flat beside them. -/
namespace L3
open PySem PySem.Spec PyProof.Rows L2
def Ent.wipe : Ent → Ent
  | .any => .any
  | .dat d => .dat d
  | _ => .any
def wipeO (Γ : Slots) : Slots := Γ.map Ent.wipe
theorem owns_wipe : ∀ Γ : Slots, owns (wipeO Γ) = []
  | [] => rfl
  | .any :: r => owns_wipe r
  | .dat _ :: r => owns_wipe r
  | .own _ _ :: r => owns_wipe r
  | .ownD _ _ :: r => owns_wipe r
  | .res _ _ _ :: r => owns_wipe r
  | .ins _ _ _ _ :: r => owns_wipe r
section
variable {K : PySem.W.Frag} {Hb Hz H H' J : Hp} {Γ : Slots} {σ : L2.St}
/-- what stands now, the cells as they were -/
theorem ex_same {ps : List Addr} (hl : Lsts H ps) (x : Ex (hide H ps) (hide J ps)) (c : ∀ p ∈ ps, J p = H p) : Ex H J := by
  refine ⟨fun a o e n => ?_, fun a e => ?_, fun P t => hide_ex.tab P (x.tab P (tabS_hide hl t))⟩
  · by_cases z : a ∈ ps
    · rw [c a z]; exact e
    · have := x.get a o (by rw [hide_out z]; exact e) n
      rw [hide_out z] at this
      exact this
  · by_cases z : a ∈ ps
    · rw [← c a z]; exact e
    · have := x.fr a (by rw [hide_out z]; exact e)
      rw [hide_out z] at this
      exact this
theorem EnvOk.lsts (h : EnvOk K Hb Γ σ H) : Lsts H (owns Γ) := by
  obtain ⟨_, _, h3, _⟩ := h.wide
  exact owns_lsts h3
end
section
variable {X : Cx} {Hb : Hp} {e a b : Expr} {es : List Expr} {Γ Γ' : Slots} {pos p' : Pos} {D0 : Ends} {rest : List Stmt} {fr : Bool} {S : D → Prop}
theorem EvH.n (h : EvH X Hb e Γ S) : EvN X Hb e Γ false S := fun σ H en Q q => h σ H en Q fun v J d s x r => q v J d s x (r.ex hide_ex) fun z => nomatch z
end
end L3

/-! Core107: C(k = v, ..) by names alone. -/
namespace L3
open PySem PySem.Spec PyProof.Rows L2
/-- how an __init__ binds what is passed by the names ks alone -/
structure KwI (fd : FuncData) (pns ks : List Str) (perm : List Nat) : Prop where
  bind : ∀ (x : Value) (ws : List Value), ws.length = ks.length → bindArgs fd ⟨[x], ks.zip ws⟩ = pure (pns.zip (x :: putIn .none perm ws))
  few : ∀ i ∈ perm, i < ks.length
section
variable {X : Cx} {Hb : Hp} {kws : List Keyword} {Γ : Slots} {cpos pc : Pos} {Q : D → Prop} {fr : Bool} {k k' : Nat} {C f : Addr} {fd : FuncData} {pns ks : List Str} {perm : List Nat}
end
end L3

/-! Core108: x = x + e, lists whose things may be of any kind. -/
namespace L3
open PySem PySem.Spec PyProof.Rows L2
section
variable {X : Cx} {Hb : Hp} {e : Expr} {Γ : Slots} {pos p' p2 p3 : Pos} {ds : List D} {D0 : Ends} {rest : List Stmt}
end
end L3

/-! Core109: the wiped slots, step by step; five things by names; pairs of a thing and itself. -/
namespace L3
open PySem PySem.Spec PyProof.Rows L2
inductive Wipe : Slots → Slots → Prop
  | nil : Wipe [] []
  | dat {d : D} {Γ Γw : Slots} : Wipe Γ Γw → Wipe (.dat d :: Γ) (.dat d :: Γw)
  | any {Γ Γw : Slots} : Wipe Γ Γw → Wipe (.any :: Γ) (.any :: Γw)
  | own {p : Addr} {ds : List D} {Γ Γw : Slots} : Wipe Γ Γw → Wipe (.own p ds :: Γ) (.any :: Γw)
  | ownD {p : Addr} {ds : List (Key × D)} {Γ Γw : Slots} : Wipe Γ Γw → Wipe (.ownD p ds :: Γ) (.any :: Γw)
  | ins {C o dx : Addr} {ds : List (Key × D)} {Γ Γw : Slots} : Wipe Γ Γw → Wipe (.ins C o dx ds :: Γ) (.any :: Γw)
theorem Wipe.eq {Γ Γw : Slots} (h : Wipe Γ Γw) : wipeO Γ = Γw ∧ noRes Γ = true := by
  induction h with
  | nil => exact ⟨rfl, rfl⟩
  | dat _ ih => exact ⟨congrArg _ ih.1, ih.2⟩
  | any _ ih => exact ⟨congrArg _ ih.1, ih.2⟩
  | own _ ih => exact ⟨congrArg _ ih.1, ih.2⟩
  | ownD _ ih => exact ⟨congrArg _ ih.1, ih.2⟩
  | ins _ ih => exact ⟨congrArg _ ih.1, ih.2⟩
section
variable {X : Cx} {Hb : Hp} {e : Expr} {Γ Γw : Slots} {fr : Bool} {S : D → Prop} {P : Pr} {x0 x1 x2 x3 x4 : D} {Q : D → Prop}
end
end L3

/-! Core110: x = [e], a list of one's own whose thing may be of any kind. -/
namespace L3
open PySem PySem.Spec PyProof.Rows L2
section
variable {X : Cx} {Hb : Hp} {e : Expr} {Γ : Slots} {pos p' lp : Pos} {D0 : Ends} {rest : List Stmt}
end
end L3

/-! Core111: repr of data that holds both dicts and lists: what the base holds at sysModules is not tracked. -/
namespace L3
open PySem PySem.Spec PyProof.Rows L2
/-- the base holds a thing at sysModules -/
def SysB (base : Heap) : Prop := ∃ (m : Str → Option Value), base.Ns sysModules m
abbrev SysAt (X : Cx) : Prop := SysB X.base
section
variable {X : Cx} {pins : List (Addr × Obj)} {σ : L2.St} {H : Hp} {s : Shared}
theorem sys_ne (I : Inv X pins σ H s) (sb : SysAt X) {a : Addr} {xs : List V} (hs : SqL X.K H a xs) : (a == sysModules) = false := by
  obtain ⟨m, o, es, ep, e, dd, _⟩ := sb
  have h0 := (I.bs _ _ e).2
  refine beq_eq_false_iff_ne.mpr fun z => ?_
  subst z
  rcases hs with hs | ⟨o2, its, n, lk, _, _, d2, _⟩
  · rcases hs with q | ⟨ob, q⟩ <;> (rw [h0] at q; cases q)
  · have := I.mod.kin _ _ lk
    rw [e] at this
    cases this
    rw [dd] at d2
    cases d2
mutual
theorem Rep.readsM (I : Inv X pins σ H s) (sb : SysAt X) : ∀ (d : D) (v : V) (u : Value), Rep X.K H v d → d.ok = true → RelV v u → ∃ as, Reads s.heap u d.py as ∧ (∀ a ∈ as, (a == sysModules) = false)
  | .non, _, _, h, _, r => by
    cases h; cases r
    exact ⟨[], by rw [D.py]; exact .none, fun _ m => nomatch m⟩
  | .bl b, _, _, h, _, r => by
    cases h; cases r
    exact ⟨[], by rw [D.py]; exact .bool b, fun _ m => nomatch m⟩
  | .int i, _, _, h, _, r => by
    cases h
    obtain ⟨t, e⟩ := r
    subst e
    exact ⟨[], by rw [D.py]; exact .int i t, fun _ m => nomatch m⟩
  | .str x, _, _, h, _, r => by
    cases h
    obtain ⟨t, e⟩ := r
    subst e
    exact ⟨[], by rw [D.py]; exact .str x t, fun _ m => nomatch m⟩
  | .lst ds, _, _, h, hok, r => by
    cases h with
    | lst hs ha =>
      cases r
      obtain ⟨its, rv, ⟨o, n, ho, hc, _, hd⟩, _⟩ := I.list hs
      obtain ⟨as, hr, k⟩ := Rep.readsAllM I sb ds _ its ha (by simpa [D.ok] using hok) rv
      exact ⟨_, by rw [D.py]; exact .list ho hc hd hr, fun a m => (List.mem_cons.mp m).elim (fun e => by rw [e]; exact sys_ne I sb hs) fun m => k a m⟩
  | .tup ds, _, _, h, hok, r => by
    cases h with
    | tup hs ha =>
      cases r
      obtain ⟨its, rv, ⟨o, ho, hc, n, hd⟩, _⟩ := I.tuple hs
      obtain ⟨as, hr, k⟩ := Rep.readsAllM I sb ds _ its ha (by simpa [D.ok] using hok) rv
      exact ⟨_, by rw [D.py]; exact .tuple ho hc hd hr, k⟩
  | .dct ds, _, _, h, hok, r => by
    cases h with
    | dct hs ha =>
      cases r
      obtain ⟨_, hsys, vs, kv, o, es, ep, ho, ex, hd, _, pr, _⟩ := hs.ok I.hok
      obtain ⟨as, hr, k⟩ := Rep.readsKVM I sb ds _ vs ha (by simpa [D.ok] using hok) kv
      have e1 : ReadsAll s.heap (es.toList.map (·.key)) ((D.pyKV ds).map (·.1)) [] := by
        have q := pairs_keys (X := X) (s := s) (mixKind_is X.prog X.w) pr
        rw [hr.2] at q
        exact q
      have e2 : ReadsAll s.heap (es.toList.map (·.val)) ((D.pyKV ds).map (·.2)) as := by
        rw [pairs_vals pr]
        exact hr.1
      refine ⟨_, by rw [D.py]; exact .dict ho ex.1 hd e1 e2, fun a m => ?_⟩
      rcases List.mem_append.mp m with m | m
      · rcases List.mem_cons.mp m with m | m
        · rw [m]; exact hsys
        · exact nomatch m
      · exact k a m
  | .ext _, _, _, _, hok, _ => by simp [D.ok] at hok
  | .obj _ _, _, _, _, hok, _ => by simp [D.ok] at hok
  | .ptr _, _, _, _, hok, _ => by simp [D.ok] at hok
  | .exc _ _ _, _, _, _, hok, _ => by simp [D.ok] at hok
theorem Rep.readsAllM (I : Inv X pins σ H s) (sb : SysAt X) : ∀ (ds : List D) (vs : List V) (us : List Value), RepAll X.K H vs ds → D.okAll ds = true → Vals vs us → ∃ as, ReadsAll s.heap us (D.pyAll ds) as ∧ (∀ a ∈ as, (a == sysModules) = false)
  | [], _, _, h, _, r => by
    cases h; cases r
    exact ⟨[], by rw [D.pyAll]; exact .nil, fun _ m => nomatch m⟩
  | d :: ds, _, _, h, hok, r => by
    cases h with
    | cons h1 h2 =>
      cases r with
      | cons r1 r2 =>
        obtain ⟨o1, o2⟩ := Bool.and_eq_true_iff.mp (show (d.ok && D.okAll ds) = true from hok)
        obtain ⟨as, q1, k1⟩ := Rep.readsM I sb d _ _ h1 o1 r1
        obtain ⟨bs, q2, k2⟩ := Rep.readsAllM I sb ds _ _ h2 o2 r2
        refine ⟨_, by rw [D.pyAll]; exact .cons q1 q2, fun a m => ?_⟩
        exact (List.mem_append.mp m).elim (k1 a) (k2 a)
theorem Rep.readsKVM (I : Inv X pins σ H s) (sb : SysAt X) : ∀ (ds : List (Key × D)) (kvs : List (Key × V)) (vs : List (Key × Value)), RepKV X.K H kvs ds → D.okKV ds = true → KV kvs vs →
    ∃ as, (ReadsAll s.heap (vs.map (·.2)) ((D.pyKV ds).map (·.2)) as ∧ (vs.map fun p => keyP p.1) = (D.pyKV ds).map (·.1)) ∧ (∀ a ∈ as, (a == sysModules) = false)
  | [], _, _, h, _, r => by
    cases h; cases r
    exact ⟨[], ⟨by rw [D.pyKV]; exact .nil, by rw [D.pyKV]; rfl⟩, fun _ m => nomatch m⟩
  | (k, d) :: ds, _, _, h, hok, r => by
    cases h with
    | cons h1 h2 =>
      cases r with
      | cons r1 r2 =>
        rename_i q vs
        obtain ⟨qk, qv⟩ := q
        have e1 : k = qk := r1.1
        obtain ⟨o1, o2⟩ := Bool.and_eq_true_iff.mp (show (d.ok && D.okKV ds) = true from hok)
        obtain ⟨as, q1, k1⟩ := Rep.readsM I sb d _ _ h1 o1 r1.2
        obtain ⟨bs, ⟨q2, q3⟩, k2⟩ := Rep.readsKVM I sb ds _ _ h2 o2 r2
        refine ⟨as ++ bs, ⟨by rw [D.pyKV]; exact .cons q1 q2, by rw [D.pyKV, List.map_cons, List.map_cons, q3, e1]⟩, fun a m => ?_⟩
        exact (List.mem_append.mp m).elim (k1 a) (k2 a)
end
/-- may be shown: of any kind -/
structure ShM (n c : Nat) (d : D) : Prop where
  ok : d.ok = true
  can : d.py.showable = true
  deep : d.py.depth ≤ n
  len : d.py.shown.length ≤ c
theorem Sh.m {n c : Nat} {d : D} (h : Sh n c d) : ShM n c d := ⟨h.ok, h.can, h.deep, h.len⟩
theorem ShM.mono {n c n' c' : Nat} {d : D} (h : ShM n c d) (hn : n ≤ n') (hc : c ≤ c') : ShM n' c' d := ⟨h.ok, h.can, Nat.le_trans h.deep hn, Nat.le_trans h.len hc⟩
theorem shm_lst {n c : Nat} {ds : List D} (h : ∀ d ∈ ds, ShM n c d) : ShM (n + 1) ((c + 2) * ds.length + 3) (.lst ds) := by
  refine ⟨by rw [D.ok]; exact allD (pa := D.okAll) rfl (fun _ _ => rfl) ds fun d m => (h d m).ok, ?_, ?_, ?_⟩
  · rw [D.py, PyData.showable]; exact allPy (pa := PyData.showableAll) rfl (fun _ _ => rfl) ds fun d m => (h d m).can
  · rw [D.py, PyData.depth]; exact Nat.succ_le_succ (deepAll ds fun d m => (h d m).deep)
  · rw [D.py, PyData.shown]
    obtain ⟨h1, h2⟩ := lenAll ds fun d m => (h d m).len
    refine Nat.le_trans (listText_len_le _) ?_
    rw [h2, Nat.add_mul]
    omega
theorem shm_tup {n c : Nat} {ds : List D} (h : ∀ d ∈ ds, ShM n c d) : ShM (n + 1) ((c + 2) * ds.length + 3) (.tup ds) := by
  refine ⟨by rw [D.ok]; exact allD (pa := D.okAll) rfl (fun _ _ => rfl) ds fun d m => (h d m).ok, ?_, ?_, ?_⟩
  · rw [D.py, PyData.showable]; exact allPy (pa := PyData.showableAll) rfl (fun _ _ => rfl) ds fun d m => (h d m).can
  · rw [D.py, PyData.depth]; exact Nat.succ_le_succ (deepAll ds fun d m => (h d m).deep)
  · rw [D.py, PyData.shown]
    obtain ⟨h1, h2⟩ := lenAll ds fun d m => (h d m).len
    refine Nat.le_trans (tupleText_len_le _) ?_
    rw [h2, Nat.add_mul]
    omega
end
section
variable {X : Cx} {Hb Hb' : Hp} {a b c e : Expr} {es : List Expr} {Γ : Slots} {pos p' apos cpos pn : Pos} {d x y : D} {ds : List D} {Q S S' : D → Prop} {fr : Bool}
/-- repr of data -/
theorem call_reprM (hg : X.A.guards = some []) (hu : X.A.units + 64 < cLine) (sb : SysAt X) : CallR X (.builtin "repr") (fun xs H Q => ∃ v d, xs = [v] ∧ Rep X.K H v d ∧ ShM 40 10000000 d ∧ Q (.str (reprD d)) H) := by
  intro pins s σ H xs us Q I r h
  obtain ⟨v, d, rfl, rp, sh, q⟩ := h
  obtain ⟨u, rfl, ru⟩ := vals1 r
  obtain ⟨as, rd, hn⟩ := Rep.readsM I sb d v u rp sh.ok ru
  have hlen : d.py.shown.length ≤ sizeLine := Nat.le_trans sh.len (by decide)
  have hsm : d.py.hasDict = true → sysModules ∉ as := fun z m => by
    have := hn sysModules m
    simp at this
  have fin : ∀ {u2 : Tok} {tk : Tok} {h' : Heap}, (∀ b o, s.heap.get? b = some o → h'.get? b = some o) → EP X pins σ Q (.str d.py.shown u2) { s with heap := h', toks := tk } := fun {u2 tk h'} k => ⟨.str (reprD d), H, I.kept k, ⟨_, rfl⟩, q⟩
  have tok : ∀ {x : Str} {u2 : Tok} {s' : Shared}, s' = { s with toks := s'.toks } → x = d.py.shown → EP X pins σ Q (.str x u2) s' := fun {x u2 s'} e1 e2 => by
    rw [e1, e2]
    exact fin (h' := s.heap) fun _ _ z => z
  cases ru' : v with
  | ref a =>
    subst ru'
    cases (show u = Value.ref a from ru)
    refine PySem.repr_of_reads' rd sh.can hsm hg (by have := sh.deep; omega) (fun _ _ z => z) (fun h' u2 tk k => fin k) hlen
  | non =>
    subst ru'
    cases ru
    cases rp
    exact PySem.P.repr_of_none (tok rfl rfl)
  | bl k =>
    subst ru'
    cases ru
    cases rp
    exact PySem.P.repr_of_bool (tok rfl (by cases k <;> rfl))
  | int i =>
    subst ru'
    obtain ⟨t, rfl⟩ := ru
    cases rp
    exact PySem.P.repr_of_int (by have := sh.can; exact of_decide_eq_true this) (tok rfl rfl)
  | str z =>
    subst ru'
    obtain ⟨t, rfl⟩ := ru
    cases rp
    exact PySem.P.repr_of_str (tok rfl rfl) hlen
  | byt _ => subst ru'; cases rp
  | flt _ => subst ru'; cases rp
  | ty _ => subst ru'; cases rp
theorem w_reprM (hg : X.A.guards = some []) {k : Nat} (hr : Room k X.A) (sb : SysAt X) (hm : X.mg "repr" = none) (h : EvA X Hb [a] Γ fun ds => ∃ d, ds = [d] ∧ ShM 40 10000000 d ∧ Q (.str (reprD d))) (hgl : Gl X "repr" := by rfl) (he : starEach (a :: []) X.env = (false, eval a X.env) :: starEach [] X.env := by rfl) (hpl : (backTo pos (starEach [] X.env)).any (·.1) = false := by rfl) :
    EvN X Hb (.Call (.Name "repr" pn) [a] [] pos) Γ fr Q := EvN.fresh <|
  evn_B (call_reprM hg hr.units sb) hm h (fun vs H ds Q ⟨d, e1, s, q⟩ r k => by
    subst e1
    cases r with
    | cons r1 r2 =>
      cases r2
      exact ⟨_, d, rfl, r1, s, k _ _ _ q Ex.refl (.str _) (FreshD.flat rfl)⟩) boot_repr hgl (by decide) (by decide) he hpl
end
end L3

/-! Core112: the law's call, with the thing at sysModules in the base. -/
namespace L3
open PySem PySem.Spec PyProof.Rows L2
section
variable {P : Program} {w : World} {K : PySem.W.Frag} {mg : Str → Option Value} {base : Heap}
theorem lawGM {k : Nat} {fa a : Addr} {fd : FuncData} {x : Str} {sp : Sp} {mb : Str → Option Value} {s₁ : Shared} {vs : List Value} {ns : List Int} (kin : K.In s₁.heap) (glob : s₁.heap.Ns mainGlobals mg) (bl : s₁.heap.Ns builtinsNs mb) (blb : ∀ y : Str, y ≠ "__name__" → mb y = bootBuiltins y) (lim : s₁.heap.NoLimit) (nogen : s₁.gens = #[])
    (hmod : ∃ (bm : Addr) (ob : Obj), mg "__builtins__" = some (.ref bm) ∧ bm ≠ builtinsNs ∧ s₁.heap.get? bm = some ob ∧ ob.cls = .type "module" ∧ ob.dict = some builtinsNs ∧ ob.data = .plain) (tabs : TabAt K s₁.heap) (sy : ∃ ms : Str → Option Value, s₁.heap.Ns sysModules ms)
    (obj : s₁.heap.get? a = some { cls := .type "list", data := .seq vs.toArray }) (hints : IntsAre vs ns) (few : ns.length ≤ sizeLine) (hr : Room k callerA) (F : ∀ base : Heap, K.In base → base.Ns mainGlobals mg → TabBs K base mg → SysB base → FnG P w K mg base k fa fd [x] sp)
    (bind : ∀ (s : Shared) (u : Value), BindsTo s fd ⟨[u], []⟩ [(x, u)]) (hsp : ∀ H : Hp, TbOk K H → SqL K H a (ns.map V.int) → sp [.ref a] H (fun v _ => v = .bl true) E0) :
    codeAny (model P w) callerA (.call (.ref fa) ⟨[.ref a], []⟩) (fun r s' => r = .ok (.ret (.bool true)) ∧ OldK s₁.heap s'.heap ∧ s'.os = s₁.os ∧ AllBare s'.gens) s₁ := by
  have vals := vals_of_ints hints
  -- Ht: what is tracked: the script at a, and the table
  have main : ∀ Ht : Hp, (∀ b u, Ht b = some u → (b = a ∧ u = .frz { cls := .type "list", data := .seq vs.toArray } (.lst (ns.map V.int)) ∧ K.lookup a = none) ∨ ∃ c, PySem.W.tabIn K "sorted_fractions" = some (c, b) ∧ u = .tbl #[]) → (∀ c P, PySem.W.tabIn K "sorted_fractions" = some (c, P) → Ht P = some (.tbl #[])) → SqL K Ht a (ns.map V.int) →
      codeAny (model P w) callerA (.call (.ref fa) ⟨[.ref a], []⟩) (fun r s' => r = .ok (.ret (.bool true)) ∧ OldK s₁.heap s'.heap ∧ s'.os = s₁.os ∧ AllBare s'.gens) s₁ := by
    intro Ht only tbl sq
    have hok : HOk P w Ht s₁.heap := fun b u e => by
      rcases only b u e with ⟨e1, e2, _⟩ | ⟨c, hc, e2⟩
      · subst e1 e2
        exact ⟨obj, by rw [List.length_map]; exact few, vs, _, vals, obj⟩
      · subst e2
        exact (tabs c b hc).1.2
    have stays : ∀ {b o}, s₁.heap.get? b = some o → Ht b = none → (hidT s₁.heap Ht).get? b = some o := hidT_get
    have untr : ∀ {b o}, s₁.heap.get? b = some o → (∀ xs n, o.data ≠ .seq xs n) → o.data ≠ .fields #[] → Ht b = none := fun {b o} e n1 n2 => by
      cases q : Ht b with
      | none => rfl
      | some u =>
        rcases only b u q with ⟨e1, _, _⟩ | ⟨c, hc, _⟩
        · rw [e1, obj] at e
          cases e
          exact absurd rfl (n1 _ _)
        · rw [(tabs c b hc).1.2] at e
          cases e
          exact absurd rfl n2
    have nsIn : ∀ {b m}, s₁.heap.Ns b m → (hidT s₁.heap Ht).Ns b m := fun {b m} hns => by
      obtain ⟨o, ens, ep, e, dd, rr⟩ := hns
      exact ⟨o, ens, ep, stays e (untr e (fun xs n z => by rw [dd] at z; cases z) fun z => by rw [dd] at z; cases z), dd, rr⟩
    have kinH : K.In (hidT s₁.heap Ht) := fun b o e => stays (kin b o e) (by
      cases q : Ht b with
      | none => rfl
      | some u =>
        rcases only b u q with ⟨e1, _, e3⟩ | ⟨c, hc, _⟩
        · rw [e1, e3] at e
          cases e
        · rw [(tabs c b hc).2] at e
          cases e)
    obtain ⟨mc, lim1, lim2⟩ := lim
    have tB : TabBs K (hidT s₁.heap Ht) mg := fun c P hc => by
      obtain ⟨⟨hd, hT⟩, _⟩ := tabs c P hc
      refine ⟨?_, ?_, fun z => ?_⟩
      · obtain ⟨o, us, f1, f2, f3, f4, f5, f6, f7, e1, r1, r2, r3, rr⟩ := hd
        refine ⟨o, us, f1, f2, f3, f4, f5, f6, f7, stays e1 (untr e1 (fun xs n z => by rw [r2] at z; cases z) fun z => ?_), r1, r2, r3, rr⟩
        rw [r2] at z
        cases z
        simp at r3
      · obtain ⟨bm, ob, b1, b2, b3, b4, b5, b6⟩ := hmod
        refine ⟨bm, ob, b1, b2, fun z => ?_, fun z => ?_, stays b3 (untr b3 (fun xs n z => by rw [b6] at z; cases z) fun z => by rw [b6] at z; cases z), b4, b5, b6⟩
        · obtain ⟨o, es, ep, e, dd, _⟩ := glob
          rw [z, e] at b3
          cases b3
          rw [dd] at b6
          cases b6
        · rw [z, hT] at b3
          cases b3
          cases b6
      · obtain ⟨o, es, ep, e, dd, _⟩ := glob
        rw [z, hT] at e
        cases e
        cases dd
    have e0 : Env0 P w K mg (hidT s₁.heap Ht) callerA [] s₁ Ht := { frames := rfl, mod := ⟨kinH, nsIn glob, ⟨mb, nsIn bl, blb⟩, mc, nsIn lim1, lim2⟩, bs := fun b o e => of_hidT e, bsz := Nat.le_of_eq (hidT_size _ _), funs := trivial, frf := nofun, hok := hok, bare := .of_eq nogen }
    have tb : TbOk K Ht := fun c P hc => LamX.TabS.nil (tbl c P hc)
    refine codeAny_mono ((F _ kinH (nsIn glob) tB (let ⟨ms, z⟩ := sy; ⟨ms, nsIn z⟩)).go callerA [] s₁ Ht ⟨[.ref a], []⟩ [.ref a] [.ref a] _ rfl hr e0 (bind s₁ _) (.cons rfl .nil) (hsp Ht tb sq)) fun r s' h => ?_
    cases r with
    | error e => exact (show False from h).elim
    | ok fl =>
      cases fl with
      | ret u =>
        obtain ⟨v, H', os, bare, un, hok', rv, q⟩ := h
        have ev : v = .bl true := q
        rw [ev] at rv
        have eu : u = Value.bool true := rv
        have grown : ∀ c b, PySem.W.tabIn K "sorted_fractions" = some (c, b) → ∃ more : Array Value, s'.heap.get? b = some { cls := .none, data := .fields more } := fun c b hc => by
          obtain ⟨more, z⟩ := un.tbls b #[] (tbl c b hc)
          exact ⟨_, hok' b _ z⟩
        have either : ∀ b o, s₁.heap.get? b = some o → s'.heap.get? b = some o ∨ ∃ c, PySem.W.tabIn K "sorted_fractions" = some (c, b) := fun b o e => by
          cases q2 : Ht b with
          | none => exact .inl (un.keep b o e q2 nofun nofun)
          | some y =>
            rcases only b y q2 with ⟨_, ey, _⟩ | ⟨c, hc, _⟩
            · rw [ey] at q2
              have t1 := (hok b _ q2).1
              have t2 := (hok' b _ (un.frzs b _ _ q2)).1
              exact .inl (by rw [t2, ← t1, e])
            · exact .inr ⟨c, hc⟩
        refine ⟨by rw [eu], ⟨fun b o e => ?_, fun b o e => ?_⟩, os, bare⟩
        · rcases either b o e with z | ⟨c, hc⟩
          · exact .inl z
          · obtain ⟨⟨hd, hT⟩, _⟩ := tabs c b hc
            obtain ⟨more, hm⟩ := grown c b hc
            rw [hT] at e
            cases e
            exact .inr (.inl ⟨(hd.tab hT).isCodeTable, rfl, #[], more, rfl, by rw [Array.empty_append]; exact hm⟩)
        · rcases either b o e with z | ⟨c, hc⟩
          · exact ⟨o, z⟩
          · obtain ⟨more, hm⟩ := grown c b hc
            exact ⟨_, hm⟩
      | next => exact (show False from h).elim
      | brk => exact (show False from h).elim
      | cont => exact (show False from h).elim
  have neT : ∀ c, PySem.W.tabIn K "sorted_fractions" ≠ some (c, a) := fun c hc => by
    have := (tabs c a hc).1.2
    rw [obj] at this
    cases this
  have dec : ∀ b, Decidable (∃ c, PySem.W.tabIn K "sorted_fractions" = some (c, b)) := fun _ => Classical.propDecidable _
  cases lk : K.lookup a with
  | none =>
    refine main (fun b => if b = a then some (.frz { cls := .type "list", data := .seq vs.toArray } (.lst (ns.map V.int))) else @ite _ (∃ c, PySem.W.tabIn K "sorted_fractions" = some (c, b)) (dec b) (some (.tbl #[])) none) (fun b u e => ?_) (fun c P hc => ?_) (.inl (.inr ⟨_, if_pos rfl⟩))
    · by_cases eb : b = a
      · exact .inl ⟨eb, (Option.some.inj ((if_pos eb).symm.trans e)).symm, lk⟩
      · have e2 := (if_neg eb).symm.trans e
        by_cases et : ∃ c, PySem.W.tabIn K "sorted_fractions" = some (c, b)
        · rw [if_pos et] at e2
          obtain ⟨c, hc⟩ := et
          exact .inr ⟨c, hc, (Option.some.inj e2).symm⟩
        · rw [if_neg et] at e2
          cases e2
    · show (if P = a then _ else _) = _
      rw [if_neg fun z => neT c (by rw [← z]; exact hc), if_pos ⟨c, hc⟩]
  | some o =>
    have e := kin a o lk
    rw [obj] at e
    have eo : ({ cls := .type "list", data := .seq vs.toArray } : Obj) = o := Option.some.inj e
    refine main (fun b => @ite _ (∃ c, PySem.W.tabIn K "sorted_fractions" = some (c, b)) (dec b) (some (.tbl #[])) none) (fun b u e => ?_) (fun c P hc => ?_) (.inr ⟨o, vs.toArray, 0, lk, ?_, ?_, ?_, ?_, vals⟩)
    · by_cases et : ∃ c, PySem.W.tabIn K "sorted_fractions" = some (c, b)
      · rw [if_pos et] at e
        obtain ⟨c, hc⟩ := et
        exact .inr ⟨c, hc, (Option.some.inj e).symm⟩
      · rw [if_neg et] at e
        cases e
    · exact if_pos ⟨c, hc⟩
    · rw [← eo]
    · rw [← eo]
    · rw [← eo]
    · rw [List.size_toArray, hints.length]; exact few
theorem walkLawM {l : PySem.W.OpenLaw} {k : Nat} {q : Program} {loose : List Str} {XP : (Str → Option Value) → Heap → Prop} {YP : World → Heap → Prop} {dr : DefRec} {KK : Params → PySem.W.Frag} {x : Str} (most : l.most = some 63) (nodef : dr.params.defaults = []) (hr : Room k callerA) (himp : importsNone q = true)
    (hY : ∀ w h, YP w h → (KK w.params).In h)
    (tabs : ∀ (w : World) (loose : List Str) (mean : ExcName → Option Value) (mg mb : Str → Option Value) (h : Heap), (KK w.params).In h → Top q loose mean mg mb h → TabAt (KK w.params) h)
    (F : ∀ w mg fa h, (KK w.params).In h → h.Ns mainGlobals mg → mg dr.name = some (.ref fa) → ∃ fd : FuncData, (∀ s u, BindsTo s fd ⟨[u], []⟩ [(x, u)]) ∧ ∀ base : Heap, (KK w.params).In base → base.Ns mainGlobals mg → TabBs (KK w.params) base mg → SysB base → FnG l.prog w (KK w.params) mg base k fa fd [x] (spLaw (KK w.params))) :
    PySem.W.WalkO q loose XP YP l.row.toRowW dr [] (fun f vs => PySem.call f vs) := by
  refine Att.attach_callB most nodef fun w s₀ s₁ mg mb fa o pm cd doc a vs ns G Y _ _ _ hmg obj hints len bits nogen => ?_
  obtain ⟨fd, bind, FF⟩ := F w mg fa _ (hY w _ Y) G.T.g hmg
  refine lawGM (hY w _ Y) G.T.g G.T.b G.T.builtins G.T.nolimit nogen G.T.bmain (tabs w _ _ mg mb _ (hY w _ Y) G.T) (let ⟨mm, z, _⟩ := (G.T.seer himp).mods; ⟨mm, z⟩) obj hints (Nat.le_trans len (by decide)) hr FF bind fun H tb hS => ⟨tb, a, ns, rfl, hS, len, fun n hn => ?_, fun _ => rfl⟩
  have hb := intBits_natAbs (bits n hn)
  exact natAbs_mono (by show 1048576 ≤ bigB - 1; decide) hb
end
end L3

/-! Core113: == of a dict with a thing of another kind; d[k] = e, e of any kind. -/
namespace L3
open PySem PySem.Spec PyProof.Rows L2
section
variable {prog : Program} {w : World} {A : Around} {E : Value → Shared → Prop} {s : Shared}
open SeqAt AutoSeq1 MeetsSeq in
end
section
variable {X : Cx} {Hb : Hp} {e i : Expr} {Γ : Slots} {pos p' p2 : Pos} {D0 : Ends} {rest : List Stmt} {kds kes : List (Key × D)} {ds : List D} {S : Bool → Prop} {n : Nat}
end
section
variable {X : Cx} {Hb : Hp} {e : Expr} {Γ : Slots} {pos : Pos} {D0 : Ends} {rest : List Stmt}
end
end L3

/-! Core114: instances of one's own: read, changed, handed to methods. -/
namespace L3
open PySem PySem.Spec PyProof.Rows L2
mutual
/-- no instance with these attributes within -/
def D.noK (ks : List Key) : D → Bool
  | .obj _ fs => !(decide (fs.map (·.1) = ks)) && D.noKKV ks fs
  | .lst xs => D.noKAll ks xs
  | .tup xs => D.noKAll ks xs
  | .dct kvs => D.noKKV ks kvs
  | .exc _ _ d => D.noK ks d
  | _ => true
def D.noKAll (ks : List Key) : List D → Bool
  | [] => true
  | x :: xs => D.noK ks x && D.noKAll ks xs
def D.noKKV (ks : List Key) : List (Key × D) → Bool
  | [] => true
  | (_, x) :: xs => D.noK ks x && D.noKKV ks xs
end
section
variable {K : PySem.W.Frag} {Hb Hz H H' : Hp} {Γ : Slots} {σ : L2.St} {ps : List Addr}
/-- the cells are instances of other kinds than d has, and their dicts -/
def OffI (H : Hp) (ps : List Addr) (N : List Key → Prop) : Prop := ∀ p ∈ ps, (∃ a, H p = some (.own a)) ∨ ∃ C dx fs, H p = some (.ins C dx fs) ∧ N ((fkv fs).map (·.1))
theorem OffI.imp {N N' : List Key → Prop} (h : OffI H ps N) (f : ∀ ks, N ks → N' ks) : OffI H ps N' := fun p m => (h p m).imp id fun ⟨C, dx, fs, e, n⟩ => ⟨C, dx, fs, e, f _ n⟩
theorem OffI.out {N : List Key → Prop} (h : OffI H ps N) {a : Addr} {u : HO} (e : H a = some u) (n : ∀ C dx fs, u ≠ .ins C dx fs) (n2 : ∀ b, u ≠ .own b) : hide H ps a = some u := by
  rw [hide_out fun m => ?_]
  · exact e
  · rcases h a m with ⟨b, e2⟩ | ⟨C, dx, fs, e2, _⟩
    · rw [e] at e2
      exact n2 b (Option.some.inj e2)
    · rw [e] at e2
      exact n C dx fs (Option.some.inj e2)
theorem OffI.rd {N : List Key → Prop} (h : OffI H ps N) {a : Addr} {u : HO} (r : Rd H a u) (n : ∀ C dx fs, u ≠ .ins C dx fs) (n2 : ∀ b, u ≠ .own b) : Rd (hide H ps) a u := by
  rcases r with e | ⟨o, e⟩
  · exact .inl (h.out e n n2)
  · exact .inr ⟨o, h.out e (fun _ _ _ z => nomatch z) fun _ z => nomatch z⟩
theorem OffI.sqL {N : List Key → Prop} (f : OffI H ps N) {a : Addr} {xs : List V} (h : SqL K H a xs) : SqL K (hide H ps) a xs := h.imp (fun h => f.rd h (fun _ _ _ z => nomatch z) fun _ z => nomatch z) id
theorem OffI.sqT {N : List Key → Prop} (f : OffI H ps N) {a : Addr} {xs : List V} (h : SqT K H a xs) : SqT K (hide H ps) a xs := h.imp (fun h => f.rd h (fun _ _ _ z => nomatch z) fun _ z => nomatch z) id
theorem OffI.dk {N : List Key → Prop} (f : OffI H ps N) {a : Addr} {xs : List (Key × V)} (h : Rd H a (.dK xs)) : Rd (hide H ps) a (.dK xs) := f.rd h (fun _ _ _ z => nomatch z) fun _ z => nomatch z
theorem OffI.ext {N : List Key → Prop} (f : OffI H ps N) {a : Addr} {φ : Heap → Prop} (h : H a = some (.ext φ)) : hide H ps a = some (.ext φ) := f.out h (fun _ _ _ z => nomatch z) fun _ z => nomatch z
theorem objOff {a C dx : Addr} {fs : List (Str × V)} {ds : List (Key × D)} (h : H a = some (.ins C dx fs)) (r : RepKV K H (fkv fs) ds) (f : OffI H ps (fun ks => (D.obj C ds).noK ks = true)) : hide H ps a = some (.ins C dx fs) := by
  rw [hide_out fun m => ?_]
  · exact h
  · rcases f a m with ⟨b, e⟩ | ⟨C', dx', fs', e, n⟩
    · rw [h] at e
      cases e
    · rw [h] at e
      cases e
      have n1 := (Bool.and_eq_true_iff.mp (show (!(decide (ds.map (·.1) = (fkv fs).map (·.1))) && D.noKKV ((fkv fs).map (·.1)) ds) = true by simpa [D.noK] using n)).1
      rw [RepKV.keys r, decide_eq_true rfl] at n1
      cases n1
theorem noK_lst {ks : List Key} {xs : List D} (h : (D.lst xs).noK ks = true) : D.noKAll ks xs = true := by simpa [D.noK] using h
theorem noK_tup {ks : List Key} {xs : List D} (h : (D.tup xs).noK ks = true) : D.noKAll ks xs = true := by simpa [D.noK] using h
theorem noK_dct {ks : List Key} {xs : List (Key × D)} (h : (D.dct xs).noK ks = true) : D.noKKV ks xs = true := by simpa [D.noK] using h
theorem noK_obj {ks : List Key} {C : Addr} {xs : List (Key × D)} (h : (D.obj C xs).noK ks = true) : D.noKKV ks xs = true := by
  have h2 : (!(decide (xs.map (·.1) = ks)) && D.noKKV ks xs) = true := by simpa [D.noK] using h
  exact (Bool.and_eq_true_iff.mp h2).2
theorem noKAll_cons {ks : List Key} {x : D} {xs : List D} (h : D.noKAll ks (x :: xs) = true) : x.noK ks = true ∧ D.noKAll ks xs = true := by
  rw [D.noKAll] at h
  exact Bool.and_eq_true_iff.mp h
theorem noKKV_cons {ks : List Key} {k : Key} {x : D} {xs : List (Key × D)} (h : D.noKKV ks ((k, x) :: xs) = true) : x.noK ks = true ∧ D.noKKV ks xs = true := by
  rw [D.noKKV] at h
  exact Bool.and_eq_true_iff.mp h
mutual
theorem Rep.offI : ∀ {v : V} {d : D}, Rep K H v d → OffI H ps (fun ks => d.noK ks = true) → Rep K (hide H ps) v d
  | _, _, .non, _ => .non
  | _, _, .bl b, _ => .bl b
  | _, _, .int i, _ => .int i
  | _, _, .str x, _ => .str x
  | _, _, .lst h r, f => .lst (f.sqL h) (RepAll.offI r (f.imp fun _ => noK_lst))
  | _, _, .tup h r, f => .tup (f.sqT h) (RepAll.offI r (f.imp fun _ => noK_tup))
  | _, _, .dct h r, f => .dct (f.dk h) (RepKV.offI r (f.imp fun _ => noK_dct))
  | _, _, .ext h, f => .ext (f.ext h)
  | _, _, .obj h r, f => .obj (objOff h r f) (RepKV.offI r (f.imp fun _ => noK_obj))
  | _, _, .ptr a, _ => .ptr a
  | _, _, .exc h1 h2 r, f => .exc (f.ext h1) (f.ext h2) (Rep.offI r (f.imp fun _ n => by simpa [D.noK] using n))
theorem RepAll.offI : ∀ {vs : List V} {ds : List D}, RepAll K H vs ds → OffI H ps (fun ks => D.noKAll ks ds = true) → RepAll K (hide H ps) vs ds
  | _, _, .nil, _ => .nil
  | _, _, .cons h r, f => .cons (Rep.offI h (f.imp fun _ n => (noKAll_cons n).1)) (RepAll.offI r (f.imp fun _ n => (noKAll_cons n).2))
theorem RepKV.offI : ∀ {vs : List (Key × V)} {ds : List (Key × D)}, RepKV K H vs ds → OffI H ps (fun ks => D.noKKV ks ds = true) → RepKV K (hide H ps) vs ds
  | _, _, .nil, _ => .nil
  | _, _, .cons h r, f => .cons (Rep.offI h (f.imp fun _ n => (noKKV_cons n).1)) (RepKV.offI r (f.imp fun _ n => (noKKV_cons n).2))
end
/-- a thing of no kind that the slots have as their own -/
def apart (d : D) : Slots → Bool
  | [] => true
  | .own _ _ :: _ => false
  | .ownD _ _ :: _ => false
  | .res _ _ _ :: _ => false
  | .ins _ _ _ ds :: r => d.noK (ds.map (·.1)) && apart d r
  | .any :: r => apart d r
  | .dat _ :: r => apart d r
theorem apart_off {d : D} : ∀ {Γ : Slots} {σ : L2.St}, apart d Γ = true → Paired (EntOk K Hz H) Γ σ → OffI H (owns Γ) (fun ks => d.noK ks = true)
  | _, _, _, .nil => fun p m => nomatch m
  | e :: r, _, h, .cons q t => by
    cases e with
    | any => exact apart_off (Γ := r) h t
    | dat _ => exact apart_off (Γ := r) h t
    | own _ _ => cases h
    | ownD _ _ => cases h
    | res _ _ _ => cases h
    | ins C o dx ds =>
      obtain ⟨h1, h2⟩ := Bool.and_eq_true_iff.mp (show (d.noK (ds.map (·.1)) && apart d r) = true from h)
      obtain ⟨_, _, e2, fs, e, rk⟩ := q
      intro p m
      rcases List.mem_cons.mp m with z | m
      · rw [z]
        exact .inr ⟨C, dx, fs, e, by rw [RepKV.keys rk]; exact h1⟩
      rcases List.mem_cons.mp m with z | m
      · rw [z]; exact .inl ⟨o, e2⟩
      · exact apart_off (Γ := r) h2 t p m
theorem EnvOk.off {d : D} (h : EnvOk K Hb Γ σ H) (a : apart d Γ = true) : OffI H (owns Γ) (fun ks => d.noK ks = true) := apart_off a h.wide.2.2.1
theorem EnvOk.insW {i : Nat} {C o dx : Addr} {ds : List (Key × D)} (h : EnvOk K Hb Γ σ H) (e : Γ[i]? = some (.ins C o dx ds)) : σ[i]? = some (some (.ref o)) ∧ H dx = some (.own o) ∧ ∃ fs, H o = some (.ins C dx fs) ∧ RepKV K (hide H (owns Γ)) (fkv fs) ds ∧ Lsts H (owns Γ) ∧ Hb o = none ∧ Hb dx = none := by
  obtain ⟨h1, h2, h3, h4⟩ := h.wide
  obtain ⟨x, q, rfl, ⟨n1, n2⟩, q1, fs, q2, r2⟩ := Paired.getE h3 e
  exact ⟨q, q1, fs, q2, r2, owns_lsts h3, h1.toEx.free n1, h1.toEx.free n2⟩
end
section
variable {X : Cx} {Hb Hb' : Hp} {a b c e : Expr} {es : List Expr} {Γ Γ' : Slots} {pos p' p2 apos cpos : Pos} {d x y : D} {ds : List D} {Q S : D → Prop} {fr : Bool} {D0 : Ends} {rest : List Stmt} {kds : List (Key × D)} {C o dx : Addr} {xn f : Str} {k k' : Nat}
end
end L3

/-! Core115: methods that change their instance; instances made. -/
namespace L3
open PySem PySem.Spec PyProof.Rows L2
/-- what a method leaves: the instance with other attributes, all else as it was -/
structure LeftI (K : PySem.W.Frag) (Hb : Hp) (C o dx : Addr) (ds : List (Key × D)) (H' : Hp) : Prop where
  ex : Ex Hb (hide H' [o, dx])
  od : H' dx = some (.own o)
  at_ : ∃ fs, H' o = some (.ins C dx fs) ∧ RepKV K (hide H' [o, dx]) (fkv fs) ds
section
variable {K : PySem.W.Frag} {Hb Hz H H' J : Hp} {Γ Γw : Slots} {σ : L2.St} {C o dx : Addr} {ds ds' : List (Key × D)}
theorem lsts2 {fs : List (Str × V)} (h1 : H o = some (.ins C dx fs)) (h2 : H dx = some (.own o)) : Lsts H [o, dx] := fun p m => by
  rcases List.mem_cons.mp m with z | z
  · rw [z]; exact ⟨_, h1, trivial⟩
  · rw [List.mem_singleton.mp z]; exact ⟨_, h2, trivial⟩
end
section
variable {P : Program} {w : World} {K : PySem.W.Frag} {mg : Str → Option Value} {base : Heap}
end
section
variable {X : Cx} {Hb Hb' : Hp} {a b c e : Expr} {es : List Expr} {Γ Γ' Γw : Slots} {pos p' p2 apos cpos : Pos} {d x y : D} {ds : List D} {Q S : D → Prop} {fr : Bool} {D0 : Ends} {rest : List Stmt} {kds : List (Key × D)} {C o dx f : Addr} {xn m : Str} {k k' : Nat} {fd : FuncData} {pns : List Str}
/-- all is wiped but one instance -/
inductive WipeX (e : Ent) : Nat → Slots → Slots → Prop
  | here {Γ Γw : Slots} : Wipe Γ Γw → WipeX e 0 (e :: Γ) (e :: Γw)
  | dat {i : Nat} {d : D} {Γ Γw : Slots} : WipeX e i Γ Γw → WipeX e (i + 1) (.dat d :: Γ) (.dat d :: Γw)
  | any {i : Nat} {Γ Γw : Slots} : WipeX e i Γ Γw → WipeX e (i + 1) (.any :: Γ) (.any :: Γw)
  | own {i : Nat} {p : Addr} {ds : List D} {Γ Γw : Slots} : WipeX e i Γ Γw → WipeX e (i + 1) (.own p ds :: Γ) (.any :: Γw)
  | ownD {i : Nat} {p : Addr} {ds : List (Key × D)} {Γ Γw : Slots} : WipeX e i Γ Γw → WipeX e (i + 1) (.ownD p ds :: Γ) (.any :: Γw)
  | ins {i : Nat} {C o dx : Addr} {ds : List (Key × D)} {Γ Γw : Slots} : WipeX e i Γ Γw → WipeX e (i + 1) (.ins C o dx ds :: Γ) (.any :: Γw)
theorem WipeX.eq {e : Ent} {i : Nat} (h : WipeX e i Γ Γw) : Γ[i]? = some e ∧ Γw[i]? = some e ∧ owns Γw = e.cells ∧ noRes (Γ.set i .any) = true ∧ wipeO (Γ.set i .any) = Γw.set i .any := by
  induction h with
  | @here Γ Γw hw =>
    refine ⟨rfl, rfl, ?_, hw.eq.2, ?_⟩
    · rw [owns_cons, ← hw.eq.1, owns_wipe, List.append_nil]
    · show (.any :: wipeO Γ : Slots) = .any :: Γw
      rw [hw.eq.1]
  | dat _ ih => exact ⟨ih.1, ih.2.1, ih.2.2.1, ih.2.2.2.1, congrArg (List.cons _) ih.2.2.2.2⟩
  | any _ ih => exact ⟨ih.1, ih.2.1, ih.2.2.1, ih.2.2.2.1, congrArg (List.cons _) ih.2.2.2.2⟩
  | own _ ih => exact ⟨ih.1, ih.2.1, ih.2.2.1, ih.2.2.2.1, congrArg (List.cons _) ih.2.2.2.2⟩
  | ownD _ ih => exact ⟨ih.1, ih.2.1, ih.2.2.1, ih.2.2.2.1, congrArg (List.cons _) ih.2.2.2.2⟩
  | ins _ ih => exact ⟨ih.1, ih.2.1, ih.2.2.1, ih.2.2.2.1, congrArg (List.cons _) ih.2.2.2.2⟩
theorem owns_split : ∀ {Γ : Slots} {i : Nat} {e : Ent}, Γ[i]? = some e → ∀ p, p ∈ owns Γ ↔ p ∈ e.cells ∨ p ∈ owns (Γ.set i .any)
  | [], _, _, h, _ => by simp at h
  | x :: r, 0, e, h, p => by
    simp at h
    subst h
    rw [owns_cons, List.mem_append]
    rfl
  | x :: r, i + 1, e, h, p => by
    show p ∈ owns (x :: r) ↔ p ∈ e.cells ∨ p ∈ owns (x :: r.set i .any)
    rw [owns_cons, owns_cons, List.mem_append, List.mem_append, owns_split (Γ := r) (i := i) (by simpa using h)]
    exact ⟨fun z => z.elim (fun z => .inr (.inl z)) fun z => z.elim .inl fun z => .inr (.inr z), fun z => z.elim (fun z => .inr (.inl z)) fun z => z.elim .inl fun z => .inr (.inr z)⟩
theorem hide_hide {H : Hp} {ps qs rs : List Addr} (h : ∀ a, a ∈ rs ↔ a ∈ ps ∨ a ∈ qs) : hide (hide H ps) qs = hide H rs := by
  funext a
  by_cases z : a ∈ qs
  · rw [hide_in z, hide_in ((h a).mpr (.inr z))]
  · rw [hide_out z]
    by_cases y : a ∈ ps
    · rw [hide_in y, hide_in ((h a).mpr (.inl y))]
    · rw [hide_out y, hide_out fun w => ((h a).mp w).elim y z]
/-- behind a call that has seen the instance alone -/
theorem EnvOk.after {K : PySem.W.Frag} {σ : L2.St} {H J : Hp} {i : Nat} {ds' : List (Key × D)} (h : EnvOk K Hb Γ σ H) (e : Γ[i]? = some (.ins C o dx kds)) (c : ∀ p ∈ owns (Γ.set i .any), J p = H p) {H1 : Hp} (x1 : Ex (hide H (owns (Γ.set i .any))) H1) (hl : LeftI K (hide H1 [o, dx]) C o dx ds' (hide J (owns (Γ.set i .any))))
    (hins : Lsts H1 [o, dx]) : EnvOk K Hb (Γ.set i (.ins C o dx ds')) σ J := by
  obtain ⟨hσ, q1, fs, q2, rk, lo, n1, n2⟩ := h.insW e
  have hno : ∀ p ∈ (Ent.ins C o dx kds).cells, p ∉ owns (Γ.set i .any) := fun p m => nodup_owns_set e m h.wide.2.2.2
  have hs : ∀ p ∈ owns (Γ.set i .any), p ∉ [o, dx] := fun p m z => hno p z m
  have l2 : Lsts H [o, dx] := lsts2 q2 q1
  have lps : Lsts H (owns (Γ.set i .any)) := fun p m => lo p ((owns_split e p).mpr (.inr m))
  obtain ⟨fs2, z1, z2⟩ := hl.at_
  have zd := hl.od
  have oo : o ∉ owns (Γ.set i .any) := hno o List.mem_cons_self
  have od : dx ∉ owns (Γ.set i .any) := hno dx (List.mem_cons_of_mem _ List.mem_cons_self)
  rw [hide_out oo] at z1
  rw [hide_out od] at zd
  have comm : ∀ H : Hp, hide (hide H (owns (Γ.set i .any))) [o, dx] = hide (hide H [o, dx]) (owns (Γ.set i .any)) := fun H => by
    rw [hide_hide (rs := owns (Γ.set i .any) ++ [o, dx]) (fun a => List.mem_append), hide_hide (rs := owns (Γ.set i .any) ++ [o, dx]) (fun a => List.mem_append.trans Or.comm)]
  have xa : Ex (hide (hide H (owns (Γ.set i .any))) [o, dx]) (hide H1 [o, dx]) := x1.hides hins
  have xb := xa.trans hl.ex
  rw [comm, comm] at xb
  have xc : Ex (hide H [o, dx]) (hide J [o, dx]) := ex_same (fun p m => by
    obtain ⟨u, e2, mu⟩ := lps p m
    exact ⟨u, by rw [hide_out (hs p m)]; exact e2, mu⟩) xb fun p m => by rw [hide_out (hs p m), hide_out (hs p m)]; exact c p m
  refine h.mutEx (e := .ins C o dx kds) (e' := .ins C o dx ds') e hσ rfl (xc.trans hide_ex) (fun p m => lsts2 z1 zd p m) fun Hz xz nz lz ez => ⟨rfl, ⟨nz o List.mem_cons_self, nz dx (List.mem_cons_of_mem _ List.mem_cons_self)⟩, zd, fs2, z1, ?_⟩
  rw [hide_hide (ps := owns (Γ.set i .any)) (qs := [o, dx]) (rs := owns Γ) (fun a => (owns_split e a).trans Or.comm)] at z2
  exact z2.ex ez
end
end L3

/-! Core116: instances of one's own: made by their class, by defs and classmethods that return one; methods without arguments. -/
namespace L3
open PySem PySem.Spec PyProof.Rows L2
/-- a slot with a class -/
def Ent.cls (C : Addr) : Ent := .res [] (.ref C) fun us _ => us = []
section
variable {K : PySem.W.Frag} {Hb Hz H H' J : Hp} {Γ Γw : Slots} {σ : L2.St} {C o dx : Addr} {ds ds' : List (Key × D)}
end
section
variable {P : Program} {w : World} {K : PySem.W.Frag} {mg : Str → Option Value} {base : Heap}
end
section
variable {X : Cx} {Hb Hb' : Hp} {a b c e : Expr} {es : List Expr} {Γ Γ' Γw : Slots} {pos p' p2 apos cpos pc : Pos} {d x y : D} {ds : List D} {Q S : D → Prop} {fr : Bool} {D0 : Ends} {rest : List Stmt} {kds : List (Key × D)} {C o dx f : Addr} {xn m cn : Str} {k k' : Nat} {fd : FuncData} {pns : List Str}
end
end L3

/-! Core117: a class in a name, called; methods without arguments; joined texts, f-strings of texts. -/
namespace L3
open PySem PySem.Spec PyProof.Rows L2
section
variable {X : Cx} {Hb Hb' : Hp} {a b c e v1 v2 : Expr} {es ves : List Expr} {Γ Γ' Γw : Slots} {pos p' p2 apos cpos pc : Pos} {d x y : D} {ds : List D} {Q S : D → Prop} {fr : Bool} {D0 : Ends} {rest : List Stmt} {kds : List (Key × D)} {C o dx f : Addr} {xn m cn : Str} {k k' : Nat} {fd : FuncData} {pns : List Str} {acc s : Str}
end
end L3

/-! Core118: the __init__ of an error below ValueError: super().__init__(text), self.name = value. -/
namespace L3
open PySem PySem.Spec PyProof.Rows L2 NdefX
/-- ValueError.__init__ bound to an exception, called -/
theorem bound_call {prog : Program} {w : World} {A : Around} {E : Value → Shared → Prop} {h : Heap} {g : Array GenState} {d : Drawn} {t : Nat} {os : OsState} {nm q : Str} {C N : Addr} {bs bm : List Value} {hdct : Bool} {sn : List Str} {sub : List Value} {ab : Bool} {col : Option Bool} {dd : Option Addr} {k0 k1 k2 k3 k5 : Option Value}
    {u e t0 : Addr} {rest : List Value} {Q : Value → Shared → Prop} (hC : h.get? C = some (excClassObj nm q C N bs bm hdct sn sub ab col dd k0 k1 k2 k3 k5 "ValueError.__new__"))
    (he : h.get? e = some ({ cls := .ref C, dict := none, data := .fields #[.ref t0, .none, .none, .none, .bool false, .none] } : Obj)) (hu : h.get? u = some (W.kxs_mw "ValueError.__init__" e)) (hz : rest.length ≤ sizeLine)
    (hq : ∀ h' t1, (∀ b o, b ≠ e → h.get? b = some o → h'.get? b = some o) → h'.get? e = some ({ cls := .ref C, dict := none, data := .fields #[.ref t1, .none, .none, .none, .bool false, .none] } : Obj) → Q .none ⟨h', g, d, t, os⟩) :
    wpAny (model prog w) A (call (.ref u) rest) Q E ⟨h, g, d, t, os⟩ := by
  refine wpAny_call (codeAny_of_tree ?_)
  show wpAny _ A.in1 (callAny (.ref u) ⟨rest, []⟩) _ _ _
  simp only [callAny]
  refine wpAny_bind (wpAny_load hu ?_)
  simp only [W.kxs_mw, show (Value.type "method-wrapper" == Value.type "method" || Value.type "method-wrapper" == Value.type "builtin_function_or_method" || Value.type "method-wrapper" == Value.type "method-wrapper") = true by decide, if_true]
  refine W.KFB.if_so (by decide) ?_
  refine wpAny_bind (W.check_bound_init F.excBase_ValueError.toExcCallFacts hC he rfl ?_)
  refine wpAny_bind (wpAny_pure (wpAny_pure ?_))
  refine ⟨plainId_quiet F.excBase_ValueError.init.plain _, codeAny_builtin F.excBase_ValueError.initEntry ?_⟩
  exact W.exc_init_tree (cls := .ref C) (t0 := t0) (dv := none) (c2 := .none) (c3 := .none) (b4 := .bool false) he hz fun h' k e' _ => hq h' _ k e'
/-- what it promises -/
def spErr (K : PySem.W.Frag) (C : Addr) (attr : Str) : Sp := fun vs H Q _ => ∃ (a : Addr) (v : V), vs = [.ref a, v] ∧ H a = some (exo a C none) ∧ ∀ dx, H dx = none → dx ≠ a → Q .non (upd (upd H dx (exd dx [(attr, v)])) a (exo a C (some dx)))
/-- THE RULE: the __init__ of an error's class -/
theorem err_init {P : Program} {w : World} {K : PySem.W.Frag} {mg : Str → Option Value} {base : Heap} {C f cc cda : Addr} {attr pn qual msg : Str} {params : Arguments} {body : List Stmt} {scope : Scope} {dV kV doc pm ct oc ccl cl : Value} {an od cdd cld : Option Addr} {osl ccs csl : Array (Option Value)} {vs0 : Array Value} {file : Str} {tf : Tok} {ar : Arg}
    {p1 p2 p3 p4 p5 p6 p7 p8 p9 p10 : Pos} {jj : Nat} {N : List Str} {cd : ClassData}
    (T : OexC K C) (lk : K.lookup f = some ⟨oc, od, .func (PySem.W.fnX "__init__" qual params body scope [("__class__", cc)] dV kV doc pm an (.ref cda) ct), osl⟩) (hcd : PySem.W.codeIn K (.ref cda) qual = true) (S : NScope N ["self", pn] ["__class__"] scope)
    (hbody : body = [.Expr (.Call (.Attribute (.Call (.Name "super" p1) [] [] p2) "__init__" p3) [.Constant (.str msg) jj p4] [] p5) p6, .Assign [.Attribute (.Name "self" p7) attr p8] (.Name pn p9) p10])
    (hpar : (params.posonlyargs ++ params.args).head? = some ar) (har : ar.arg = "self") (hcode : K.lookup cda = some ⟨ccl, cdd, .fields vs0, ccs⟩) (hvs : vs0[2]? = some (.str file tf)) (hfile : ((P.main.file : Str) == file) = true)
    (hcell : K.lookup cc = some ⟨cl, cld, .cell (some (.ref C)), csl⟩) (hclsI : PySem.W.clsIn K C = some cd) (hsub : PySem.W.mroIn K C (.ref C) = some true) (hsuper : mg "super" = none) (hks : scope.names.lookup ("super" : Str) = some .globalImplicit) (htop : (P.main.scope.names.lookup ("super" : Str)).isSome = false)
    (hany : PySem.W.nsIn K PySem.cStatics "thirdparty.any" = some none) (hm : PySem.W.ks_superIn K C C "__init__" = some (some (.builtin "ValueError.__init__"))) (hB : PySem.W.subIn K (.ref C) (.type "ValueError") = some true) (hno : PySem.W.findIn K (.ref C) attr = some none)
    (hN0 : N[0]? = some ("self" : Str)) (hN1 : N[1]? = some pn) (hpd : (pn == ("__debug__" : Str)) = false) (hpc : (pn == ("__classdict__" : Str)) = false) {pl : Sem Bool} (hbo : bootBuiltins "super" = some (.type "super"))
    (hint : ∀ L, interactive (PySem.W.envX qual scope L f (.ref cda) [("__class__", cc)]) = false)
    (hsw1 : ∀ L, swapsWith (.Call (.Attribute (.Call (.Name "super" p1) [] [] p2) "__init__" p3) [.Constant (.str msg) jj p4] [] p5) none p6.line (PySem.W.envX qual scope L f (.ref cda) [("__class__", cc)]) = pure false)
    (hsw2 : ∀ L, swapsWith (.Name pn p9) (some (.Attribute (.Name "self" p7) attr p8)) p10.line (PySem.W.envX qual scope L f (.ref cda) [("__class__", cc)]) = pure false)
    (hev : ∀ L, eval (.Call (.Attribute (.Call (.Name "super" p1) [] [] p2) "__init__" p3) [.Constant (.str msg) jj p4] [] p5) (PySem.W.envX qual scope L f (.ref cda) [("__class__", cc)]) = (do
      let ov ← attributeBase (.Call (.Name "super" p1) [] [] p2) "__init__" (PySem.W.envX qual scope L f (.ref cda) [("__class__", cc)]) (eval (.Call (.Name "super" p1) [] [] p2) (PySem.W.envX qual scope L f (.ref cda) [("__class__", cc)]))
      standAt p3.atName
      let (g, first) ← holding [ov] (getMethod ov "__init__" pl)
      callWith p5 g first (backTo p5 (starEach [.Constant (.str msg) jj p4] (PySem.W.envX qual scope L f (.ref cda) [("__class__", cc)]))) [])) :
    FnOk P w K mg base CX0 1 f (PySem.W.fnX "__init__" qual params body scope [("__class__", cc)] dV kV doc pm an (.ref cda) ct) ["self", pn] (spErr K C attr) := by
  refine ⟨fun vs H Q E h => by obtain ⟨a, v, e, _⟩ := h; rw [e]; rfl, fun A outer s H args us vs Q E hr e0 hb r hsp => ?_⟩
  obtain ⟨a, v, rfl, ha, hq⟩ := hsp
  obtain ⟨sh, sg, sd, st, so⟩ := s
  have KX : K.In sh := e0.mod.kin.keeps fun b o e => (e0.bs b o e).1
  have lim : sh.NoLimit := e0.mod.nolimit.keeps fun b o e => (e0.bs b o e).1
  have hcc0 : H cc = none := (e0.bs _ _ (e0.mod.kin _ _ hcell)).2
  have CA : CellsAt [("__class__", cc)] ["__class__"] [some (.ref C)] sh H := by
    refine ⟨rfl, fun y c e => ?_, fun x y c e1 e2 => ?_, fun i y e => ?_⟩
    · by_cases hy : y = "__class__"
      · subst hy
        have ec : c = cc := by
          have : some cc = some c := e
          exact (Option.some.inj this).symm
        rw [ec]
        exact ⟨hcc0, some (.ref C), _, KX _ _ hcell, rfl⟩
      · rw [List.lookup_cons, show (y == ("__class__" : Str)) = false from by simpa using hy] at e
        cases e
    · have go : ∀ z, ([(("__class__" : Str), cc)] : List (Str × Addr)).lookup z = some c → z = "__class__" := fun z e => by
        by_cases hz : z = "__class__"
        · exact hz
        · rw [List.lookup_cons, show (z == ("__class__" : Str)) = false from by simpa using hz] at e
          cases e
      rw [go x e1, go y e2]
    · match i, e with
      | 0, e =>
        have ey : ("__class__" : Str) = y := Option.some.inj e
        subst ey
        refine ⟨cc, rfl, fun v hv => ?_⟩
        have : (some (V.ref C) : Option V) = some v := Option.some.inj hv
        rw [← Option.some.inj this]
        exact ⟨.ref C, rfl, _, KX _ _ hcell, rfl⟩
  refine ks_codeAny_call_defAt (binds := ([("self" : Str), pn] : List Str).zip us) hr.depth (KX _ _ lk) rfl lim (PySem.W.codeRec_of KX hcd) rfl hb S.nocell (fun y hy => S.par y.1 (List.of_mem_zip hy).1) (fun h₁ hns kp => ?_) S.co S.gen S.kind
  have I : Inv (ncx CX0 P w K mg base N ⟨"__init__", qual, params, body, scope, [("__class__", cc)], cda⟩ f A outer ⟨sh, sg, sd, st, so⟩ H E) [] (startF N [.ref a, v] [some (.ref C)]) H ⟨h₁, sg, sd, st + (([("self" : Str), pn] : List Str).zip us).length, so⟩ := inv_startN S hr.hd e0 rfl r CA hns kp
  obtain ⟨nm, q, N', bs, bm, sn, sub, ab, col, dd, k0, k1, k2, k3, k5, hC, hbm⟩ := T.cls
  have KX1 : K.In h₁ := KX.keeps kp
  have hC1 := KX1 _ _ hC
  obtain ⟨t1, ho⟩ := exo_at I.hok ha
  have IA : PySem.W.InstAt h₁ a { cls := .ref C, dict := none, data := .fields #[.ref t1, .none, .none, .none, .bool false, .none] } C none := ⟨ho, rfl, rfl, trivial⟩
  have hx : execs body = execs [.Expr (.Call (.Attribute (.Call (.Name "super" p1) [] [] p2) "__init__" p3) [.Constant (.str msg) jj p4] [] p5) p6, .Assign [.Attribute (.Name "self" p7) attr p8] (.Name pn p9) p10] := by rw [hbody]
  rw [hx]
  clear hx
  refine ks_wpAt_execs_cons (ks_wpAt_Expr_any (ks_wpAt_MethodCall (ks_wpAt_super_base (f := f) (cc := cda) hks (S.frk _ List.mem_cons_self) (by decide) rfl (KX1 _ _ lk) rfl hpar rfl (KX1 _ _ hcode) rfl hvs hfile htop ?_) (hev _)) (hint _) (hsw1 _))
  obtain ⟨mb, b1, b2⟩ := I.mod.blt
  refine PySem.W.ks_loadName_global S.kind hks (Calls.loadGlobal_builtin (I.mod.glob.keeps I.bk) hsuper (b1.keeps I.bk) ((b2 _ (by decide)).trans hbo) ⟨rfl, ?_⟩)
  refine wpAny_loadName_free S.kind (S.frk _ List.mem_cons_self) rfl ⟨_, KX1 _ _ hcell, rfl⟩ ?_
  rw [har]
  cases r with
  | @cons _ u0 _ ur ra rr =>
    obtain rfl : u0 = Value.ref a := ra
    cases rr with
    | @cons _ u1 _ us2 rv rr2 =>
      cases rr2
      have ndP : ([("self" : Str), pn] : List Str).Nodup := by
        have q := S.nd.sublist (List.take_sublist (([("self" : Str), pn] : List Str).length + ([("__class__" : Str)] : List Str).length) N)
        rw [S.pre] at q
        exact (List.nodup_append.mp q).1
      refine wpAny_loadName_local S.kind (S.par _ List.mem_cons_self) hns (zip_look (i := 0) ndP rfl rfl) ?_
      refine ks_wpAny_isType_cls hC1 rfl ⟨rfl, ?_⟩
      refine ks_wpAny_call_super hC1 rfl ho rfl (fun c e => by cases e) (PySem.W.looks_mroIn KX1 hsub) (fun h2 hso k2 => ?_)
      have KX2 : K.In h2 := KX1.keeps k2
      have I2 : Inv (ncx CX0 P w K mg base N ⟨"__init__", qual, params, body, scope, [("__class__", cc)], cda⟩ f A outer ⟨sh, sg, sd, st, so⟩ H E) [] (startF N [.ref a, v] [some (.ref C)]) H ⟨h2, sg, sd, _, so⟩ := I.kept (t' := st + 2) k2
      have ho2 := k2 _ _ ho
      have IA2 : PySem.W.InstAt h2 a { cls := .ref C, dict := none, data := .fields #[.ref t1, .none, .none, .none, .bool false, .none] } C none := ⟨ho2, rfl, rfl, trivial⟩
      unfold PySem.W.ks_superIn at hm
      rw [hclsI] at hm
      refine PySem.W.kxs_getMethod PySem.W.kxs_ValueError hso (PySem.W.looks_opaque KX2 hany) (l₀ := cd.mro) (fun A Q E s k q => wpAny_bind ((PySem.W.looks_clsIn KX2 hclsI) A _ E s k (wpAny_pure q))) rfl KX2 hm (IA2.type.andThen (PySem.W.looks_subIn KX2 hB)) (PySem.W.ks_ne KX2 IA2 hclsI) (by decide) ?_
      have hu3 : (h2.push (PySem.W.kxs_mw "ValueError.__init__" a)).get? h2.objs.size = some (PySem.W.kxs_mw "ValueError.__init__" a) := Heap.get?_push_at rfl rfl
      have I3 := ClX.pin_new (t' := st + 3) I2 (fun _ _ z => Heap.get?_push_of_some _ z) (Nat.le_refl _) hu3 (fun v z => nomatch z)
      refine W.kxs_callWith (i := "ValueError.__init__") (x := a) rfl (Calls.evalArgs_plain ?_)
      refine thn ((pa_cons (pe_str (x := msg)) pa_nil rfl).run p5 _ _ _ _ (fun vs H4 => vs = [.str msg] ∧ H4 = H) (ClX.pin_new (t' := _) I2 (fun _ _ z => Heap.get?_push_of_some _ z) (Nat.le_refl _) hu3 (fun v z => nomatch z)) ⟨rfl, rfl⟩) fun us s4 ⟨vs, H4, I4, r4, q4⟩ => ?_
      obtain ⟨rfl, rfl⟩ := q4
      obtain ⟨h4, g4, d4, t4, o4⟩ := s4
      have hu4 := ClX.pin_at I4
      have I5 := ClX.unpin I4
      obtain ⟨t5, ho5⟩ := exo_at I5.hok ha
      refine ⟨hu4, ?_⟩
      have hus : us.length = 1 := by rw [← r4.length]; rfl
      refine bound_call (I5.kIn _ _ hC) ho5 hu4 (by show us.length ≤ sizeLine; rw [hus]; decide) (fun h6 t6 k6 he6 => ?_)
      have J := I5.write (t' := t4) (x := a) (e := a) (o := exo a C none) (by rw [ha]; exact True.intro) (.inl rfl) k6 ⟨_, he6⟩ (exo_ok he6)
      have eu : upd H4 a (exo a C none) = H4 := by
        funext b
        by_cases hb : b = a
        · rw [hb, upd_same, ha]
        · rw [upd_ne hb]
      rw [eu] at J
      refine wpAt_of_wpAny ?_
      have hv0 : Vis (ncx CX0 P w K mg base N ⟨"__init__", qual, params, body, scope, [("__class__", cc)], cda⟩ f A outer ⟨sh, sg, sd, st, so⟩ H4 E).env.scope "self" := Or.inl (S.par _ List.mem_cons_self)
      have hv1 : Vis (ncx CX0 P w K mg base N ⟨"__init__", qual, params, body, scope, [("__class__", cc)], cda⟩ f A outer ⟨sh, sg, sd, st, so⟩ H4 E).env.scope pn := Or.inl (S.par _ (List.mem_cons_of_mem _ List.mem_cons_self))
      have st2 := pss_one (ps_ost (X := ncx CX0 P w K mg base N ⟨"__init__", qual, params, body, scope, [("__class__", cc)], cda⟩ f A outer ⟨sh, sg, sd, st, so⟩ H4 E) (f := attr) (p' := p8) (pos := p10) (pe_var (pos := p7) hN0 hv0 (by decide) (by decide)) (pe_var (pos := p9) hN1 hv1 hpd hpc) (hsw2 _))
      refine wpAny_mono (st2.run [] _ _ H4 { nx := fun _ H' => Q .non H', rt := Q } J ⟨v, rfl, .ref a, rfl, a, C, rfl, T, hno, .inl ⟨ha, hq⟩⟩) (fun fl s' hs => ?_) fun e s' hs => hs
      have fin : ∀ {σ' : L2.St} {H' : Hp} {v : V} {u : Value}, Inv (ncx CX0 P w K mg base N ⟨"__init__", qual, params, body, scope, [("__class__", cc)], cda⟩ f A outer ⟨sh, sg, sd, st, so⟩ H4 E) [] σ' H' s' → L2.RelV v u → Q v H' → CE outer P w H4 ⟨sh, sg, sd, st, so⟩ Q u s' :=
        fun {σ' H' v u} J rv q => ⟨v, H', J.os, J.bare, J.base, J.hok, rv, q⟩
      cases fl with
      | ret u =>
        obtain ⟨v, σ', H', J, rv, q⟩ := hs
        exact fin J rv q
      | next =>
        obtain ⟨σ', H', J, q⟩ := hs
        exact fin (v := V.non) (u := Value.none) J rfl q
      | brk =>
        obtain ⟨_, _, _, q⟩ := hs
        exact False.elim q
      | cont =>
        obtain ⟨_, _, _, q⟩ := hs
        exact False.elim q
end L3

/-! Core119: what is raised: raise, defs and methods that raise, try .. except X as n, the attribute of what was caught. -/
namespace L3
open PySem PySem.Spec PyProof.Rows L2
/-- what an exception may tell: its class, its attribute, the value -/
abbrev XS := Addr → Str → D → Prop
/-- an exception of the class at C with one attribute -/
def ExcIs (K : PySem.W.Frag) (H : Hp) (cls : Value) (d : Option Addr) (C : Addr) (f : Str) (x : D) : Prop := cls = .ref C ∧ ∃ (dd : Addr) (v : V), d = some dd ∧ H dd = some (.xd [(f, v)]) ∧ Rep K H v x
theorem ExcIs.ex {K : PySem.W.Frag} {H H' : Hp} {cls : Value} {d : Option Addr} {C : Addr} {f : Str} {x : D} (h : ExcIs K H cls d C f x) (e : Ex H H') : ExcIs K H' cls d C f x := by
  obtain ⟨h1, dd, v, h2, h3, h4⟩ := h
  exact ⟨h1, dd, v, h2, e.get _ _ h3 (fun _ z => nomatch z), h4.ex e⟩
/-- an error's class: made with one value, which it keeps -/
structure ErrC (P : Program) (w : World) (K : PySem.W.Frag) (mg : Str → Option Value) (base : Heap) (C : Addr) (attr : Str) : Prop where
  ex : ∃ (fI : Addr) (fd : FuncData) (ps : List Str), OexC K C ∧ PySem.W.findIn K (.ref C) "__init__" = some (some (.ref fI)) ∧ PySem.W.typeIn K (.ref fI) = some (.type "function") ∧
    FnOk P w K mg base CX0 1 fI fd ps (spErr K C attr) ∧ Binds K fd ps []
section
variable {P : Program} {w : World} {K : PySem.W.Frag} {mg : Str → Option Value} {base : Heap}
end
section
variable {X : Cx} {Hb : Hp} {a b c e : Expr} {es : List Expr} {Γ Γ' : Slots} {pos pos' p' p2 apos cpos pc : Pos} {d x y : D} {ds : List D} {Q S : D → Prop} {fr : Bool} {D0 : Ends} {rest : List Stmt} {C f : Addr} {xn m cn n attr : Str} {k k' : Nat} {fd : FuncData} {pns : List Str} {T : Slots → XS}
end
end L3

/-! Core120: new instances as expressions; methods and classmethods by names. -/
namespace L3
open PySem PySem.Spec PyProof.Rows L2
section
variable {K : PySem.W.Frag} {Hb H H0 H' H'' : Hp} {Γ : Slots} {σ : L2.St} {C o dx : Addr} {ds : List (Key × D)}
theorem LeftI.toEx (h : LeftI K Hb C o dx ds H') : Ex Hb H' := h.ex.trans hide_ex
theorem LeftI.lsts (h : LeftI K Hb C o dx ds H') : Lsts H' [o, dx] := by
  obtain ⟨fs, z, _⟩ := h.at_
  exact lsts2 z h.od
theorem LeftI.on (h : LeftI K Hb C o dx ds H') (e : Ex H' H'') : LeftI K Hb C o dx ds H'' := by
  have hl := h.lsts
  obtain ⟨fs, z, r⟩ := h.at_
  have z1 : H'' o = some (.ins C dx fs) := e.get _ _ z fun _ y => nomatch y
  have z2 : H'' dx = some (.own o) := e.get _ _ h.od fun _ y => nomatch y
  have ee := e.hides (lsts2 z1 z2)
  exact ⟨h.ex.trans ee, z2, fs, z1, r.ex ee⟩
theorem LeftI.back (h : LeftI K H0 C o dx ds H') (e : Ex Hb H0) : LeftI K Hb C o dx ds H' := ⟨e.trans h.ex, h.od, h.at_⟩
theorem LeftI.rep (h : LeftI K Hb C o dx ds H') : Rep K H' (.ref o) (.obj C ds) := by
  obtain ⟨fs, z, r⟩ := h.at_
  exact .obj z (r.ex hide_ex)
end
/-- an expression whose value is a new instance -/
def EvNI (X : Cx) (Hb : Hp) (e : Expr) (Γ : Slots) (C : Addr) (S : List (Key × D) → Prop) : Prop := ∀ σ H, EnvOk X.K Hb Γ σ H → ∀ Q : VK, (∀ o dx H0 H' ds, S ds → Ex H H0 → H0 o = none → H0 dx = none → LeftI X.K H0 C o dx ds H' → Q (.ref o) H') → SemE X e σ H Q
section
variable {X : Cx} {Hb Hb' : Hp} {a b c e : Expr} {es : List Expr} {kws : List Keyword} {Γ Γ' Γw : Slots} {pos p' p2 apos cpos pc : Pos} {d x y : D} {ds : List D} {Q : D → Prop} {S S1 S2 : List (Key × D) → Prop} {fr : Bool} {D0 : Ends} {rest : List Stmt} {kds : List (Key × D)} {C o dx f : Addr} {xn yn zn m cn : Str} {k k' : Nat} {fd : FuncData} {pns ks : List Str} {perm : List Nat}
theorem EvNI.imp (h : EvNI X Hb e Γ C S) (g : ∀ ds, S ds → S1 ds) : EvNI X Hb e Γ C S1 := fun σ H en Q q => h σ H en Q fun o dx H0 H' ds s => q o dx H0 H' ds (g ds s)
end
section
variable {P : Program} {w : World} {K : PySem.W.Frag} {mg : Str → Option Value} {base : Heap}
end
end L3

/-! Core121: == and != of a class with its own __eq__, with any other value; methods by names on an instance of one's own. -/
namespace OwnNe
open PySem PySem.Spec PyProof.Rows PySem.SeqAt PySem.W
section
variable {M : Model} {prog : Program} {w : World} {A : Around} {E : Value → Shared → Prop} {s : Shared} {K : PySem.W.Frag} {x C f L : Addr} {ox : Obj} {od : Option Obj} {b tb : Value} {h₀ : Heap} {m : Str → Option Value}
end
end OwnNe
namespace L3
open PySem PySem.Spec PyProof.Rows L2
/-- what a class with an __eq__ of its own is known by -/
structure EqC (K : PySem.W.Frag) (C f : Addr) : Prop where
  at_ : PySem.W.findIn K (.ref C) "__eq__" = some (some (.ref f))
  fn : PySem.W.isFn K (.ref f) = true
/-- .. its != is object's -/
structure NeC (K : PySem.W.Frag) (C : Addr) : Prop where
  ne : PySem.W.findIn K (.ref C) "__ne__" = some (some (.builtin "object.__ne__"))
  ob : PySem.W.mroIn K C (.type "object") = some true
section
variable {X : Cx} {Hb : Hp} {a b : Expr} {Γ : Slots} {pos : Pos} {Q : D → Prop} {fr : Bool} {S : Bool → Prop} {d2 : D}
end
section
variable {X : Cx} {Hb Hb' : Hp} {a e : Expr} {kws : List Keyword} {Γ Γ' Γw : Slots} {pos p' p2 apos cpos pc : Pos} {d x y : D} {ds : List D} {D0 : Ends} {rest : List Stmt} {kds : List (Key × D)} {C o dx f : Addr} {xn m cn : Str} {k k' : Nat} {fd : FuncData} {pns ks : List Str} {perm : List Nat}
end
end L3

/-! Core122: isinstance of an instance of another class; o.f -= e. -/
namespace L3
open PySem PySem.Spec PyProof.Rows L2
section
variable {X : Cx} {Hb Hb' : Hp} {a b c e : Expr} {es : List Expr} {Γ Γ' Γw : Slots} {pos p' p2 apos cpos pc pn : Pos} {d x y : D} {ds : List D} {Q : D → Prop} {fr : Bool} {D0 : Ends} {rest : List Stmt} {kds : List (Key × D)} {C C2 o dx : Addr} {xn m cn f T : Str}
end
section
variable {P : Program} {w : World} {K : PySem.W.Frag} {mg : Str → Option Value} {base : Heap}
end
end L3

/-! Core123: new instances stored by a tuple of plain locals. -/
namespace L3
open PySem PySem.Spec PyProof.Rows L2
section
variable {X : Cx} {Hb Hb' : Hp} {a b c e : Expr} {Γ Γ' Γw : Slots} {pos p' : Pos} {D0 : Ends} {rest : List Stmt} {C : Addr} {xn yn zn : Str}
end
end L3

/-! Core124: an instance of one's own that has another one within (a console and its desk). -/
namespace L3
open PySem PySem.Spec PyProof.Rows L2
abbrev cells4 (oc dxc od dxd : Addr) : List Addr := [oc, dxc, od, dxd]
/-- at oc: an instance whose one attribute is the instance at od -/
structure IsCon (K : PySem.W.Frag) (Hz H : Hp) (fn : Str) (Cc CD oc dxc od dxd : Addr) (ds : List (Key × D)) : Prop where
  c : H oc = some (.ins Cc dxc [(fn, .ref od)])
  d : H dxc = some (.own oc)
  o : ∃ fs, H od = some (.ins CD dxd fs) ∧ RepKV K Hz (fkv fs) ds
  e : H dxd = some (.own od)
def Ent.con (K : PySem.W.Frag) (fn : Str) (Cc CD oc dxc od dxd : Addr) (ds : List (Key × D)) : Ent := .res (cells4 oc dxc od dxd) (.ref oc) fun us Hw => ∃ fs, us = [.ins Cc dxc [(fn, .ref od)], .own oc, .ins CD dxd fs, .own od] ∧ RepKV K Hw (fkv fs) ds
structure LeftC (K : PySem.W.Frag) (Hb : Hp) (fn : Str) (Cc CD oc dxc od dxd : Addr) (ds : List (Key × D)) (H' : Hp) : Prop where
  ex : Ex Hb (hide H' (cells4 oc dxc od dxd))
  con : IsCon K (hide H' (cells4 oc dxc od dxd)) H' fn Cc CD oc dxc od dxd ds
section
variable {K : PySem.W.Frag} {Hb Hz H H0 H1 H' : Hp} {Γ : Slots} {σ : L2.St} {fn : Str} {Cc CD oc dxc od dxd : Addr} {ds ds' : List (Key × D)} {i : Nat}
theorem IsCon.lsts (h : IsCon K Hz H fn Cc CD oc dxc od dxd ds) : Lsts H (cells4 oc dxc od dxd) := fun p m => by
  obtain ⟨fs, ho, _⟩ := h.o
  simp only [cells4, List.mem_cons, List.not_mem_nil, or_false] at m
  rcases m with rfl | rfl | rfl | rfl
  · exact ⟨_, h.c, trivial⟩
  · exact ⟨_, h.d, trivial⟩
  · exact ⟨_, ho, trivial⟩
  · exact ⟨_, h.e, trivial⟩
theorem IsCon.cells (h : IsCon K Hz H fn Cc CD oc dxc od dxd ds) : ∃ fs, Cells H (cells4 oc dxc od dxd) [.ins Cc dxc [(fn, .ref od)], .own oc, .ins CD dxd fs, .own od] ∧ RepKV K Hz (fkv fs) ds := by
  obtain ⟨fs, ho, r⟩ := h.o
  exact ⟨fs, .cons ⟨h.c, trivial⟩ (.cons ⟨h.d, trivial⟩ (.cons ⟨ho, trivial⟩ (.cons ⟨h.e, trivial⟩ .nil))), r⟩
end
section
variable {P : Program} {w : World} {K : PySem.W.Frag} {mg : Str → Option Value} {base : Heap}
end
section
variable {X : Cx} {Hb Hb' : Hp} {a b c e : Expr} {es : List Expr} {kws : List Keyword} {Γ Γ' Γw : Slots} {pos p' p2 p3 apos cpos pc : Pos} {d x y : D} {args : List D} {D0 : Ends} {rest : List Stmt} {fn : Str} {Cc CD oc dxc od dxd f : Addr} {ds : List (Key × D)} {xn m cn : Str} {k k' : Nat} {fd : FuncData} {pns ks : List Str} {perm : List Nat} {fr : Bool} {Q : D → Prop}
/-- data with neither of the two within -/
def ApC (fn : Str) (ds : List (Key × D)) (args : List D) : Prop := ∀ d ∈ args, d.noK [.inr fn] = true ∧ d.noK (ds.map (·.1)) = true
theorem IsCon.off {K : PySem.W.Frag} {Hz H : Hp} (c : IsCon K Hz H fn Cc CD oc dxc od dxd ds) {d : D} (h : d.noK [.inr fn] = true ∧ d.noK (ds.map (·.1)) = true) : OffI H (cells4 oc dxc od dxd) (fun ks => d.noK ks = true) := fun p m => by
  obtain ⟨fs, ho, r⟩ := c.o
  simp only [cells4, List.mem_cons, List.not_mem_nil, or_false] at m
  rcases m with rfl | rfl | rfl | rfl
  · exact .inr ⟨_, _, _, c.c, h.1⟩
  · exact .inl ⟨_, c.d⟩
  · exact .inr ⟨_, _, _, ho, by rw [RepKV.keys r]; exact h.2⟩
  · exact .inl ⟨_, c.e⟩
theorem IsCon.all {K : PySem.W.Frag} {Hz H : Hp} (c : IsCon K Hz H fn Cc CD oc dxc od dxd ds) : ∀ {vs : List V} {args : List D}, RepAll K H vs args → ApC fn ds args → RepAll K (hide H (cells4 oc dxc od dxd)) vs args
  | _, _, .nil, _ => .nil
  | _, _, .cons r rs, h => .cons (r.offI (c.off (h _ List.mem_cons_self))) (IsCon.all c rs fun d m => h d (List.mem_cons_of_mem _ m))
end
end L3

/-! Core125: such a thing made by its class. -/
namespace L3
open PySem PySem.Spec PyProof.Rows L2
section
variable {P : Program} {w : World} {K : PySem.W.Frag} {mg : Str → Option Value} {base : Heap}
end
section
variable {X : Cx} {Hb : Hp} {Γ Γ' : Slots} {pos p' apos cpos pc : Pos} {D0 : Ends} {rest : List Stmt} {fn : Str} {Cc CD oc dxc od dxd f : Addr} {ds : List (Key × D)} {xn cn : Str} {k k' : Nat} {fd : FuncData} {pns : List Str}
end
end L3

/-! Core126: a list of three taken apart. -/
namespace L3
open PySem PySem.Spec PyProof.Rows L2
section
variable {X : Cx} {Hb : Hp} {e : Expr} {Γ : Slots} {pos : Pos} {D0 : Ends} {rest : List Stmt}
end
end L3

/-! Core127: references alone (D.ptr): a thing of one's own read as its reference, and looked through. -/
namespace L3
open PySem PySem.Spec PyProof.Rows L2
mutual
/-- each reference alone put for what f tells of it -/
def D.resP (f : Addr → Option D) : D → D
  | .ptr a => (f a).getD (.ptr a)
  | .lst xs => .lst (D.resPAll f xs)
  | .tup xs => .tup (D.resPAll f xs)
  | .dct kvs => .dct (D.resPKV f kvs)
  | .obj C fs => .obj C (D.resPKV f fs)
  | .non => .non
  | .bl b => .bl b
  | .int i => .int i
  | .str x => .str x
  | .ext φ => .ext φ
  | .exc C g d => .exc C g (D.resP f d)
def D.resPAll (f : Addr → Option D) : List D → List D
  | [] => []
  | x :: xs => D.resP f x :: D.resPAll f xs
def D.resPKV (f : Addr → Option D) : List (Key × D) → List (Key × D)
  | [] => []
  | (k, x) :: xs => (k, D.resP f x) :: D.resPKV f xs
end
section
variable {K : PySem.W.Frag} {H : Hp} {f : Addr → Option D}
mutual
theorem Rep.resP (hf : ∀ a d, f a = some d → Rep K H (.ref a) d) : ∀ {v : V} {d : D}, Rep K H v d → Rep K H v (d.resP f)
  | _, _, .non => by rw [D.resP]; exact .non
  | _, _, .bl b => by rw [D.resP]; exact .bl b
  | _, _, .int i => by rw [D.resP]; exact .int i
  | _, _, .str x => by rw [D.resP]; exact .str x
  | _, _, .lst h r => by rw [D.resP]; exact .lst h (RepAll.resP hf r)
  | _, _, .tup h r => by rw [D.resP]; exact .tup h (RepAll.resP hf r)
  | _, _, .dct h r => by rw [D.resP]; exact .dct h (RepKV.resP hf r)
  | _, _, .ext h => by rw [D.resP]; exact .ext h
  | _, _, .exc h1 h2 r => by rw [D.resP]; exact .exc h1 h2 (Rep.resP hf r)
  | _, _, .obj h r => by rw [D.resP]; exact .obj h (RepKV.resP hf r)
  | _, _, .ptr a => by
    rw [D.resP]
    cases z : f a with
    | none => exact .ptr a
    | some d => exact hf a d z
theorem RepAll.resP (hf : ∀ a d, f a = some d → Rep K H (.ref a) d) : ∀ {vs : List V} {ds : List D}, RepAll K H vs ds → RepAll K H vs (D.resPAll f ds)
  | _, _, .nil => by rw [D.resPAll]; exact .nil
  | _, _, .cons h r => by rw [D.resPAll]; exact .cons (Rep.resP hf h) (RepAll.resP hf r)
theorem RepKV.resP (hf : ∀ a d, f a = some d → Rep K H (.ref a) d) : ∀ {vs : List (Key × V)} {ds : List (Key × D)}, RepKV K H vs ds → RepKV K H vs (D.resPKV f ds)
  | _, _, .nil => by rw [D.resPKV]; exact .nil
  | _, _, .cons h r => by rw [D.resPKV]; exact .cons (Rep.resP hf h) (RepKV.resP hf r)
end
end
section
variable {K : PySem.W.Frag} {Hb Hz H : Hp}
end
section
variable {X : Cx} {Hb : Hp} {e : Expr} {Γ : Slots} {pos : Pos} {Q S : D → Prop} {fr : Bool} {p : Addr} {xn : Str}
end
end L3

/-! Core128: texts of numbers: the digits of a number's text. -/
namespace L3
open PySem PySem.Spec PyProof.Rows L2
end L3

/-! Core129: C(..).m(..), C a class whose instance has another instance within. -/
namespace L3
open PySem PySem.Spec PyProof.Rows L2
section
variable {K : PySem.W.Frag} {H1 H' : Hp} {fn : Str} {Cc CD oc dxc od dxd : Addr} {ds : List (Key × D)}
theorem IsCon.exC (x : Ex H' H1) (c : IsCon K (hide H' (cells4 oc dxc od dxd)) H' fn Cc CD oc dxc od dxd ds) : IsCon K (hide H1 (cells4 oc dxc od dxd)) H1 fn Cc CD oc dxc od dxd ds := by
  obtain ⟨fs, ho, r⟩ := c.o
  have h1 := x.get _ _ c.c fun _ z => nomatch z
  have h2 := x.get _ _ c.d fun _ z => nomatch z
  have h3 := x.get _ _ ho fun _ z => nomatch z
  have h4 := x.get _ _ c.e fun _ z => nomatch z
  have c0 : IsCon K (hide H' (cells4 oc dxc od dxd)) H1 fn Cc CD oc dxc od dxd ds := ⟨h1, h2, ⟨fs, h3, r⟩, h4⟩
  exact ⟨h1, h2, ⟨fs, h3, r.ex (x.hides c0.lsts)⟩, h4⟩
end
section
variable {X : Cx} {Hb : Hp} {e : Expr} {es : List Expr} {Γ : Slots} {p2 pc apos cpos : Pos} {fn m cn : Str} {Cc CD f f2 : Addr} {k k2 k' : Nat} {fd fd2 : FuncData} {pns pns2 : List Str} {Q : D → Prop}
end
end L3

/-! Core130: an error made and kept: C(e) as an expression. -/
namespace L3
open PySem PySem.Spec PyProof.Rows L2
/-- C(e, ..), C an error's class, its __init__ keeping sp: the error itself -/
def tExc (C : Addr) (sp : Sp) (ta : TA) : TE := fun σ H Q => ta σ H fun vs H1 => vs.length ≤ 1000 ∧ ∀ a, H1 a = none → sp (.ref a :: (vs ++ [])) (upd H1 a (exo a C none)) (fun v H2 => v = .non ∧ Q (.ref a) H2) fun _ _ _ => False
section
variable {X : Cx} {e : Expr} {es : List Expr} {ta : TA} {p' pos : Pos}
theorem pe_exc {CX : CXT} {cn : Str} {C fI : Addr} {k : Nat} {fd : FuncData} {pns : List Str} {sp : Sp} (T : OexC X.K C) (iC : PySem.W.findIn X.K (.ref C) "__init__" = some (some (.ref fI))) (tI : PySem.W.typeIn X.K (.ref fI) = some (.type "function"))
    (Fn : FnOk X.prog X.w X.K X.mg X.base CX k fI fd pns sp) (hr : Room (k + 1) X.A) (hb : Binds X.K fd pns []) (hp : Passes CX X (fun _ _ _ => False)) (hg : Gl X cn) (hm : X.mg cn = some (.ref C)) (ha : PA X (e :: es) ta)
    (hdb : (cn == ("__debug__" : Str)) = false := by decide) (he : starEach (e :: es) X.env = (false, eval e X.env) :: starEach es X.env := by rfl) (hpl : (backTo pos (starEach es X.env)).any (·.1) = false := by rfl) :
    PE X (.Call (.Name cn p') (e :: es) [] pos) (tExc C sp ta) := ⟨fun pins s σ H Q J w0 => by
  obtain ⟨nm, q, N, bs, bm, sn, sub, ab, col, dd, k0, k1, k2, k3, k5, hC, hbm⟩ := T.cls
  refine wpAny_Call_Name_kw (ld_glob J hg hm ?_ hdb)
  have first := ha.run pos pins s σ H _ J w0
  refine PySem.W.callWith_K (h₀ := X.base) J.ok.mod.kin T.kC (thn first fun us s1 ⟨vs, H1, J1, rv1, hz, w1⟩ => ⟨J1.kIn, ?_⟩) he hpl
  show wpAny _ _ (call (.ref C) us) _ _ _
  rcases s1 with ⟨hp1, g1, dr1, tk1, os1⟩
  have hsz : hp1.objs.size ≤ hp1.objs.size + 1 := Nat.le_succ _
  have hfree : H1 (hp1.objs.size + 1) = none := J1.hok.fresh hsz
  have w2 := w1 (hp1.objs.size + 1) hfree
  generalize hG : (hp1.push (PySem.W.kdv_tup us)).push (PySem.HandSPX.excO C hp1.objs.size) = G
  have keep : ∀ b o, hp1.get? b = some o → G.get? b = some o := fun b o z => by
    rw [← hG]
    exact Heap.get?_push_of_some _ (Heap.get?_push_of_some _ z)
  have there : G.get? (hp1.objs.size + 1) = some (PySem.HandSPX.excO C hp1.objs.size) := by
    rw [← hG]
    heap_get
  have J2 : Inv X pins σ (upd H1 (hp1.objs.size + 1) (exo (hp1.objs.size + 1) C none)) ⟨G, g1, dr1, tk1, os1⟩ :=
    J1.laid (t' := tk1) (a := hp1.objs.size + 1) (o := exo (hp1.objs.size + 1) C none) (h' := G) keep hsz (exo_ok there)
  have rv2 : Vals (V.ref (hp1.objs.size + 1) :: (vs ++ [])) (Value.ref (hp1.objs.size + 1) :: (us ++ [])) := .cons rfl (rv1.append .nil)
  have hlen : (Value.ref (hp1.objs.size + 1) :: us ++ []).length = pns.length := rv2.length.symm.trans (Fn.len _ _ _ _ w2)
  have hfew : us.length ≤ sizeLine := by
    rw [← Paired.length rv1, sizeLine_eq]
    omega
  have ran := Fn.run _ X.stack _ _ ⟨Value.ref (hp1.objs.size + 1) :: us, []⟩ (Value.ref (hp1.objs.size + 1) :: (us ++ [])) _ _ (fun _ _ _ => False) (hr.make C us []) (J2.env0.make C us []) (show BindsTo _ fd ⟨Value.ref (hp1.objs.size + 1) :: us, []⟩ (pns.zip (Value.ref (hp1.objs.size + 1) :: (us ++ []))) from hb _ (Value.ref (hp1.objs.size + 1) :: us) J2.kIn hlen) rv2 w2
  subst hG
  refine wpAny_call (PySem.HandSPX.call_own PySem.F.excBase_ValueError (fun Y => PySem.HandSPX.refsVE_contains Y bm hbm) (J1.kIn _ _ hC) (PySem.W.looks_findIn J1.kIn iC) (fun self => PySem.W.bind_fn J1.kIn self tI) hfew (codeAny_mono ran fun r s' out => ?_))
  cases r with
  | error er => exact hp pins σ _ _ er s' J2 out
  | ok fl =>
    cases fl with
    | next => exact out.elim
    | brk => exact out.elim
    | cont => exact out.elim
    | ret u =>
      obtain ⟨v, H2, o2, b2, n2, k2, rv, ev, w3⟩ := out
      subst ev
      exact ⟨rv, V.ref (hp1.objs.size + 1), H2, J2.call' o2 n2 k2 b2 (fun _ m => nomatch m), rfl, w3⟩⟩
end
end L3

/-! Core131: an error made by C(k = e) and kept. -/
namespace L3
open PySem PySem.Spec PyProof.Rows L2 PySem.HandSPX PySem.W
section
variable {M : Model} {A : Around} {E : Value → Shared → Prop} {h : Heap} {g : Array GenState} {d : Drawn} {t : Nat} {os : OsState}
variable {nm q : Str} {C N : Addr} {bs bm bmB : List Value} {hdct : Bool} {sn : List Str} {sub : List Value} {ab : Bool} {col : Option Bool} {dd : Option Addr} {k0 k1 k2 k3 k5 : Option Value} {B newId initId : String} {y : Str} {u : Value}
theorem chk_newK (Fx : ExcBaseFacts B newId initId bmB) (hT : ∀ X : String, bm.contains (.type X) = bmB.contains (.type X)) {Q : Unit → Shared → Prop}
    (hC : h.get? C = some (excClassObj nm q C N bs bm hdct sn sub ab col dd k0 k1 k2 k3 k5 newId)) (w0 : Q () ⟨h, g, d, t, os⟩) : wpAny M A (checkBuiltinCall newId ⟨[.ref C], [(y, u)]⟩) Q E ⟨h, g, d, t, os⟩ := by
  have inB : (Value.ref C :: bm).contains (.type B) = true := by rw [List.contains_cons, hT, Fx.hasB, Bool.or_true]
  have star := Fx.noStar
  simp only [checkBuiltinCall, Fx.newKind, Fx.newSplit, Fx.newRow]
  repeat (first | refine wpAny_staticBase_exc hC ?_ | refine wpAny_madeBy_exc hC ?_ | refine wpAny_loadPart_at hC ?_ | (refine wpAny_isSubtype_exc hC ?_; rw [inB]) | simp only [bne_self_eq_false, Bool.false_eq_true, if_false] | wp_step)
  exact w0
end
section
variable {prog : Program} {w : World} {A : Around} {E : Value → Shared → Prop} {R : Result → Shared → Prop} {h : Heap} {g : Array GenState} {d : Drawn} {t : Nat} {os : OsState}
variable {nm q : Str} {C N : Addr} {bs bm bmB : List Value} {hdct : Bool} {sn : List Str} {sub : List Value} {ab : Bool} {col : Option Bool} {dd : Option Addr} {k0 k1 k2 k3 k5 : Option Value} {B newId initId : String} {y : Str} {u : Value}
theorem new_K (Fx : ExcBaseFacts B newId initId bmB) (hT : ∀ X : String, bm.contains (.type X) = bmB.contains (.type X))
    (hC : h.get? C = some (excClassObj nm q C N bs bm hdct sn sub ab col dd k0 k1 k2 k3 k5 newId))
    (w0 : R (.ok (.ret (.ref (h.objs.size + 1)))) ⟨(h.push (PySem.W.kdv_tup [])).push (excO C h.objs.size), g, d, t, os⟩) : codeAny (model prog w) A (.builtin newId ⟨[.ref C], [(y, u)]⟩) R ⟨h, g, d, t, os⟩ := by
  have ends := Fx.ends
  have inB : (Value.ref C :: bm).contains (.type B) = true := by rw [List.contains_cons, hT, Fx.hasB, Bool.or_true]
  have inA : (Value.ref C :: bm).contains (.type "AttributeError") = false := by rw [List.contains_cons, hT, Fx.noAttr]; rfl
  have inN : (Value.ref C :: bm).contains (.type "NameError") = false := by rw [List.contains_cons, hT, Fx.noName]; rfl
  refine codeAny_builtinAt Fx.entry ?_
  unfold Builtin.«BaseException.__new__»
  refine PySem.wpAt_bind ?_
  show PySem.wpAt _ _ _ (stack >>= _) _ _ _
  refine PySem.wpAt_bind (PySem.wpAt_stack fun p lo => PySem.wpAt_of_wpAny ?_)
  wp_walk
  refine PySem.wpAt_of_wpAny ?_
  rw [Fx.owner]
  repeat (first | with_reducible refine wpAny_loadPart_at hC ?_ | with_reducible refine wpAny_madeHere_exc Fx.canon hC ?_ | (with_reducible refine wpAny_isSubtype_exc hC ?_; first | rw [inA] | rw [inN] | rw [inB]) | wp_step)
  show R _ _
  rw [Heap.size_push]
  exact w0
theorem type_callK (Fx : ExcBaseFacts B newId initId bmB) (hT : ∀ X : String, bm.contains (.type X) = bmB.contains (.type X)) {fI : Addr} {Q : Fin → Shared → Prop}
    (hC : h.get? C = some (excClassObj nm q C N bs bm hdct sn sub ab col dd k0 k1 k2 k3 k5 newId))
    (hi : W.Looks (model prog w) h (typeLookup (.ref C) "__init__") (some (.ref fI))) (hb : ∀ self, W.Looks (model prog w) h (bindSpecial (.ref fI) self) (.ref fI, [self]))
    (w0 : codeAny (model prog w) A (.call (.ref fI) ⟨[.ref (h.objs.size + 1)], [(y, u)]⟩)
      (fun r s' => match r with | .ok (.ret v) => v = .none ∧ Q (.done (.ret (.ref (h.objs.size + 1)))) s' | .ok _ => False | .error e => E e s')
      ⟨(h.push (W.kdv_tup [])).push (excO C h.objs.size), g, d, t, os⟩) :
    wpAny (model prog w) A (Builtin.«type.__call__» ⟨[.ref C], [(y, u)]⟩) Q E ⟨h, g, d, t, os⟩ := by
  repeat (first | with_reducible refine wpAny_madeBy_exc hC ?_ | with_reducible refine wpAny_loadPart_at hC ?_ | wp_step)
  refine codeAny_call_builtin_code (Code.quiet_builtin _ Fx.quiet) (chk_newK Fx hT hC ?_)
  refine new_K Fx hT hC ?_
  show wpAny _ _ _ _ _ _
  generalize hG : (h.push (W.kdv_tup [])).push (excO C h.objs.size) = G at w0 ⊢
  have keep : ∀ b o, h.get? b = some o → G.get? b = some o := fun b o z => by
    rw [← hG]
    exact Heap.get?_push_of_some _ (Heap.get?_push_of_some _ z)
  have hC1 := keep _ _ hC
  have there : G.get? (h.objs.size + 1) = some (excO C h.objs.size) := by
    rw [← hG]
    heap_get
  have inC : (Value.ref C :: bm).contains (.ref C) = true := by simp
  have look1 := hi.keeps keep
  have bind1 := (hb (.ref (h.objs.size + 1))).keeps keep
  unfold isInstance
  repeat (first | with_reducible refine wpAny_loadPart_at there ?_ | (with_reducible refine wpAny_isSubtype_exc hC1 ?_; rw [inC]) | wp_step)
  show wpAny _ _ (typeLookup (.ref C) _) _ _ _
  refine look1.at ?_
  refine wpAny_holding (wpAny_bind (bind1.at ?_))
  refine wpAny_bind (wpAny_call (codeAny_mono w0 fun r s' z => ?_))
  rcases r with e | (v | _ | _ | _) <;> first | exact z.elim | exact z | skip
  obtain ⟨rfl, z⟩ := z
  first
    | (wp_walk; exact z)
    | exact wpAny_pure (wpAny_pure z)
theorem call_K (Fx : ExcBaseFacts B newId initId bmB) (hT : ∀ X : String, bm.contains (.type X) = bmB.contains (.type X)) {fI : Addr}
    (hC : h.get? C = some (excClassObj nm q C N bs bm hdct sn sub ab col dd k0 k1 k2 k3 k5 newId))
    (hi : W.Looks (model prog w) h (typeLookup (.ref C) "__init__") (some (.ref fI))) (hb : ∀ self, W.Looks (model prog w) h (bindSpecial (.ref fI) self) (.ref fI, [self]))
    (w0 : codeAny (model prog w) (A.under (.builtin "type.__call__" ⟨[.ref C], [(y, u)]⟩)) (.call (.ref fI) ⟨[.ref (h.objs.size + 1)], [(y, u)]⟩) (W.InitBack (h.objs.size + 1) R) ⟨(h.push (W.kdv_tup [])).push (excO C h.objs.size), g, d, t, os⟩) :
    codeAny (model prog w) A (.call (.ref C) ⟨[], [(y, u)]⟩) R ⟨h, g, d, t, os⟩ := by
  have look0 := tc_lookup
  have bind0 := tc_bind (.ref C)
  have isT : (⟨h, g, d, t, os⟩ : Shared).TypeIs (.ref C) "type" := ⟨_, hC, rfl⟩
  refine codeAny_of_tree ?_
  show wpAny _ _ (callAny (.ref C) _) _ _ _
  repeat (any_goals (first | with_reducible refine wpAny_loadPart_at hC ?_ | assumption | wp_step))
  refine ⟨rfl, ?_⟩
  refine codeAny_call_builtin_at (Code.quiet_builtin _ (by decide +kernel)) entry_typeCall (wpAny_check_type_call_sub hC (type_callK Fx hT hC hi hb ?_))
  refine codeAny_mono w0 fun r s' z => ?_
  rcases r with e | (v | _ | _ | _) <;> exact z
end
/-- C(y = e), C an error's class -/
def tExcK (C : Addr) (sp : Sp) (tk : TA) : TE := fun σ H Q => tk σ H fun zs H1 => zs.length = 1 ∧ ∀ a, H1 a = none → sp (.ref a :: zs) (upd H1 a (exo a C none)) (fun v H2 => v = .non ∧ Q (.ref a) H2) fun _ _ _ => False
section
variable {X : Cx} {kws : List Keyword} {tk : TA} {p' pos : Pos}
theorem pe_excK {CX : CXT} {cn y : Str} {C fI : Addr} {k : Nat} {fd : FuncData} {pns : List Str} {sp : Sp} (T : OexC X.K C) (iC : PySem.W.findIn X.K (.ref C) "__init__" = some (some (.ref fI))) (tI : PySem.W.typeIn X.K (.ref fI) = some (.type "function"))
    (Fn : FnOk X.prog X.w X.K X.mg X.base CX k fI fd pns sp) (KI : KwI fd pns [y] [0]) (hr : Room (k + 1) X.A) (hp : Passes CX X (fun _ _ _ => False)) (hg : Gl X cn) (hm : X.mg cn = some (.ref C)) (ha : PK X kws tk)
    (hdb : (cn == ("__debug__" : Str)) = false := by decide) (hall : (backToKw pos (keywordEach kws X.env)).all (·.1.isSome) = true := by rfl) (hks : (backToKw pos (keywordEach kws X.env)).filterMap (·.1) = [y] := by rfl)
    (hpl : ((backTo pos (starEach [] X.env)).any (·.1) || (backToKw pos (keywordEach kws X.env)).any (·.1.isNone)) = false := by rfl) : PE X (.Call (.Name cn p') [] kws pos) (tExcK C sp tk) := ⟨fun pins s σ H Q J w0 => by
  obtain ⟨nm, q, N, bs, bm, sn, sub, ab, col, dd, k0, k1, k2, k3, k5, hC, hbm⟩ := T.cls
  refine wpAny_Call_Name_kw (ld_glob J hg hm ?_ hdb)
  have first := ha.run pos pins s σ H _ J w0
  refine PySem.W.callWith_KW0 (first := []) (h₀ := X.base) J.ok.mod.kin T.kC hall (thn first fun us s1 ⟨zs, H1, J1, rv1, hz, w1⟩ => ⟨J1.kIn, ?_⟩) hpl
  rw [hks]
  have hl1 : us.length = 1 := (Paired.length rv1).symm.trans hz
  match us, hl1 with
  | [u], _ =>
  show wpAny _ _ (call (.ref C) [] [(y, u)]) _ _ _
  rcases s1 with ⟨hp1, g1, dr1, tk1, os1⟩
  have hsz : hp1.objs.size ≤ hp1.objs.size + 1 := Nat.le_succ _
  have hfree : H1 (hp1.objs.size + 1) = none := J1.hok.fresh hsz
  have w2 := w1 (hp1.objs.size + 1) hfree
  generalize hG : (hp1.push (PySem.W.kdv_tup [])).push (PySem.HandSPX.excO C hp1.objs.size) = G
  have keep : ∀ b o, hp1.get? b = some o → G.get? b = some o := fun b o z => by
    rw [← hG]
    exact Heap.get?_push_of_some _ (Heap.get?_push_of_some _ z)
  have there : G.get? (hp1.objs.size + 1) = some (PySem.HandSPX.excO C hp1.objs.size) := by
    rw [← hG]
    heap_get
  have J2 : Inv X pins σ (upd H1 (hp1.objs.size + 1) (exo (hp1.objs.size + 1) C none)) ⟨G, g1, dr1, tk1, os1⟩ :=
    J1.laid (t' := tk1) (a := hp1.objs.size + 1) (o := exo (hp1.objs.size + 1) C none) (h' := G) keep hsz (exo_ok there)
  have rv2 : Vals (V.ref (hp1.objs.size + 1) :: zs) (Value.ref (hp1.objs.size + 1) :: [u]) := .cons rfl rv1
  have ran := Fn.run _ X.stack _ _ ⟨[Value.ref (hp1.objs.size + 1)], [(y, u)]⟩ (Value.ref (hp1.objs.size + 1) :: [u]) _ _ (fun _ _ _ => False) (hr.make C [] [(y, u)]) (J2.env0.make C [] [(y, u)]) (BindsTo.of_eq (KI.bind (Value.ref (hp1.objs.size + 1)) [u] rfl)) rv2 w2
  subst hG
  refine wpAny_call (call_K PySem.F.excBase_ValueError (fun Y => PySem.HandSPX.refsVE_contains Y bm hbm) (J1.kIn _ _ hC) (PySem.W.looks_findIn J1.kIn iC) (fun self => PySem.W.bind_fn J1.kIn self tI) (codeAny_mono ran fun r s' out => ?_))
  cases r with
  | error er => exact hp pins σ _ _ er s' J2 out
  | ok fl =>
    cases fl with
    | next => exact out.elim
    | brk => exact out.elim
    | cont => exact out.elim
    | ret u2 =>
      obtain ⟨v, H2, o2, b2, n2, k2, rv, ev, w3⟩ := out
      subst ev
      exact ⟨rv, V.ref (hp1.objs.size + 1), H2, J2.call' o2 n2 k2 b2 (fun _ m => nomatch m), rfl, w3⟩⟩
end
end L3

/-! Core132: C(e) and C(y = e), C an error's class: the error as a value. -/
namespace L3
open PySem PySem.Spec PyProof.Rows L2
section
variable {X : Cx} {Hb : Hp} {e : Expr} {Γ : Slots} {pos pc : Pos} {Q : D → Prop} {fr fr' : Bool} {C : Addr} {cn attr : Str} {k' : Nat} {kws : List Keyword}
theorem exc_left {H1 : Hp} {a0 dx : Addr} {v : V} {x : D} (ha : H1 a0 = none) (hd : H1 dx = none) (hne : dx ≠ a0) (r : Rep X.K H1 v x) :
    Ex H1 (upd (upd (upd H1 a0 (exo a0 C none)) dx (exd dx [(attr, v)])) a0 (exo a0 C (some dx))) ∧ Rep X.K (upd (upd (upd H1 a0 (exo a0 C none)) dx (exd dx [(attr, v)])) a0 (exo a0 C (some dx))) (.ref a0) (.exc C attr x) := by
  have ee : upd (upd (upd H1 a0 (exo a0 C none)) dx (exd dx [(attr, v)])) a0 (exo a0 C (some dx)) = upd (upd H1 dx (exd dx [(attr, v)])) a0 (exo a0 C (some dx)) := by
    funext b
    by_cases z : b = a0
    · rw [z, upd_same, upd_same]
    · rw [upd_ne z, upd_ne z]
      by_cases y : b = dx
      · rw [y, upd_same, upd_same]
      · rw [upd_ne y, upd_ne y, upd_ne z]
  rw [ee]
  have xe := (Ex.new (o := exd dx [(attr, v)]) hd).trans (Ex.new (o := exo a0 C (some dx)) (show upd H1 dx (exd dx [(attr, v)]) a0 = none by rw [upd_ne (Ne.symm hne)]; exact ha))
  exact ⟨xe, .exc upd_same (by rw [upd_ne hne]; exact upd_same) (r.ex xe)⟩
/-- C(e) -/
theorem w_exc (er : ErrC X.prog X.w X.K X.mg X.base C attr) (hm : X.mg cn = some (.ref C)) (hr : Room k' X.A) (h : EvN X Hb e Γ fr fun x => Q (.exc C attr x)) (hk : 2 ≤ k' := by decide) (hg : Gl X cn := by rfl) (hdb : (cn == ("__debug__" : Str)) = false := by decide)
    (he : starEach (e :: []) X.env = (false, eval e X.env) :: starEach [] X.env := by rfl) (hpl : (backTo pos (starEach [] X.env)).any (·.1) = false := by rfl) : EvN X Hb (.Call (.Name cn pc) [e] [] pos) Γ fr' Q := EvN.fresh fun σ H en Q' q => by
  obtain ⟨fI, fd, ps, TE, iC, tI, F1, hb⟩ := er.ex
  refine SemE.of (pe_exc TE iC tI F1 (hr.mono hk) hb pass0 hg hm (semA X [e]) hdb he hpl) ?_
  refine (eva_one (S := fun ds => ∃ x, ds = [x] ∧ Q (.exc C attr x)) h (fun d s => ⟨d, rfl, s⟩) he) σ H en _ fun vs H1 ds ⟨x, e1, ht⟩ x1 r1 => ?_
  subst e1
  cases r1 with
  | @cons v vs _ _ r rs =>
    cases rs
    refine ⟨by show 1 ≤ 1000; decide, fun a0 ha0 => ⟨a0, v, rfl, upd_same, fun dx hd hne => ?_⟩⟩
    have hd1 : H1 dx = none := by rw [upd_ne hne] at hd; exact hd
    obtain ⟨x2, r2⟩ := exc_left (X := X) (C := C) (attr := attr) ha0 hd1 hne r
    exact ⟨rfl, q _ _ _ ht (x1.trans x2) r2 fun _ => trivial⟩
/-- an error's class, made by its one keyword -/
structure ErrK (P : Program) (w : World) (K : PySem.W.Frag) (mg : Str → Option Value) (base : Heap) (C : Addr) (attr y : Str) : Prop where
  ex : ∃ (fI : Addr) (fd : FuncData) (ps : List Str), OexC K C ∧ PySem.W.findIn K (.ref C) "__init__" = some (some (.ref fI)) ∧ PySem.W.typeIn K (.ref fI) = some (.type "function") ∧
    FnOk P w K mg base CX0 1 fI fd ps (spErr K C attr) ∧ KwI fd ps [y] [0]
/-- C(y = e) -/
theorem w_excK {y : Str} (er : ErrK X.prog X.w X.K X.mg X.base C attr y) (hm : X.mg cn = some (.ref C)) (hr : Room k' X.A) (h : EvK X Hb kws Γ fun ds => ∃ x, ds = [x] ∧ Q (.exc C attr x)) (hk : 2 ≤ k' := by decide) (hg : Gl X cn := by rfl) (hdb : (cn == ("__debug__" : Str)) = false := by decide)
    (hall : (backToKw pos (keywordEach kws X.env)).all (·.1.isSome) = true := by rfl) (hks : (backToKw pos (keywordEach kws X.env)).filterMap (·.1) = [y] := by rfl)
    (hpl : ((backTo pos (starEach [] X.env)).any (·.1) || (backToKw pos (keywordEach kws X.env)).any (·.1.isNone)) = false := by rfl) : EvN X Hb (.Call (.Name cn pc) [] kws pos) Γ fr' Q := EvN.fresh fun σ H en Q' q => by
  obtain ⟨fI, fd, ps, TE, iC, tI, F1, KI⟩ := er.ex
  refine SemE.of (pe_excK TE iC tI F1 KI (hr.mono hk) pass0 hg hm (semK X kws) hdb hall hks hpl) ?_
  refine h σ H en _ fun vs H1 ds ⟨x, e1, ht⟩ x1 r1 => ?_
  subst e1
  cases r1 with
  | @cons v vs _ _ r rs =>
    cases rs
    refine ⟨rfl, fun a0 ha0 => ⟨a0, v, rfl, upd_same, fun dx hd hne => ?_⟩⟩
    have hd1 : H1 dx = none := by rw [upd_ne hne] at hd; exact hd
    obtain ⟨x2, r2⟩ := exc_left (X := X) (C := C) (attr := attr) ha0 hd1 hne r
    exact ⟨rfl, q _ _ _ ht (x1.trans x2) r2 fun _ => trivial⟩
end
end L3

/-! Core133: errors as values: isinstance, the attribute. -/
namespace L3
open PySem PySem.Spec PyProof.Rows L2
theorem exc_inst {X : Cx} {pins : List (Addr × Obj)} {σ : L2.St} {H : Hp} {s : Shared} (I : Inv X pins σ H s) {a C dx : Addr} {fs : List (Str × V)} (h1 : H a = some (exo a C (some dx))) (h2 : H dx = some (exd dx fs)) :
    ∃ oe od, PySem.W.InstAt s.heap a oe C (some od) ∧ ∀ n v, fs.lookup n = some v → ∃ u, PySem.W.lookIn n od = some (some u) ∧ RelV v u := by
  have k1 : ObjOk X.prog X.w H s.heap a (exo a C (some dx)) := I.hok a _ h1
  have k2 : ObjOk X.prog X.w H s.heap dx (exd dx fs) := I.hok dx _ h2
  obtain ⟨⟨t1, e1⟩, _⟩ := k1
  obtain ⟨⟨mA, hns, hr⟩, _⟩ := k2
  obtain ⟨od, ho, hl⟩ := lookIn_ns hns
  refine ⟨_, od, ⟨e1, rfl, rfl, ho⟩, fun n v l => ?_⟩
  obtain ⟨u, hu, ru⟩ := RelO.some_of (v := v) (o := mA n) (by rw [← l]; exact hr n)
  exact ⟨u, by rw [hl, hu], ru⟩
/-- isinstance(x, c), x an error that is kept -/
def rIsX (K : PySem.W.Frag) : List V → Hp → VK → Prop := fun xs H Q => ∃ (a C dx : Addr) (fs : List (Str × V)) (c : V) (cv : Value) (b : Bool), xs = [.ref a, c] ∧ H a = some (exo a C (some dx)) ∧ H dx = some (exd dx fs) ∧ ExcC K C ∧ ClsV c cv ∧ PySem.W.kitOne K (.ref C) cv = some b ∧ Q (.bl b) H
theorem call_isX {X : Cx} : CallR X (.builtin "isinstance") (rIsX X.K) := by
  intro pins s σ H xs us Q I r h
  obtain ⟨a, C, dx, fs, c, cv, b, rfl, h1, h2, ec, k, e, q⟩ := h
  obtain ⟨u1, u2, rfl, r1, r2⟩ := vals2 r
  have e2 := k.eq r2
  subst e2
  cases (show u1 = Value.ref a from r1)
  obtain ⟨oe, od, J, _⟩ := exc_inst I h1 h2
  obtain ⟨cd, hcd, _⟩ := PySem.W.any_some ec.hd
  exact PySem.W.kia_one (PySem.W.kitx_exc (by rw [hcd]; rfl) ec.hg ec.hk ec.hs ec.ha ec.hn ec.ht ec.hm) I.kIn J e (fun z => nomatch z) fun tk => ⟨.bl b, H, I.tok tk, rfl, q⟩
section
variable {X : Cx} {Hb : Hp} {a e : Expr} {Γ : Slots} {pos p2 pn : Pos} {Q : D → Prop} {fr : Bool} {C : Addr} {T n : Str}
/-- isinstance(a, T), T a class of the program -/
theorem w_isErr (hm : X.mg "isinstance" = none) (hm2 : X.mg T = some (.ref C)) (h : EvN X Hb a Γ false fun d => ∃ C2 f x b, d = .exc C2 f x ∧ ExcC X.K C2 ∧ PySem.W.kitOne X.K (.ref C2) (.ref C) = some b ∧ Q (.bl b))
    (hg : Gl X "isinstance" := by rfl) (hg2 : Gl X T := by rfl) (hd : (T == ("__debug__" : Str)) = false := by decide) (he : starEach (a :: [.Name T p2]) X.env = (false, eval a X.env) :: starEach [.Name T p2] X.env := by rfl) (he2 : starEach ([.Name T p2]) X.env = (false, eval (.Name T p2) X.env) :: starEach [] X.env := by rfl) (hpl : (backTo pos (starEach [.Name T p2] X.env)).any (·.1) = false := by rfl) :
    EvN X Hb (.Call (.Name "isinstance" pn) [a, .Name T p2] [] pos) Γ fr Q := EvN.fresh fun σ H en Q' q =>
  SemE.of (pe_callB call_isX hg hm (by decide +kernel) (pa_cons (semE X a) (pa_cons (pe_glob (v := .ref C) hg2 hm2 rfl hd) pa_nil he2) he) (by decide) (by decide) he hpl) (h σ H en _ fun v H1 d1 s x1 r1 _ => by
    obtain ⟨C2, f, x, b, e, ec, hk, qf⟩ := s
    subst e
    cases r1 with
    | exc h1 h2 r2 => exact ⟨_, C2, _, _, .ref C, .ref C, b, rfl, h1, h2, ec, .own C, hk, q _ H1 _ qf x1 (.bl b) fun _ => trivial⟩)
/-- isinstance(a, T), T a type of the language -/
theorem w_isErrT {Ts : String} (hm : X.mg "isinstance" = none) (hm2 : X.mg T = none) (h : EvN X Hb a Γ false fun d => ∃ C2 f x b, d = .exc C2 f x ∧ ExcC X.K C2 ∧ PySem.W.kitOne X.K (.ref C2) (.type Ts) = some b ∧ Q (.bl b)) (hv : bootBuiltins T = some (.type Ts) := by decide +kernel)
    (hg : Gl X "isinstance" := by rfl) (hg2 : Gl X T := by rfl) (hn : T ≠ "__name__" := by decide) (hd : (T == ("__debug__" : Str)) = false := by decide) (he : starEach (a :: [.Name T p2]) X.env = (false, eval a X.env) :: starEach [.Name T p2] X.env := by rfl) (he2 : starEach ([.Name T p2]) X.env = (false, eval (.Name T p2) X.env) :: starEach [] X.env := by rfl) (hpl : (backTo pos (starEach [.Name T p2] X.env)).any (·.1) = false := by rfl) :
    EvN X Hb (.Call (.Name "isinstance" pn) [a, .Name T p2] [] pos) Γ fr Q := EvN.fresh fun σ H en Q' q =>
  SemE.of (pe_callB call_isX hg hm (by decide +kernel) (pa_cons (semE X a) (pa_cons (pe_bltn (v := .ty Ts) hg2 hm2 hv rfl hn hd) pa_nil he2) he) (by decide) (by decide) he hpl) (h σ H en _ fun v H1 d1 s x1 r1 _ => by
    obtain ⟨C2, f, x, b, e, ec, hk, qf⟩ := s
    subst e
    cases r1 with
    | exc h1 h2 r2 => exact ⟨_, C2, _, _, .ty Ts, .type Ts, b, rfl, h1, h2, ec, .ty Ts, hk, q _ H1 _ qf x1 (.bl b) fun _ => trivial⟩)
/-- e.n, e an error that is kept -/
theorem pe_xa {te : TE} (he : PE X e te) (hb : attributeBase e n X.env (eval e X.env) = eval e X.env := by rfl) : PE X (.Attribute e n pos) (fun σ H Q => te σ H fun x H1 => ∃ (a C dx : Addr) (fs : List (Str × V)) (v : V), x = .ref a ∧ H1 a = some (exo a C (some dx)) ∧ H1 dx = some (exd dx fs) ∧
    XfC X.K C ∧ PySem.W.findIn X.K (.ref C) n = some none ∧ fs.lookup n = some v ∧ Q v H1) := by
  refine ⟨fun pins s σ H Q I h => ?_⟩
  refine attr_of hb (thn (he.run pins s σ H _ I h) fun u s1 hh => ?_)
  obtain ⟨x, H1, I1, rx, a, C, dx, fs, v, ex, h1, h2, T, hno, l, q⟩ := hh
  subst ex
  obtain rfl : u = Value.ref a := rx
  obtain ⟨oe, od, J, hJ⟩ := exc_inst I1 h1 h2
  obtain ⟨u, hu, ru⟩ := hJ n v l
  exact HandSPX.exc_get I1.kIn J T.ga T.gg T.exC (PySem.W.findObj_own T.hdC hno rfl hu) (handed_of ru) ⟨v, H1, I1.tok _, ru, q⟩
theorem w_errA (h : EvN X Hb e Γ false fun d => ∃ C2 x, d = .exc C2 n x ∧ XfC X.K C2 ∧ PySem.W.findIn X.K (.ref C2) n = some none ∧ (isCont x = false) ∧ Q x) (hb : attributeBase e n X.env (eval e X.env) = eval e X.env := by rfl) :
    EvN X Hb (.Attribute e n pos) Γ fr Q := EvN.fresh fun σ H en Q' q =>
  SemE.of (pe_xa (semE X e) hb) (h σ H en _ fun v H1 d1 s x1 r1 _ => by
    obtain ⟨C2, x, e, T, hno, hc, qf⟩ := s
    subst e
    cases r1 with
    | @exc a C dx f v d h1 h2 r2 => exact ⟨a, _, dx, [(n, v)], v, rfl, h1, h2, T, hno, by simp, q _ H1 _ qf x1 r2 fun _ => FreshD.flat hc⟩)
end
end L3

/-! Core134: a region: lists and dicts that are shared, kept beside a slot that is never assigned. -/
namespace L3
open PySem PySem.Spec PyProof.Rows L2
/-- what a shared cell holds -/
inductive Cell where
  | lst (ds : List D)
  | dct (kds : List (Key × D))
def Cell.d : Cell → D
  | .lst ds => .lst ds
  | .dct kds => .dct kds
def CellOk (K : PySem.W.Frag) (Hw : Hp) : Cell → HO → Prop
  | .lst ds, u => ∃ vs, u = .lst vs ∧ RepAll K Hw vs ds
  | .dct kds, u => ∃ kvs, u = .dK kvs ∧ RepKV K Hw kvs kds
/-- a slot with data d, and the cells ps holding cs -/
def Ent.rg (K : PySem.W.Frag) (ps : List Addr) (cs : List Cell) (v : V) (d : D) : Ent := .res ps v fun us Hw => Paired (CellOk K Hw) cs us ∧ Rep K Hw v d
theorem CellOk.ex {K : PySem.W.Frag} {Hw Hw' : Hp} {c : Cell} {u : HO} (x : Ex Hw Hw') (h : CellOk K Hw c u) : CellOk K Hw' c u := by
  cases c with
  | lst ds => obtain ⟨vs, e, r⟩ := h; exact ⟨vs, e, r.ex x⟩
  | dct ds => obtain ⟨vs, e, r⟩ := h; exact ⟨vs, e, r.ex x⟩
theorem CellOk.mu {K : PySem.W.Frag} {Hw : Hp} {c : Cell} {u : HO} (h : CellOk K Hw c u) : Mu u := by
  cases c with
  | lst ds => obtain ⟨vs, e, r⟩ := h; subst e; exact trivial
  | dct ds => obtain ⟨vs, e, r⟩ := h; subst e; exact trivial
/-- what the region tells of a reference -/
def cellR : List Addr → List Cell → Addr → Option D
  | p :: ps, c :: cs, a => if p = a then some c.d else cellR ps cs a
  | _, _, _ => none
theorem set_same {α : Type} : ∀ {l : List α} {i : Nat} {x : α}, l[i]? = some x → l.set i x = l
  | [], _, _, h => by simp at h
  | y :: r, 0, x, h => by simp at h; subst h; rfl
  | y :: r, i + 1, x, h => by show y :: r.set i x = y :: r; rw [set_same (by simpa using h)]
theorem owns_snoc {p : Addr} {ps : List Addr} {v : V} {φ φ' : List HO → Hp → Prop} : ∀ {Γ : Slots} {i : Nat}, Γ[i]? = some (.res ps v φ) → p ∉ owns Γ → (owns Γ).Nodup → (owns (Γ.set i (.res (ps ++ [p]) v φ'))).Nodup ∧ ∀ q ∈ owns (Γ.set i (.res (ps ++ [p]) v φ')), q = p ∨ q ∈ owns Γ
  | [], _, h, _, _ => by simp at h
  | x :: r, 0, h, hp, hn => by
    simp at h
    subst h
    show (owns (.res (ps ++ [p]) v φ' :: r)).Nodup ∧ ∀ q ∈ owns (.res (ps ++ [p]) v φ' :: r), _
    rw [owns_cons] at hp hn ⊢
    have hp' : p ∉ ps ++ owns r := hp
    have hn' : (ps ++ owns r).Nodup := hn
    have h' := nodup_app.mp hn'
    show ((ps ++ [p]) ++ owns r).Nodup ∧ ∀ q ∈ (ps ++ [p]) ++ owns r, _
    refine ⟨nodup_app.mpr ⟨nodup_app.mpr ⟨h'.1, by simp, fun a m z => ?_⟩, h'.2.1, fun a m z => ?_⟩, fun q m => ?_⟩
    · rw [List.mem_singleton.mp z] at m
      exact hp' (List.mem_append_left _ m)
    · rcases List.mem_append.mp m with m | m
      · exact h'.2.2 a m z
      · rw [List.mem_singleton.mp m] at z
        exact hp' (List.mem_append_right _ z)
    · rcases List.mem_append.mp m with m | m
      · rcases List.mem_append.mp m with m | m
        · exact .inr (List.mem_append_left _ m)
        · exact .inl (List.mem_singleton.mp m)
      · exact .inr (List.mem_append_right _ m)
  | x :: r, i + 1, h, hp, hn => by
    show (owns (x :: r.set i _)).Nodup ∧ ∀ q ∈ owns (x :: r.set i _), _
    rw [owns_cons] at hp hn ⊢
    have h' := nodup_app.mp hn
    obtain ⟨a, b⟩ := owns_snoc (φ' := φ') (Γ := r) (i := i) (by simpa using h) (fun z => hp (List.mem_append_right _ z)) h'.2.1
    refine ⟨nodup_app.mpr ⟨h'.1, a, fun y hy z => ?_⟩, fun q m => ?_⟩
    · rcases b y z with e | z
      · exact hp (List.mem_append_left _ (e ▸ hy))
      · exact h'.2.2 y hy z
    · rcases List.mem_append.mp m with m | m
      · exact .inr (by rw [owns_cons]; exact List.mem_append_left _ m)
      · exact (b q m).imp id fun z => by rw [owns_cons]; exact List.mem_append_right _ z
section
variable {K : PySem.W.Frag} {Hb Hz H H' : Hp} {Γ : Slots} {σ : L2.St} {i : Nat} {ps : List Addr} {cs : List Cell} {v : V} {d : D} {p : Addr}
/-- a slot of data becomes a region's -/
theorem EnvOk.toRg (h : EnvOk K Hb Γ σ H) (e : Γ[i]? = some (.dat d)) : ∃ v, EnvOk K Hb (Γ.set i (.rg K [] [] v d)) σ H := by
  obtain ⟨Hz, h1, h2, h3, h4⟩ := h
  obtain ⟨o, q, v, rfl, r⟩ := Paired.getE h3 e
  refine ⟨v, Hz, h1, h2, ?_, List.Nodup.sublist (owns_set_cells rfl) h4⟩
  have := Paired.setE (show EntOk K Hz H (.rg K [] [] v d) (some v) from ⟨rfl, [], .nil, (fun p m => nomatch m), fun Hw x => ⟨.nil, r.ex x⟩⟩) i h3
  rw [set_same q] at this
  exact this
/-- a new cell is taken in -/
theorem EnvOk.adopt {φ φ' : List HO → Hp → Prop} {u : HO} (h : EnvOk K Hb Γ σ H) (e : Γ[i]? = some (.res ps v φ)) (hp : H p = none) (x : Ex H H') (hu : H' p = some u) (mu : Mu u) (hφ : ∀ us Hw, φ us Hw → Ex (hide H' (p :: owns Γ)) Hw → φ' (us ++ [u]) Hw) :
    EnvOk K Hb (Γ.set i (.res (ps ++ [p]) v φ')) σ H' := by
  obtain ⟨Hz, k1, k2, k3, k4⟩ := h
  have hno : p ∉ owns Γ := fun z => by
    obtain ⟨u, q, _⟩ := owns_lsts k3 p z
    rw [hp] at q; cases q
  have l2 : Lsts H' (p :: owns Γ) := fun q hq => by
    rcases List.mem_cons.mp hq with z | z
    · exact ⟨u, z ▸ hu, mu⟩
    · obtain ⟨u, q1, mu⟩ := owns_lsts k3 q z
      exact ⟨u, x.get q u q1 mu.nt, mu⟩
  have ezp : Ex Hz (hide H' (p :: owns Γ)) := ex_hide (k2.trans x) l2 fun q hq => by
    rcases List.mem_cons.mp hq with z | z
    · rw [z]; exact k2.fr p hp
    · exact owns_free k3 q z
  have k3' : Paired (EntOk K (hide H' (p :: owns Γ)) H') Γ σ := Paired.mapE k3 fun a b m q => by
    obtain ⟨j, hj, hmm⟩ := List.mem_iff_getElem.mp m
    exact q.growC ezp fun p u mc q1 mu _ => ⟨x.get p u q1 mu.nt, hide_in (List.mem_cons_of_mem _ (owns_cells (i := j) (e := a) (by rw [List.getElem?_eq_getElem hj, hmm]) p mc))⟩
  obtain ⟨o, q, rfl, us, c, n, f⟩ := Paired.getE k3' e
  have hc : Cells H' (ps ++ [p]) (us ++ [u]) := Paired.snoc (F := fun p u => H' p = some u ∧ Mu u) ⟨hu, mu⟩ c
  have := Paired.setE (show EntOk K (hide H' (p :: owns Γ)) H' (.res (ps ++ [p]) v φ') (some v) from ⟨rfl, us ++ [u], hc, fun a m => by
    rcases List.mem_append.mp m with m | m
    · exact n a m
    · rw [List.mem_singleton.mp m]; exact hide_in List.mem_cons_self, fun Hw xw => hφ us Hw (f Hw xw) xw⟩) i k3'
  rw [set_same q] at this
  exact ⟨_, k1.trans ezp, hide_ex, this, (owns_snoc e hno k4).1⟩
theorem EnvOk.adoptL {vs : List V} {ds : List D} (h : EnvOk K Hb Γ σ H) (e : Γ[i]? = some (.rg K ps cs v d)) (hp : H p = none) (x : Ex H H') (hu : H' p = some (.lst vs)) (r : RepAll K H' vs ds) (f : D.flatAll ds = true) :
    EnvOk K Hb (Γ.set i (.rg K (ps ++ [p]) (cs ++ [.lst ds]) v d)) σ H' := by
  have l2 : Lsts H' (p :: owns Γ) := fun q hq => by
    rcases List.mem_cons.mp hq with z | z
    · exact ⟨.lst vs, z ▸ hu, (trivial : Mu (.lst vs))⟩
    · exact owns_lsts (h.ex x).wide.2.2.1 q z
  exact h.adopt e hp x hu trivial fun us Hw ⟨h1, h2⟩ xw => ⟨Paired.snoc (F := CellOk K Hw) (a := .lst ds) ⟨vs, rfl, (r.hide l2 f).ex xw⟩ h1, h2⟩
theorem EnvOk.adoptD {vs : List (Key × V)} {ds : List (Key × D)} (h : EnvOk K Hb Γ σ H) (e : Γ[i]? = some (.rg K ps cs v d)) (hp : H p = none) (x : Ex H H') (hu : H' p = some (.dK vs)) (r : RepKV K H' vs ds) (f : D.flatKV ds = true) :
    EnvOk K Hb (Γ.set i (.rg K (ps ++ [p]) (cs ++ [.dct ds]) v d)) σ H' := by
  have l2 : Lsts H' (p :: owns Γ) := fun q hq => by
    rcases List.mem_cons.mp hq with z | z
    · exact ⟨.dK vs, z ▸ hu, (trivial : Mu (.dK vs))⟩
    · exact owns_lsts (h.ex x).wide.2.2.1 q z
  exact h.adopt e hp x hu trivial fun us Hw ⟨h1, h2⟩ xw => ⟨Paired.snoc (F := CellOk K Hw) (a := .dct ds) ⟨vs, rfl, (r.hide l2 f).ex xw⟩ h1, h2⟩
theorem cells_rep (x : Ex Hz H) : ∀ {ps : List Addr} {cs : List Cell} {us : List HO}, Cells H ps us → Paired (CellOk K Hz) cs us → ∀ a d, cellR ps cs a = some d → Rep K H (.ref a) d
  | _, _, _, .nil, .nil, a, d, h => nomatch h
  | _, _, _, .cons (a := p) h r, .cons (a := c) k q, a, d, z => by
    unfold cellR at z
    split at z
    · rename_i e
      cases z
      subst e
      cases c with
      | lst ds => obtain ⟨vs, e, rr⟩ := k; subst e; exact .lst (.inl (.inl h.1)) (rr.ex x)
      | dct ds => obtain ⟨vs, e, rr⟩ := k; subst e; exact .dct (.inl h.1) (rr.ex x)
    · exact cells_rep x r q a d z
theorem EnvOk.rg (h : EnvOk K Hb Γ σ H) (e : Γ[i]? = some (.rg K ps cs v d)) : σ[i]? = some (some v) ∧ Rep K H v d ∧ ∀ a x, cellR ps cs a = some x → Rep K H (.ref a) x := by
  obtain ⟨q, hl, lp, us, c, hc, hv⟩ := h.resW e
  have x : Ex (hide H ps) H := hide_ex
  exact ⟨q, hv.ex x, cells_rep x c hc⟩
end
end L3

/-! Core135: regions: reading, changing through a reference, taking in. -/
namespace L3
open PySem PySem.Spec PyProof.Rows L2
section
variable {K : PySem.W.Frag} {Hb Hz H H' : Hp} {Γ : Slots} {σ : L2.St} {i j : Nat} {ps : List Addr} {cs : List Cell} {v : V} {d : D} {p : Addr} {c c' : Cell} {u : HO}
theorem ent_nodup : ∀ {Γ : Slots} {i : Nat} {e : Ent}, Γ[i]? = some e → (owns Γ).Nodup → e.cells.Nodup
  | [], _, _, h, _ => by simp at h
  | x :: r, 0, e, h, hn => by
    simp at h
    subst h
    rw [owns_cons] at hn
    exact (nodup_app.mp hn).1
  | x :: r, i + 1, e, h, hn => by
    rw [owns_cons] at hn
    exact ent_nodup (Γ := r) (i := i) (by simpa using h) (nodup_app.mp hn).2.1
theorem cells_set {u' : HO} (mu : Mu u') : ∀ {ps : List Addr} {us : List HO} {j : Nat}, Cells H ps us → ps.Nodup → ps[j]? = some p → Cells (upd H p u') ps (us.set j u')
  | [], _, _, _, _, h => by simp at h
  | q :: ps, _, 0, .cons (b := u) h r, nd, e => by
    simp at e
    subst e
    refine .cons ⟨upd_same, mu⟩ (Cells.on r fun a u m z _ => ?_)
    rw [upd_ne fun w => (List.nodup_cons.mp nd).1 (by rw [← w]; exact m)]
    exact z
  | q :: ps, _, j + 1, .cons (b := u) h r, nd, e => by
    have e' : ps[j]? = some p := by simpa using e
    refine .cons ⟨?_, h.2⟩ (cells_set mu r (List.nodup_cons.mp nd).2 e')
    rw [upd_ne fun w => (List.nodup_cons.mp nd).1 (by rw [w]; exact List.mem_of_getElem? e')]
    exact h.1
/-- a cell of a region, looked at -/
theorem EnvOk.rgC (h : EnvOk K Hb Γ σ H) (e : Γ[i]? = some (.rg K ps cs v d)) (hj : ps[j]? = some p) (hc : cs[j]? = some c) : ∃ u, H p = some u ∧ CellOk K (hide H (owns Γ)) c u ∧ Lsts H (owns Γ) := by
  obtain ⟨h1, h2, h3, h4⟩ := h.wide
  obtain ⟨o, q, rfl, us, k, n, f⟩ := Paired.getE h3 e
  obtain ⟨u1, z1, z2, _⟩ := Paired.getE k hj
  obtain ⟨u2, y1, y2⟩ := Paired.getE (f _ Ex.refl).1 hc
  rw [z1] at y1
  cases y1
  exact ⟨u1, z2, y2, owns_lsts h3⟩
/-- a cell of a region is changed -/
theorem EnvOk.mutRg (h : EnvOk K Hb Γ σ H) (e : Γ[i]? = some (.rg K ps cs v d)) (hj : ps[j]? = some p) (hn : CellOk K (hide H (owns Γ)) c' u) : EnvOk K Hb (Γ.set i (.rg K ps (cs.set j c') v d)) σ (upd H p u) := by
  obtain ⟨h1, h2, h3, h4⟩ := h.wide
  obtain ⟨o, q, rfl, us, k, n, f⟩ := Paired.getE h3 e
  obtain ⟨u1, z1, z2, mu1⟩ := Paired.getE k hj
  have mp : p ∈ ps := List.mem_of_getElem? hj
  refine h.mutNew e q rfl (fun a m => upd_ne fun z => m (by rw [z]; exact mp)) (Ex.mut h2 (n p mp) (by rw [z2]; cases u1 <;> first | trivial | exact mu1.elim)) ⟨rfl, us.set j u, cells_set hn.mu k (ent_nodup e h4) hj, n, fun Hw x => ⟨Paired.setE (hn.ex x) j (f Hw x).1, (f Hw x).2⟩⟩
end
section
variable {X : Cx} {Hb : Hp} {a b e : Expr} {es : List Expr} {Γ : Slots} {pos p' p2 apos cpos : Pos} {d x : D} {ds : List D} {kds : List (Key × D)} {Q : D → Prop} {fr : Bool} {D0 : Ends} {rest : List Stmt} {xn rn : Str} {ps : List Addr} {cs : List Cell} {v : V} {p : Addr} {j : Nat} {n : Nat} {i : Expr}
/-- looked through a region -/
theorem w_resR (hR : Look X.N Γ rn (.rg X.K ps cs v x)) (h : EvN X Hb e Γ fr fun d => Q (d.resP (cellR ps cs))) : EvN X Hb e Γ false Q := fun σ H en Q' q => by
  obtain ⟨ir, _, hGr⟩ := hR.ix
  exact h σ H en Q' fun v H1 d s x r _ => q v H1 _ s x (r.resP ((en.ex x).rg hGr).2.2) fun z => nomatch z
/-- the carrier, read -/
theorem w_rgv (hR : Look X.N Γ rn (.rg X.K ps cs v x)) (q : Q x) (hv : Vis X.env.scope rn := by first | exact Or.inl rfl | exact Or.inr (Or.inl rfl) | exact Or.inr (Or.inr rfl)) (hd : (rn == ("__debug__" : Str)) = false := by decide) (hcd : (rn == ("__classdict__" : Str)) = false := by decide) : EvN X Hb (.Name rn pos) Γ false Q := fun σ H en Q' qq => by
  obtain ⟨ir, hNr, hGr⟩ := hR.ix
  obtain ⟨hσ, r, _⟩ := en.rg hGr
  exact SemE.of (pe_var hNr hv hd hcd) ⟨_, hσ, qq _ H _ q Ex.refl r fun z => nomatch z⟩
/-- the carrier is made -/
theorem go_rg (hL : Look X.N Γ rn (.dat x)) (nd : X.N.Nodup) {sts : List Stmt} (h : ∀ v, Up1 X.N Γ rn (.rg X.K [] [] v x) fun Γ' => Go X Hb sts D0 Γ') : Go X Hb sts D0 Γ := fun σ H en => by
  obtain ⟨ir, hNr, hGr⟩ := hL.ix
  obtain ⟨v, en'⟩ := en.toRg hGr
  obtain ⟨Γ', hu, g⟩ := h v
  rw [Up.same nd hNr hu] at g
  exact g σ H en'
/-- x.append(e), x a reference into the region -/
theorem s_rgApp (hL : Look X.N Γ xn (.dat (.ptr p))) (hR : Look X.N Γ rn (.rg X.K ps cs v x)) (hj : ps[j]? = some p) (hc : cs[j]? = some (.lst ds)) (h : EvN X Hb e Γ false fun d => d.flat = true ∧ Up1 X.N Γ rn (.rg X.K ps (cs.set j (.lst (ds ++ [d]))) v x) fun Γ' => Go X Hb rest D0 Γ') (nd : X.N.Nodup) (hl : ds.length ≤ 100000)
    (hv : Vis X.env.scope xn := by first | exact Or.inl rfl | exact Or.inr (Or.inl rfl) | exact Or.inr (Or.inr rfl)) (hdb : (xn == ("__debug__" : Str)) = false := by decide) (hcd : (xn == ("__classdict__" : Str)) = false := by decide)
    (hbase : attributeBase (.Name xn p') "append" X.env (eval (.Name xn p') X.env) = eval (.Name xn p') X.env := by rfl)
    (hfew : ((backTo cpos (starEach (e :: []) X.env)).all (fun x => !x.1) && (backToKw cpos (keywordEach [] X.env)).all (fun x => x.1.isSome) && decide ((e :: []).length + ([] : List Keyword).length + (if ([] : List Keyword).isEmpty then 0 else 1) < 30)) = true := by rfl)
    (hline : (apos.endLine == cpos.line) = true := by rfl) (hs : starEach (e :: []) X.env = (false, eval e X.env) :: starEach [] X.env := by rfl) (hplain : (backTo cpos (starEach [] X.env)).any (·.1) = false := by rfl)
    (hsw : swapsWith (.Call (.Attribute (.Name xn p') "append" apos) [e] [] cpos) none pos.line X.env = pure false := by rfl) :
    Go X Hb (.Expr (.Call (.Attribute (.Name xn p') "append" apos) [e] [] cpos) pos :: rest) D0 Γ := fun σ H en => by
  obtain ⟨i, hN, hG⟩ := hL.ix
  obtain ⟨ir, hNr, hGr⟩ := hR.ix
  obtain ⟨w, hσ, rp⟩ := en.dat hG
  cases rp
  obtain ⟨_, hl1, ⟨vs0, rfl, _⟩, _⟩ := en.rgC hGr hj hc
  refine SemSs.cons (ps_expr (pe_bm PySem.F.plainAttrs_list PySem.F.slot_list_append PySem.F.type_list_append mt_append (pe_var hN hv hdb hcd) (pa_cons (semE X e) pa_nil hs) hbase hfew hline hs hplain) hsw) ?_
  refine ⟨_, hσ, .inl ⟨rfl, _, SqL.of hl1⟩, h σ H en _ fun y H' d ⟨hf, Γ', hu, g⟩ x1 r _ => ?_⟩
  have en' := en.ex x1
  obtain ⟨_, hl2, ⟨ws, rfl, rw⟩, ls⟩ := en'.rgC hGr hj hc
  refine ⟨p, ws, y, rfl, rfl, hl2, by rw [rw.length]; exact Nat.lt_of_le_of_lt hl (by decide), ?_⟩
  rw [Up.same nd hNr hu] at g
  exact g σ _ (en'.mutRg hGr hj ⟨_, rfl, rw.append (.cons (r.hide ls hf) .nil)⟩)
/-- x[k] = e, x a reference into the region -/
theorem s_rgPut (hr : Room n X.A) (hL : Look X.N Γ xn (.dat (.ptr p))) (hR : Look X.N Γ rn (.rg X.K ps cs v x)) (hj : ps[j]? = some p) (hc : cs[j]? = some (.dct kds)) (h : EvN X Hb e Γ false fun d => d.flat = true ∧ EvN X Hb i Γ false fun z => ∃ k, z = kD k ∧ Up1 X.N Γ rn (.rg X.K ps (cs.set j (.dct (putD kds k d))) v x) fun Γ' => Go X Hb rest D0 Γ') (nd : X.N.Nodup) (hl : kds.length ≤ 100000)
    (hv : Vis X.env.scope xn := by first | exact Or.inl rfl | exact Or.inr (Or.inl rfl) | exact Or.inr (Or.inr rfl)) (hdb : (xn == ("__debug__" : Str)) = false := by decide) (hcd : (xn == ("__classdict__" : Str)) = false := by decide)
    (hs : swapsWith e (some (.Subscript (.Name xn p') i p2)) pos.line X.env = pure false := by rfl) :
    Go X Hb (.Assign [.Subscript (.Name xn p') i p2] e pos :: rest) D0 Γ := fun σ H en => by
  obtain ⟨i0, hN, hG⟩ := hL.ix
  obtain ⟨ir, hNr, hGr⟩ := hR.ix
  refine SemSs.cons (ps_dput (hu_of hr) (pe_var hN hv hdb hcd) (semE X i) (semE X e) hs) ?_
  refine h σ H en _ fun v H1 d1 ⟨fl, h2⟩ x1 r1 _ => ?_
  obtain ⟨w, hσ, rp⟩ := en.dat hG
  cases rp
  refine ⟨_, hσ, h2 σ H1 (en.ex x1) _ fun y H2 z ⟨k, ez, Γ1, hu, g⟩ x2 r2 _ => ?_⟩
  subst ez
  have en2 := (en.ex x1).ex x2
  obtain ⟨_, hp, ⟨kvs, rfl, rk⟩, ls⟩ := en2.rgC hGr hj hc
  have ey : y = kV k := by
    cases k with
    | inl i => cases r2; rfl
    | inr z => cases r2; rfl
  subst ey
  refine ⟨p, _, rfl, DPut.k hp (by rw [rk.length]; exact Nat.lt_of_le_of_lt hl (by decide)), ?_⟩
  rw [Up.same nd hNr hu] at g
  exact g σ _ (en2.mutRg hGr hj ⟨_, rfl, rk.put ((r1.ex x2).hide ls fl)⟩)
/-- what an expression gives, and what it leaves in the slots (all that stood stands) -/
def EvX (X : Cx) (Hb : Hp) (e : Expr) (Γ : Slots) (S : D → Slots → Prop) : Prop := ∀ σ H, EnvOk X.K Hb Γ σ H → ∀ Q : VK, (∀ v H' d Γ', S d Γ' → Ex H H' → EnvOk X.K Hb Γ' σ H' → Rep X.K H' v d → Q v H') → SemE X e σ H Q
def EvXA (X : Cx) (Hb : Hp) (es : List Expr) (Γ : Slots) (S : List D → Slots → Prop) : Prop := ∀ σ H, EnvOk X.K Hb Γ σ H → ∀ Q : List V → Hp → Prop, (∀ vs H' ds Γ', S ds Γ' → Ex H H' → EnvOk X.K Hb Γ' σ H' → RepAll X.K H' vs ds → Q vs H') → SemA X es σ H Q
theorem evx_of {S : D → Slots → Prop} (h : EvN X Hb e Γ fr fun d => S d Γ) : EvX X Hb e Γ S := fun σ H en Q q => h σ H en Q fun v H1 d s x r _ => q v H1 d Γ s x (en.ex x) r
theorem evx_nil {S : List D → Slots → Prop} (q : S [] Γ) : EvXA X Hb [] Γ S := fun σ H en Q k => SemA.of pa_nil (k [] H [] Γ q Ex.refl en .nil)
theorem evx_cons {S : List D → Slots → Prop} (h : EvX X Hb e Γ fun d Γ1 => EvXA X Hb es Γ1 fun ds Γ2 => S (d :: ds) Γ2) (hs : starEach (e :: es) X.env = (false, eval e X.env) :: starEach es X.env := by rfl) : EvXA X Hb (e :: es) Γ S := fun σ H en Q k =>
  SemA.of (pa_cons (semE X e) (semA X es) hs) (h σ H en _ fun v H1 d Γ1 s1 x1 en1 r1 => s1 σ H1 en1 _ fun vs H2 ds Γ2 s2 x2 en2 r2 => k _ H2 _ Γ2 s2 (x1.trans x2) en2 (.cons (r1.ex x2) r2))
/-- a display, by value -/
theorem evx_lst {S : D → Slots → Prop} (h : EvXA X Hb es Γ fun ds Γ1 => ds.length ≤ 1000 ∧ S (.lst ds) Γ1) : EvX X Hb (.List es pos) Γ S := fun σ H en Q q =>
  SemE.of (pe_lst (semA X es)) (h σ H en _ fun vs H1 ds Γ1 s x1 en1 r => ⟨by rw [r.length]; exact Nat.le_trans s.1 (by decide), fun p hp => q _ _ _ Γ1 s.2 (x1.trans (Ex.new hp)) (en1.ex (Ex.new hp)) (.lst (SqL.of upd_same) (r.ex (Ex.new hp)))⟩)
theorem evx_tup {S : D → Slots → Prop} {k : Nat} (h : EvXA X Hb es Γ fun ds Γ1 => ds.length ≤ 1000 ∧ S (.tup ds) Γ1) : EvX X Hb (.Tuple es k pos) Γ S := fun σ H en Q q =>
  SemE.of (pe_tup (semA X es)) (h σ H en _ fun vs H1 ds Γ1 s x1 en1 r => ⟨by rw [r.length]; exact Nat.le_trans s.1 (by decide), fun p hp => q _ _ _ Γ1 s.2 (x1.trans (Ex.new hp)) (en1.ex (Ex.new hp)) (.tup (SqT.of upd_same) (r.ex (Ex.new hp)))⟩)
/-- what is to be taken in: a cell behind the others, at any new place -/
def TakeIn (X : Cx) (Γ : Slots) (rn : Str) (c : Cell) (S : D → Slots → Prop) : Prop := ∃ ps cs v x, Look X.N Γ rn (.rg X.K ps cs v x) ∧ ∀ p, p ∉ ps → Up1 X.N Γ rn (.rg X.K (ps ++ [p]) (cs ++ [c]) v x) fun Γ' => S (.ptr p) Γ'
/-- a display, taken into the region -/
theorem evx_lstR {S : D → Slots → Prop} (rn : Str) (nd : X.N.Nodup) (h : EvXA X Hb es Γ fun ds Γ1 => ds.length ≤ 1000 ∧ D.flatAll ds = true ∧ TakeIn X Γ1 rn (.lst ds) S) : EvX X Hb (.List es pos) Γ S := fun σ H en Q q =>
  SemE.of (pe_lst (semA X es)) (h σ H en _ fun vs H1 ds Γ1 ⟨hl, hf, ps, cs, v, x, hR, s⟩ x1 en1 r => ⟨by rw [r.length]; exact Nat.le_trans hl (by decide), fun p hp => by
    obtain ⟨ir, hNr, hGr⟩ := hR.ix
    obtain ⟨Γ2, hu, g⟩ := s p fun m => by
      obtain ⟨_, _, lp, _⟩ := en1.resW hGr
      obtain ⟨u, z, _⟩ := lp p m
      rw [hp] at z; cases z
    rw [Up.same nd hNr hu] at g
    exact q _ _ _ _ g (x1.trans (Ex.new hp)) (en1.adoptL hGr hp (Ex.new hp) upd_same (r.ex (Ex.new hp)) hf) (.ptr p)⟩)
/-- a new dict, taken into the region -/
theorem evx_dctR {S : D → Slots → Prop} (rn : Str) (nd : X.N.Nodup) (h : EvN X Hb e Γ true fun d => ∃ kds, d = .dct kds ∧ D.flatKV kds = true ∧ TakeIn X Γ rn (.dct kds) S) : EvX X Hb e Γ S := fun σ H en Q q =>
  h σ H en _ fun w H1 d ⟨kds, ed, hf, ps, cs, v, x, hR, s⟩ x1 r f => by
    subst ed
    obtain ⟨p, kvs, rfl, hp, h1, rk⟩ := f rfl
    obtain ⟨ir, hNr, hGr⟩ := hR.ix
    obtain ⟨Γ2, hu, g⟩ := s p fun m => by
      obtain ⟨_, _, lp, _⟩ := en.resW hGr
      obtain ⟨u, z, _⟩ := lp p m
      rw [hp] at z; cases z
    rw [Up.same nd hNr hu] at g
    exact q _ _ _ _ g x1 (en.adoptD hGr hp x1 h1 rk hf) (.ptr p)
/-- f(..), the arguments taking in -/
theorem evx_call {S : D → Slots → Prop} {y : Str} {pn : Pos} {k k' : Nat} {P : Pr} (F : FnP X.prog X.w X.K X.mg X.base y k P) (hr : Room k' X.A) (hA : EvXA X Hb (e :: es) Γ fun ds Γ1 => Cl P ds fun d => S d Γ1)
    (hk : k ≤ k' := by decide) (hg : Gl X y := by rfl) (hdb : (y == ("__debug__" : Str)) = false := by decide) (he : starEach (e :: es) X.env = (false, eval e X.env) :: starEach es X.env := by rfl) (hpl : (backTo pos (starEach es X.env)).any (·.1) = false := by rfl) :
    EvX X Hb (.Call (.Name y pn) (e :: es) [] pos) Γ S := fun σ H en Q q => by
  obtain ⟨f, fd, ps, G, hm, hkp, hb, _⟩ := F.ex
  refine SemE.of (pe_call G (hr.mono hk) hg hm hkp hb .nil pass0 (semA X (e :: es)) hdb he hpl) (hA σ H en _ fun vs H1 ds Γ1 ⟨S0, hS0, hS⟩ x1 en1 r => ?_)
  show spN _ _ (vs ++ []) H1 Q E0
  rw [List.append_nil]
  exact ⟨en1.tb.ex en1.base, ds, S0, r, hS0, fun v H' d s0 x2 r2 f2 => q v H' d Γ1 (hS d s0) (x1.trans x2) (en1.ex x2) r2⟩
end
end L3

/-! Core136: statements whose expressions take in: x = e, x, y = a, b, for x in [..]. -/
namespace L3
open PySem PySem.Spec PyProof.Rows L2
/-- a list of its own that is gone over, behind what was taken in -/
def EvXI (X : Cx) (Hb : Hp) (e : Expr) (Γ : Slots) (S : List D → Slots → Prop) : Prop := ∀ σ H, EnvOk X.K Hb Γ σ H → ∀ Q : VK, (∀ a vs H' ds Γ1, S ds Γ1 → Ex H H' → EnvOk X.K Hb Γ1 σ H' → SqL X.K (hide H' (owns Γ1)) a vs → RepAll X.K (hide H' (owns Γ1)) vs ds → Q (.ref a) H') → SemE X e σ H Q
section
variable {X : Cx} {Hb : Hp} {a b e tg : Expr} {es : List Expr} {Γ : Slots} {pos p' : Pos} {D0 : Ends} {rest body : List Stmt} {xn yn : Str}
theorem evxi_lst {S : List D → Slots → Prop} (h : EvXA X Hb es Γ fun ds Γ1 => ds.length ≤ 1000 ∧ D.flatAll ds = true ∧ S ds Γ1) : EvXI X Hb (.List es pos) Γ S := fun σ H en Q q =>
  SemE.of (pe_lst (semA X es)) (h σ H en _ fun vs H1 ds Γ1 ⟨hl, hf, s⟩ x1 en1 r => ⟨by rw [r.length]; exact Nat.le_trans hl (by decide), fun p hp => by
    have xn := Ex.new (o := .lst vs) hp
    have en2 := en1.ex xn
    have ls : Lsts (upd H1 p (.lst vs)) (owns Γ1) := owns_lsts en2.wide.2.2.1
    have np : p ∉ owns Γ1 := fun m => by
      obtain ⟨u, z, _⟩ := owns_lsts en1.wide.2.2.1 p m
      rw [hp] at z; cases z
    exact q p vs _ ds Γ1 s (x1.trans xn) en2 (SqL.of (by rw [hide_out np]; exact upd_same)) ((r.ex xn).hide ls hf)⟩)
theorem go_forX (t : Tg) {S1 : List D → Slots → Prop} (I : List D → Nat → Slots → Prop) (hit : EvXI X Hb e Γ S1) (h0 : ∀ ds Γ1, S1 ds Γ1 → I ds 0 Γ1)
    (hs : ∀ Hb', Ex Hb Hb' → ∀ ds i x Γ', ds[i]? = some x → I ds i Γ' → ∃ Γ2, Put t x Γ' Γ2 ∧ Go X Hb' body { D0 with nx := Btw X Hb' (I ds (i + 1)), ct := Btw X Hb' (I ds (i + 1)), bk := fun σ H => SemSs X rest D0 σ H } Γ2)
    (hd : ∀ ds Γ', I ds ds.length Γ' → Go X Hb rest D0 Γ') (hp : PassesOwn (model X.prog X.w) X.A X.env X.xe) (hc : X.calm = true) (hg : PG X tg (t.g X.K))
    (hfs : ∀ x, foldedSetIterable e X.env x = pure x := by intro _; rfl) :
    Go X Hb (.For tg e body [] pos :: rest) D0 Γ := fun σ H en => by
  refine SemSs.cons (ps_for hp hc (pi_list (semE X e)) hg (semSs X body) hfs) ?_
  refine hit σ H en _ fun a vs H' ds Γ1 s x en' hq ra => ⟨a, rfl, ⟨_, SqL.ex hide_ex hq⟩, ?_⟩
  obtain ⟨G, Y, w, hG, hY⟩ := jt_list hq ra
  have eb : Ex Hb (hide H' (owns Γ1)) := en'.wide.1.toEx
  refine for_it w (fun i σ H => Btw X (hide H' (owns Γ1)) (I ds i) σ H) ⟨Γ1, h0 ds Γ1 s, ⟨_, en'.wide.1.self, en'.wide.2⟩⟩ (fun i σ H _ ⟨Γ', _, en2⟩ => hG _ en2.base) ?_ ?_
  · rintro i v σ2 H2 H3 hi ⟨Γ', hI, en2⟩ y
    obtain ⟨x3, d, hd, r⟩ := hY i H2 v H3 hi en2.base y
    obtain ⟨Γ2, hput, go⟩ := hs _ eb ds i d Γ' hd hI
    exact put_ok (own := t.slots) hput (fun _ m => m) (en2.ex x3) r _ fun σ' en' _ => go σ' H3 en'
  · rintro σ2 H2 ⟨Γ', hI, en2⟩
    exact hd ds Γ' hI _ H2 (en2.wb en'.wide.1)
/-- for x in [..], the elements taken in; the state s, the slots G s -/
theorem s_forX {β : Type} {Γe : β → D → Slots} {i : Nat} (G : β → Slots) (J : List D → Nat → β → Prop) (hit : EvXI X Hb e Γ fun ds Γ1 => ∃ s, J ds 0 s ∧ Γ1 = G s)
    (hs : ∀ Hb', Ex Hb Hb' → ∀ ds n x s, ds[n]? = some x → J ds n s → Go X Hb' body { D0 with nx := Btw X Hb' (fun Γ' => ∃ s', J ds (n + 1) s' ∧ Γ' = G s'), ct := Btw X Hb' (fun Γ' => ∃ s', J ds (n + 1) s' ∧ Γ' = G s'), bk := fun σ H => SemSs X rest D0 σ H } (Γe s x))
    (hd : ∀ ds s, J ds ds.length s → Go X Hb rest D0 (G s)) (hfl : ∀ ds n x s, ds[n]? = some x → J ds n s → x.flat = true) (hi : At X.N xn i := by walk_at "ati") (hu : ∀ s x, Up X.N (G s) xn (.dat x) (Γe s x) := by intro _ _; walk_at "up") (nd : X.N.Nodup := by assumption)
    (hp : PassesOwn (model X.prog X.w) X.A X.env X.xe := by exact PassesOwn.never) (hc : X.calm = true := by rfl) (hx : Loc X.env.scope xn := by first | exact Or.inl rfl | exact Or.inr rfl)
    (hfs : ∀ x, foldedSetIterable e X.env x = pure x := by intro _; rfl) (hf : X.fn xn = true ∨ X.env.scope.names.lookup xn = some .local := by first | exact .inl rfl | exact .inr rfl) :
    Go X Hb (.For (.Name xn p') e body [] pos :: rest) D0 Γ := by
  refine go_forX (.nm i) (fun ds n Γ' => ∃ s, J ds n s ∧ Γ' = G s) hit (fun _ _ h => h) (fun Hb' eb ds n x Γ' hx' hI => ?_) (fun ds Γ' hI => ?_) hp hc (pg_name nd hi.ix hx hf) hfs
  · obtain ⟨s, hI, rfl⟩ := hI
    refine ⟨(G s).set i (.dat x), ⟨.inl (hfl ds n x s hx' hI), rfl⟩, ?_⟩
    rw [up_set nd hi.ix (hu s x)]
    exact hs Hb' eb ds n x s hx' hI
  · obtain ⟨s, hI, rfl⟩ := hI
    exact hd ds s hI
/-- x, y = a, b -/
theorem s_parX {px py pt : Pos} {kt k2 : Nat} {pt2 : Pos} (h : EvX X Hb a Γ fun d1 Γ1 => EvX X Hb b Γ1 fun d2 Γ2 => d1.flat = true ∧ d2.flat = true ∧ Up1 X.N Γ2 xn (.dat d1) fun Γ3 => Up1 X.N Γ3 yn (.dat d2) fun Γ4 => Go X Hb rest D0 Γ4)
    (nd : X.N.Nodup) (hL : Has X.N xn) (hL2 : Has X.N yn) (hne : xn ≠ yn) (hw : swappedStores [.Tuple [.Name xn px, .Name yn py] kt pt] (.Tuple [a, b] k2 pt2) X.env = pure (some [xn, yn])) (hc : X.calm = true := by rfl)
    (hx : X.env.scope.names.lookup xn = some .local := by rfl) (hy : X.env.scope.names.lookup yn = some .local := by rfl)
    (hsw : swapsWithSole [.Tuple [.Name xn px, .Name yn py] kt pt] (.Tuple [a, b] k2 pt2) pos.line X.env = pure false := by rfl) (hs : starEach (a :: [b]) X.env = (false, eval a X.env) :: starEach [b] X.env := by rfl) (hs2 : starEach (b :: []) X.env = (false, eval b X.env) :: starEach [] X.env := by rfl) :
    Go X Hb (.Assign [.Tuple [.Name xn px, .Name yn py] kt pt] (.Tuple [a, b] k2 pt2) pos :: rest) D0 Γ := fun σ H en => by
  obtain ⟨i, hi⟩ := hL.ix
  obtain ⟨j, hj⟩ := hL2.ix
  have hij : i ≠ j := fun z => by subst z; rw [hi] at hj; exact hne (Option.some.inj hj)
  refine SemSs.cons (ps_par hc nd hi hj hij hx hy (pa_cons (semE X a) (pa_cons (semE X b) pa_nil hs2) hs) hw hsw) (h σ H en _ fun v1 H1 d1 Γ1 s1 x1 en1 r1 => s1 σ H1 en1 _ fun v2 H2 d2 Γ2 ⟨f1, f2, Γ3, hu1, Γ4, hu2, g⟩ x2 en2 r2 => ?_)
  rw [Up.same nd hi hu1] at hu2
  rw [Up.same nd hj hu2] at g
  exact ⟨_, _, rfl, g _ H2 ((en2.setDat (r1.ex x2) (.inl f1)).setDat r2 (.inl f2))⟩
end
end L3

/-! Core137: regions: a list of one's own made behind what is taken in; one look through a reference; what a region holds of values of some kinds. -/
namespace L3
open PySem PySem.Spec PyProof.Rows L2
section
variable {X : Cx} {Hb : Hp} {a b e tg : Expr} {es : List Expr} {Γ : Slots} {pos p' lp : Pos} {D0 : Ends} {rest body : List Stmt} {xn rn : Str} {ps : List Addr} {cs : List Cell} {v : V} {x : D} {Q : D → Prop} {fr : Bool}
/-- x = [..], a list of one's own -/
theorem s_setXO (h : EvXA X Hb es Γ fun ds Γ1 => ds.length ≤ 1000 ∧ D.flatAll ds = true ∧ ∀ p, Up1 X.N Γ1 xn (.own p ds) fun Γ' => Go X Hb rest D0 Γ') (nd : X.N.Nodup) (hL : Has X.N xn) (hx : Loc X.env.scope xn := by first | exact Or.inl rfl | exact Or.inr rfl)
    (hsw : swapsWith (.List es lp) (some (.Name xn p')) pos.line X.env = pure false := by rfl) (hf : X.fn xn = true ∨ X.env.scope.names.lookup xn = some .local := by first | exact .inl rfl | exact .inr rfl) : Go X Hb (.Assign [.Name xn p'] (.List es lp) pos :: rest) D0 Γ := fun σ H en => by
  obtain ⟨i, hi⟩ := hL.ix
  refine SemSs.cons (ps_set nd hi hx (semE X (.List es lp)) hsw hf) (SemE.of (pe_lst (semA X es)) (h σ H en _ fun vs H1 ds Γ1 ⟨hl, fl, s⟩ x1 en1 r => ⟨by rw [r.length]; exact Nat.le_trans hl (by decide), fun p hp => ?_⟩))
  obtain ⟨Γ', hu, g⟩ := s p
  rw [Up.same nd hi hu] at g
  exact g _ _ (en1.setOwn hp (Ex.new hp) upd_same (r.ex (Ex.new hp)) fl)
end
/-- a region's cell is found by its place -/
theorem cellR_at : ∀ {ps : List Addr} {cs : List Cell} {j : Nat} {p : Addr} {c : Cell}, ps.Nodup → ps[j]? = some p → cs[j]? = some c → cellR ps cs p = some c.d
  | [], _, _, _, _, _, h, _ => by simp at h
  | _ :: _, [], _, _, _, _, _, h => by simp at h
  | q :: ps, k :: cs, 0, p, c, nd, h1, h2 => by
    simp at h1 h2
    subst h1 h2
    unfold cellR
    rw [if_pos rfl]
  | q :: ps, k :: cs, j + 1, p, c, nd, h1, h2 => by
    have h1' : ps[j]? = some p := by simpa using h1
    unfold cellR
    rw [if_neg fun z => (List.nodup_cons.mp nd).1 (by rw [z]; exact List.mem_of_getElem? h1')]
    exact cellR_at (List.nodup_cons.mp nd).2 h1' (by simpa using h2)
/-- nothing behind it: a number, a text, a truth value, None -/
def Sca : D → Bool
  | .non | .bl _ | .int _ | .str _ => true
  | _ => false
theorem resP_sca {f : Addr → Option D} {d : D} (h : Sca d = true) : d.resP f = d := by
  cases d with
  | non => rw [D.resP]
  | bl b => rw [D.resP]
  | int i => rw [D.resP]
  | str x => rw [D.resP]
  | _ => exact absurd h Bool.false_ne_true
theorem resPAll_map {f : Addr → Option D} : ∀ ds : List D, D.resPAll f ds = ds.map (D.resP f)
  | [] => by rw [D.resPAll]; rfl
  | d :: ds => by rw [D.resPAll, resPAll_map ds]; rfl
theorem resPKV_map {f : Addr → Option D} : ∀ ds : List (Key × D), D.resPKV f ds = ds.map fun q => (q.1, q.2.resP f)
  | [] => by rw [D.resPKV]; rfl
  | (k, d) :: ds => by rw [D.resPKV, resPKV_map ds]; rfl
theorem resPAll_sca {f : Addr → Option D} {ds : List D} (h : ∀ d ∈ ds, Sca d = true) : D.resPAll f ds = ds := by
  rw [resPAll_map]
  conv => rhs; rw [← List.map_id ds]
  exact List.map_congr_left fun d m => resP_sca (h d m)
end L3

/-! Core138: what the cells of a region hold (small things, in lists and dicts), and what is shown of them. -/
namespace L3
open PySem PySem.Spec PyProof.Rows L2
/-! dicts shown -/
theorem okKV_all {kds : List (Key × D)} (h : ∀ q ∈ kds, q.2.ok = true) : (D.dct kds).ok = true := by
  rw [D.ok]
  induction kds with
  | nil => rfl
  | cons q r ih =>
    obtain ⟨k, d⟩ := q
    rw [D.okKV, h (k, d) List.mem_cons_self, ih fun x m => h x (List.mem_cons_of_mem _ m)]
    rfl
theorem lenKV2 {a b : Nat} : ∀ kvs : List (PyData × PyData), (∀ p ∈ kvs, p.1.shown.length ≤ a ∧ p.2.shown.length ≤ b) → ((PyData.shownKv kvs).map (·.length)).sum ≤ (a + 2 + b) * kvs.length
  | [], _ => by rw [PyData.shownKv]; exact Nat.zero_le _
  | (k, v) :: r, h => by
    have h2 := lenKV2 r fun x m => h x (List.mem_cons_of_mem _ m)
    obtain ⟨h3, h4⟩ := h (k, v) List.mem_cons_self
    have e : (k.shown ++ ": " ++ v.shown : Str).length = k.shown.length + 2 + v.shown.length := by rw [strLen_append, strLen_append]; rfl
    rw [PyData.shownKv, List.map_cons, List.sum_cons, List.length_cons, Nat.mul_succ, e]
    simp only at h3 h4
    omega
theorem pyKV_mapD : ∀ kvs : List (Key × D), D.pyKV kvs = kvs.map fun q => (keyP q.1, q.2.py)
  | [] => by rw [D.pyKV]; rfl
  | (k, d) :: r => by rw [D.pyKV, pyKV_mapD r]; rfl
/-- a key that may be shown -/
def KeyS (a : Nat) (k : Key) : Prop := (keyP k).showable = true ∧ (keyP k).depth = 0 ∧ (keyP k).shown.length ≤ a
theorem shm_dctK {n c : Nat} {kvs : List (Key × D)} (hk : ∀ q ∈ kvs, KeyS 100 q.1) (h : ∀ q ∈ kvs, ShM n c q.2) : ShM (n + 1) ((104 + c) * kvs.length + 3) (.dct kvs) := by
  have hpy : (D.dct kvs).py = .dict (kvs.map fun q => (keyP q.1, q.2.py)) := by rw [D.py, pyKV_mapD]
  refine ⟨okKV_all fun q m => (h q m).ok, ?_, ?_, ?_⟩
  · rw [hpy, PyData.showable]
    clear hpy
    induction kvs with
    | nil => rfl
    | cons q r ih =>
      rw [List.map_cons, PyData.showableKv, ih (fun x m => hk x (List.mem_cons_of_mem _ m)) fun x m => h x (List.mem_cons_of_mem _ m), (h q List.mem_cons_self).can, (hk q List.mem_cons_self).1]
      rfl
  · rw [hpy, PyData.depth]
    refine Nat.succ_le_succ ?_
    clear hpy
    induction kvs with
    | nil => exact Nat.zero_le _
    | cons q r ih =>
      rw [List.map_cons, PyData.depthKv]
      refine Nat.max_le.mpr ⟨Nat.max_le.mpr ⟨by rw [(hk q List.mem_cons_self).2.1]; exact Nat.zero_le _, (h q List.mem_cons_self).deep⟩, ih (fun x m => hk x (List.mem_cons_of_mem _ m)) fun x m => h x (List.mem_cons_of_mem _ m)⟩
  · rw [hpy, PyData.shown]
    have e1 := lenKV2 (a := 100) (b := c) (kvs.map fun q => (keyP q.1, q.2.py)) fun p hp => by
      obtain ⟨x, hx, rfl⟩ := List.mem_map.mp hp
      exact ⟨(hk x hx).2.2, (h x hx).len⟩
    have e3 : (PyData.shownKv (kvs.map fun q => (keyP q.1, q.2.py))).length = kvs.length := by rw [PyData.shownKv_length, List.length_map]
    have e2 := dictText_len_le (PyData.shownKv (kvs.map fun q => (keyP q.1, q.2.py)))
    rw [List.length_map] at e1
    rw [e3] at e2
    have e6 : (104 + c) * kvs.length = (100 + 2 + c) * kvs.length + 2 * kvs.length := by rw [← Nat.add_mul]; congr 1; omega
    rw [e6]
    omega
/-! what is held -/
/-- a small thing without parts -/
def Smd (d : D) : Prop := Sca d = true ∧ ShM 1 200 d
/-- a reference to a list of the region -/
def LstAt (ps : List Addr) (cs : List Cell) (d : D) : Prop := ∃ (p : Addr) (j : Nat) (xs : List D), d = .ptr p ∧ ps[j]? = some p ∧ cs[j]? = some (.lst xs)
def CellV (n : Nat) (ps : List Addr) (cs : List Cell) : Cell → Prop
  | .lst xs => xs.length ≤ 3 + n ∧ ∀ x ∈ xs, Smd x
  | .dct kds => ∃ d, (Smd d ∨ LstAt ps cs d) ∧ (kds = [(.inr "a", d)] ∨ kds = [(.inr "a", d), (.inr "spoilt", .int 2)])
/-- the cells of a region, behind n changes -/
structure Rg (n : Nat) (ps : List Addr) (cs : List Cell) : Prop where
  nd : ps.Nodup
  len : ps.length = cs.length
  ok : ∀ c ∈ cs, CellV n ps cs c
/-- what may be chosen -/
def ValV (ps : List Addr) (cs : List Cell) (d : D) : Prop := Smd d ∨ (∃ xs, d = .tup xs ∧ xs.length ≤ 3 ∧ ∀ x ∈ xs, Smd x ∨ LstAt ps cs x) ∨ ∃ (p : Addr) (j : Nat) (c : Cell), d = .ptr p ∧ ps[j]? = some p ∧ cs[j]? = some c
/-- the region goes on: what stood stands, of its kind -/
def Gr (ps : List Addr) (cs : List Cell) (ps' : List Addr) (cs' : List Cell) : Prop := ∀ (j : Nat) (p : Addr) (c : Cell), ps[j]? = some p → cs[j]? = some c → ps'[j]? = some p ∧ ∃ c', cs'[j]? = some c' ∧ ((∃ xs, c = .lst xs) → ∃ xs, c' = .lst xs) ∧ ((∃ xs, c = .dct xs) → ∃ xs, c' = .dct xs)
section
variable {n j : Nat} {ps ps' ps2 : List Addr} {cs cs' cs2 : List Cell} {d : D} {p : Addr} {c c' : Cell} {xs : List D} {kds : List (Key × D)}
theorem Gr.rfl' : Gr ps cs ps cs := fun j p c h1 h2 => ⟨h1, c, h2, id, id⟩
theorem Gr.trans (g : Gr ps cs ps' cs') (g2 : Gr ps' cs' ps2 cs2) : Gr ps cs ps2 cs2 := fun j p c h1 h2 => by
  obtain ⟨k1, c1, k2, k3, k4⟩ := g j p c h1 h2
  obtain ⟨l1, c2, l2, l3, l4⟩ := g2 j p c1 k1 k2
  exact ⟨l1, c2, l2, fun z => l3 (k3 z), fun z => l4 (k4 z)⟩
theorem Gr.snoc (hl : ps.length = cs.length) : Gr ps cs (ps ++ [p]) (cs ++ [c]) := fun j q k h1 h2 =>
  ⟨by rw [List.getElem?_append_left (List.getElem?_eq_some_iff.mp h1).1]; exact h1, k, by rw [List.getElem?_append_left (List.getElem?_eq_some_iff.mp h2).1]; exact h2, id, id⟩
theorem Gr.setL (h : cs[j]? = some (.lst xs)) {ys : List D} : Gr ps cs ps (cs.set j (.lst ys)) := fun i q k h1 h2 => by
  by_cases z : j = i
  · subst z
    rw [h] at h2
    cases h2
    exact ⟨h1, .lst ys, by rw [List.getElem?_set_self (List.getElem?_eq_some_iff.mp h).1], fun _ => ⟨ys, rfl⟩, fun ⟨_, e⟩ => nomatch e⟩
  · exact ⟨h1, k, by rw [List.getElem?_set_ne z]; exact h2, id, id⟩
theorem Gr.setD (h : cs[j]? = some (.dct kds)) {ys : List (Key × D)} : Gr ps cs ps (cs.set j (.dct ys)) := fun i q k h1 h2 => by
  by_cases z : j = i
  · subst z
    rw [h] at h2
    cases h2
    exact ⟨h1, .dct ys, by rw [List.getElem?_set_self (List.getElem?_eq_some_iff.mp h).1], (fun ⟨_, e⟩ => nomatch e), fun _ => ⟨ys, rfl⟩⟩
  · exact ⟨h1, k, by rw [List.getElem?_set_ne z]; exact h2, id, id⟩
theorem LstAt.gr (h : LstAt ps cs d) (g : Gr ps cs ps' cs') : LstAt ps' cs' d := by
  obtain ⟨p, j, xs, rfl, h1, h2⟩ := h
  obtain ⟨k1, c1, k2, k3, _⟩ := g j p _ h1 h2
  obtain ⟨ys, rfl⟩ := k3 ⟨xs, rfl⟩
  exact ⟨p, j, ys, rfl, k1, k2⟩
theorem ValV.gr (h : ValV ps cs d) (g : Gr ps cs ps' cs') : ValV ps' cs' d := by
  rcases h with h | ⟨xs, e, hl, h⟩ | ⟨p, j, c, e, h1, h2⟩
  · exact .inl h
  · exact .inr (.inl ⟨xs, e, hl, fun x m => (h x m).imp id fun z => z.gr g⟩)
  · obtain ⟨k1, c1, k2, _⟩ := g j p _ h1 h2
    exact .inr (.inr ⟨p, j, c1, e, k1, k2⟩)
theorem CellV.gr {m : Nat} (h : CellV n ps cs c) (g : Gr ps cs ps' cs') (hm : n ≤ m) : CellV m ps' cs' c := by
  cases c with
  | lst xs => exact ⟨Nat.le_trans h.1 (by omega), h.2⟩
  | dct kds => obtain ⟨d, hd, e⟩ := h; exact ⟨d, hd.imp id fun z => z.gr g, e⟩
theorem Rg.snoc (h : Rg n ps cs) (hp : p ∉ ps) (hc : CellV n (ps ++ [p]) (cs ++ [c]) c) : Rg n (ps ++ [p]) (cs ++ [c]) := by
  refine ⟨nodup_app.mpr ⟨h.nd, by simp, fun a m z => hp (List.mem_singleton.mp z ▸ m)⟩, by rw [List.length_append, List.length_append, h.len]; rfl, fun k m => ?_⟩
  rcases List.mem_append.mp m with m | m
  · exact (h.ok k m).gr (Gr.snoc h.len) (Nat.le_refl _)
  · rw [List.mem_singleton.mp m]; exact hc
theorem Rg.mono {m : Nat} (h : Rg n ps cs) (hm : n ≤ m) : Rg m ps cs := ⟨h.nd, h.len, fun c k => (h.ok c k).gr Gr.rfl' hm⟩
theorem Rg.set {m : Nat} (h : Rg n ps cs) (hm : n ≤ m) (g : Gr ps cs ps (cs.set j c')) (hc : CellV m ps (cs.set j c') c') : Rg m ps (cs.set j c') := by
  refine ⟨h.nd, by rw [List.length_set]; exact h.len, fun k mk => ?_⟩
  rcases List.mem_or_eq_of_mem_set mk with mk | e
  · exact (h.ok k mk).gr g hm
  · rw [e]; exact hc
/-- x.append(e) -/
theorem Rg.app (h : Rg n ps cs) (hc : cs[j]? = some (.lst xs)) (hd : Smd d) : Rg (n + 1) ps (cs.set j (.lst (xs ++ [d]))) := by
  have hv : xs.length ≤ 3 + n ∧ ∀ x ∈ xs, Smd x := h.ok _ (List.mem_of_getElem? hc)
  refine h.set (Nat.le_succ _) (Gr.setL hc) ⟨by rw [List.length_append]; show xs.length + 1 ≤ 3 + (n + 1); omega, fun x m => ?_⟩
  rcases List.mem_append.mp m with m | m
  · exact hv.2 x m
  · rw [List.mem_singleton.mp m]; exact hd
/-- x["spoilt"] = 2 -/
theorem Rg.put (h : Rg n ps cs) (hc : cs[j]? = some (.dct kds)) : Rg n ps (cs.set j (.dct (putD kds (.inr "spoilt") (.int 2)))) := by
  obtain ⟨d, hd, e⟩ := h.ok _ (List.mem_of_getElem? hc)
  have g : Gr ps cs ps (cs.set j (.dct (putD kds (.inr "spoilt") (.int 2)))) := Gr.setD hc
  refine h.set (Nat.le_refl _) g ⟨d, hd.imp id fun z => z.gr g, .inr ?_⟩
  rcases e with e | e
  · rw [e]; rfl
  · rw [e]; rfl
theorem Rg.len_lst (h : Rg n ps cs) (hc : cs[j]? = some (.lst xs)) : xs.length ≤ 3 + n := (h.ok _ (List.mem_of_getElem? hc)).1
theorem Rg.len_dct (h : Rg n ps cs) (hc : cs[j]? = some (.dct kds)) : kds.length ≤ 2 := by
  obtain ⟨d, hd, e⟩ := h.ok _ (List.mem_of_getElem? hc)
  rcases e with e | e <;> rw [e] <;> simp only [List.length_cons, List.length_nil] <;> omega
/-! what is read through the region -/
/-- two looks -/
def res2 (ps : List Addr) (cs : List Cell) (d : D) : D := (d.resP (cellR ps cs)).resP (cellR ps cs)
theorem res2_sca (h : Sca d = true) : res2 ps cs d = d := by
  unfold res2
  rw [resP_sca h, resP_sca h]
theorem Rg.at_lst (h : Rg n ps cs) (h1 : ps[j]? = some p) (h2 : cs[j]? = some (.lst xs)) : (D.ptr p).resP (cellR ps cs) = .lst xs := by
  rw [D.resP, cellR_at h.nd h1 h2]
  rfl
theorem Rg.at_dct (h : Rg n ps cs) (h1 : ps[j]? = some p) (h2 : cs[j]? = some (.dct kds)) : (D.ptr p).resP (cellR ps cs) = .dct kds := by
  rw [D.resP, cellR_at h.nd h1 h2]
  rfl
theorem Rg.lst2 (h : Rg n ps cs) (h1 : ps[j]? = some p) (h2 : cs[j]? = some (.lst xs)) : res2 ps cs (.ptr p) = .lst xs := by
  unfold res2
  rw [h.at_lst h1 h2, D.resP, resPAll_sca fun x m => ((h.ok _ (List.mem_of_getElem? h2)).2 x m).1]
end
end L3

/-! Core139: what is read through a region: shown, and of which kind. -/
namespace L3
open PySem PySem.Spec PyProof.Rows L2
theorem kit_ldd : kitB "list" "list" = some true ∧ kitB "dict" "list" = some false ∧ kitB "list" "dict" = some false ∧ kitB "dict" "dict" = some true := by decide +kernel
section
variable {n j : Nat} {ps ps' ps2 : List Addr} {cs cs' cs2 : List Cell} {d : D} {p : Addr} {c c' : Cell} {xs : List D} {kds : List (Key × D)}
theorem Rg.dct2 (h : Rg n ps cs) (h1 : ps[j]? = some p) (h2 : cs[j]? = some (.dct kds)) : res2 ps cs (.ptr p) = .dct (kds.map fun q => (q.1, q.2.resP (cellR ps cs))) := by
  unfold res2
  rw [h.at_dct h1 h2, D.resP, resPKV_map]
theorem res2_tup : res2 ps cs (.tup xs) = .tup (xs.map (res2 ps cs)) := by
  unfold res2
  rw [D.resP, D.resP, resPAll_map, resPAll_map, List.map_map]
  rfl
theorem Rg.shl (h : Rg n ps cs) (hn : n ≤ 100) (h2 : cs[j]? = some (.lst xs)) : ShM 2 21000 (.lst xs) := by
  obtain ⟨hl, hx⟩ : xs.length ≤ 3 + n ∧ ∀ x ∈ xs, Smd x := h.ok _ (List.mem_of_getElem? h2)
  refine (shm_lst fun x m => (hx x m).2).mono (Nat.le_refl _) ?_
  have : (200 + 2) * xs.length ≤ (200 + 2) * 103 := Nat.mul_le_mul_left _ (by omega)
  omega
theorem Rg.sh1 (h : Rg n ps cs) (hn : n ≤ 100) (hd : Smd d ∨ LstAt ps cs d) : ShM 2 21000 (d.resP (cellR ps cs)) ∧ ShM 2 21000 (res2 ps cs d) := by
  rcases hd with hd | ⟨p, j, xs, rfl, h1, h2⟩
  · rw [res2_sca hd.1, resP_sca hd.1]
    exact ⟨hd.2.mono (by decide) (by decide), hd.2.mono (by decide) (by decide)⟩
  · rw [h.lst2 h1 h2, h.at_lst h1 h2]
    exact ⟨h.shl hn h2, h.shl hn h2⟩
theorem keyS_a : KeyS 100 (.inr "a") ∧ KeyS 100 (.inr "spoilt") := by
  refine ⟨⟨by decide +kernel, rfl, by decide +kernel⟩, ⟨by decide +kernel, rfl, by decide +kernel⟩⟩
theorem smd_2 : Smd (.int 2) ∧ Smd (.int 0) := ⟨⟨rfl, (sh_int (i := 2) (k := 100) (by decide) (by decide) (by decide)).m.mono (by decide) (by decide)⟩, ⟨rfl, (sh_int (i := 0) (k := 100) (by decide) (by decide) (by decide)).m.mono (by decide) (by decide)⟩⟩
theorem smd_int {i : Int} (h : i.natAbs < 2 ^ 120) : Smd (.int i) := ⟨rfl, (sh_int (i := i) (k := 120) h (by decide) (by decide)).m.mono (by decide) (by decide)⟩
theorem smd_non : Smd .non := ⟨rfl, sh_non.m.mono (by decide) (by decide)⟩
theorem smd_bl (b : Bool) : Smd (.bl b) := ⟨rfl, (sh_bl b).m.mono (by decide) (by decide)⟩
/-- all that may be chosen may be shown -/
theorem ValV.sh (h : ValV ps cs d) (R : Rg n ps cs) (hn : n ≤ 100) : ShM 4 100000 (res2 ps cs d) := by
  rcases h with h | ⟨xs, rfl, hl, h⟩ | ⟨p, j, c, rfl, h1, h2⟩
  · rw [res2_sca h.1]
    exact h.2.mono (by decide) (by decide)
  · rw [res2_tup]
    refine (shm_tup (n := 2) (c := 21000) fun x m => ?_).mono (by decide) ?_
    · obtain ⟨y, hy, rfl⟩ := List.mem_map.mp m
      exact (R.sh1 hn (h y hy)).2
    · rw [List.length_map]
      omega
  · cases c with
    | lst xs =>
      rw [R.lst2 h1 h2]
      exact (R.shl hn h2).mono (by decide) (by decide)
    | dct kds =>
      rw [R.dct2 h1 h2]
      obtain ⟨d, hd, e⟩ := R.ok _ (List.mem_of_getElem? h2)
      have s1 := (R.sh1 hn hd).1
      refine (shm_dctK (n := 2) (c := 21000) (fun q m => ?_) fun q m => ?_).mono (by decide) ?_
      · obtain ⟨z, hz, rfl⟩ := List.mem_map.mp m
        rcases e with e | e <;> rw [e] at hz <;> simp only [List.mem_cons, List.not_mem_nil, or_false] at hz
        · rw [hz]; exact keyS_a.1
        · rcases hz with hz | hz <;> rw [hz]
          · exact keyS_a.1
          · exact keyS_a.2
      · obtain ⟨z, hz, rfl⟩ := List.mem_map.mp m
        rcases e with e | e <;> rw [e] at hz <;> simp only [List.mem_cons, List.not_mem_nil, or_false] at hz
        · rw [hz]; exact s1
        · rcases hz with hz | hz <;> rw [hz]
          · exact s1
          · exact (R.sh1 hn (.inl smd_2.1)).1
      · rw [List.length_map]
        have := R.len_dct h2
        omega
/-- of which kind -/
theorem ValV.kind (h : ValV ps cs d) (R : Rg n ps cs) : (∃ (p : Addr) (j : Nat) (xs : List D), d = .ptr p ∧ ps[j]? = some p ∧ cs[j]? = some (.lst xs) ∧ res2 ps cs d = .lst xs) ∨ (∃ (p : Addr) (j : Nat) (kds kds' : List (Key × D)), d = .ptr p ∧ ps[j]? = some p ∧ cs[j]? = some (.dct kds) ∧ res2 ps cs d = .dct kds') ∨
    (kitB (tyD (res2 ps cs d)) "list" = some false ∧ kitB (tyD (res2 ps cs d)) "dict" = some false) := by
  have sca : Sca d = true → kitB (tyD d) "list" = some false ∧ kitB (tyD d) "dict" = some false := fun hs => by
    cases d with
    | non => exact ⟨by decide +kernel, by decide +kernel⟩
    | bl b => exact ⟨(by decide +kernel : kitB "bool" "list" = some false), (by decide +kernel : kitB "bool" "dict" = some false)⟩
    | int i => exact ⟨(by decide +kernel : kitB "int" "list" = some false), (by decide +kernel : kitB "int" "dict" = some false)⟩
    | str x => exact ⟨(by decide +kernel : kitB "str" "list" = some false), (by decide +kernel : kitB "str" "dict" = some false)⟩
    | _ => exact absurd hs Bool.false_ne_true
  rcases h with h | ⟨xs, rfl, hl, h⟩ | ⟨p, j, c, rfl, h1, h2⟩
  · rw [res2_sca h.1]
    exact .inr (.inr (sca h.1))
  · rw [res2_tup]
    exact .inr (.inr ⟨(by decide +kernel : kitB "tuple" "list" = some false), (by decide +kernel : kitB "tuple" "dict" = some false)⟩)
  · cases c with
    | lst xs => exact .inl ⟨p, j, xs, rfl, h1, h2, R.lst2 h1 h2⟩
    | dct kds => exact .inr (.inl ⟨p, j, kds, _, rfl, h1, h2, R.dct2 h1 h2⟩)
theorem ValV.flat (h : ValV ps cs d) : d.flat = true := by
  have sca : ∀ {x : D}, Sca x = true → x.flat = true := fun {x} hs => by
    cases x <;> first | rfl | exact absurd hs Bool.false_ne_true
  rcases h with h | ⟨xs, rfl, hl, h⟩ | ⟨p, j, c, rfl, h1, h2⟩
  · exact sca h.1
  · show D.flatAll xs = true
    have : ∀ x ∈ xs, x.flat = true := fun x m => by
      rcases h x m with z | ⟨p, j, ys, rfl, _⟩
      · exact sca z.1
      · rfl
    clear h hl
    induction xs with
    | nil => rfl
    | cons y r ih =>
      show (D.flat y && D.flatAll r) = true
      rw [this y List.mem_cons_self, ih fun x m => this x (List.mem_cons_of_mem _ m)]
      rfl
  · rfl
end
end L3

/-! Core140: {k: [..]}, both taken into the region. -/
namespace L3
open PySem PySem.Spec PyProof.Rows L2
theorem rep_sca {K : PySem.W.Frag} {H H' : Hp} {v : V} {d : D} (r : Rep K H v d) (h : Sca d = true) : Rep K H' v d := by
  cases r <;> first | exact .non | exact .bl _ | exact .int _ | exact .str _ | exact absurd h Bool.false_ne_true
theorem repAll_sca {K : PySem.W.Frag} {H H' : Hp} : ∀ {vs : List V} {ds : List D}, RepAll K H vs ds → (∀ d ∈ ds, Sca d = true) → RepAll K H' vs ds
  | _, _, .nil, _ => .nil
  | _, _, .cons r rs, h => .cons (rep_sca r (h _ List.mem_cons_self)) (repAll_sca rs fun d m => h d (List.mem_cons_of_mem _ m))
theorem ex_upd {H H' : Hp} {q : Addr} {o : HO} (x : Ex H H') (hq : H q = none) (hn : Pln (some o)) (h : H' q = some o) : Ex (upd H q o) H' := by
  refine ⟨fun a u e n => ?_, fun a n => ?_, fun P t => x.tab P (TabS.but t fun a u e n => ?_)⟩
  · by_cases z : a = q
    · rw [z, upd_same] at e
      rw [z, h]
      exact e
    · rw [upd_ne z] at e
      exact x.get a u e n
  · by_cases z : a = q
    · rw [z, h] at n; cases n
    · rw [upd_ne z]; exact x.fr a n
  · by_cases z : a = q
    · rw [z, upd_same] at e
      cases e
      exact absurd hn n
    · rw [upd_ne z] at e
      exact e
section
variable {X : Cx} {Hb : Hp} {a b e : Expr} {es : List Expr} {Γ : Slots} {pos p2 : Pos} {S : D → Slots → Prop}
theorem evx_dctL (rn : Str) (nd : X.N.Nodup) (h : EvN X Hb a Γ false fun x => ∃ k, x = kD k ∧ EvA X Hb es Γ fun ds => ds.length ≤ 1000 ∧ (∀ d ∈ ds, Sca d = true) ∧ D.flatAll ds = true ∧ TakeIn X Γ rn (.lst ds) fun d Γ1 => d.flat = true → TakeIn X Γ1 rn (.dct [(k, d)]) S) : EvX X Hb (.Dict [some a] [.List es p2] pos) Γ S := fun σ H en Q q =>
  SemE.of (pe_disp (pps_cons (semE X a) (semE X (.List es p2)) pps_nil) rfl rfl (by simp) (by show 1 ≤ 15; decide)) fun p hp => h σ _ (en.ex (Ex.new hp)) _ fun v H2 x ⟨k, ex, h2⟩ x2 r2 _ => by
    have en2 := (en.ex (Ex.new (o := .dK []) hp)).ex x2
    refine SemE.of (pe_lst (semA X es)) (h2 σ H2 en2 _ fun vs H3 ds ⟨hl, hs, hf, ps, cs, v0, x0, hR, tk⟩ x3 r3 => ⟨by rw [r3.length]; exact Nat.le_trans hl (by decide), fun l hl4 => ?_⟩)
    subst ex
    have ev : v = kV k := by
      cases k with
      | inl i => cases r2; rfl
      | inr z => cases r2; rfl
    subst ev
    have xl := Ex.new (o := .lst vs) hl4
    have x1 : Ex (upd H p (.dK [])) (upd H3 l (.lst vs)) := (x2.trans x3).trans xl
    have hp4 : (upd H3 l (.lst vs)) p = some (.dK []) := x1.get _ _ upd_same fun _ z => nomatch z
    have npl : p ≠ l := fun z => by
      have := (x2.trans x3).get p _ upd_same fun _ z => nomatch z
      rw [z, hl4] at this; cases this
    refine ⟨hp4, [(k, .ref l)], rfl, by show 1 ≤ 15; decide, ?_⟩
    have hl0 : H l = none := by
      have := (x2.trans x3).fr l hl4
      rw [upd_ne npl.symm] at this
      exact this
    have xf : Ex H (upd (upd H3 l (.lst vs)) p (.dK (mergeK [] [(k, .ref l)]))) := Ex.mut ((Ex.new hp).trans x1) hp (by rw [hp4]; trivial)
    have hlf : (upd (upd H3 l (.lst vs)) p (.dK (mergeK [] [(k, V.ref l)]))) l = some (.lst vs) := by rw [upd_ne npl.symm, upd_same]
    obtain ⟨ir, hNr, hGr⟩ := hR.ix
    have enA := en.adoptL hGr hl0 (Ex.new (o := .lst vs) hl0) upd_same (repAll_sca r3 hs) hf
    obtain ⟨Γ1, hu, tk2⟩ := tk l fun m => by
      obtain ⟨_, _, lp, _⟩ := en.resW hGr
      obtain ⟨u, z, _⟩ := lp l m
      rw [hl0] at z; cases z
    rw [Up.same nd hNr hu] at tk2
    obtain ⟨ps1, cs1, v1, x1', hR1, s⟩ := tk2 rfl
    obtain ⟨ir1, hNr1, hGr1⟩ := hR1.ix
    have hpA : (upd H l (.lst vs)) p = none := by rw [upd_ne npl]; exact hp
    obtain ⟨Γ2, hu2, g⟩ := s p fun m => by
      obtain ⟨_, _, lp, _⟩ := enA.resW hGr1
      obtain ⟨u, z, _⟩ := lp p m
      rw [hpA] at z; cases z
    rw [Up.same nd hNr1 hu2] at g
    have xA : Ex (upd H l (.lst vs)) (upd (upd H3 l (.lst vs)) p (.dK (mergeK [] [(k, .ref l)]))) := ex_upd xf hl0 trivial hlf
    have hm : mergeK [] [(k, V.ref l)] = [(k, V.ref l)] := rfl
    exact q _ _ _ _ g xf (enA.adoptD hGr1 hpA xA upd_same (.cons (.ptr l) .nil) rfl) (.ptr p)
end
end L3

/-! Core141: x = e, an opaque thing (a source of draws), beside what is one's own. -/
namespace L3
open PySem PySem.Spec PyProof.Rows L2
theorem EnvOk.setExt {K : PySem.W.Frag} {Hb H : Hp} {Γ : Slots} {σ : L2.St} {i : Nat} {v : V} {φ : Addr → Heap → Prop} (h : EnvOk K Hb Γ σ H) (r : Rep K H v (.ext φ)) : EnvOk K Hb (Γ.set i (.dat (.ext φ))) (σ.set i (some v)) H := by
  obtain ⟨h1, h2, h3, h4⟩ := h.wide
  cases r with
  | @ext a φ ha => exact ⟨_, h1, h2, Paired.setE (show EntOk K _ H (.dat (.ext φ)) (some (.ref a)) from ⟨.ref a, rfl, .ext (hide_at (owns_lsts h3) ha fun z => z)⟩) i h3, List.Nodup.sublist (owns_set_cells rfl) h4⟩
section
variable {X : Cx} {Hb : Hp} {e : Expr} {Γ : Slots} {pos p' : Pos} {D0 : Ends} {rest : List Stmt} {xn : Str} {fr : Bool}
theorem s_setE (h : EvN X Hb e Γ fr fun d => ∃ φ, d = .ext φ ∧ Up1 X.N Γ xn (.dat (.ext φ)) fun Γ' => Go X Hb rest D0 Γ') (nd : X.N.Nodup) (hL : Has X.N xn) (hx : Loc X.env.scope xn := by first | exact Or.inl rfl | exact Or.inr rfl)
    (hsw : swapsWith e (some (.Name xn p')) pos.line X.env = pure false := by rfl) (hf : X.fn xn = true ∨ X.env.scope.names.lookup xn = some .local := by first | exact .inl rfl | exact .inr rfl) : Go X Hb (.Assign [.Name xn p'] e pos :: rest) D0 Γ := fun σ H en => by
  obtain ⟨i, hi⟩ := hL.ix
  exact SemSs.cons (ps_set nd hi hx (semE X e) hsw hf) (h σ H en _ fun v H' d ⟨φ, ed, Γ', hu, g⟩ x r _ => by
    subst ed
    rw [Up.same nd hi hu] at g
    exact g _ H' ((en.ex x).setExt r))
end
end L3

/-! Core142: what is read through a region is the same behind what is taken in. -/
namespace L3
open PySem PySem.Spec PyProof.Rows L2
section
variable {n : Nat} {ps : List Addr} {cs : List Cell} {d : D} {p : Addr} {c : Cell}
theorem at_snoc {α : Type} {l : List α} {j : Nat} {x y : α} (h : l[j]? = some x) : (l ++ [y])[j]? = some x := by
  rw [List.getElem?_append_left (List.getElem?_eq_some_iff.mp h).1]
  exact h
theorem Rg.res_sl (R : Rg n ps cs) (R1 : Rg n (ps ++ [p]) (cs ++ [c])) (h : Smd d ∨ LstAt ps cs d) : d.resP (cellR (ps ++ [p]) (cs ++ [c])) = d.resP (cellR ps cs) ∧ res2 (ps ++ [p]) (cs ++ [c]) d = res2 ps cs d := by
  rcases h with h | ⟨q, j, xs, rfl, h1, h2⟩
  · rw [resP_sca h.1, resP_sca h.1, res2_sca h.1, res2_sca h.1]
    exact ⟨rfl, rfl⟩
  · rw [R.at_lst h1 h2, R1.at_lst (at_snoc h1) (at_snoc h2), R.lst2 h1 h2, R1.lst2 (at_snoc h1) (at_snoc h2)]
    exact ⟨rfl, rfl⟩
theorem ValV.res_snoc (h : ValV ps cs d) (R : Rg n ps cs) (R1 : Rg n (ps ++ [p]) (cs ++ [c])) : res2 (ps ++ [p]) (cs ++ [c]) d = res2 ps cs d := by
  rcases h with h | ⟨xs, rfl, hl, h⟩ | ⟨q, j, k, rfl, h1, h2⟩
  · rw [res2_sca h.1, res2_sca h.1]
  · rw [res2_tup, res2_tup]
    exact congrArg D.tup (List.map_congr_left fun x m => (R.res_sl R1 (h x m)).2)
  · cases k with
    | lst xs => rw [R.lst2 h1 h2, R1.lst2 (at_snoc h1) (at_snoc h2)]
    | dct kds =>
      rw [R.dct2 h1 h2, R1.dct2 (at_snoc h1) (at_snoc h2)]
      obtain ⟨d, hd, e⟩ := R.ok _ (List.mem_of_getElem? h2)
      refine congrArg D.dct (List.map_congr_left fun q m => ?_)
      have : q.2.resP (cellR (ps ++ [p]) (cs ++ [c])) = q.2.resP (cellR ps cs) := by
        rcases e with e | e <;> rw [e] at m <;> simp only [List.mem_cons, List.not_mem_nil, or_false] at m
        · rw [m]; exact (R.res_sl R1 hd).1
        · rcases m with m | m <;> rw [m]
          · exact (R.res_sl R1 hd).1
          · exact (R.res_sl R1 (.inl smd_2.1)).1
      rw [this]
end
end L3

/-! Core143: a list that is read is gone over beside one's own things; errors read. -/
namespace L3
open PySem PySem.Spec PyProof.Rows L2
section
variable {X : Cx} {Hb : Hp} {Γ : Slots} {pos : Pos} {xn : Str} {ds : List D}
/-- a name that holds a list that is read -/
theorem wi_nm {S1 : List D → Prop} (hL : Look X.N Γ xn (.dat (.lst ds))) (q : S1 ds) (hv : Vis X.env.scope xn := by first | exact Or.inl rfl | exact Or.inr (Or.inl rfl) | exact Or.inr (Or.inr rfl)) (hd : (xn == ("__debug__" : Str)) = false := by decide)
    (hcd : (xn == ("__classdict__" : Str)) = false := by decide) : EvI X Hb (.Name xn pos) Γ S1 := fun σ H en Q k => by
  obtain ⟨i, hN, hG⟩ := hL.ix
  obtain ⟨h1, h2, h3, h4⟩ := en.wide
  obtain ⟨o, ho, v, rfl, r⟩ := Paired.getE h3 hG
  cases r with
  | lst hq ra => exact SemE.of (pe_var hN hv hd hcd) ⟨_, ho, k _ _ H ds q Ex.refl hq ra⟩
end
/-- what an error holds -/
def excV : D → D
  | .exc _ _ x => x
  | d => d
theorem flat_nc {x : D} (h : x.flat = true) : isCont x = false := by
  cases x <;> first | rfl | exact absurd h Bool.false_ne_true | (rename_i y; cases y <;> first | rfl | exact absurd h Bool.false_ne_true)
end L3

namespace My
open PySem PySem.Spec PyProof.Rows L2 L3
def topS (i : Nat) : Stmt := PySem.Challenge.pw_fairflows_k54_errors_of_plans_made.main.body.getD i (.Pass ⟨0, 0, 0, 0⟩)
abbrev s__law_stream : Stmt := topS 18
abbrev N__law_stream : List Str := ["_law_script", "_law_start", "_law_seed", "_law_entry", "_law_digits"]
theorem sc__law_stream : FnScope N__law_stream ["_law_script", "_law_start"] (defScope s__law_stream) := ⟨rfl, rfl, rfl, by decide +kernel, rfl, by decide +kernel, by decide +kernel⟩
abbrev s__law_draw : Stmt := topS 19
abbrev N__law_draw : List Str := ["_law_stream_here", "_law_size", "_law_found"]
theorem sc__law_draw : FnScope N__law_draw ["_law_stream_here", "_law_size"] (defScope s__law_draw) := ⟨rfl, rfl, rfl, by decide +kernel, rfl, by decide +kernel, by decide +kernel⟩
abbrev s__law_choose : Stmt := topS 20
abbrev N__law_choose : List Str := ["_law_stream_here", "_law_items"]
theorem sc__law_choose : FnScope N__law_choose ["_law_stream_here", "_law_items"] (defScope s__law_choose) := ⟨rfl, rfl, rfl, by decide +kernel, rfl, by decide +kernel, by decide +kernel⟩
abbrev s__law_kinds : Stmt := topS 21
abbrev N__law_kinds : List Str := ["_law_error", "_law_found"]
theorem sc__law_kinds : FnScope N__law_kinds ["_law_error"] (defScope s__law_kinds) := ⟨rfl, rfl, rfl, by decide +kernel, rfl, by decide +kernel, by decide +kernel⟩
abbrev s_law : Stmt := topS 22
abbrev N_law : List Str := ["_law_script", "_law_some", "_law_start", "_law_stream_here", "_law_one", "_law_seen", "_law_other", "_law_made", "_law_part", "_law_at", "_law_error", "_law_number"]
theorem sc_law : FnScope N_law ["_law_script"] (defScope s_law) := ⟨rfl, rfl, rfl, by decide +kernel, rfl, by decide +kernel, by decide +kernel⟩
abbrev s_BadPlan_init : Stmt := inClass (topS 15) 0
theorem ns_BadPlan_init : NdefX.NScope ["self", "value", "__class__"] ["self", "value"] ["__class__"] (defScope s_BadPlan_init) := NdefX.nscope_by (by decide +kernel)
abbrev s_BadTime_init : Stmt := inClass (topS 16) 0
theorem ns_BadTime_init : NdefX.NScope ["self", "value", "__class__"] ["self", "value"] ["__class__"] (defScope s_BadTime_init) := NdefX.nscope_by (by decide +kernel)
local macro_rules | `(tactic| walk_at "look") => `(tactic| first | (refine Look.z' ?_; with_reducible rfl) | (refine Look.s ?_; walk_at "look"))
local macro_rules | `(tactic| walk_at "has") => `(tactic| first | (refine Has.z ?_; with_reducible rfl) | (refine Has.s ?_; walk_at "has"))
local macro_rules | `(tactic| walk_at "up") => `(tactic| first | (apply Up.z'; with_reducible rfl) | (apply Up.s; walk_at "up"))
local macro_rules | `(tactic| walk_at "sub") => `(tactic| first | exact Sub.nil | ((with_reducible apply Sub.keep); walk_at "sub") | (apply Sub.drop; walk_at "sub") | (refine Sub.eq (by walk_at "same") ?_; walk_at "sub"))
local macro_rules | `(tactic| walk_at "same") => `(tactic| first | exact ownNil | assumption | rfl)
local macro_rules | `(tactic| walk_at "ati") => `(tactic| first | (apply At.z; with_reducible rfl) | (apply At.s; walk_at "ati"))
local macro_rules | `(tactic| walk_at "flat1") => `(tactic| first | rfl | assumption | walk_at "flat")
local macro_rules | `(tactic| walk_at "blk") => `(tactic| first | rfl | decide +kernel)
local macro_rules | `(tactic| walk_at "hint") => `(tactic| first | exact OwnIf.t (by assumption) | exact OwnIf.f)
local macro_rules | `(tactic| walk_at "flat") => `(tactic| first | rfl | exact flat_map (fun _ => rfl) _ | assumption | (refine flat_app ?_ ?_ <;> walk_at "flat"))
local macro_rules | `(tactic| walk_at "sto") => `(tactic| first | exact .inl rfl | exact .inr rfl | exact .inl (by walk_at "flat") | assumption)
local macro_rules | `(tactic| walk_at "side") => `(tactic| first | assumption | rfl | omega | decide)
local macro_rules | `(tactic| walk_at "mul") => `(tactic| first | assumption | exact IntMulOk.of_left (by decide) | exact IntMulOk.of_right (by decide) | exact mulOk_bits (a := 62) (b := 62) (by omega) (by omega) (by decide))
local macro_rules | `(tactic| walk_at "div") => `(tactic| first | assumption | exact divX (n := 62) (by omega) (by omega) (by decide) (by decide))
local macro_rules | `(tactic| walk_at "pow") => `(tactic| first | assumption | exact ⟨by decide, by decide⟩)
local macro_rules | `(tactic| walk_at "at") => `(tactic| first | rfl | assumption)
local macro_rules | `(tactic| walk_at "len") => `(tactic| first | assumption | (simp only [List.length_map, List.length_append, List.length_cons, List.length_nil]; omega))
local macro_rules | `(tactic| walk_at "cl") => `(tactic| fail)
local macro_rules | `(tactic| walk_at "reps") => `(tactic| first | assumption | exact ⟨by omega, by omega, by simp; omega⟩ | exact ⟨by omega, by omega, by decide⟩)
local macro_rules | `(tactic| walk_at "sh") => `(tactic| assumption)
local macro_rules | `(tactic| walk_at "kit") => `(tactic| first | with_reducible exact kd_tt | with_reducible exact kd_lt | with_reducible exact kd_it | with_reducible exact kd_bt | with_reducible exact kd_nt | with_reducible exact kd_tl | with_reducible exact kd_ll | with_reducible exact kd_il | with_reducible exact kd_ti | with_reducible exact kd_li | with_reducible exact kd_ii | with_reducible exact kd_bi | with_reducible exact kd_ni | with_reducible exact kd_tb | with_reducible exact kd_lb | with_reducible exact kd_ib | with_reducible exact kd_bb | with_reducible exact kd_nb | assumption)
local macro_rules | `(tactic| walk_at "range") => `(tactic| refine s_range _ (by assumption) (by walk_at "go"; first | exact ⟨rfl, by omega⟩ | omega | exact ⟨by omega, by omega⟩) (fun _ _ => ?_) ?_)
local macro_rules | `(tactic| walk_at "callb") => `(tactic| fail)
local macro_rules | `(tactic| walk_at "e") => `(tactic| first
  | (with_reducible show EvN _ _ (Expr.Name _ _) _ _ _); walk_at "name"
  | (with_reducible show EvN _ _ (Expr.Constant (Const.int _) _ _) _ _ _); refine w_int ?_
  | (with_reducible show EvN _ _ (Expr.BinOp (Expr.List _ _) Operator.Mult _ _) _ _ _); refine w_repL ?_
  | (with_reducible show EvN _ _ (Expr.BinOp _ _ _ _) _ _ _); refine w_bin ?_
  | (with_reducible show EvN _ _ (Expr.Subscript _ (Expr.Slice _ _ _ _) _) _ _ _); refine w_slice ?_
  | (with_reducible show EvN _ _ (Expr.Subscript _ _ _) _ _ _); first | refine w_ix ?_ | refine w_scal ?_
  | (with_reducible show EvN _ _ (Expr.Call _ _ _ _) _ _ _); walk_at "call"
  | (with_reducible show EvN _ _ (Expr.Compare _ [CmpOp.In] _ _) _ _ _); refine w_cmp ?_ rfl
  | (with_reducible show EvN _ _ (Expr.Compare _ [CmpOp.NotIn] _ _) _ _ _); refine w_cmp ?_ rfl
  | (with_reducible show EvN _ _ (Expr.Compare _ [_] _ _) _ _ _); refine w_cmp ?_
  | (with_reducible show EvN _ _ (Expr.Compare _ [CmpOp.LtE, CmpOp.LtE] [_, _] _) _ _ _); refine w_chain op_le op_le (by walk_at "go") (by walk_at "go") (by walk_at "go") ?_
  | (with_reducible show EvN _ _ (Expr.Compare _ [CmpOp.LtE, CmpOp.Lt] [_, _] _) _ _ _); refine w_chain op_le op_lt (by walk_at "go") (by walk_at "go") (by walk_at "go") ?_
  | (with_reducible show EvN _ _ (Expr.Compare _ [CmpOp.Lt, CmpOp.LtE] [_, _] _) _ _ _); refine w_chain op_lt op_le (by walk_at "go") (by walk_at "go") (by walk_at "go") ?_
  | (with_reducible show EvN _ _ (Expr.Compare _ [CmpOp.Lt, CmpOp.Lt] [_, _] _) _ _ _); refine w_chain op_lt op_lt (by walk_at "go") (by walk_at "go") (by walk_at "go") ?_
  | (with_reducible show EvN _ _ (Expr.Tuple _ _ _) _ _ _); refine w_tup ?_
  | (with_reducible show EvN _ _ (Expr.List _ _) _ _ _); refine w_lst ?_
  | (with_reducible show EvN _ _ (Expr.Constant (Const.bool _) _ _) _ _ _); refine w_bl ?_
  | (with_reducible show EvN _ _ (Expr.Constant Const.none _ _) _ _ _); refine w_non ?_
  | (with_reducible show EvN _ _ (Expr.Constant (Const.str _) _ _) _ _ _); refine w_str ?_
  | (with_reducible show EvN _ _ (Expr.UnaryOp UnaryOp.USub _ _) _ _ _); refine w_neg ?_
  | (with_reducible show EvN _ _ (Expr.UnaryOp UnaryOp.Not _ _) _ _ _); refine w_not ?_
  | (with_reducible show EvN _ _ (Expr.BoolOp BoolOp.And [_] _) _ _ _); refine w_and1 ?_
  | (with_reducible show EvN _ _ (Expr.BoolOp BoolOp.Or [_] _) _ _ _); refine w_or1 ?_
  | (with_reducible show EvN _ _ (Expr.BoolOp BoolOp.And _ _) _ _ _); refine w_and (by walk_at "go") (fun _ => by walk_at "go") ?_
  | (with_reducible show EvN _ _ (Expr.BoolOp BoolOp.Or _ _) _ _ _); refine w_or (by walk_at "go") (fun _ => by walk_at "go") ?_
  | (with_reducible show EvN _ _ (Expr.ListComp _ [_] _ _) _ _ _); refine w_lc ?_
  | (with_reducible show EvN _ _ (Expr.IfExp _ _ _ _) _ _ _); first | refine w_ifI (by walk_at "go") (fun _ => by walk_at "go") (fun _ => by walk_at "go") ?_ | refine w_if (by walk_at "go") (fun _ => by walk_at "go") (fun _ => by walk_at "go") ?_)
local macro_rules | `(tactic| walk_at "name") => `(tactic| first | refine w_name (by walk_at "look") ?_ | refine w_own (by walk_at "look") ?_ | refine w_gv (by assumption) ?_ | refine w_scal ?_)
local macro_rules | `(tactic| walk_at "call") => `(tactic| first
  | (with_reducible show EvN _ _ (Expr.Call (Expr.Name (Str.ofString "len") _) [_] [] _) _ _ _); refine w_len (by assumption) ?_
  | (with_reducible show EvN _ _ (Expr.Call (Expr.Name (Str.ofString "max") _) [_, _] [] _) _ _ _); refine w_max2 (by assumption) ?_
  | (with_reducible show EvN _ _ (Expr.Call (Expr.Name (Str.ofString "min") _) [_, _] [] _) _ _ _); refine w_min2 (by assumption) ?_
  | (with_reducible show EvN _ _ (Expr.Call (Expr.Name (Str.ofString "abs") _) [_] [] _) _ _ _); refine w_abs (by assumption) ?_
  | (with_reducible show EvN _ _ (Expr.Call (Expr.Name (Str.ofString "int") _) [_] [] _) _ _ _); refine w_toInt (by assumption) ?_
  | (with_reducible show EvN _ _ (Expr.Call (Expr.Name (Str.ofString "list") _) [_] [] _) _ _ _); refine w_list (by assumption) ?_
  | (with_reducible show EvN _ _ (Expr.Call (Expr.Name (Str.ofString "tuple") _) [_] [] _) _ _ _); refine w_tuple (by assumption) ?_
  | (with_reducible show EvN _ _ (Expr.Call (Expr.Name (Str.ofString "max") _) [_] [] _) _ _ _); refine w_maxL (by assumption) ?_
  | (with_reducible show EvN _ _ (Expr.Call (Expr.Name (Str.ofString "min") _) [_] [] _) _ _ _); refine w_minL (by assumption) ?_
  | (with_reducible show EvN _ _ (Expr.Call (Expr.Name (Str.ofString "any") _) [_] [] _) _ _ _); refine w_any (by assumption) ?_
  | (with_reducible show EvN _ _ (Expr.Call (Expr.Name (Str.ofString "all") _) [_] [] _) _ _ _); refine w_all (by assumption) ?_
  | (with_reducible show EvN _ _ (Expr.Call (Expr.Name (Str.ofString "sum") _) [_] [] _) _ _ _); refine w_sum (by assumption) ?_
  | (with_reducible show EvN _ _ (Expr.Call (Expr.Name (Str.ofString "isinstance") _) [_, Expr.Name (Str.ofString "tuple") _] [] _) _ _ _); refine w_isI (Ts := "tuple") (by assumption) (by assumption) ?_
  | (with_reducible show EvN _ _ (Expr.Call (Expr.Name (Str.ofString "isinstance") _) [_, Expr.Name (Str.ofString "int") _] [] _) _ _ _); refine w_isI (Ts := "int") (by assumption) (by assumption) ?_
  | (with_reducible show EvN _ _ (Expr.Call (Expr.Name (Str.ofString "isinstance") _) [_, Expr.Name (Str.ofString "bool") _] [] _) _ _ _); refine w_isI (Ts := "bool") (by assumption) (by assumption) ?_
  | (with_reducible show EvN _ _ (Expr.Call (Expr.Name (Str.ofString "isinstance") _) [_, Expr.Name (Str.ofString "list") _] [] _) _ _ _); refine w_isI (Ts := "list") (by assumption) (by assumption) ?_
  | (with_reducible show EvN _ _ (Expr.Call (Expr.Name (Str.ofString "repr") _) [_] [] _) _ _ _); refine w_repr (by assumption) (by assumption) (by assumption) ?_
  | (with_reducible show EvN _ _ (Expr.Call (Expr.Name _ _) [] (_ :: _) _) _ _ _); refine w_callK (by assumption) (by assumption) (by assumption) ?_
  | walk_at "callb"
  | refine w_call (by assumption) (by assumption) ?_
  | refine w_callL (by assumption) (by assumption) ?_
  | refine w_callG (by assumption) (by assumption) (by assumption) ?_)
local macro_rules | `(tactic| walk_at "t") => `(tactic| first
  | (with_reducible show EvT _ _ (Expr.Compare _ [CmpOp.In] _ _) _ _); refine wt_cmp ?_ rfl
  | (with_reducible show EvT _ _ (Expr.Compare _ [CmpOp.NotIn] _ _) _ _); refine wt_cmp ?_ rfl
  | (with_reducible show EvT _ _ (Expr.Compare _ [_] _ _) _ _); refine wt_cmp ?_
  | (with_reducible show EvT _ _ (Expr.Compare _ [CmpOp.LtE, CmpOp.LtE] [_, _] _) _ _); refine wt_chain op_le op_le (by walk_at "go") (by walk_at "go") (by walk_at "go") ?_
  | (with_reducible show EvT _ _ (Expr.Compare _ [CmpOp.LtE, CmpOp.Lt] [_, _] _) _ _); refine wt_chain op_le op_lt (by walk_at "go") (by walk_at "go") (by walk_at "go") ?_
  | (with_reducible show EvT _ _ (Expr.Compare _ [CmpOp.Lt, CmpOp.LtE] [_, _] _) _ _); refine wt_chain op_lt op_le (by walk_at "go") (by walk_at "go") (by walk_at "go") ?_
  | (with_reducible show EvT _ _ (Expr.Compare _ [CmpOp.Lt, CmpOp.Lt] [_, _] _) _ _); refine wt_chain op_lt op_lt (by walk_at "go") (by walk_at "go") (by walk_at "go") ?_
  | (with_reducible show EvT _ _ (Expr.UnaryOp UnaryOp.Not _ _) _ _); refine wt_not ?_
  | (with_reducible show EvT _ _ (Expr.BoolOp BoolOp.And _ _) _ _); refine wt_and (by walk_at "go") (fun _ => by walk_at "go") ?_
  | (with_reducible show EvT _ _ (Expr.BoolOp BoolOp.Or _ _) _ _); refine wt_or (by walk_at "go") (fun _ => by walk_at "go") ?_
  | (with_reducible show EvW _ _ (Expr.BoolOp BoolOp.And [_] _) _ _); refine ww_and1 ?_
  | (with_reducible show EvW _ _ (Expr.BoolOp BoolOp.Or [_] _) _ _); refine ww_or1 ?_
  | (with_reducible show EvW _ _ (Expr.BoolOp BoolOp.And _ _) _ _); refine ww_and (by walk_at "go") (fun _ => by walk_at "go") ?_
  | (with_reducible show EvW _ _ (Expr.BoolOp BoolOp.Or _ _) _ _); refine ww_or (by walk_at "go") (fun _ => by walk_at "go") ?_
  | (with_reducible show EvT _ _ (_) _ _); refine wt_val ?_)
local macro_rules | `(tactic| walk_at "v") => `(tactic| first
  | (with_reducible show Up1 _ _ _ _ _); refine up1 (by walk_at "up") ?_
  | (with_reducible show StoreD false _ _ _ _ _); first | refine sto_dat ?_ (by walk_at "sto") | refine sto_dat ?_ ?_
  | (with_reducible show StoreD true _ _ _ _ _); first | refine sto_own (fun _ => ?_) (by walk_at "flat") | refine sto_own (fun _ => ?_) ?_
  | (with_reducible show EvA _ _ [] _ _); refine wa_nil ?_
  | (with_reducible show EvA _ _ (_ :: _) _ _); refine wa_cons ?_
  | (with_reducible show OpD _ (binaryOp Operator.Add) _ _ _); first | refine opd_add ?_ | refine opd_catT ?_ (by walk_at "len") | refine opd_catT ?_ ?_ | refine opd_catL ?_ (by walk_at "len") | refine opd_catL ?_ ?_
  | (with_reducible show OpD _ (binaryOp Operator.Sub) _ _ _); refine opd_sub ?_
  | (with_reducible show OpD _ (binaryOp Operator.Mult) _ _ _); first | refine opd_mul ?_ (by walk_at "mul") | refine opd_mul ?_ ?_ | refine opd_repT ?_ ?_
  | (with_reducible show OpD _ (binaryOp Operator.FloorDiv) _ _ _); first | refine opd_fdiv ?_ (by walk_at "div") | refine opd_fdiv ?_ ?_
  | (with_reducible show OpD _ (binaryOp Operator.Mod) _ _ _); first | refine opd_mod ?_ (by walk_at "side") | refine opd_mod ?_ ?_
  | (with_reducible show OpD _ (binaryOp Operator.Pow) _ _ _); first | refine opd_pow ?_ (by walk_at "pow") | refine opd_pow ?_ ?_
  | (with_reducible show OpD _ (inplaceOp Operator.Add) _ _ _); refine iop_add ?_
  | (with_reducible show OpD _ (inplaceOp Operator.Sub) _ _ _); refine iop_sub ?_
  | (with_reducible show IxD _ _ _ _); walk_at "ix"
  | (with_reducible show CmpD _ CmpOp.Lt _ _ _); refine cmp_lt ?_
  | (with_reducible show CmpD _ CmpOp.LtE _ _ _); refine cmp_le ?_
  | (with_reducible show CmpD _ CmpOp.Gt _ _ _); refine cmp_gt ?_
  | (with_reducible show CmpD _ CmpOp.GtE _ _ _); refine cmp_ge ?_
  | (with_reducible show CmpD _ CmpOp.Eq _ _ _); walk_at "eq"
  | (with_reducible show CmpD _ CmpOp.NotEq _ _ _); walk_at "ne"
  | (with_reducible show CmpD _ CmpOp.In _ (D.lst _) _); first | refine cmp_inL (by assumption) ?_ (by walk_at "shp") | refine cmp_inL (by assumption) ?_ ?_
  | (with_reducible show CmpD _ CmpOp.In _ (D.tup _) _); first | refine cmp_inT (by assumption) ?_ (by walk_at "shp") | refine cmp_inT (by assumption) ?_ ?_
  | (with_reducible show CmpD _ CmpOp.Is _ D.non _); refine cmp_isN ?_
  | (with_reducible show CmpD _ CmpOp.IsNot _ D.non _); refine cmp_notN ?_
  | (with_reducible show CmpD _ CmpOp.Is _ (D.bl _) _); refine cmp_isB ?_
  | (with_reducible show CmpD _ CmpOp.IsNot _ (D.bl _) _); refine cmp_notB ?_
  | (with_reducible show SlD _ _ _ _ _); first | refine sl_L ?_ | refine sl_T ?_
  | (with_reducible show RetD _ _ _ _); first | refine ret_fn ?_ (by first | exact Ex.refl | assumption) | refine ret_law ?_
  | (with_reducible show RetL _ _ _ _); refine ret_fnL ?_ (by first | exact Ex.refl | assumption)
  | (with_reducible show EvP _ _ none _ _); refine wo_none ?_
  | (with_reducible show EvP _ _ (some _) _ _); refine wo_some ?_
  | (with_reducible show Cl _ _ _); walk_at "cl"
  | (with_reducible show _ = _); with_reducible exact rfl
  | (with_reducible show KitD _ _ _); refine kitd ?_ (by walk_at "kit") (by first | rfl | assumption | exact ok_mapT (fun _ => rfl) _ | exact ok_mapL (fun _ => rfl) _)
  | (with_reducible show Sh _ _ _ ∧ _); first | refine and2 ?_ (by walk_at "sh") | refine and2 ?_ ?_
  | (with_reducible show LenQ _ _); first | with_reducible refine lenML ?_ | with_reducible refine lenMT ?_ | refine lenL ?_ | refine lenT ?_
  | (with_reducible show ∃ _, ixN _ _ = some _ ∧ _); refine ⟨_, by assumption, ?_⟩
  | (with_reducible show ∃ _, _ ∧ _); first | refine ⟨_, rfl, ?_⟩ | refine ⟨_, .inl rfl, ?_⟩ | refine ⟨_, .inr rfl, ?_⟩
  | (with_reducible show ∃ _, ∃ _, _ ∧ _); first | refine ⟨_, _, rfl, ?_⟩ | refine ⟨_, _, rfl, rfl, ?_⟩
  | (with_reducible show ∃ _, ∃ _, ∃ _, _ ∧ _); refine ⟨_, _, _, rfl, ?_⟩
  | (with_reducible show (_ < 100000 ∧ _) ∧ _); refine and2 ?_ (by walk_at "reps")
  | (with_reducible show _ = _ ∧ _); refine ⟨rfl, ?_⟩
  | (with_reducible show List.length _ ≤ 100000 ∧ _); refine and2 ?_ (by walk_at "len")
  | (with_reducible show List.length _ ≤ 1000 ∧ _); refine and2 ?_ (by exact Nat.le_of_ble_eq_true rfl)
  | (with_reducible show isCont _ = false ∧ _); refine and2 ?_ (by first | rfl | assumption)
  | (with_reducible show (D.flat _ = true ∧ D.flat _ = true) ∧ _); refine and2 ?_ (by exact ⟨by walk_at "flat1", by walk_at "flat1"⟩)
  | (with_reducible show ixN _ _ = some _ ∧ _); first | refine and2 ?_ (by assumption) | refine and2 ?_ ?_
  | (with_reducible show EvK _ _ [] _ _); refine wk_nil ?_
  | (with_reducible show EvK _ _ (_ :: _) _ _); refine wk_cons ?_
  | (with_reducible show L3.Cl _ _ _ ∧ _); refine ⟨?_, rfl⟩; first | with_reducible refine cput0 ?_ | with_reducible refine cput01 ?_ | with_reducible refine cput10 ?_ | with_reducible refine cput012 ?_ | with_reducible refine cput021 ?_ | with_reducible refine cput102 ?_ | with_reducible refine cput120 ?_ | with_reducible refine cput201 ?_ | with_reducible refine cput210 ?_ | with_reducible refine cput0123 ?_ | with_reducible refine cput1032 ?_ | with_reducible refine cput2301 ?_ | with_reducible refine cput3210 ?_
  | (with_reducible show D.flat _ = true ∧ _); refine and2 ?_ (by first | rfl | assumption)
  | (with_reducible show IntMulOk _ _ ∧ _); refine and2 ?_ (by walk_at "mul"))
local macro_rules | `(tactic| walk_at "ix") => `(tactic| first | refine ix_T (by walk_at "at") ?_ | refine ix_L (by walk_at "at") ?_ | refine ix_T ?_ ?_ | refine ix_L ?_ ?_)
local macro_rules | `(tactic| walk_at "eq") => `(tactic| first | refine cmp_eqI ?_ | refine cmp_eqS ?_ | refine cmp_eqB ?_ | refine cmp_eq0L (by assumption) ?_ | refine cmp_eq0T (by assumption) ?_ | refine cmp_eqD (by assumption) ?_ (by walk_at "shp") | refine cmp_eqD (by assumption) ?_ ?_)
local macro_rules | `(tactic| walk_at "ne") => `(tactic| first | refine cmp_neI ?_ | refine cmp_neS ?_ | refine cmp_neB ?_ | refine cmp_ne0L (by assumption) ?_ | refine cmp_ne0T (by assumption) ?_ | refine cmp_neD (by assumption) ?_ (by walk_at "shp") | refine cmp_neD (by assumption) ?_ ?_)
local macro_rules | `(tactic| walk_at "shp") => `(tactic| first | assumption | exact ⟨⟨rfl, rfl⟩, rfl, rfl⟩)
local macro_rules | `(tactic| walk_at "st") => `(tactic| first
  | (with_reducible show Go _ _ (Stmt.Assign [Expr.Name _ _] (Expr.ListComp _ _ _ _) _ :: _) _ _); refine s_setLc (by walk_at "hint") ?_ (by walk_at "has") (sw_true rfl rfl rfl (by decide +kernel))
  | (with_reducible show Go _ _ (Stmt.Assign [Expr.Name _ _] _ _ :: _) _ _); refine s_set (by walk_at "hint") ?_ (by assumption) (by walk_at "has")
  | (with_reducible show Go _ _ (Stmt.Assign [Expr.Tuple [Expr.Name _ _, Expr.Name _ _] _ _] (Expr.Tuple [_, _] _ _) _ :: _) _ _); first | refine s_par (by walk_at "hint") (by walk_at "hint") ?_ (by assumption) (by walk_at "has") (by walk_at "has") (by decide +kernel) rfl | refine s_tup2 (by walk_at "hint") (by walk_at "hint") ?_ (by assumption) (by walk_at "has") (by walk_at "has")
  | (with_reducible show Go _ _ (Stmt.Assign [Expr.Tuple [Expr.Name _ _, Expr.Name _ _, Expr.Name _ _] _ _] (Expr.Tuple [_, _, _] _ _) _ :: _) _ _); first | refine s_par3 (by walk_at "hint") (by walk_at "hint") (by walk_at "hint") ?_ (by assumption) (by walk_at "has") (by walk_at "has") (by walk_at "has") (by decide +kernel) rfl | refine s_tup3 (by walk_at "hint") (by walk_at "hint") (by walk_at "hint") ?_ (by assumption) (by walk_at "has") (by walk_at "has") (by walk_at "has")
  | (with_reducible show Go _ _ (Stmt.Assign [Expr.Tuple [Expr.Name _ _, Expr.Name _ _, Expr.Name _ _, Expr.Name _ _] _ _] (Expr.Tuple [_, _, _, _] _ _) _ :: _) _ _); refine s_tup4 (by walk_at "hint") (by walk_at "hint") (by walk_at "hint") (by walk_at "hint") ?_ (by assumption) (by walk_at "has") (by walk_at "has") (by walk_at "has") (by walk_at "has")
  | (with_reducible show Go _ _ (Stmt.Assign [Expr.Tuple [Expr.Name _ _, Expr.Name _ _] _ _] _ _ :: _) _ _); refine s_unp2 ?_ (by assumption) (by walk_at "has") (by walk_at "has")
  | (with_reducible show Go _ _ (Stmt.Assign [Expr.Tuple [Expr.Name _ _, Expr.Name _ _, Expr.Name _ _] _ _] _ _ :: _) _ _); refine s_unp3 ?_ (by assumption) (by walk_at "has") (by walk_at "has") (by walk_at "has")
  | (with_reducible show Go _ _ (Stmt.Assign [Expr.Tuple [Expr.Subscript (Expr.Name _ _) _ _, Expr.Subscript (Expr.Name _ _) _ _] _ _] _ _ :: _) _ _); refine s_setTwo (by walk_at "look") ?_ (by assumption)
  | (with_reducible show Go _ _ (Stmt.Assign [Expr.Tuple [Expr.Subscript (Expr.Name _ _) _ _, Expr.Name _ _] _ _] _ _ :: _) _ _); refine s_setNm (by walk_at "look") ?_ (by assumption) (by walk_at "has")
  | (with_reducible show Go _ _ (Stmt.AugAssign (Expr.Name _ _) _ _ _ :: _) _ _); refine s_aug (by walk_at "look") ?_ (by assumption)
  | (with_reducible show Go _ _ (Stmt.Return (some (Expr.Name _ _)) _ :: _) _ _); first | refine s_retOwn (by walk_at "look") ?_ | walk_at "ret"
  | (with_reducible show Go _ _ (Stmt.Return (some _) _ :: _) _ _); walk_at "ret"
  | (with_reducible show Go _ _ (Stmt.Expr (Expr.Call (Expr.Attribute (Expr.Call _ _ _ _) (Str.ofString "append") _) [_] [] _) _ :: _) _ _); refine s_appendNew ?_
  | (with_reducible show Go _ _ (Stmt.Expr (Expr.Call (Expr.Attribute (Expr.Name _ _) (Str.ofString "append") _) [_] [] _) _ :: _) _ _); first | refine s_append (by walk_at "look") ?_ (by assumption) (by walk_at "len") | refine s_append (by walk_at "look") ?_ (by assumption) ?_
  | (with_reducible show Go _ _ (Stmt.Pass _ :: _) _ _); refine s_pass ?_
  | (with_reducible show Go _ _ [] _ _); first | refine s_join ?_ | exact s_end)
local macro_rules | `(tactic| walk_at "ret") => `(tactic| refine s_ret ?_)
local macro_rules | `(tactic| walk_at "s") => `(tactic| first
  | (with_reducible show Go _ _ _ _ _); walk_at "st"
  | (with_reducible show EvN _ _ _ _ _ _); walk_at "e"
  | (with_reducible show EvT _ _ _ _ _); walk_at "t"
  | (with_reducible show EvW _ _ _ _ _); walk_at "t"
  | walk_at "v")
local macro_rules | `(tactic| walk_at "go") => `(tactic| repeat walk_at "s")
local macro_rules | `(tactic| walk_at "if") => `(tactic| refine s_if (by walk_at "go") ?_ ?_)
local macro_rules | `(tactic| walk_at "ifF") => `(tactic| refine s_ifF (by walk_at "go") ?_ ?_)
local macro_rules | `(tactic| walk_at "ifT") => `(tactic| refine s_ifT (by walk_at "go") ?_ ?_)

/-! ### the law's draws -/
section
variable {P : Program} {w : World} {K : PySem.W.Frag} {mg : Str → Option Value} {base : Heap}


def seedStep (s c : Int) : Int := ((s * 40127 + c) ^ (3 : Int).toNat).fmod 2147483629 + 1
theorem seed_range (l : List Int) (s : Int) (h0 : 0 ≤ s ∧ s ≤ 2147483629) : 0 ≤ l.foldl seedStep s ∧ l.foldl seedStep s ≤ 2147483629 := by
  induction l generalizing s with
  | nil => exact h0
  | cons c r ih =>
    refine ih _ ?_
    have := fmod_range (i := (s * 40127 + c) ^ (3 : Int).toNat) (j := 2147483629) (by decide)
    unfold seedStep
    omega
def P_stream : Pr := fun ds S => ∃ (ns : List Int) (st : Int), ds = [.lst (ns.map .int), .int st] ∧ ScriptB ns ∧ 0 ≤ st ∧ st ≤ 1000 ∧ S = (· = dDraw)
theorem ok_stream {f : Addr} {fd : FuncData} (F : Fun K "_law_stream" "_law_stream" s__law_stream f fd) (hm : mg "_law_stream" = some (.ref f)) (hb : Binds K fd (N__law_stream.take 2) []) (m_int : mg "int" = none) (m_len : mg "len" = none) : FnP P w K mg base "_law_stream" 1 P_stream := by
  refine fnP_of (N := N__law_stream) F sc__law_stream hm hb (fun ds S h => ?_) (fun cdv A outer s H E hr ds S h => ?_)
  · obtain ⟨ns, st, e, _⟩ := h
    rw [e]; rfl
  · obtain ⟨ns, st, e1, hbits, h0, h1, e2⟩ := h
    subst e1 e2
    show Go _ H _ _ [.dat (.lst (ns.map .int)), .dat (.int st), .any, .any, .any]
    have hB : bigB = 1100000 := rfl
    refine go_set 2 (ev_add ev_int (ev_dat 1)) (.inl rfl) ?_ sc__law_stream.nd
    refine go_fold 3 D.int ns (fun s => [.dat (.lst (ns.map .int)), .dat (.int st), .dat (.int s), .any, .any]) seedStep (113 + st) (evi_dat 0) rfl (fun _ _ _ => .inl rfl) ?_ ?_ PassesOwn.never rfl sc__law_stream.nd
    · rintro Hb' eb pre c post he
      have hs := seed_range pre (113 + st) (by omega)
      have hc : c.natAbs < 2 ^ (bigB - 1) := hbits c (by rw [he]; simp)
      have hs2 : (pre.foldl seedStep (113 + st) * 40127 + c).natAbs < 2 ^ bigB := by
        have : (pre.foldl seedStep (113 + st) * 40127).natAbs < 2 ^ (bigB - 1) := natAbs_mono (n := 50) (by rw [hB]; decide) (by omega)
        exact natAbs_add_lt this hc
      refine go_set 2 (ev_add (ev_mod (ev_pow (ev_add (ev_mul (ev_dat 2) ev_int (mulOk_bits (a := 32) (b := 32) (by omega) (by decide) (by decide))) (ev_toInt m_int (eva_cons (ev_dat 3) eva_nil))) ev_int (by decide) ?_) ev_int (by decide)) ev_int) (.inl rfl) (go_endF 3 rfl) sc__law_stream.nd
      have := intBits_le hs2
      rw [hB] at this
      have e : (2 : Int) ^ 27 = 134217728 := by decide
      rw [e]
      omega
    · have hs := seed_range ns (113 + st) (by omega)
      generalize ns.foldl seedStep (113 + st) = sd at hs ⊢
      refine go_set 4 ev_int (.inl rfl) ?_ sc__law_stream.nd
      have b1 : DrawB 1 sd := ⟨hs.1, .inr ⟨rfl, by omega⟩⟩
      refine go_ifN (S := fun k => k = true → ∃ d, atI (ns.map D.int) st = some (.int d) ∧ 10 ^ 18 ≤ d) ?_ (fun hk => ?_) (fun _ => go_join ?_)
      · refine EvW.t (evw_and (evt_lt (ev_dat 1) (ev_len m_len (eva_cons (ev_dat 0) eva_nil) (.inl rfl))) (fun hk => ?_) (fun _ z => nomatch z))
        have hlt : st < ((ns.map D.int).length : Int) := of_decide_eq_true hk.symm
        obtain ⟨d, hd⟩ : ∃ d, atI (ns.map D.int) st = some (.int d) := by
          obtain ⟨k, rfl⟩ := Int.eq_ofNat_of_zero_le h0
          have hk2 : k < ns.length := by rw [List.length_map] at hlt; omega
          exact ⟨ns[k], atI_nat (by rw [List.getElem?_map, List.getElem?_eq_getElem hk2]; rfl)⟩
        exact evw_and1 ((evt_ge (ev_ixL (ev_dat 0) (ev_dat 1) hd) (ev_pow ev_int ev_int (by decide) (by decide))).imp fun k e z => ⟨d, hd, of_decide_eq_true (p := 10 ^ (18 : Int).toNat ≤ d) (e.symm.trans z)⟩)
      · obtain ⟨d, hd, hge⟩ := hk rfl
        have hdb : (d - 10 ^ (18 : Int).toNat).natAbs < 2 ^ bigB := by
          obtain ⟨k, rfl⟩ := Int.eq_ofNat_of_zero_le h0
          obtain ⟨j, _, hj, _⟩ := atI_get hd
          rw [List.getElem?_map] at hj
          have hm' : d ∈ ns := by
            cases q : ns[j]? with
            | none => rw [q] at hj; cases hj
            | some n => rw [q] at hj; cases hj; exact List.mem_of_getElem? q
          have := natAbs_mono (m := bigB) (Nat.sub_le _ _) (hbits d hm')
          have e18 : (10 : Int) ^ (18 : Int).toNat = 10 ^ 18 := rfl
          omega
        refine go_set 4 (ev_sub (ev_ixL (ev_dat 0) (ev_dat 1) hd) (ev_pow ev_int ev_int (by decide) (by decide))) (.inl rfl) (go_join ?_) sc__law_stream.nd
        have b0 : DrawB 0 (d - 10 ^ (18 : Int).toNat) := ⟨by have e18 : (10 : Int) ^ (18 : Int).toNat = 10 ^ 18 := rfl; omega, .inl ⟨rfl, hdb⟩⟩
        exact go_retDraw (S1 := fun _ => True) (S2 := fun _ => True) ((eva_cons (ev_dat 4) (eva_cons (ev_dat 2) eva_nil)).imp fun _ z => ⟨_, sd, z, b0, b1⟩) fun v H' h => ⟨_, rfl, h⟩
      · exact go_retDraw (S1 := fun _ => True) (S2 := fun _ => True) ((eva_cons (ev_dat 4) (eva_cons (ev_dat 2) eva_nil)).imp fun _ z => ⟨0, sd, z, ⟨by decide, .inl ⟨rfl, Nat.two_pow_pos _⟩⟩, b1⟩) fun v H' h => ⟨_, rfl, h⟩
/-- a number from 0 to size - 1 -/
def P_draw : Pr := fun ds S => ∃ n : Int, ds = [dDraw, .int n] ∧ 0 < n ∧ n.natAbs < 2 ^ 2000 ∧ S = fun z => ∃ i, z = .int i ∧ 0 ≤ i ∧ i < n
theorem ok_draw {f : Addr} {fd : FuncData} (F : Fun K "_law_draw" "_law_draw" s__law_draw f fd) (hm : mg "_law_draw" = some (.ref f)) (hb : Binds K fd (N__law_draw.take 2) []) (m_int : mg "int" = none) : FnP P w K mg base "_law_draw" 1 P_draw := by
  refine fnP_of (N := N__law_draw) F sc__law_draw hm hb (fun ds S h => ?_) (fun cdv A outer s H E hr ds S h => ?_)
  · obtain ⟨n, e, _⟩ := h
    rw [e]; rfl
  · obtain ⟨n, e1, hn, hnb, e2⟩ := h
    subst e1 e2
    show Go _ H _ _ [.dat dDraw, .dat (.int n), .any]
    have hB : bigB = 1100000 := rfl
    refine go_ifN (S := fun _ => True) ?_ (fun _ => ?_) (fun _ => go_join ?_)
    · exact evt_cmpN op_ge (nomark _) (evn_drawIx (ev_dat 0) ev_int (.inl rfl)) (EvN.int1 (ev_dat 1)) fun _ _ _ _ => trivial
    · refine go_setN 2 (evi_mod (S3 := fun i => 0 ≤ i ∧ i < n) (evi_toInt m_int (evn_drawIx (ev_dat 0) ev_int (.inl rfl))) (EvN.int1 (ev_dat 1)) fun i j _ e => by subst e; exact ⟨by omega, fmod_range hn⟩) (fun d ⟨i, e, _⟩ => by rw [e]; exact .inl rfl) (fun d ⟨i, e, hi⟩ => ?_) sc__law_draw.nd
      subst e
      refine go_drawSet (k := 0) (evi_fdiv (evn_drawIx (ev_dat 0) ev_int (.inl rfl)) (EvN.int1 (ev_dat 1)) fun i j b e => ?_) (ev_dat 0) ev_int (.inl rfl) ?_
      · subst e
        obtain ⟨h1, h2⟩ := b
        have h3 := fdiv_natAbs h1 hn
        refine ⟨divX (by omega) hnb (by decide) (by decide), h3.1, .inl ⟨rfl, ?_⟩⟩
        rcases h2 with ⟨_, h2⟩ | ⟨z, _⟩
        · exact Nat.lt_of_le_of_lt h3.2 h2
        · cases z
      · exact go_ret (ev_dat 2) (.inl rfl) fun v H' h => ⟨_, ⟨i, rfl, hi⟩, h⟩
    · refine go_drawSet (k := 1) (evi_mod (evi_add (S3 := fun _ => True) (evi_mul (S3 := fun _ => True) (evi_toInt m_int (evn_drawIx (ev_dat 0) ev_int (.inr rfl))) (EvN.int1 ev_int) ?_) (EvN.int1 ev_int) fun _ _ _ _ => trivial) (EvN.int1 ev_int) ?_) (ev_dat 0) ev_int (.inr rfl) ?_
      · rintro i j ⟨h1, h2⟩ e
        subst e
        rcases h2 with ⟨z, _⟩ | ⟨_, h2⟩
        · cases z
        · exact ⟨mulOk_bits (a := 32) (b := 32) (by omega) (by decide) (by decide), trivial⟩
      · rintro i j _ e
        subst e
        have := fmod_range (i := i) (j := 2147483647) (by decide)
        exact ⟨by decide, this.1, .inr ⟨rfl, by omega⟩⟩
      · refine go_retN (evi_mod (S3 := fun i => 0 ≤ i ∧ i < n) (evi_fdiv (S3 := fun _ => True) (evi_mod (S3 := fun i => 0 ≤ i ∧ i < 1000000007) (evi_pow (S3 := fun _ => True) (evi_mod (S3 := fun i => 0 ≤ i ∧ i < 2147483629) (evi_pow (S3 := fun _ => True) (evi_toInt m_int (evn_drawIx (ev_dat 0) ev_int (.inr rfl))) (EvN.int1 ev_int) ?_) (EvN.int1 ev_int) ?_) (EvN.int1 ev_int) ?_) (EvN.int1 ev_int) ?_) (EvN.int1 ev_int) ?_) (EvN.int1 (ev_dat 1)) ?_) ?_
        · rintro i j ⟨h1, h2⟩ e
          subst e
          rcases h2 with ⟨z, _⟩ | ⟨_, h2⟩
          · cases z
          · have := intBits_le (a := i) (k := 32) (by omega)
            have e : (2 : Int) ^ 27 = 134217728 := by decide
            rw [e]
            exact ⟨⟨by decide, by omega⟩, trivial⟩
        · rintro i j _ e
          subst e
          exact ⟨by decide, fmod_range (by decide)⟩
        · rintro i j h e
          subst e
          have := intBits_le (a := i) (k := 32) (by omega)
          have e : (2 : Int) ^ 27 = 134217728 := by decide
          rw [e]
          exact ⟨⟨by decide, by omega⟩, trivial⟩
        · rintro i j _ e
          subst e
          exact ⟨by decide, fmod_range (by decide)⟩
        · rintro i j _ e
          subst e
          exact ⟨divX (n := 4) (by decide) (by decide) (by decide) (by decide), trivial⟩
        · rintro i j _ e
          subst e
          exact ⟨by omega, fmod_range hn⟩
        · rintro v H' d ⟨i, e, hi⟩ x r f
          subst e
          exact ⟨_, ⟨i, rfl, hi⟩, x, r, trivial⟩
/-- one of the things -/
def P_choose : Pr := fun ds S => ∃ xs : List D, ds = [dDraw, .lst xs] ∧ 0 < xs.length ∧ xs.length < 1000 ∧ (∀ x ∈ xs, isCont x = false) ∧ S = fun z => z ∈ xs
theorem ok_choose {f : Addr} {fd : FuncData} (F : Fun K "_law_choose" "_law_choose" s__law_choose f fd) (hm : mg "_law_choose" = some (.ref f)) (hb : Binds K fd (N__law_choose.take 2) []) (m_len : mg "len" = none) (G : FnP P w K mg base "_law_draw" 1 P_draw) : FnP P w K mg base "_law_choose" 2 P_choose := by
  refine fnP_of (N := N__law_choose) F sc__law_choose hm hb (fun ds S h => ?_) (fun cdv A outer s H E hr ds S h => ?_)
  · obtain ⟨n, e, _⟩ := h
    rw [e]; rfl
  · obtain ⟨xs, e1, h1, h2, h3, e2⟩ := h
    subst e1 e2
    show Go _ H _ _ [.dat dDraw, .dat (.lst xs)]
    refine go_retN (S := fun z => z ∈ xs) (evn_ixL (S1 := (· = xs)) (S2 := fun i => 0 ≤ i ∧ i < (xs.length : Int)) ((ev_dat 1).imp fun _ z => ⟨_, z, rfl⟩) (evn_call G hr (eva_cons (ev_dat 0) (eva_cons (ev_len m_len (eva_cons (ev_dat 1) eva_nil) (.inl rfl)) eva_nil)) fun ds e => ⟨_, ⟨xs.length, e, by omega, by rw [Int.natAbs_natCast]; exact Nat.lt_of_lt_of_le h2 (by decide), rfl⟩, fun d h => h⟩) ?_) ?_
    · rintro ds i e ⟨h4, h5⟩
      subst e
      obtain ⟨k, rfl⟩ := Int.eq_ofNat_of_zero_le h4
      have hk : k < ds.length := by omega
      exact ⟨ds[k], atI_nat (List.getElem?_eq_getElem hk), List.getElem_mem hk⟩
    · rintro v H' d hd x r f
      exact ⟨d, hd, x, r, FreshD.flat (h3 d hd)⟩
end

/-! ### fractions -/
abbrev dq (q : Rat) : D := .tup [.int q.num, .int (q.den : Int)]
def Sz (n : Nat) (q : Rat) : Prop := q.num.natAbs < 2 ^ n ∧ q.den < 2 ^ n
theorem Sz.mono {n m : Nat} {q : Rat} (h : Sz n q) (hm : n ≤ m) : Sz m q := ⟨Nat.lt_of_lt_of_le h.1 (Nat.pow_le_pow_right (by decide) hm), Nat.lt_of_lt_of_le h.2 (Nat.pow_le_pow_right (by decide) hm)⟩
theorem Sz.den {n : Nat} {q : Rat} (h : Sz n q) : (q.den : Int).natAbs < 2 ^ n := by rw [Int.natAbs_natCast]; exact h.2
theorem den_ne (q : Rat) : (q.den : Int) ≠ 0 := by have := q.den_nz; omega
theorem rat_self (q : Rat) : q = Rat.divInt q.num q.den := (Rat.num_divInt_den q).symm
theorem sz_divInt {t b : Int} {n : Nat} (ht : t.natAbs < 2 ^ n) (hb : b.natAbs < 2 ^ n) (h0 : b ≠ 0) : Sz n (Rat.divInt t b) := by
  refine ⟨?_, ?_⟩
  · rw [Rat.num_divInt]
    refine Nat.lt_of_le_of_lt (Int.natAbs_ediv_le_natAbs _ _) ?_
    rw [Int.natAbs_mul, Int.natAbs_sign_of_ne_zero h0, Nat.one_mul]
    exact ht
  · rw [Rat.den_divInt, if_neg h0]
    exact Nat.lt_of_le_of_lt (Nat.div_le_self _ _) hb
theorem add_q (p q : Rat) : Rat.divInt (p.num * q.den + q.num * p.den) (p.den * q.den) = p + q := by
  rw [← Rat.divInt_add_divInt _ _ (den_ne p) (den_ne q), ← rat_self, ← rat_self]
theorem sub_q (p q : Rat) : Rat.divInt (p.num * q.den - q.num * p.den) (p.den * q.den) = p - q := by
  have h := add_q p (-q)
  rw [Rat.neg_num, Rat.neg_den] at h
  rw [Rat.sub_eq_add_neg, ← h]
  congr 1
  rw [Int.neg_mul, Int.sub_eq_add_neg]
theorem mul_q (p q : Rat) : Rat.divInt (p.num * q.num) (p.den * q.den) = p * q := by
  rw [← Rat.divInt_mul_divInt, ← rat_self, ← rat_self]
theorem div_q (p q : Rat) : Rat.divInt (p.num * q.den) (p.den * q.num) = p / q := by
  rw [Rat.div_def, Rat.inv_def, ← Rat.divInt_mul_divInt, ← rat_self]
theorem bits_add {a b : Int} {n : Nat} (ha : a.natAbs < 2 ^ n) (hb : b.natAbs < 2 ^ n) : (a + b).natAbs < 2 ^ (n + 1) := natAbs_add_lt ha hb
theorem bits_sub {a b : Int} {n : Nat} (ha : a.natAbs < 2 ^ n) (hb : b.natAbs < 2 ^ n) : (a - b).natAbs < 2 ^ (n + 1) := by
  rw [Int.sub_eq_add_neg]
  exact natAbs_add_lt ha (by rw [Int.natAbs_neg]; exact hb)
theorem add_bits {p q : Rat} {n m : Nat} (hp : Sz n p) (hq : Sz m q) : (p.num * q.den + q.num * p.den).natAbs < 2 ^ (n + m + 1) ∧ ((p.den : Int) * q.den).natAbs < 2 ^ (n + m + 1) :=
  ⟨bits_add (natAbs_mul_lt hp.1 hq.den) (by rw [Nat.add_comm]; exact natAbs_mul_lt hq.1 hp.den), natAbs_mono (Nat.le_succ _) (natAbs_mul_lt hp.den hq.den)⟩
theorem sub_bits {p q : Rat} {n m : Nat} (hp : Sz n p) (hq : Sz m q) : (p.num * q.den - q.num * p.den).natAbs < 2 ^ (n + m + 1) :=
  bits_sub (natAbs_mul_lt hp.1 hq.den) (by rw [Nat.add_comm]; exact natAbs_mul_lt hq.1 hp.den)
theorem dd_ne (p q : Rat) : (p.den : Int) * q.den ≠ 0 := Int.mul_ne_zero (den_ne p) (den_ne q)
theorem num_ne {q : Rat} (h : q ≠ 0) : q.num ≠ 0 := fun z => h (Rat.num_eq_zero.mp z)
theorem dn_ne (p : Rat) {q : Rat} (h : q ≠ 0) : (p.den : Int) * q.num ≠ 0 := Int.mul_ne_zero (den_ne p) (num_ne h)
theorem Sz.sub {p q : Rat} {n m : Nat} (hp : Sz n p) (hq : Sz m q) : Sz (n + m + 1) (p - q) := by
  rw [← sub_q]; exact sz_divInt (sub_bits hp hq) (add_bits hp hq).2 (dd_ne p q)
theorem Sz.mul {p q : Rat} {n m : Nat} (hp : Sz n p) (hq : Sz m q) : Sz (n + m) (p * q) := by
  rw [← mul_q]; exact sz_divInt (natAbs_mul_lt hp.1 hq.1) (natAbs_mul_lt hp.den hq.den) (dd_ne p q)
theorem Sz.div {p q : Rat} {n m : Nat} (hp : Sz n p) (hq : Sz m q) (h : q ≠ 0) : Sz (n + m) (p / q) := by
  rw [← div_q]; exact sz_divInt (natAbs_mul_lt hp.1 hq.den) (natAbs_mul_lt hp.den hq.1) (dn_ne p h)
section
variable {P : Program} {w : World} {K : PySem.W.Frag} {mg : Str → Option Value} {base : Heap}
end

/-! ### the law's own fractions -/
section
variable {P : Program} {w : World} {K : PySem.W.Frag} {mg : Str → Option Value} {base : Heap}
end

/-! ### calls, by what is wanted behind -/
theorem c_draw {n : Int} {Q : D → Prop} (q : ∀ i : Int, 0 ≤ i → i < n → Q (.int i)) (h : 0 < n ∧ n.natAbs < 2 ^ 2000) : Cl P_draw [dDraw, .int n] Q := ⟨_, ⟨n, rfl, h.1, h.2, rfl⟩, fun d ⟨i, e, h0, h1⟩ => by rw [e]; exact q i h0 h1⟩
theorem c_stream {ns : List Int} {st : Int} {Q : D → Prop} (q : Q dDraw) (h : ScriptB ns ∧ 0 ≤ st ∧ st ≤ 1000) : Cl P_stream [.lst (ns.map .int), .int st] Q := ⟨_, ⟨ns, st, rfl, h.1, h.2.1, h.2.2, rfl⟩, fun d e => by rw [e]; exact q⟩
theorem small2000 {n : Int} (h0 : 0 < n) (h : n < 2 ^ 62) : 0 < n ∧ n.natAbs < 2 ^ 2000 := ⟨h0, Nat.lt_of_lt_of_le (m := 2 ^ 62) (by omega) (Nat.pow_le_pow_right (by decide) (by decide))⟩
theorem c_choose {xs : List D} {Q : D → Prop} (q : ∀ d ∈ xs, Q d) (h : (0 < xs.length ∧ xs.length < 1000) ∧ ∀ x ∈ xs, isCont x = false) : Cl P_choose [dDraw, .lst xs] Q := ⟨_, ⟨xs, rfl, h.1.1, h.1.2, h.2, rfl⟩, q⟩
theorem nc_nil : ∀ x ∈ ([] : List D), isCont x = false := fun _ m => nomatch m
theorem nc_cons {d : D} {xs : List D} (h : isCont d = false) (r : ∀ x ∈ xs, isCont x = false) : ∀ x ∈ d :: xs, isCont x = false := fun x m => by
  rcases List.mem_cons.mp m with e | m
  · rw [e]; exact h
  · exact r x m

local macro_rules | `(tactic| walk_at "cl") => `(tactic| first | refine c_draw (fun _ _ _ => ?_) (by first | assumption | exact small2000 (by omega) (by omega) | exact small2000 (by decide +kernel) (by decide +kernel)) | refine c_draw (fun _ _ _ => ?_) ?_ | fail)
local macro_rules | `(tactic| walk_at "cl") => `(tactic| first | refine c_stream ?_ ⟨by assumption, by omega, by omega⟩ | fail)
local macro_rules | `(tactic| walk_at "nc") => `(tactic| first | exact nc_nil | (refine nc_cons rfl ?_; walk_at "nc") | fail)
local macro_rules | `(tactic| walk_at "cl") => `(tactic| first | refine c_choose ?_ ⟨⟨Nat.succ_pos _, Nat.le_of_ble_eq_true rfl⟩, by walk_at "nc"⟩ | refine c_choose ?_ ?_ | fail)

/-! ### written fractions, written ints -/
def P01 (d : D) : Prop := ∃ q : Rat, d = dq q ∧ Sz 8 q ∧ 0 < q ∧ q < 1
def Pq (n : Nat) (d : D) : Prop := ∃ q : Rat, d = dq q ∧ Sz n q ∧ 0 < q
def PI (lo hi : Int) (d : D) : Prop := ∃ i : Int, d = .int i ∧ lo ≤ i ∧ i ≤ hi
theorem lit_num {n d : Int} (hd : 0 < d) (h : Int.gcd n d = 1) : D.tup [.int n, .int d] = dq (Rat.divInt n d) := by
  show _ = D.tup [.int (Rat.divInt n d).num, .int ((Rat.divInt n d).den : Int)]
  rw [Rat.num_divInt, Rat.den_divInt, if_neg (by omega), Int.gcd_comm d n, h, Int.sign_eq_one_of_pos hd, Int.one_mul]
  simp only [Int.natCast_one, Int.ediv_one, Nat.div_one]
  rw [Int.natAbs_of_nonneg (Int.le_of_lt hd)]
theorem divInt_pos' {n d : Int} (hn : 0 < n) (hd : 0 < d) : 0 < Rat.divInt n d := by
  rw [Rat.lt_iff, Rat.num_divInt, Int.sign_eq_one_of_pos hd, Int.one_mul]
  show 0 * _ < n / _ * 1
  rw [Int.zero_mul, Int.mul_one]
  have hg : (Int.gcd d n : Int) ∣ n := Int.gcd_dvd_right ..
  have hg0 : 0 < (Int.gcd d n : Int) := by
    have : Int.gcd d n ≠ 0 := fun z => by have := (Int.gcd_eq_zero_iff.mp z).2; omega
    omega
  exact Int.ediv_pos_of_pos_of_dvd hn (Int.le_of_lt hg0) hg
theorem litq {m : Nat} {n d : Int} (h : ((0 < n ∧ n.natAbs < 2 ^ m) ∧ (0 < d ∧ d.natAbs < 2 ^ m)) ∧ Int.gcd n d = 1) : Pq m (.tup [.int n, .int d]) :=
  ⟨_, lit_num h.1.2.1 h.2, sz_divInt h.1.1.2 h.1.2.2 (by have := h.1.2.1; omega), divInt_pos' h.1.1.1 h.1.2.1⟩
theorem lit01 {n d : Int} (h : ((0 < n ∧ n < d) ∧ d < 256) ∧ Int.gcd n d = 1) : P01 (.tup [.int n, .int d]) := by
  obtain ⟨⟨⟨h1, h2⟩, h3⟩, h4⟩ := h
  refine ⟨_, lit_num (by omega) h4, sz_divInt (n := 8) (by omega) (by omega) (by omega), divInt_pos' h1 (by omega), ?_⟩
  have e := lit_num (by omega : 0 < d) h4
  have e1 : n = (Rat.divInt n d).num ∧ d = ((Rat.divInt n d).den : Int) := by
    have : D.tup [.int n, .int d] = D.tup [.int (Rat.divInt n d).num, .int ((Rat.divInt n d).den : Int)] := e
    injection this with this
    injection this with a b
    injection a with a
    injection b with b c
    injection b with b
    exact ⟨a, b⟩
  rw [Rat.lt_iff, ← e1.1, ← e1.2]
  show n * 1 < 1 * d
  omega
theorem litI {lo hi i : Int} (h : lo ≤ i ∧ i ≤ hi) : PI lo hi (.int i) := ⟨i, rfl, h⟩
/-- a drawn saw -/
structure SawB (sp st k : Rat) : Prop where
  spz : Sz 8 sp
  stz : Sz 8 st
  kz : Sz 8 k
  kpos : 0 < k
  klt : k < 1
  spos : 0 < st
  pos : 0 < sp

/-! ### k54: of which classes an error is -/
def IsE (K : PySem.W.Frag) (d : D) (cv : Value) (Q : Bool → Prop) : Prop := ∃ C2 f x b, d = .exc C2 f x ∧ ExcC K C2 ∧ PySem.W.kitOne K (.ref C2) cv = some b ∧ Q b
theorem isE {K : PySem.W.Frag} {C : Addr} {f : Str} {x : D} {cv : Value} {b : Bool} {Q : Bool → Prop} (q : Q b) (e : ExcC K C) (k : PySem.W.kitOne K (.ref C) cv = some b) : IsE K (.exc C f x) cv Q := ⟨C, f, x, b, rfl, e, k, q⟩
theorem paired_cons {α β : Type} {F : α → β → Prop} {a : α} {as : List α} {bs : List β} (h : Paired F (a :: as) bs) : ∃ b bs', bs = b :: bs' ∧ F a b ∧ Paired F as bs' := by
  cases h with
  | cons h r => exact ⟨_, _, rfl, h, r⟩
theorem paired_nil {α β : Type} {F : α → β → Prop} {bs : List β} (h : Paired F [] bs) : bs = [] := by
  cases h
  rfl
abbrev P_kinds (K : PySem.W.Frag) (Cs : List Addr) : Pr := fun ds S => ∃ C f x bs, ds = [.exc C f x] ∧ ExcC K C ∧ Paired (fun c b => PySem.W.kitOne K (.ref C) (.ref c) = some b) Cs bs ∧ S = (· = .lst (bs.map .bl))
section
variable {P : Program} {w : World} {K : PySem.W.Frag} {mg : Str → Option Value} {base : Heap}
section
variable {X : Cx} {Hb : Hp} {a e : Expr} {Γ : Slots} {pos p2 pn : Pos} {Q : D → Prop} {fr : Bool} {C : Addr} {T n : Str}
theorem w_isE (hm : X.mg "isinstance" = none) (hm2 : X.mg T = some (.ref C)) (h : EvN X Hb a Γ false fun d => IsE X.K d (.ref C) fun b => Q (.bl b))
    (hg : Gl X "isinstance" := by rfl) (hg2 : Gl X T := by rfl) (hd : (T == ("__debug__" : Str)) = false := by decide) (he : starEach (a :: [.Name T p2]) X.env = (false, eval a X.env) :: starEach [.Name T p2] X.env := by rfl) (he2 : starEach ([.Name T p2]) X.env = (false, eval (.Name T p2) X.env) :: starEach [] X.env := by rfl) (hpl : (backTo pos (starEach [.Name T p2] X.env)).any (·.1) = false := by rfl) :
    EvN X Hb (.Call (.Name "isinstance" pn) [a, .Name T p2] [] pos) Γ fr Q := w_isErr hm hm2 h hg hg2 hd he he2 hpl
end
local macro_rules | `(tactic| walk_at "call") => `(tactic| first | (with_reducible show EvN _ _ (Expr.Call (Expr.Name (Str.ofString "isinstance") _) [_, Expr.Name _ _] [] _) _ _ _); refine w_isE (by assumption) (by assumption) ?_ | fail)
local macro_rules | `(tactic| walk_at "v") => `(tactic| first | (with_reducible show IsE _ _ _ _); refine isE ?_ (by assumption) (by assumption) | fail)
theorem ok_kinds {f : Addr} {fd : FuncData} {C0 C1 C2 C3 C4 C5 C6 C7 C8 C9 C10 C11 C12 C13 : Addr} (F : Fun K "_law_kinds" "_law_kinds" s__law_kinds f fd) (hm : mg "_law_kinds" = some (.ref f)) (hb : Binds K fd (N__law_kinds.take 1) []) (m_isinstance : mg "isinstance" = none) (m_BadPlan : mg "BadPlan" = some (.ref C0)) (m_BadTime : mg "BadTime" = some (.ref C1)) (m_BadNetwork : mg "BadNetwork" = some (.ref C2)) (m_BadFraction : mg "BadFraction" = some (.ref C3)) (m_TooMany : mg "TooMany" = some (.ref C4)) (m_BadName : mg "BadName" = some (.ref C5)) (m_BadLink : mg "BadLink" = some (.ref C6)) (m_BadSender : mg "BadSender" = some (.ref C7)) (m_TakenName : mg "TakenName" = some (.ref C8)) (m_UnknownName : mg "UnknownName" = some (.ref C9)) (m_InUse : mg "InUse" = some (.ref C10)) (m_BadText : mg "BadText" = some (.ref C11)) (m_NothingToDo : mg "NothingToDo" = some (.ref C12)) (m_BadCommand : mg "BadCommand" = some (.ref C13)) : FnP P w K mg base "_law_kinds" 1 (P_kinds K [C0, C1, C2, C3, C4, C5, C6, C7, C8, C9, C10, C11, C12, C13]) := by
  refine fnP_of (N := N__law_kinds) F sc__law_kinds hm hb (fun ds S h => ?_) (fun cdv A outer s H E hr ds S h => ?_)
  · obtain ⟨C, f, x, bs, rfl, _⟩ := h; rfl
  obtain ⟨C, f, x, bs, rfl, ec, hp, rfl⟩ := h
  have nd := sc__law_kinds.nd
  obtain ⟨b0, bs, rfl, k0, hp⟩ := paired_cons hp
  obtain ⟨b1, bs, rfl, k1, hp⟩ := paired_cons hp
  obtain ⟨b2, bs, rfl, k2, hp⟩ := paired_cons hp
  obtain ⟨b3, bs, rfl, k3, hp⟩ := paired_cons hp
  obtain ⟨b4, bs, rfl, k4, hp⟩ := paired_cons hp
  obtain ⟨b5, bs, rfl, k5, hp⟩ := paired_cons hp
  obtain ⟨b6, bs, rfl, k6, hp⟩ := paired_cons hp
  obtain ⟨b7, bs, rfl, k7, hp⟩ := paired_cons hp
  obtain ⟨b8, bs, rfl, k8, hp⟩ := paired_cons hp
  obtain ⟨b9, bs, rfl, k9, hp⟩ := paired_cons hp
  obtain ⟨b10, bs, rfl, k10, hp⟩ := paired_cons hp
  obtain ⟨b11, bs, rfl, k11, hp⟩ := paired_cons hp
  obtain ⟨b12, bs, rfl, k12, hp⟩ := paired_cons hp
  obtain ⟨b13, bs, rfl, k13, hp⟩ := paired_cons hp
  obtain rfl := paired_nil hp
  show Go _ H (_ :: _) _ [.dat (.exc C f x), .any]
  walk_at "go"
  all_goals first | rfl | skip
end

local macro_rules | `(tactic| walk_at "prop") => `(tactic| fail)
local macro_rules | `(tactic| walk_at "e") => `(tactic| first
  | (with_reducible show EvN _ _ (Expr.ListComp _ [_] _ _) _ _ _); walk_at "lc"
  | (with_reducible show EvN _ _ (Expr.Attribute _ _ _) _ _ _); first | walk_at "prop" | refine w_fldO ?_ (by assumption) (by assumption)
  | (with_reducible show EvN _ _ (Expr.Dict [] [] _) _ _ _); refine w_dct0 ?_
  | fail)
local macro_rules | `(tactic| walk_at "lc") => `(tactic| refine w_lcK ?_)
local macro_rules | `(tactic| walk_at "name") => `(tactic| first
  | refine w_ownD (by walk_at "look") ?_
  | fail)
local macro_rules | `(tactic| walk_at "call") => `(tactic| first
  | (with_reducible show EvN _ _ (Expr.Call (Expr.Name (Str.ofString "len") _) [_] [] _) _ _ _); refine w_lenA (by assumption) ?_
  | (with_reducible show EvN _ _ (Expr.Call (Expr.Name (Str.ofString "list") _) [_] [] _) _ _ _); refine w_listA (by assumption) ?_
  | (with_reducible show EvN _ _ (Expr.Call (Expr.Name (Str.ofString "dict") _) [_] [] _) _ _ _); refine w_dictA (by assumption) ?_
  | (with_reducible show EvN _ _ (Expr.Call (Expr.Name (Str.ofString "sorted") _) [_] [] _) _ _ _); refine w_sortedD (by assumption) ?_
  | (with_reducible show EvN _ _ (Expr.Call (Expr.Name (Str.ofString "isinstance") _) [_, Expr.Name (Str.ofString "dict") _] [] _) _ _ _); refine w_isI (Ts := "dict") (by assumption) (by assumption) ?_
  | (with_reducible show EvN _ _ (Expr.Call (Expr.Name (Str.ofString "isinstance") _) [_, Expr.Name (Str.ofString "str") _] [] _) _ _ _); refine w_isI (Ts := "str") (by assumption) (by assumption) ?_
  | fail)
local macro_rules | `(tactic| walk_at "key") => `(tactic| first | assumption | rfl)
local macro_rules | `(tactic| walk_at "v") => `(tactic| first
  | (with_reducible show StoreD true _ _ _ (D.dct _) _); first | refine sto_ownD (fun _ => ?_) (by walk_at "flatkv") | refine sto_ownD (fun _ => ?_) ?_
  | (with_reducible show LenA _ _); first | with_reducible refine lenD ?_ | refine lenA ?_
  | (with_reducible show LstA _ _); first | with_reducible refine lstL ?_ | with_reducible refine lstT ?_ | with_reducible refine lstD ?_
  | (with_reducible show DctA _ _); with_reducible refine dctD ?_
  | (with_reducible show CmpD _ CmpOp.In (D.str _) (D.dct _) _); refine cmp_inDS (by assumption) ?_
  | (with_reducible show CmpD _ CmpOp.NotIn (D.str _) (D.dct _) _); refine cmp_ninDS (by assumption) ?_
  | (with_reducible show CmpD _ CmpOp.In (D.str _) (D.lst (List.map D.str _)) _); first | refine cmp_inLS (by assumption) ?_ (by walk_at "oks") | refine cmp_inLS (by assumption) ?_ ?_
  | (with_reducible show CmpD _ CmpOp.In (D.str _) (D.tup (List.map D.str _)) _); first | refine cmp_inTS (by assumption) ?_ (by walk_at "oks") | refine cmp_inTS (by assumption) ?_ ?_
  | (with_reducible show CmpD _ CmpOp.NotIn (D.str _) (D.lst (List.map D.str _)) _); first | refine cmp_ninLS (by assumption) ?_ (by walk_at "oks") | refine cmp_ninLS (by assumption) ?_ ?_
  | (with_reducible show CmpD _ CmpOp.Eq (D.dct _) (D.dct _) _); refine cmp_eqDct (by assumption) ?_ ?_ ?_
  | (with_reducible show CmpD _ CmpOp.NotEq (D.dct _) (D.dct _) _); refine cmp_neDct (by assumption) ?_ ?_ ?_
  | (with_reducible show IxD _ (D.dct _) (D.str _) _); first | refine ix_DS (by assumption) (by walk_at "key") ?_ | refine ix_DS (by assumption) ?_ ?_
  | (with_reducible show RetD _ _ _ _); first | refine ret_lk (by assumption) ?_ (by first | exact Ex.refl | assumption)
  | (with_reducible show ∃ _, ∃ _, _ = _ ∧ lookD _ _ = some _ ∧ _); first | refine ⟨_, _, rfl, by walk_at "key", ?_⟩ | refine ⟨_, _, rfl, ?_, ?_⟩
  | (with_reducible show ∃ _, D.str _ = kD _ ∧ _); refine ⟨Sum.inr _, rfl, ?_⟩
  | fail)
local macro_rules | `(tactic| walk_at "oks") => `(tactic| assumption)
local macro_rules | `(tactic| walk_at "flatkv") => `(tactic| first | rfl | assumption)
local macro_rules | `(tactic| walk_at "st") => `(tactic| first
  | (with_reducible show Go _ _ (Stmt.Assign [Expr.Name _ _] (Expr.ListComp _ _ _ _) _ :: _) _ _); refine s_setLcK (by walk_at "hint") ?_ (by walk_at "has") (sw_true rfl rfl rfl (by decide +kernel))
  | (with_reducible show Go _ _ (Stmt.Assign [Expr.Subscript (Expr.Name _ _) _ _] _ _ :: _) _ _); first | refine s_dput (by assumption) (by walk_at "look") ?_ (by assumption) (by walk_at "len") | refine s_dput (by assumption) (by walk_at "look") ?_ (by assumption) ?_
  | (with_reducible show Go _ _ (Stmt.Return (some (Expr.Name _ _)) _ :: _) _ _); refine s_retOwnD (by walk_at "look") ?_
  | (with_reducible show Go _ _ (Stmt.Expr (Expr.Call (Expr.Attribute (Expr.Name _ _) (Str.ofString "clear") _) [] [] _) _ :: _) _ _); refine s_dclear (by walk_at "look") ?_ (by assumption)
  | (with_reducible show Go _ _ (Stmt.Expr (Expr.Call (Expr.Attribute (Expr.Name _ _) (Str.ofString "update") _) [_] [] _) _ :: _) _ _); refine s_dupd (by walk_at "look") ?_ (by assumption)
  | fail)

local macro_rules | `(tactic| walk_at "lit") => `(tactic| first | exact alln | (refine allc (lit01 (by decide +kernel)) ?_; walk_at "lit") | (refine allc (litq (by decide +kernel)) ?_; walk_at "lit") | (refine allc (litI (by first | decide | omega)) ?_; walk_at "lit") | fail)

/-! ### k54: the law (under way) -/
local macro_rules | `(tactic| walk_at "evx") => `(tactic| first
  | (with_reducible show EvXA _ _ [] _ _); refine evx_nil ?_
  | (with_reducible show EvXA _ _ (_ :: _) _ _); refine evx_cons ?_
  | (with_reducible show EvX _ _ (Expr.List _ _) _ _); refine evx_lstR "_law_script" (by assumption) ?_
  | (with_reducible show EvX _ _ (Expr.Dict _ _ _) _ _); refine evx_dctR "_law_script" (by assumption) (w_dct1 ?_)
  | (with_reducible show EvX _ _ (Expr.Tuple _ _ _) _ _); refine evx_tup ?_
  | (with_reducible show EvX _ _ _ _ _); refine evx_of (fr := false) ?_)
/-- a shared thing is taken in -/
theorem takeIn {X : Cx} {Γ : Slots} {rn : Str} {c : Cell} {S : D → Slots → Prop} {ps : List Addr} {cs : List Cell} {v : V} {x : D} (h : Look X.N Γ rn (.rg X.K ps cs v x)) (k : ∀ p, p ∉ ps → Up1 X.N Γ rn (.rg X.K (ps ++ [p]) (cs ++ [c]) v x) fun Γ' => S (.ptr p) Γ') : TakeIn X Γ rn c S := ⟨ps, cs, v, x, h, k⟩
theorem smd_str54 : Smd (.str "") ∧ Smd (.str "back") ∧ Smd (.str "x") ∧ Smd (.int (10 ^ 30)) := by
  refine ⟨⟨rfl, ⟨rfl, by decide +kernel, by decide +kernel, by decide +kernel⟩⟩, ⟨rfl, ⟨rfl, by decide +kernel, by decide +kernel, by decide +kernel⟩⟩, ⟨rfl, ⟨rfl, by decide +kernel, by decide +kernel, by decide +kernel⟩⟩, smd_int (by decide +kernel)⟩
theorem lstAt_last {ps : List Addr} {cs : List Cell} {p : Addr} {xs : List D} (hl : ps.length = cs.length) : LstAt (ps ++ [p]) (cs ++ [.lst xs]) (.ptr p) := ⟨p, ps.length, xs, rfl, by simp, by rw [hl]; simp⟩
theorem val_last {ps : List Addr} {cs : List Cell} {p : Addr} {c : Cell} (hl : ps.length = cs.length) : ValV (ps ++ [p]) (cs ++ [c]) (.ptr p) := .inr (.inr ⟨p, ps.length, c, rfl, by simp, by rw [hl]; simp⟩)
/-- the things to choose from -/
def some54 (p q r : Addr) : List D := [.non, .bl true, .int 0, .int 1, .int (10 ^ Int.toNat 30), .str "", .str "back", .tup [], .tup [.int 3, .int 4], .ptr p, .ptr q, .tup [.str "x", .ptr r]]
section
variable {P : Program} {w : World} {K : PySem.W.Frag} {mg : Str → Option Value} {base : Heap}
section
variable {X : Cx} {Hb : Hp} {a e : Expr} {Γ : Slots} {pos p2 pn : Pos} {Q : D → Prop} {fr : Bool} {T : Str}
theorem w_isET {Ts : String} (hm : X.mg "isinstance" = none) (hm2 : X.mg T = none) (h : EvN X Hb a Γ false fun d => IsE X.K d (.type Ts) fun b => Q (.bl b)) (hv : bootBuiltins T = some (.type Ts) := by decide +kernel)
    (hg : Gl X "isinstance" := by rfl) (hg2 : Gl X T := by rfl) (hn : T ≠ "__name__" := by decide) (hd : (T == ("__debug__" : Str)) = false := by decide) (he : starEach (a :: [.Name T p2]) X.env = (false, eval a X.env) :: starEach [.Name T p2] X.env := by rfl) (he2 : starEach ([.Name T p2]) X.env = (false, eval (.Name T p2) X.env) :: starEach [] X.env := by rfl) (hpl : (backTo pos (starEach [.Name T p2] X.env)).any (·.1) = false := by rfl) :
    EvN X Hb (.Call (.Name "isinstance" pn) [a, .Name T p2] [] pos) Γ fr Q := w_isErrT hm hm2 h hv hg hg2 hn hd he he2 hpl
end
local macro_rules | `(tactic| walk_at "call") => `(tactic| first
  | (with_reducible show EvN _ _ (Expr.Call (Expr.Name (Str.ofString "isinstance") _) [_, Expr.Name (Str.ofString "FlowError") _] [] _) _ _ _); refine w_isE (by assumption) (by assumption) ?_
  | (with_reducible show EvN _ _ (Expr.Call (Expr.Name (Str.ofString "isinstance") _) [_, Expr.Name (Str.ofString "ValueError") _] [] _) _ _ _); refine w_isET (Ts := "ValueError") (by assumption) (by assumption) ?_
  | fail)
local macro_rules | `(tactic| walk_at "v") => `(tactic| first | (with_reducible show IsE _ _ _ _); refine isE ?_ (by assumption) (by assumption) | fail)
theorem c_kinds54 {K : PySem.W.Frag} {C : Addr} {Cs : List Addr} {bs : List Bool} {f : Str} {x : D} {Q : D → Prop} (e : ExcC K C) (p : Paired (fun c b => PySem.W.kitOne K (.ref C) (.ref c) = some b) Cs bs) (q : Q (.lst (bs.map .bl))) : Cl (P_kinds K Cs) [.exc C f x] Q := ⟨_, ⟨C, f, x, bs, rfl, e, p, rfl⟩, fun d h => by rw [h]; exact q⟩
local macro_rules | `(tactic| walk_at "name") => `(tactic| first | refine w_rgv (by walk_at "look") ?_ | fail)
/-- an error's class, all that is asked of it -/
structure Er54 (P : Program) (w : World) (K : PySem.W.Frag) (mg : Str → Option Value) (base : Heap) (C CF : Addr) : Prop where
  er : ErrC P w K mg base C "value"
  ek : ErrK P w K mg base C "value" "value"
  x : ExcC K C
  xf : XfC K C
  no : PySem.W.findIn K (.ref C) "value" = some none
  kf : PySem.W.kitOne K (.ref C) (.ref CF) = some true
  kv : PySem.W.kitOne K (.ref C) (.type "ValueError") = some true
theorem rg54 {p q r : Addr} (h1 : q ∉ [p]) (h2 : r ∉ [p, q]) : Rg 0 [p, q, r] [.lst [.int 1], .dct [(.inr "a", .int 1)], .lst [.int 2]] ∧ ∀ d ∈ some54 p q r, ValV [p, q, r] [.lst [.int 1], .dct [(.inr "a", .int 1)], .lst [.int 2]] d := by
  have s1 : Smd (.int 1) := smd_int (by decide +kernel)
  have s2 : Smd (.int 2) := smd_int (by decide +kernel)
  refine ⟨⟨?_, rfl, fun c m => ?_⟩, fun d m => ?_⟩
  · simp only [List.mem_cons, List.not_mem_nil, or_false] at h1 h2
    simp only [List.nodup_cons, List.mem_cons, List.not_mem_nil, or_false, not_false_eq_true, List.nodup_nil, and_true]
    exact ⟨fun z => z.elim (fun z => h1 z.symm) (fun z => h2 (.inl z.symm)), fun z => h2 (.inr z.symm)⟩
  · simp only [List.mem_cons, List.not_mem_nil, or_false] at m
    rcases m with rfl | rfl | rfl
    · exact ⟨by decide, fun x m => by rw [List.mem_singleton.mp m]; exact s1⟩
    · exact ⟨.int 1, .inl s1, .inl rfl⟩
    · exact ⟨by decide, fun x m => by rw [List.mem_singleton.mp m]; exact s2⟩
  · simp only [some54, List.mem_cons, List.not_mem_nil, or_false] at m
    rcases m with rfl | rfl | rfl | rfl | rfl | rfl | rfl | rfl | rfl | rfl | rfl | rfl
    · exact .inl smd_non
    · exact .inl (smd_bl _)
    · exact .inl smd_2.2
    · exact .inl s1
    · exact .inl (show Smd (.int (10 ^ Int.toNat 30)) from smd_str54.2.2.2)
    · exact .inl smd_str54.1
    · exact .inl smd_str54.2.1
    · exact .inr (.inl ⟨[], rfl, by decide, fun _ m => nomatch m⟩)
    · exact .inr (.inl ⟨_, rfl, by decide, fun x m => by
        simp only [List.mem_cons, List.not_mem_nil, or_false] at m
        rcases m with rfl | rfl
        · exact .inl (smd_int (by decide +kernel))
        · exact .inl (smd_int (by decide +kernel))⟩)
    · exact .inr (.inr ⟨p, 0, _, rfl, rfl, rfl⟩)
    · exact .inr (.inr ⟨q, 1, _, rfl, rfl, rfl⟩)
    · exact .inr (.inl ⟨_, rfl, Nat.le_of_ble_eq_true rfl, fun x m => by
        simp only [List.mem_cons, List.not_mem_nil, or_false] at m
        rcases m with rfl | rfl
        · exact .inl smd_str54.2.2.1
        · exact .inr ⟨r, 2, _, rfl, rfl, rfl⟩⟩)
theorem ok_law {f C0 C1 CF : Addr} {fd : FuncData} {Cs : List Addr} {bs0 bs1 : List Bool} (F : Fun K "law" "law" s_law f fd) (m_range : mg "range" = none) (m_isinstance : mg "isinstance" = none) (m_repr : mg "repr" = none) (m_enumerate : mg "enumerate" = none) (m_list : mg "list" = none) (m_dict : mg "dict" = none) (m_VE : mg "ValueError" = none)
    (m_F : mg "FlowError" = some (.ref CF)) (m_P : mg "BadPlan" = some (.ref C0)) (m_T : mg "BadTime" = some (.ref C1)) (e0 : Er54 P w K mg base C0 CF) (e1 : Er54 P w K mg base C1 CF) (sb : SysB base)
    (H1 : FnP P w K mg base "_law_stream" 1 P_stream) (H2 : FnP P w K mg base "_law_draw" 1 P_draw) (H3 : FnP P w K mg base "_law_choose" 2 P_choose) (H4 : FnP P w K mg base "_law_kinds" 1 (P_kinds K Cs)) (hb0 : Paired (fun c b => PySem.W.kitOne K (.ref C0) (.ref c) = some b) Cs bs0) (hb1 : Paired (fun c b => PySem.W.kitOne K (.ref C1) (.ref c) = some b) Cs bs1) (hs0 : bs0 = (List.range 14).map fun (i : Nat) => decide ((i : Int) = ((0 : Nat) : Int))) (hs1 : bs1 = (List.range 14).map fun (i : Nat) => decide ((i : Int) = ((1 : Nat) : Int))) : FnG P w K mg base 4 f fd ["_law_script"] (spLaw K) := by
  refine fnG_law (N := N_law) F sc_law fun cdv A outer s H hg hr ns hl hb => ?_
  have nd := sc_law.nd
  show Go _ H (_ :: _) _ [.dat (.lst (ns.map .int)), .any, .any, .any, .any, .any, .any, .any, .any, .any, .any, .any]
  refine go_rg (rn := "_law_script") (by walk_at "look") nd fun v => up1 (by walk_at "up") ?_
  refine s_setXO ?_ nd (by walk_at "has")
  iterate 7 (refine evx_cons (evx_of (fr := false) ?_); walk_at "go")
  refine evx_cons (evx_of (fr := false) ?_)
  walk_at "go"
  refine evx_cons (evx_of (fr := false) ?_)
  walk_at "go"
  refine evx_cons (evx_lstR "_law_script" nd (evx_cons (evx_of (fr := false) ?_)))
  walk_at "go"
  refine evx_nil ⟨by decide, rfl, takeIn (by walk_at "look") fun p1 n1 => up1 (by walk_at "up") ?_⟩
  refine evx_cons (evx_dctR "_law_script" nd (w_dct1 ?_))
  walk_at "go"
  refine takeIn (by walk_at "look") fun p2 n2 => up1 (by walk_at "up") ?_
  refine evx_cons (evx_tup (evx_cons (evx_of (fr := false) ?_)))
  walk_at "go"
  refine evx_cons (evx_lstR "_law_script" nd (evx_cons (evx_of (fr := false) ?_)))
  walk_at "go"
  refine evx_nil ⟨by decide, rfl, takeIn (by walk_at "look") fun p3 n3 => up1 (by walk_at "up") ?_⟩
  refine evx_nil ⟨Nat.le_of_ble_eq_true rfl, ?_⟩
  refine evx_nil ⟨Nat.le_of_ble_eq_true rfl, rfl, fun pS => up1 (by walk_at "up") ?_⟩
  obtain ⟨R0, V0⟩ := rg54 (p := p1) (q := p2) (r := p3) n2 n3
  have so : ∃ so, so = some54 p1 p2 p3 := ⟨_, rfl⟩
  obtain ⟨so, hso⟩ := so
  have lso : so.length = 12 := by rw [hso]; rfl
  have cso : ∀ x ∈ so, isCont x = false := by
    rw [hso]
    intro x m
    simp only [some54, List.mem_cons, List.not_mem_nil, or_false] at m
    rcases m with rfl | rfl | rfl | rfl | rfl | rfl | rfl | rfl | rfl | rfl | rfl | rfl <;> rfl
  rw [← hso] at V0
  show Go _ H _ _ [.rg K [p1, p2, p3] [.lst [.int 1], .dct [(.inr "a", .int 1)], .lst [.int 2]] v (.lst (ns.map .int)), .own pS (some54 p1 p2 p3), .any, .any, .any, .any, .any, .any, .any, .any, .any, .any]
  rw [← hso]
  refine s_stJ (fun (i : Nat) => D.int i) (List.range 3) (fun (s : List Addr × List Cell) => [.rg K s.1 s.2 v (.lst (ns.map .int)), .own pS so, .any, .any, .any, .any, .any, .any, .any, .any, .any, .any]) (fun n s => Rg (8 * n) s.1 s.2 ∧ ∀ d ∈ so, ValV s.1 s.2 d) ([p1, p2, p3], [.lst [.int 1], .dct [(.inr "a", .int 1)], .lst [.int 2]]) ⟨R0, V0⟩ (wj_r0 (wr_1 (by assumption) (by walk_at "go"; exact ⟨⟨rfl, by omega⟩, by omega⟩))) (fun Hb' eb i ii s hi hI => ?_) (fun s hI => ?_)
  · obtain ⟨R, Vs⟩ := hI
    obtain ⟨ps, cs⟩ := s
    have hi3 : i < 3 := by
      have := (List.getElem?_eq_some_iff.mp hi).1
      rwa [List.length_range] at this
    have eii : ii = i := by
      rw [List.getElem?_range hi3] at hi
      exact (Option.some.inj hi).symm
    subst eii
    show Go _ _ _ _ [.rg K ps cs v (.lst (ns.map .int)), .own pS so, .dat (.int (ii : Int)), .any, .any, .any, .any, .any, .any, .any, .any, .any]
    refine s_setE (fr := false) ?_ nd (by walk_at "has")
    walk_at "go"
    show Go _ _ _ _ [.rg K ps cs v (.lst (ns.map .int)), .own pS so, .dat (.int (ii : Int)), .dat dDraw, .any, .any, .any, .any, .any, .any, .any, .any]
    refine s_forX (fun (s : List Addr × List Cell) => [.rg K s.1 s.2 v (.lst (ns.map .int)), .own pS so, .dat (.int (ii : Int)), .dat dDraw, .any, .any, .any, .any, .any, .any, .any, .any]) (fun ds m s => Rg (8 * ii + 2 * m) s.1 s.2 ∧ (∀ d ∈ so, ValV s.1 s.2 d) ∧ (∀ d ∈ ds, ValV s.1 s.2 d) ∧ ds.length = 4) (evxi_lst (evx_cons (evx_of (fr := false) ?_))) (fun Hb2 eb2 ds m x s hx hJ => ?_) (fun ds s hJ => ?_) (fun ds n x s hx hJ => (hJ.2.2.1 x (List.mem_of_getElem? hx)).flat)
    · walk_at "go"
      rotate_left
      · exact ⟨⟨by omega, by omega⟩, cso⟩
      intro d1 hd1
      refine evx_cons (evx_lstR "_law_script" nd (evx_cons (evx_of (fr := false) ?_)))
      walk_at "go"
      rename_i z1 hz1 hz2
      refine evx_nil ⟨Nat.le_of_ble_eq_true rfl, rfl, takeIn (by walk_at "look") fun q1 m1 => up1 (by walk_at "up") ?_⟩
      refine evx_cons (evx_dctL "_law_script" nd ?_)
      walk_at "go"
      refine ⟨fun d m => by rw [List.mem_singleton.mp m]; rfl, rfl, takeIn (by walk_at "look") fun q2 m2 => up1 (by walk_at "up") fun _ => takeIn (by walk_at "look") fun q3 m3 => up1 (by walk_at "up") ?_⟩
      refine evx_cons (evx_of (fr := false) ?_)
      walk_at "go"
      rotate_left
      · exact ⟨⟨by omega, by omega⟩, cso⟩
      intro d2 hd2
      have z9 : z1.natAbs < 2 ^ 120 := Nat.lt_of_le_of_lt (show z1.natAbs ≤ 9 by omega) (by decide +kernel)
      have R1 := R.snoc (c := .lst [.int z1]) m1 ⟨by show 1 ≤ 3 + 8 * ii; omega, fun x m => by rw [List.mem_singleton.mp m]; exact smd_int z9⟩
      have R2 := R1.snoc (c := .lst [.int 1]) m2 ⟨by show 1 ≤ 3 + 8 * ii; omega, fun x m => by rw [List.mem_singleton.mp m]; exact smd_int (by decide +kernel)⟩
      have g1 : Gr ps cs _ _ := Gr.snoc (p := q1) (c := .lst [.int z1]) R.len
      have g2 := Gr.snoc (p := q2) (c := .lst [.int 1]) R1.len
      have g3 := Gr.snoc (p := q3) (c := .dct [(.inr "a", .ptr q2)]) R2.len
      have R3 := R2.snoc (c := .dct [(.inr "a", .ptr q2)]) m3 ⟨.ptr q2, .inr ((lstAt_last R1.len).gr g3), .inl rfl⟩
      have g := (g1.trans g2).trans g3
      have Vd : ∀ d ∈ [d1, .ptr q1, .ptr q3, d2], ValV (ps ++ [q1] ++ [q2] ++ [q3]) (cs ++ [.lst [.int z1]] ++ [.lst [.int 1]] ++ [.dct [(.inr "a", .ptr q2)]]) d := fun d m => by
        simp only [List.mem_cons, List.not_mem_nil, or_false] at m
        rcases m with rfl | rfl | rfl | rfl
        · exact (Vs _ hd1).gr g
        · exact (val_last R.len).gr (g2.trans g3)
        · exact val_last R2.len
        · exact (Vs _ hd2).gr g
      refine evx_nil ⟨Nat.le_of_ble_eq_true rfl, ?_, ⟨(ps ++ [q1] ++ [q2] ++ [q3], cs ++ [.lst [.int z1]] ++ [.lst [.int 1]] ++ [.dct [(.inr "a", .ptr q2)]]), ⟨R3, fun d m => (Vs d m).gr g, Vd, rfl⟩, rfl⟩⟩
      show (D.flat d1 && (true && (true && (D.flat d2 && true)))) = true
      rw [(Vs _ hd1).flat, (Vs _ hd2).flat]
      rfl
    · obtain ⟨R, Vs, Vd, l4⟩ := hJ
      obtain ⟨ps, cs⟩ := s
      have hm4 : m < 4 := by rw [← l4]; exact (List.getElem?_eq_some_iff.mp hx).1
      have Vx := Vd x (List.mem_of_getElem? hx)
      have S1 := (Vx.sh R (by omega)).mono (n' := 40) (c' := 10000000) (by decide) (by decide)
      show Go _ _ _ _ [.rg K ps cs v (.lst (ns.map .int)), .own pS so, .dat (.int (ii : Int)), .dat dDraw, .dat x, .any, .any, .any, .any, .any, .any, .any]
      refine s_parX (evx_of (fr := false) (w_reprM hg hr sb m_repr (eva_one (S1 := fun d => d = res2 ps cs x) (fr := false) (w_resR (rn := "_law_script") (by walk_at "look") (w_resR (rn := "_law_script") (fr := false) (by walk_at "look") ?_)) fun d e => ⟨d, rfl, by rw [e]; exact S1, ?_⟩))) nd (by walk_at "has") (by walk_at "has") (by decide) rfl
      · walk_at "go"
        rfl
      rw [e]
      refine evx_call H3 hr (evx_cons (evx_of (fr := false) ?_))
      walk_at "go"
      refine evx_cons (evx_lst (evx_cons (evx_lstR "_law_script" nd (evx_cons (evx_of (fr := false) ?_)))))
      walk_at "go"
      refine evx_nil ⟨Nat.le_of_ble_eq_true rfl, rfl, takeIn (by walk_at "look") fun q1 m1 => up1 (by walk_at "up") ?_⟩
      refine evx_cons (evx_of (fr := false) ?_)
      walk_at "go"
      refine evx_cons (evx_of (fr := false) ?_)
      walk_at "go"
      refine evx_cons (evx_of (fr := false) ?_)
      walk_at "go"
      have R1 := R.snoc (c := .lst [.int 5]) m1 ⟨by show 1 ≤ 3 + (8 * ii + 2 * m); omega, fun x m => by rw [List.mem_singleton.mp m]; exact smd_int (by decide +kernel)⟩
      have g1 : Gr ps cs _ _ := Gr.snoc (p := q1) (c := .lst [.int 5]) R.len
      have V2 : ∀ d ∈ [.ptr q1, .tup [.int 1, .int 2], .non, x], ValV (ps ++ [q1]) (cs ++ [.lst [.int 5]]) d := fun d m => by
        simp only [List.mem_cons, List.not_mem_nil, or_false] at m
        rcases m with rfl | rfl | rfl | rfl
        · exact val_last R.len
        · exact .inr (.inl ⟨_, rfl, Nat.le_of_ble_eq_true rfl, fun x m => by
            simp only [List.mem_cons, List.not_mem_nil, or_false] at m
            rcases m with rfl | rfl
            · exact .inl (smd_int (by decide +kernel))
            · exact .inl (smd_int (by decide +kernel))⟩)
        · exact .inl smd_non
        · exact Vx.gr g1
      refine evx_nil ⟨Nat.le_of_ble_eq_true rfl, evx_nil (c_choose (fun y hy => ⟨rfl, (V2 y hy).flat, up1 (by walk_at "up") (up1 (by walk_at "up") ?_)⟩) ⟨⟨Nat.succ_pos _, Nat.le_of_ble_eq_true rfl⟩, fun d m => by
        have := (V2 d m).flat
        cases d <;> first | rfl | exact absurd this Bool.false_ne_true⟩)⟩
      have Vy := V2 y hy
      have Vx1 := Vx.gr g1
      have eqx : res2 (ps ++ [q1]) (cs ++ [.lst [.int 5]]) x = res2 ps cs x := Vx.res_snoc R R1
      show Go _ _ _ _ [.rg K (ps ++ [q1]) (cs ++ [.lst [.int 5]]) v (.lst (ns.map .int)), .own pS so, .dat (.int (ii : Int)), .dat dDraw, .dat x, .dat (.str (reprD (res2 ps cs x))), .dat y, .any, .any, .any, .any, .any]
      have fx := Vx.flat
      have fy := Vy.flat
      refine s_set (own := true) (OwnIf.t ⟨⟩) ?_ nd (by walk_at "has")
      refine w_lst ?_
      refine wa_cons ?_
      refine w_exc (fr := false) e0.er m_P hr ?_
      walk_at "go"
      refine w_exc (fr := false) e1.er m_T hr ?_
      walk_at "go"
      rotate_left
      · show (D.flat x && (D.flat y && true)) = true
        rw [fx, fy]
        rfl
      rename_i pm
      have Vs1 : ∀ d ∈ so, ValV (ps ++ [q1]) (cs ++ [.lst [.int 5]]) d := fun d m => (Vs d m).gr g1
      have Vd1 : ∀ d ∈ ds, ValV (ps ++ [q1]) (cs ++ [.lst [.int 5]]) d := fun d m => (Vd d m).gr g1
      rw [← eqx] at S1
      rw [← eqx]
      clear eqx V2 hy Vs Vd Vx g1 R m1 e
      generalize hps : ps ++ [q1] = ps1 at *
      generalize hcs : cs ++ [Cell.lst [.int 5]] = cs1 at *
      refine s_ifJN (fun Γ' => ∃ pm, Γ' = [.rg K ps1 cs1 v (.lst (ns.map .int)), .own pS so, .dat (.int (ii : Int)), .dat dDraw, .dat x, .dat (.str (reprD (res2 ps1 cs1 x))), .dat y, .own pm [.exc C0 "value" x, .exc C1 "value" y], .any, .any, .any, .any]) ?_ ?_ ?_ ?_
      · walk_at "go"
        all_goals trivial
      · refine s_set (own := true) (OwnIf.t ⟨⟩) ?_ nd (by walk_at "has")
        refine w_lst ?_
        refine wa_cons ?_
        refine w_excK e0.ek m_P hr ?_
        walk_at "go"
        refine w_excK e1.ek m_T hr ?_
        walk_at "go"
        rotate_left
        · show (D.flat x && (D.flat y && true)) = true
          rw [fx, fy]
          rfl
        exact s_btw ⟨_, rfl⟩
      · exact s_btw ⟨pm, rfl⟩
      rintro Γ' ⟨pm, rfl⟩
      refine go_freeze 7 ?_
      show Go _ _ _ _ [.rg K ps1 cs1 v (.lst (ns.map .int)), .own pS so, .dat (.int (ii : Int)), .dat dDraw, .dat x, .dat (.str (reprD (res2 ps1 cs1 x))), .dat y, .dat (.lst [.exc C0 "value" x, .exc C1 "value" y]), .any, .any, .any, .any]
      refine s_ifF (k := false) (wt_cmp (w_reprM hg hr sb m_repr (eva_one (S1 := fun d => d = res2 ps1 cs1 x) (fr := false) (w_resR (rn := "_law_script") (by walk_at "look") (w_resR (rn := "_law_script") (fr := false) (by walk_at "look") ?_)) fun d e => ⟨d, rfl, by rw [e]; exact S1, ?_⟩))) rfl ?_
      · walk_at "go"
        rfl
      · rw [e]
        walk_at "go"
        simp
      refine s_join ?_
      refine s_forX (fun (s : List Addr × List Cell) => [.rg K s.1 s.2 v (.lst (ns.map .int)), .own pS so, .dat (.int (ii : Int)), .dat dDraw, .dat x, .dat (.str (reprD (res2 ps1 cs1 x))), .dat y, .dat (.lst [.exc C0 "value" x, .exc C1 "value" y]), .any, .any, .any, .any]) (fun ds2 j s => ds2 = [x, y] ∧ Rg (8 * ii + 2 * m + j) s.1 s.2 ∧ Gr ps1 cs1 s.1 s.2) (evxi_lst (evx_cons (evx_of (fr := false) ?_))) (fun Hb3 eb3 ds2 j z s hz hJ => ?_) (fun ds2 s hJ => ?_) (fun ds2 n z s hz hJ => ?_)
      · walk_at "go"
        refine evx_cons (evx_of (fr := false) ?_)
        walk_at "go"
        refine evx_nil ⟨Nat.le_of_ble_eq_true rfl, ?_, ⟨(ps1, cs1), ⟨rfl, R1, Gr.rfl'⟩, rfl⟩⟩
        show (D.flat x && (D.flat y && true)) = true
        rw [fx, fy]
        rfl
      · obtain ⟨rfl, Rj, gj⟩ := hJ
        obtain ⟨ps2, cs2⟩ := s
        have hj2 : j < 2 := (List.getElem?_eq_some_iff.mp hz).1
        have mz := List.mem_of_getElem? hz
        have Vz : ValV ps2 cs2 z := by
          simp only [List.mem_cons, List.not_mem_nil, or_false] at mz
          rcases mz with rfl | rfl
          · exact Vx1.gr gj
          · exact Vy.gr gj
        have okz := (Vz.sh Rj (by omega)).ok
        show Go _ _ _ _ [.rg K ps2 cs2 v (.lst (ns.map .int)), .own pS so, .dat (.int (ii : Int)), .dat dDraw, .dat x, .dat (.str (reprD (res2 ps1 cs1 x))), .dat y, .dat (.lst [.exc C0 "value" x, .exc C1 "value" y]), .dat z, .any, .any, .any]
        rcases Vz.kind Rj with ⟨p, jj, xs, rfl, h1, h2, r2⟩ | ⟨p, jj, kds, kds', rfl, h1, h2, r2⟩ | ⟨k1, k2⟩
        · refine s_ifT (k := true) (wt_val (w_isI (Ts := "list") m_isinstance m_list (w_resR (rn := "_law_script") (by walk_at "look") (w_resR (rn := "_law_script") (fr := false) (by walk_at "look") (w_name (by walk_at "look") ?_))))) rfl ?_
          · show KitD (res2 ps2 cs2 (.ptr p)) _ _
            rw [r2] at okz ⊢
            exact kitd ⟨_, rfl, rfl⟩ kit_ldd.1 okz
          refine s_rgApp (rn := "_law_script") (by walk_at "look") (by walk_at "look") h1 h2 (w_int ⟨rfl, up1 (by walk_at "up") ?_⟩) nd (by have := Rj.len_lst h2; omega)
          have R' := Rj.app h2 smd_2.2
          have g' : Gr ps1 cs1 ps2 (cs2.set jj (.lst (xs ++ [.int 0]))) := gj.trans (Gr.setL h2)
          have h2' : (cs2.set jj (.lst (xs ++ [.int 0])))[jj]? = some (.lst (xs ++ [.int 0])) := by rw [List.getElem?_set_self (List.getElem?_eq_some_iff.mp h2).1]
          refine s_join ?_
          refine s_ifF (k := false) (wt_val (w_isI (Ts := "dict") m_isinstance m_dict (w_resR (rn := "_law_script") (by walk_at "look") (w_resR (rn := "_law_script") (fr := false) (by walk_at "look") (w_name (by walk_at "look") ?_))))) rfl ?_
          · show KitD (res2 ps2 (cs2.set jj (.lst (xs ++ [.int 0]))) (.ptr p)) _ _
            have okz' := ((ValV.sh (.inr (.inr ⟨p, jj, _, rfl, h1, h2'⟩)) R' (by omega))).ok
            rw [R'.lst2 h1 h2'] at okz' ⊢
            exact kitd ⟨_, rfl, rfl⟩ kit_ldd.2.2.1 okz'
          refine s_join ?_
          exact s_btw ⟨(ps2, cs2.set jj (.lst (xs ++ [.int 0]))), ⟨rfl, R', g'⟩, rfl⟩
        · refine s_ifF (k := false) (wt_val (w_isI (Ts := "list") m_isinstance m_list (w_resR (rn := "_law_script") (by walk_at "look") (w_resR (rn := "_law_script") (fr := false) (by walk_at "look") (w_name (by walk_at "look") ?_))))) rfl ?_
          · show KitD (res2 ps2 cs2 (.ptr p)) _ _
            rw [r2] at okz ⊢
            exact kitd ⟨_, rfl, rfl⟩ kit_ldd.2.1 okz
          refine s_join ?_
          refine s_ifT (k := true) (wt_val (w_isI (Ts := "dict") m_isinstance m_dict (w_resR (rn := "_law_script") (by walk_at "look") (w_resR (rn := "_law_script") (fr := false) (by walk_at "look") (w_name (by walk_at "look") ?_))))) rfl ?_
          · show KitD (res2 ps2 cs2 (.ptr p)) _ _
            rw [r2] at okz ⊢
            exact kitd ⟨_, rfl, rfl⟩ kit_ldd.2.2.2 okz
          have R' := Rj.put h2
          have g' : Gr ps1 cs1 ps2 (cs2.set jj (.dct (putD kds (.inr "spoilt") (.int 2)))) := gj.trans (Gr.setD h2)
          refine s_rgPut (rn := "_law_script") hr (by walk_at "look") (by walk_at "look") h1 h2 (w_int ⟨rfl, w_str ⟨.inr "spoilt", rfl, up1 (by walk_at "up") ?_⟩⟩) nd (by have := Rj.len_dct h2; omega)
          refine s_join ?_
          exact s_btw ⟨(ps2, cs2.set jj (.dct (putD kds (.inr "spoilt") (.int 2)))), ⟨rfl, R'.mono (by omega), g'⟩, rfl⟩
        · refine s_ifF (k := false) (wt_val (w_isI (Ts := "list") m_isinstance m_list (w_resR (rn := "_law_script") (by walk_at "look") (w_resR (rn := "_law_script") (fr := false) (by walk_at "look") (w_name (by walk_at "look") ?_))))) rfl ?_
          · show KitD (res2 ps2 cs2 z) _ _
            exact kitd ⟨_, rfl, rfl⟩ k1 okz
          refine s_join ?_
          refine s_ifF (k := false) (wt_val (w_isI (Ts := "dict") m_isinstance m_dict (w_resR (rn := "_law_script") (by walk_at "look") (w_resR (rn := "_law_script") (fr := false) (by walk_at "look") (w_name (by walk_at "look") ?_))))) rfl ?_
          · show KitD (res2 ps2 cs2 z) _ _
            exact kitd ⟨_, rfl, rfl⟩ k2 okz
          refine s_join ?_
          exact s_btw ⟨(ps2, cs2), ⟨rfl, Rj.mono (by omega), gj⟩, rfl⟩
      rotate_left
      · obtain ⟨rfl, _, gj⟩ := hJ
        have mz := List.mem_of_getElem? hz
        simp only [List.mem_cons, List.not_mem_nil, or_false] at mz
        rcases mz with rfl | rfl
        · exact fx
        · exact fy
      obtain ⟨rfl, R2, g2⟩ := hJ
      obtain ⟨ps2, cs2⟩ := s
      have Vx2 := Vx1.gr g2
      have Vy2 := Vy.gr g2
      show Go _ _ _ _ [.rg K ps2 cs2 v (.lst (ns.map .int)), .own pS so, .dat (.int (ii : Int)), .dat dDraw, .dat x, .dat (.str (reprD (res2 ps1 cs1 x))), .dat y, .dat (.lst [.exc C0 "value" x, .exc C1 "value" y]), .any, .any, .any, .any]
      refine s_stJ2 (fun (i : Nat) => D.int i) (fun (i : Nat) => [D.exc C0 "value" x, D.exc C1 "value" y].getD i .non) (List.range 2) (fun (_ : Unit) => [.rg K ps2 cs2 v (.lst (ns.map .int)), .own pS so, .dat (.int (ii : Int)), .dat dDraw, .dat x, .dat (.str (reprD (res2 ps1 cs1 x))), .dat y, .dat (.lst [.exc C0 "value" x, .exc C1 "value" y]), .any, .any, .any, .any]) (fun _ _ => True) () trivial (wj_enumL (f := id) (xs := [D.exc C0 "value" x, D.exc C1 "value" y]) .non m_enumerate (wi_nm (by walk_at "look") rfl)) (fun Hb3 eb3 n a s hn _ => ?_) (fun s _ => ?_) (hst := fun s a ha => ⟨.inl rfl, .inl ?_⟩)
      · have hn2 : n < 2 := by
          have := (List.getElem?_eq_some_iff.mp hn).1
          rwa [List.length_range] at this
        have ea : a = n := by
          rw [List.getElem?_range hn2] at hn
          exact (Option.some.inj hn).symm
        subst ea
        have key : ∃ C bs, [D.exc C0 "value" x, D.exc C1 "value" y].getD a .non = .exc C "value" ([x, y].getD a .non) ∧ ExcC K C ∧ PySem.W.kitOne K (.ref C) (.ref CF) = some true ∧ PySem.W.kitOne K (.ref C) (.type "ValueError") = some true ∧ Paired (fun c b => PySem.W.kitOne K (.ref C) (.ref c) = some b) Cs bs ∧ bs = (List.range 14).map fun (i : Nat) => decide ((i : Int) = (a : Int)) := by
          rcases (show a = 0 ∨ a = 1 by omega) with rfl | rfl
          · exact ⟨C0, bs0, rfl, e0.x, e0.kf, e0.kv, hb0, hs0⟩
          · exact ⟨C1, bs1, rfl, e1.x, e1.kf, e1.kv, hb1, hs1⟩
        obtain ⟨C, bs, ek, xC, kF, kV, pC, ebs⟩ := key
        rw [ek]
        generalize [x, y].getD a .non = xx
        show Go _ _ _ _ [.rg K ps2 cs2 v (.lst (ns.map .int)), .own pS so, .dat (.int (ii : Int)), .dat dDraw, .dat x, .dat (.str (reprD (res2 ps1 cs1 x))), .dat y, .dat (.lst [.exc C0 "value" x, .exc C1 "value" y]), .any, .dat (.int (a : Int)), .dat (.exc C "value" xx), .any]
        refine s_ifF (k := false) (by walk_at "go"; rfl) rfl ?_
        refine s_join ?_
        refine s_ifF (k := false) (wt_cmp ?_) rfl ?_
        · walk_at "go"
          refine c_kinds54 xC pC ?_
          walk_at "go"
          refine LcX.k (lc1 (fun (i : Nat) => .int i) (List.range 14) (fun i => .bl (decide ((i : Int) = (a : Int)))) (wj_r0 (wr_1 (by assumption) (by walk_at "go"; exact ⟨⟨rfl, by omega⟩, by omega⟩))) (fun i hi s H C cl fp => ?_) ?_ (by rw [List.length_range]; omega))
          · walk_at "go"
          · walk_at "go"
            · subst ebs
              rcases (show a = 0 ∨ a = 1 by omega) with rfl | rfl <;> rfl
            · subst ebs
              rcases (show a = 0 ∨ a = 1 by omega) with rfl | rfl <;> exact ⟨⟨rfl, rfl⟩, rfl, rfl⟩
        refine s_join ?_
        exact s_btw ⟨(), trivial, rfl⟩
      rotate_left
      · have hf : D.flatAll [D.exc C0 "value" x, D.exc C1 "value" y] = true := by
          show (D.flat x && (D.flat y && true)) = true
          rw [fx, fy]
          rfl
        have ha2 : a < 2 := List.mem_range.mp ha
        rcases (show a = 0 ∨ a = 1 by omega) with rfl | rfl
        · exact fx
        · exact fy
      have R2' : Rg (8 * ii + 2 * (m + 1)) ps2 cs2 := R2.mono (by show 8 * ii + 2 * m + 2 ≤ _; omega)
      have n40 : 8 * ii + 2 * (m + 1) ≤ 100 := by omega
      have Sx := Vx2.sh R2' n40
      have Sy := Vy2.sh R2' n40
      have Sxy : ShM 5 200007 (.lst [res2 ps2 cs2 x, res2 ps2 cs2 y]) := (shm_lst fun d hd => by
        simp only [List.mem_cons, List.not_mem_nil, or_false] at hd
        rcases hd with rfl | rfl
        · exact Sx
        · exact Sy).mono (by decide) (by simp only [List.length_cons, List.length_nil]; omega)
      clear Sx Sy
      have exy : (((D.lst [x, y]).resP (cellR ps2 cs2)).resP (cellR ps2 cs2)) = .lst [res2 ps2 cs2 x, res2 ps2 cs2 y] := by
        rw [D.resP, resPAll_map, D.resP, resPAll_map]
        rfl
      refine s_ifF (k := false) (wt_cmp (w_reprM hg hr sb m_repr (eva_one (S1 := fun d => d = .lst [res2 ps2 cs2 x, res2 ps2 cs2 y]) (fr := false) (w_resR (rn := "_law_script") (by walk_at "look") (w_resR (rn := "_law_script") (fr := false) (by walk_at "look") ?_)) fun d e => ⟨d, rfl, by rw [e]; exact Sxy.mono (by decide) (by decide), ?_⟩))) rfl ?_
      · walk_at "go"
        refine LcX.k (lc1 id [D.exc C0 "value" x, D.exc C1 "value" y] excV (wj_i (wi_nm (by walk_at "look") rfl)) (fun d hd s H C cl fp => ?_) ?_ (Nat.le_of_ble_eq_true rfl) (hst := fun d hd => .inl ?_) (hfl := fun d hd => ?_))
        · refine w_errA (w_name (by walk_at "look") ?_)
          simp only [List.mem_cons, List.not_mem_nil, or_false] at hd
          rcases hd with rfl | rfl
          · exact ⟨C0, x, rfl, e0.xf, e0.no, flat_nc fx, rfl⟩
          · exact ⟨C1, y, rfl, e1.xf, e1.no, flat_nc fy, rfl⟩
        · show _ = _
          exact exy
        · simp only [List.mem_cons, List.not_mem_nil, or_false] at hd
          rcases hd with rfl | rfl
          · exact fx
          · exact fy
        · simp only [List.mem_cons, List.not_mem_nil, or_false] at hd
          rcases hd with rfl | rfl
          · exact fx
          · exact fy
      · rw [e]
        refine w_reprM hg hr sb m_repr (eva_one (S1 := fun d => d = .lst [res2 ps2 cs2 x, res2 ps2 cs2 y]) (fr := false) (w_resR (rn := "_law_script") (by walk_at "look") (w_resR (rn := "_law_script") (fr := false) (by walk_at "look") ?_)) fun d e => ⟨d, rfl, by rw [e]; exact Sxy.mono (by decide) (by decide), ?_⟩)
        · walk_at "go"
          exact exy
        · rw [e]
          walk_at "go"
          simp
      refine s_join ?_
      refine s_btw ⟨(ps2, cs2), ⟨R2', fun d hd => (Vs1 d hd).gr g2, fun d hd => (Vd1 d hd).gr g2, l4⟩, rfl⟩
    · obtain ⟨R4, V4, _, l4⟩ := hJ
      rw [l4] at R4
      exact s_btw ⟨s, ⟨R4.mono (by omega), V4⟩, rfl⟩
  · walk_at "go"
end

theorem all_mk {l : PySem.W.OpenLaw} {w : World} {K : PySem.W.Frag} {h : Heap} {mg : Str → Option Value} {fa f0 f1 f2 f3 f4 : Addr} (X : K.In h) (G : h.Ns mainGlobals mg) (hfa : mg "law" = some (.ref fa))
    {od0 an0 od1 an1 od2 an2 od3 an3 od4 an4 : Option Addr} {sl0 sl1 sl2 sl3 sl4 : Array (Option Value)} {oc0 kV0 dc0 pm0 cd0 ct0 oc1 kV1 dc1 pm1 cd1 ct1 oc2 kV2 dc2 pm2 cd2 ct2 oc3 kV3 dc3 pm3 cd3 ct3 oc4 kV4 dc4 pm4 cd4 ct4 : Value}
    (a0 : PySem.W.nsIn K mainGlobals "_law_stream" = some (some (.ref f0))) (l0 : K.lookup f0 = some ⟨oc0, od0, .func (PySem.W.fnOf "_law_stream" "_law_stream" (defArgs s__law_stream) (defBody s__law_stream) (defScope s__law_stream) .none kV0 dc0 pm0 an0 cd0 ct0), sl0⟩) (c0 : PySem.W.codeIn K cd0 "_law_stream" = true) (k0 : PySem.W.keepIn K (.ref f0) = true)
    (a1 : PySem.W.nsIn K mainGlobals "_law_draw" = some (some (.ref f1))) (l1 : K.lookup f1 = some ⟨oc1, od1, .func (PySem.W.fnOf "_law_draw" "_law_draw" (defArgs s__law_draw) (defBody s__law_draw) (defScope s__law_draw) .none kV1 dc1 pm1 an1 cd1 ct1), sl1⟩) (c1 : PySem.W.codeIn K cd1 "_law_draw" = true) (k1 : PySem.W.keepIn K (.ref f1) = true)
    (a2 : PySem.W.nsIn K mainGlobals "_law_choose" = some (some (.ref f2))) (l2 : K.lookup f2 = some ⟨oc2, od2, .func (PySem.W.fnOf "_law_choose" "_law_choose" (defArgs s__law_choose) (defBody s__law_choose) (defScope s__law_choose) .none kV2 dc2 pm2 an2 cd2 ct2), sl2⟩) (c2 : PySem.W.codeIn K cd2 "_law_choose" = true) (k2 : PySem.W.keepIn K (.ref f2) = true)
    (a3 : PySem.W.nsIn K mainGlobals "_law_kinds" = some (some (.ref f3))) (l3 : K.lookup f3 = some ⟨oc3, od3, .func (PySem.W.fnOf "_law_kinds" "_law_kinds" (defArgs s__law_kinds) (defBody s__law_kinds) (defScope s__law_kinds) .none kV3 dc3 pm3 an3 cd3 ct3), sl3⟩) (c3 : PySem.W.codeIn K cd3 "_law_kinds" = true) (k3 : PySem.W.keepIn K (.ref f3) = true)
    (a4 : PySem.W.nsIn K mainGlobals "law" = some (some (.ref f4))) (l4 : K.lookup f4 = some ⟨oc4, od4, .func (PySem.W.fnOf "law" "law" (defArgs s_law) (defBody s_law) (defScope s_law) .none kV4 dc4 pm4 an4 cd4 ct4), sl4⟩) (c4 : PySem.W.codeIn K cd4 "law" = true) (k4 : PySem.W.keepIn K (.ref f4) = true)
    (suR : PySem.W.nsIn K mainGlobals "super" = some none) (anR : PySem.W.nsIn K PySem.cStatics "thirdparty.any" = some none) (toR : (l.prog.main.scope.names.lookup ("super" : Str)).isSome = false)
    {CR0 fR0 zR0 dR0 : Addr} {odR0 anR0 cdR0 clR0 : Option Addr} {slR0 csR0 cslR0 : Array (Option Value)} {ocR0 kVR0 dcR0 pmR0 ctR0 cclR0 cvR0 : Value} {vsR0 : Array Value} {fileR0 : Str} {tfR0 : Tok} {cdaR0 : ClassData}
    {nmR0 qR0 : Str} {NR0 : Addr} {bsR0 bmR0 subR0 : List Value} {snR0 : List Str} {abR0 : Bool} {colR0 : Option Bool} {ddR0 : Option Addr} {k0R0 k1R0 k2R0 k3R0 k5R0 : Option Value}
    (aR0 : PySem.W.nsIn K mainGlobals "BadPlan" = some (some (.ref CR0)))
    (iR0 : PySem.W.findIn K (.ref CR0) "__init__" = some (some (.ref fR0)))
    (tR0 : PySem.W.typeIn K (.ref fR0) = some (.type "function"))
    (lR0 : K.lookup fR0 = some ⟨ocR0, odR0, .func (PySem.W.fnX "__init__" "BadPlan.__init__" (defArgs s_BadPlan_init) (defBody s_BadPlan_init) (defScope s_BadPlan_init) [("__class__", zR0)] .none kVR0 dcR0 pmR0 anR0 (.ref dR0) ctR0), slR0⟩)
    (coR0 : PySem.W.codeIn K (.ref dR0) "BadPlan.__init__" = true)
    (hcR0 : K.lookup dR0 = some ⟨cclR0, cdR0, .fields vsR0, csR0⟩)
    (vR0 : vsR0[2]? = some (.str fileR0 tfR0))
    (ceR0 : K.lookup zR0 = some ⟨cvR0, clR0, .cell (some (.ref CR0)), cslR0⟩)
    (mcR0 : PySem.W.clsIn K CR0 = some cdaR0)
    (msR0 : PySem.W.mroIn K CR0 (.ref CR0) = some true)
    (ksR0 : PySem.W.ks_superIn K CR0 CR0 "__init__" = some (some (.builtin "ValueError.__init__")))
    (sbR0 : PySem.W.subIn K (.ref CR0) (.type "ValueError") = some true)
    (noR0 : PySem.W.findIn K (.ref CR0) "value" = some none)
    (lcR0 : K.lookup CR0 = some (excClassObj nmR0 qR0 CR0 NR0 bsR0 bmR0 true snR0 subR0 abR0 colR0 ddR0 k0R0 k1R0 k2R0 k3R0 k5R0 "ValueError.__new__"))
    (rbR0 : PySem.HandSPX.refsVE bmR0 = true)
    (saR0 : PySem.W.findIn K (.ref CR0) "__setattr__" = some (some (.builtin "object.__setattr__")))
    (exR0 : PySem.W.subIn K (.ref CR0) (.type "BaseException") = some true)
    (tyR0 : PySem.W.typeIn K (.ref CR0) = some (.type "type"))
    (keR0 : PySem.W.keepIn K (.ref CR0) = true)
    (flR0 : ((l.prog.main.file : Str) == fileR0) = true)
    {CR1 fR1 zR1 dR1 : Addr} {odR1 anR1 cdR1 clR1 : Option Addr} {slR1 csR1 cslR1 : Array (Option Value)} {ocR1 kVR1 dcR1 pmR1 ctR1 cclR1 cvR1 : Value} {vsR1 : Array Value} {fileR1 : Str} {tfR1 : Tok} {cdaR1 : ClassData}
    {nmR1 qR1 : Str} {NR1 : Addr} {bsR1 bmR1 subR1 : List Value} {snR1 : List Str} {abR1 : Bool} {colR1 : Option Bool} {ddR1 : Option Addr} {k0R1 k1R1 k2R1 k3R1 k5R1 : Option Value}
    (aR1 : PySem.W.nsIn K mainGlobals "BadTime" = some (some (.ref CR1)))
    (iR1 : PySem.W.findIn K (.ref CR1) "__init__" = some (some (.ref fR1)))
    (tR1 : PySem.W.typeIn K (.ref fR1) = some (.type "function"))
    (lR1 : K.lookup fR1 = some ⟨ocR1, odR1, .func (PySem.W.fnX "__init__" "BadTime.__init__" (defArgs s_BadTime_init) (defBody s_BadTime_init) (defScope s_BadTime_init) [("__class__", zR1)] .none kVR1 dcR1 pmR1 anR1 (.ref dR1) ctR1), slR1⟩)
    (coR1 : PySem.W.codeIn K (.ref dR1) "BadTime.__init__" = true)
    (hcR1 : K.lookup dR1 = some ⟨cclR1, cdR1, .fields vsR1, csR1⟩)
    (vR1 : vsR1[2]? = some (.str fileR1 tfR1))
    (ceR1 : K.lookup zR1 = some ⟨cvR1, clR1, .cell (some (.ref CR1)), cslR1⟩)
    (mcR1 : PySem.W.clsIn K CR1 = some cdaR1)
    (msR1 : PySem.W.mroIn K CR1 (.ref CR1) = some true)
    (ksR1 : PySem.W.ks_superIn K CR1 CR1 "__init__" = some (some (.builtin "ValueError.__init__")))
    (sbR1 : PySem.W.subIn K (.ref CR1) (.type "ValueError") = some true)
    (noR1 : PySem.W.findIn K (.ref CR1) "value" = some none)
    (lcR1 : K.lookup CR1 = some (excClassObj nmR1 qR1 CR1 NR1 bsR1 bmR1 true snR1 subR1 abR1 colR1 ddR1 k0R1 k1R1 k2R1 k3R1 k5R1 "ValueError.__new__"))
    (rbR1 : PySem.HandSPX.refsVE bmR1 = true)
    (saR1 : PySem.W.findIn K (.ref CR1) "__setattr__" = some (some (.builtin "object.__setattr__")))
    (exR1 : PySem.W.subIn K (.ref CR1) (.type "BaseException") = some true)
    (tyR1 : PySem.W.typeIn K (.ref CR1) = some (.type "type"))
    (keR1 : PySem.W.keepIn K (.ref CR1) = true)
    (flR1 : ((l.prog.main.file : Str) == fileR1) = true)
    (aF : PySem.W.nsIn K mainGlobals "FlowError" = some (some (.ref CFE)))
    (aX2 : PySem.W.nsIn K mainGlobals "BadNetwork" = some (some (.ref CX2)))
    (aX3 : PySem.W.nsIn K mainGlobals "BadFraction" = some (some (.ref CX3)))
    (aX4 : PySem.W.nsIn K mainGlobals "TooMany" = some (some (.ref CX4)))
    (aX5 : PySem.W.nsIn K mainGlobals "BadName" = some (some (.ref CX5)))
    (aX6 : PySem.W.nsIn K mainGlobals "BadLink" = some (some (.ref CX6)))
    (aX7 : PySem.W.nsIn K mainGlobals "BadSender" = some (some (.ref CX7)))
    (aX8 : PySem.W.nsIn K mainGlobals "TakenName" = some (some (.ref CX8)))
    (aX9 : PySem.W.nsIn K mainGlobals "UnknownName" = some (some (.ref CX9)))
    (aX10 : PySem.W.nsIn K mainGlobals "InUse" = some (some (.ref CX10)))
    (aX11 : PySem.W.nsIn K mainGlobals "BadText" = some (some (.ref CX11)))
    (aX12 : PySem.W.nsIn K mainGlobals "NothingToDo" = some (some (.ref CX12)))
    (aX13 : PySem.W.nsIn K mainGlobals "BadCommand" = some (some (.ref CX13)))
    (xa0 : PySem.W.findIn K (.ref CR0) "__getattribute__" = some (some (.builtin "BaseException.__getattribute__")))
    (xb0 : PySem.W.findIn K (.ref CR0) "__getattr__" = some none)
    (xd0 : PySem.W.hasDictIn K CR0 = true)
    (xc0 : PySem.W.findIn K (.ref CR0) "__class__" = some (some (.builtin "object.__class__")))
    (xm0 : PySem.W.mroIn K CR0 (.type "object") = some true)
    (xv0 : PySem.W.findIn K (.ref CR0) "value" = some none)
    (xf0 : PySem.W.kitOne K (.ref CR0) (.ref CFE) = some true)
    (xw0 : PySem.W.kitOne K (.ref CR0) (.type "ValueError") = some true)
    (xk0_0 : PySem.W.kitOne K (.ref CR0) (.ref CR0) = some true)
    (xk0_1 : PySem.W.kitOne K (.ref CR0) (.ref CR1) = some false)
    (xk0_2 : PySem.W.kitOne K (.ref CR0) (.ref CX2) = some false)
    (xk0_3 : PySem.W.kitOne K (.ref CR0) (.ref CX3) = some false)
    (xk0_4 : PySem.W.kitOne K (.ref CR0) (.ref CX4) = some false)
    (xk0_5 : PySem.W.kitOne K (.ref CR0) (.ref CX5) = some false)
    (xk0_6 : PySem.W.kitOne K (.ref CR0) (.ref CX6) = some false)
    (xk0_7 : PySem.W.kitOne K (.ref CR0) (.ref CX7) = some false)
    (xk0_8 : PySem.W.kitOne K (.ref CR0) (.ref CX8) = some false)
    (xk0_9 : PySem.W.kitOne K (.ref CR0) (.ref CX9) = some false)
    (xk0_10 : PySem.W.kitOne K (.ref CR0) (.ref CX10) = some false)
    (xk0_11 : PySem.W.kitOne K (.ref CR0) (.ref CX11) = some false)
    (xk0_12 : PySem.W.kitOne K (.ref CR0) (.ref CX12) = some false)
    (xk0_13 : PySem.W.kitOne K (.ref CR0) (.ref CX13) = some false)
    (xa1 : PySem.W.findIn K (.ref CR1) "__getattribute__" = some (some (.builtin "BaseException.__getattribute__")))
    (xb1 : PySem.W.findIn K (.ref CR1) "__getattr__" = some none)
    (xd1 : PySem.W.hasDictIn K CR1 = true)
    (xc1 : PySem.W.findIn K (.ref CR1) "__class__" = some (some (.builtin "object.__class__")))
    (xm1 : PySem.W.mroIn K CR1 (.type "object") = some true)
    (xv1 : PySem.W.findIn K (.ref CR1) "value" = some none)
    (xf1 : PySem.W.kitOne K (.ref CR1) (.ref CFE) = some true)
    (xw1 : PySem.W.kitOne K (.ref CR1) (.type "ValueError") = some true)
    (xk1_0 : PySem.W.kitOne K (.ref CR1) (.ref CR0) = some false)
    (xk1_1 : PySem.W.kitOne K (.ref CR1) (.ref CR1) = some true)
    (xk1_2 : PySem.W.kitOne K (.ref CR1) (.ref CX2) = some false)
    (xk1_3 : PySem.W.kitOne K (.ref CR1) (.ref CX3) = some false)
    (xk1_4 : PySem.W.kitOne K (.ref CR1) (.ref CX4) = some false)
    (xk1_5 : PySem.W.kitOne K (.ref CR1) (.ref CX5) = some false)
    (xk1_6 : PySem.W.kitOne K (.ref CR1) (.ref CX6) = some false)
    (xk1_7 : PySem.W.kitOne K (.ref CR1) (.ref CX7) = some false)
    (xk1_8 : PySem.W.kitOne K (.ref CR1) (.ref CX8) = some false)
    (xk1_9 : PySem.W.kitOne K (.ref CR1) (.ref CX9) = some false)
    (xk1_10 : PySem.W.kitOne K (.ref CR1) (.ref CX10) = some false)
    (xk1_11 : PySem.W.kitOne K (.ref CR1) (.ref CX11) = some false)
    (xk1_12 : PySem.W.kitOne K (.ref CR1) (.ref CX12) = some false)
    (xk1_13 : PySem.W.kitOne K (.ref CR1) (.ref CX13) = some false)
    (xn : PySem.W.specialIn K (.builtin "object.__class__") "__get__" = some (some (.builtin "getset_descriptor.__get__")))
    (xt : PySem.W.takesIn K (.builtin "object.__class__") = some true)
    (z0 : PySem.W.nsIn K mainGlobals "len" = some none)
    (z1 : PySem.W.nsIn K mainGlobals "int" = some none)
    (z2 : PySem.W.nsIn K mainGlobals "isinstance" = some none)
    (z3 : PySem.W.nsIn K mainGlobals "range" = some none)
    (z4 : PySem.W.nsIn K mainGlobals "enumerate" = some none)
    (z5 : PySem.W.nsIn K mainGlobals "repr" = some none)
    (z6 : PySem.W.nsIn K mainGlobals "list" = some none)
    (z7 : PySem.W.nsIn K mainGlobals "dict" = some none)
    (z8 : PySem.W.nsIn K mainGlobals "ValueError" = some none)
    : ∃ fd : FuncData, (∀ (s : Shared) (v : Value), BindsTo s fd ⟨[v], []⟩ [("_law_script", v)]) ∧ ∀ base : Heap, K.In base → base.Ns mainGlobals mg → TabBs K base mg → SysB base → FnG l.prog w K mg base 4 fa fd ["_law_script"] (spLaw K) := by
  have e := hfa.symm.trans (PySem.W.mg_of X G a4)
  cases e
  have m_len := PySem.W.mg_none_of X G z0
  have m_int := PySem.W.mg_none_of X G z1
  have m_isinstance := PySem.W.mg_none_of X G z2
  have m_range := PySem.W.mg_none_of X G z3
  have m_enumerate := PySem.W.mg_none_of X G z4
  have m_repr := PySem.W.mg_none_of X G z5
  have m_list := PySem.W.mg_none_of X G z6
  have m_dict := PySem.W.mg_none_of X G z7
  have m_ValueError := PySem.W.mg_none_of X G z8
  have F__law_stream := fun_mk (st := s__law_stream) l0 c0 k0
  have m__law_stream := PySem.W.mg_of X G a0
  have b__law_stream := F__law_stream.binds (ps := ["_law_script", "_law_start"]) fun _ _ _ _ _ _ us hl => match us, hl with | [_, _], _ => rfl
  have F__law_draw := fun_mk (st := s__law_draw) l1 c1 k1
  have m__law_draw := PySem.W.mg_of X G a1
  have b__law_draw := F__law_draw.binds (ps := ["_law_stream_here", "_law_size"]) fun _ _ _ _ _ _ us hl => match us, hl with | [_, _], _ => rfl
  have F__law_choose := fun_mk (st := s__law_choose) l2 c2 k2
  have m__law_choose := PySem.W.mg_of X G a2
  have b__law_choose := F__law_choose.binds (ps := ["_law_stream_here", "_law_items"]) fun _ _ _ _ _ _ us hl => match us, hl with | [_, _], _ => rfl
  have F__law_kinds := fun_mk (st := s__law_kinds) l3 c3 k3
  have m__law_kinds := PySem.W.mg_of X G a3
  have b__law_kinds := F__law_kinds.binds (ps := ["_law_error"]) fun _ _ _ _ _ _ us hl => match us, hl with | [_], _ => rfl
  have F_law := fun_mk (st := s_law) l4 c4 k4
  have m_law := PySem.W.mg_of X G a4
  have m_super := PySem.W.mg_none_of X G suR
  have oex_BadPlan : L2.OexC K CR0 := ⟨⟨nmR0, qR0, NR0, bsR0, bmR0, snR0, subR0, abR0, colR0, ddR0, k0R0, k1R0, k2R0, k3R0, k5R0, lcR0, rbR0⟩, saR0, exR0, tyR0, keR0⟩
  have m_BadPlan := PySem.W.mg_of X G aR0
  have ie_BadPlan := iR0
  have te_BadPlan := tR0
  have er_BadPlan : ∀ base : Heap, FnOk l.prog w K mg base CX0 1 fR0 _ ["self", "value"] (spErr K CR0 "value") := fun base => err_init oex_BadPlan lR0 coR0 ns_BadPlan_init rfl rfl rfl hcR0 vR0 flR0 ceR0 mcR0 msR0 m_super rfl toR anR ksR0 sbR0 noR0 rfl rfl (by decide) (by decide) (by first | boot_by_name | rfl | kernel_rfl) (fun _ => rfl) (fun _ => rfl) (fun _ => rfl) (fun _ => rfl)
  have oex_BadTime : L2.OexC K CR1 := ⟨⟨nmR1, qR1, NR1, bsR1, bmR1, snR1, subR1, abR1, colR1, ddR1, k0R1, k1R1, k2R1, k3R1, k5R1, lcR1, rbR1⟩, saR1, exR1, tyR1, keR1⟩
  have m_BadTime := PySem.W.mg_of X G aR1
  have ie_BadTime := iR1
  have te_BadTime := tR1
  have er_BadTime : ∀ base : Heap, FnOk l.prog w K mg base CX0 1 fR1 _ ["self", "value"] (spErr K CR1 "value") := fun base => err_init oex_BadTime lR1 coR1 ns_BadTime_init rfl rfl rfl hcR1 vR1 flR1 ceR1 mcR1 msR1 m_super rfl toR anR ksR1 sbR1 noR1 rfl rfl (by decide) (by decide) (by first | boot_by_name | rfl | kernel_rfl) (fun _ => rfl) (fun _ => rfl) (fun _ => rfl) (fun _ => rfl)
  refine ⟨PySem.W.fnOf "law" "law" (defArgs s_law) (defBody s_law) (defScope s_law) .none kV4 dc4 pm4 an4 cd4 ct4, fun s v => .of_eq rfl, fun base _ _ tB sB => ?_⟩
  have H1 := ok_stream (P := l.prog) (w := w) (base := base) F__law_stream m__law_stream b__law_stream m_int m_len
  have H2 := ok_draw (P := l.prog) (w := w) (base := base) F__law_draw m__law_draw b__law_draw m_int
  have H3 := ok_choose F__law_choose m__law_choose b__law_choose m_len H2
  have m_BadNetwork := PySem.W.mg_of X G aX2
  have m_BadFraction := PySem.W.mg_of X G aX3
  have m_TooMany := PySem.W.mg_of X G aX4
  have m_BadName := PySem.W.mg_of X G aX5
  have m_BadLink := PySem.W.mg_of X G aX6
  have m_BadSender := PySem.W.mg_of X G aX7
  have m_TakenName := PySem.W.mg_of X G aX8
  have m_UnknownName := PySem.W.mg_of X G aX9
  have m_InUse := PySem.W.mg_of X G aX10
  have m_BadText := PySem.W.mg_of X G aX11
  have m_NothingToDo := PySem.W.mg_of X G aX12
  have m_BadCommand := PySem.W.mg_of X G aX13
  have m_FE := PySem.W.mg_of X G aF
  have H4 := ok_kinds (P := l.prog) (w := w) (base := base) F__law_kinds m__law_kinds b__law_kinds m_isinstance m_BadPlan m_BadTime m_BadNetwork m_BadFraction m_TooMany m_BadName m_BadLink m_BadSender m_TakenName m_UnknownName m_InUse m_BadText m_NothingToDo m_BadCommand
  have E0 : Er54 l.prog w K mg base _ _ := ⟨⟨_, _, _, oex_BadPlan, ie_BadPlan, te_BadPlan, er_BadPlan base, fun s us _ hl => match us, hl with | [_, _], _ => .of_eq rfl⟩, ⟨_, _, _, oex_BadPlan, ie_BadPlan, te_BadPlan, er_BadPlan base, ⟨fun x ws hl => match ws, hl with | [_], _ => rfl, by decide⟩⟩, ⟨xa0, xb0, oex_BadPlan.exC, xd0, xc0, xn, xt, xm0⟩, ⟨xa0, xb0, oex_BadPlan.exC, xd0⟩, xv0, xf0, xw0⟩
  have E1 : Er54 l.prog w K mg base _ _ := ⟨⟨_, _, _, oex_BadTime, ie_BadTime, te_BadTime, er_BadTime base, fun s us _ hl => match us, hl with | [_, _], _ => .of_eq rfl⟩, ⟨_, _, _, oex_BadTime, ie_BadTime, te_BadTime, er_BadTime base, ⟨fun x ws hl => match ws, hl with | [_], _ => rfl, by decide⟩⟩, ⟨xa1, xb1, oex_BadTime.exC, xd1, xc1, xn, xt, xm1⟩, ⟨xa1, xb1, oex_BadTime.exC, xd1⟩, xv1, xf1, xw1⟩
  exact ok_law F_law m_range m_isinstance m_repr m_enumerate m_list m_dict m_ValueError m_FE m_BadPlan m_BadTime E0 E1 sB H1 H2 H3 H4 (.cons xk0_0 (.cons xk0_1 (.cons xk0_2 (.cons xk0_3 (.cons xk0_4 (.cons xk0_5 (.cons xk0_6 (.cons xk0_7 (.cons xk0_8 (.cons xk0_9 (.cons xk0_10 (.cons xk0_11 (.cons xk0_12 (.cons xk0_13 .nil)))))))))))))) (.cons xk1_0 (.cons xk1_1 (.cons xk1_2 (.cons xk1_3 (.cons xk1_4 (.cons xk1_5 (.cons xk1_6 (.cons xk1_7 (.cons xk1_8 (.cons xk1_9 (.cons xk1_10 (.cons xk1_11 (.cons xk1_12 (.cons xk1_13 .nil)))))))))))))) rfl rfl
end My
set_option maxHeartbeats 0
namespace HX
open PySem PySem.W PySem.Calls PyProof.Rows HeadRun
structure Cp (K : Params → Frag) (as : List Addr) : Prop where
  h : True
structure Cap where
  K : Params → Frag
  as : List Addr
  d : (∀ p : Prop, p) → Cp K as → True
theorem anyP (t : ∀ p : Prop, p) (p : Prop) : p := t p
theorem grab {σ α β γ : Type} {K : Params → Frag} {as : List Addr} {e : Option SharedT} {f : SharedT → α} {g : SharedT → β} {a : α} {b : β} {w : World} (c : Cp K as) (t : ∀ p : Prop, p) : e.map (fun s => (f s, g s, as.map (getT s))) = some (a, b, (K w.params).map fun x => some x.2) := t _
end HX
open PySem PySem.W PySem.Calls PyProof.Rows HeadRun
section
local macro_rules | `(tactic| kernel_rfl) => `(tactic| (
  with_reducible show Option.map (fun s : SharedT => (looksF _ _ _, _, _)) (endF _ _ _ _ _) = some (_, _, _)
  exact HX.grab (σ := Nat) (γ := Nat) (by assumption) (by assumption)))
local macro_rules | `(tactic| kernel_rfl) => `(tactic| (
  with_reducible show (_ : List Addr) = List.map _ _
  exact HX.anyP (by assumption) _))
noncomputable def HX.cap : HX.Cap := by
  refine' HX.Cap.mk _ _ ?d
  case d =>
    intro t c
    have hh : PySem.Challenge.rw_fairflows_k54_errors_of_plans_made.Holds := by
      w_on; o_law
      k_headL
      case hw => w_witness2
      case hc => exact HX.anyP (by assumption) _
    trivial
end

theorem HX.ek : ∀ P, HX.cap.as = (HX.cap.K P).map (·.1) := by
  delta HX.cap
  dsimp only
  intro P
  kernel_rfl
def HX.names : List PySem.Str := (["FlowError", "BadFraction", "BadNetwork", "BadName", "BadLink", "BadSender", "TakenName", "UnknownName", "InUse", "TooMany", "NothingToDo", "BadText", "BadCommand", "BadPlan", "BadTime", "_law_stream", "_law_draw", "_law_choose", "_law_kinds"] : List PySem.Str)
abbrev HX.R : OpenRow := OpenLaw.row PySem.Challenge.rw_fairflows_k54_errors_of_plans_made
abbrev HX.q : Program := view HX.R.prog [22]
noncomputable abbrev HX.hk : Hook := kHook HX.cap.K HX.cap.as HX.ek
noncomputable def HX.ob (s : SharedT) : List (Option Obj) := HX.cap.as.map (getT s)
def HX.dr : DefRec := ⟨"law", (topDef HX.R.prog 22).params, (topDef HX.R.prog 22).body, (topDef HX.R.prog 22).scope, (topDef HX.R.prog 22).pos⟩
theorem HX.run (w : World) : RunEq HX.R HX.q HX.hk HX.ob 40000 HX.names w := by
  intro os
  kernel_rfl
open PySem PySem.W PyProof.Rows
set_option maxRecDepth 100000 in
set_option maxHeartbeats 0 in
theorem PySem.Challenge.cw_fairflows_k54_errors_of_plans_made_holds : PySem.Challenge.rw_fairflows_k54_errors_of_plans_made.Holds := by
  w_on; o_law
  refine HeadRun.head_any (r := HX.R) (q := HX.q) (H := HX.hk) (ob := HX.ob) (M := 40000) (loose := HX.names) (d := HX.dr) (kwd := []) (fun s => List.map_congr_left fun a _ => getT_eq s a) (by kernel_rfl) (fun s => by kernel_rfl) HX.run (by kernel_rfl) (by kernel_rfl) (by kernel_rfl) (by rfl) (by first | assumption | decide +kernel) (by decide +kernel) ⟨rfl, rfl, rfl, rfl, rfl, by decide +kernel⟩ ?hw ?hc
  case hw => w_witness2
  delta HX.hk HX.cap
  dsimp only
  k_fill
  refine L3.walkLawM (l := PySem.Challenge.rw_fairflows_k54_errors_of_plans_made) (k := 4) (x := "_law_script") rfl (by kernel_rfl) ⟨rfl, by decide, by decide⟩ (by kernel_rfl) (fun w h Y => by first | exact PySem.W.kIn_of Y | exact PySem.W.km_in_of Y) ?T ?F
  case T =>
    intro w loose mean mg mb h KX T
    first | exact L3.tabAt_none (.inl (by k_is)) | exact L3.tabAt_none (.inr (by k_is))
  case F =>
    intro w mg fa h KX G hmg
    refine' My.all_mk KX G hmg ?a0 ?l0 ?c0 ?k0 ?a1 ?l1 ?c1 ?k1 ?a2 ?l2 ?c2 ?k2 ?a3 ?l3 ?c3 ?k3 ?a4 ?l4 ?c4 ?k4 ?suR ?anR ?toR ?aR0 ?iR0 ?tR0 ?lR0 ?coR0 ?hcR0 ?vR0 ?ceR0 ?mcR0 ?msR0 ?ksR0 ?sbR0 ?noR0 ?lcR0 ?rbR0 ?saR0 ?exR0 ?tyR0 ?keR0 ?flR0 ?aR1 ?iR1 ?tR1 ?lR1 ?coR1 ?hcR1 ?vR1 ?ceR1 ?mcR1 ?msR1 ?ksR1 ?sbR1 ?noR1 ?lcR1 ?rbR1 ?saR1 ?exR1 ?tyR1 ?keR1 ?flR1 ?aF ?aX2 ?aX3 ?aX4 ?aX5 ?aX6 ?aX7 ?aX8 ?aX9 ?aX10 ?aX11 ?aX12 ?aX13 ?xa0 ?xb0 ?xd0 ?xc0 ?xm0 ?xv0 ?xf0 ?xw0 ?xk0_0 ?xk0_1 ?xk0_2 ?xk0_3 ?xk0_4 ?xk0_5 ?xk0_6 ?xk0_7 ?xk0_8 ?xk0_9 ?xk0_10 ?xk0_11 ?xk0_12 ?xk0_13 ?xa1 ?xb1 ?xd1 ?xc1 ?xm1 ?xv1 ?xf1 ?xw1 ?xk1_0 ?xk1_1 ?xk1_2 ?xk1_3 ?xk1_4 ?xk1_5 ?xk1_6 ?xk1_7 ?xk1_8 ?xk1_9 ?xk1_10 ?xk1_11 ?xk1_12 ?xk1_13 ?xn ?xt ?z0 ?z1 ?z2 ?z3 ?z4 ?z5 ?z6 ?z7 ?z8
    (case a0 => k_is)
    (case l0 => k_is)
    (case c0 => k_is)
    (case k0 => k_is)
    (case a1 => k_is)
    (case l1 => k_is)
    (case c1 => k_is)
    (case k1 => k_is)
    (case a2 => k_is)
    (case l2 => k_is)
    (case c2 => k_is)
    (case k2 => k_is)
    (case a3 => k_is)
    (case l3 => k_is)
    (case c3 => k_is)
    (case k3 => k_is)
    (case a4 => k_is)
    (case l4 => k_is)
    (case c4 => k_is)
    (case k4 => k_is)
    (case suR => k_is)
    (case anR => k_is)
    (case toR => first | rfl | decide +kernel)
    (case aR0 => k_is)
    (case iR0 => k_is)
    (case tR0 => k_is)
    (case lR0 => k_is)
    (case coR0 => k_is)
    (case hcR0 => k_is)
    (case vR0 => first | rfl | decide +kernel)
    (case ceR0 => k_is)
    (case mcR0 => k_is)
    (case msR0 => k_is)
    (case ksR0 => ks_is)
    (case sbR0 => k_is)
    (case noR0 => k_is)
    (case lcR0 => k_is)
    (case rbR0 => first | rfl | decide +kernel)
    (case saR0 => k_is)
    (case exR0 => k_is)
    (case tyR0 => k_is)
    (case keR0 => k_is)
    (case flR0 => first | rfl | decide +kernel)
    (case aR1 => k_is)
    (case iR1 => k_is)
    (case tR1 => k_is)
    (case lR1 => k_is)
    (case coR1 => k_is)
    (case hcR1 => k_is)
    (case vR1 => first | rfl | decide +kernel)
    (case ceR1 => k_is)
    (case mcR1 => k_is)
    (case msR1 => k_is)
    (case ksR1 => ks_is)
    (case sbR1 => k_is)
    (case noR1 => k_is)
    (case lcR1 => k_is)
    (case rbR1 => first | rfl | decide +kernel)
    (case saR1 => k_is)
    (case exR1 => k_is)
    (case tyR1 => k_is)
    (case keR1 => k_is)
    (case flR1 => first | rfl | decide +kernel)
    (case aF => first | k_is | rfl | decide +kernel)
    (case aX2 => first | k_is | rfl | decide +kernel)
    (case aX3 => first | k_is | rfl | decide +kernel)
    (case aX4 => first | k_is | rfl | decide +kernel)
    (case aX5 => first | k_is | rfl | decide +kernel)
    (case aX6 => first | k_is | rfl | decide +kernel)
    (case aX7 => first | k_is | rfl | decide +kernel)
    (case aX8 => first | k_is | rfl | decide +kernel)
    (case aX9 => first | k_is | rfl | decide +kernel)
    (case aX10 => first | k_is | rfl | decide +kernel)
    (case aX11 => first | k_is | rfl | decide +kernel)
    (case aX12 => first | k_is | rfl | decide +kernel)
    (case aX13 => first | k_is | rfl | decide +kernel)
    (case xa0 => first | k_is | rfl | decide +kernel)
    (case xb0 => first | k_is | rfl | decide +kernel)
    (case xd0 => first | k_is | rfl | decide +kernel)
    (case xc0 => first | k_is | rfl | decide +kernel)
    (case xm0 => first | k_is | rfl | decide +kernel)
    (case xv0 => first | k_is | rfl | decide +kernel)
    (case xf0 => first | k_is | rfl | decide +kernel)
    (case xw0 => first | k_is | rfl | decide +kernel)
    (case xk0_0 => first | k_is | rfl | decide +kernel)
    (case xk0_1 => first | k_is | rfl | decide +kernel)
    (case xk0_2 => first | k_is | rfl | decide +kernel)
    (case xk0_3 => first | k_is | rfl | decide +kernel)
    (case xk0_4 => first | k_is | rfl | decide +kernel)
    (case xk0_5 => first | k_is | rfl | decide +kernel)
    (case xk0_6 => first | k_is | rfl | decide +kernel)
    (case xk0_7 => first | k_is | rfl | decide +kernel)
    (case xk0_8 => first | k_is | rfl | decide +kernel)
    (case xk0_9 => first | k_is | rfl | decide +kernel)
    (case xk0_10 => first | k_is | rfl | decide +kernel)
    (case xk0_11 => first | k_is | rfl | decide +kernel)
    (case xk0_12 => first | k_is | rfl | decide +kernel)
    (case xk0_13 => first | k_is | rfl | decide +kernel)
    (case xa1 => first | k_is | rfl | decide +kernel)
    (case xb1 => first | k_is | rfl | decide +kernel)
    (case xd1 => first | k_is | rfl | decide +kernel)
    (case xc1 => first | k_is | rfl | decide +kernel)
    (case xm1 => first | k_is | rfl | decide +kernel)
    (case xv1 => first | k_is | rfl | decide +kernel)
    (case xf1 => first | k_is | rfl | decide +kernel)
    (case xw1 => first | k_is | rfl | decide +kernel)
    (case xk1_0 => first | k_is | rfl | decide +kernel)
    (case xk1_1 => first | k_is | rfl | decide +kernel)
    (case xk1_2 => first | k_is | rfl | decide +kernel)
    (case xk1_3 => first | k_is | rfl | decide +kernel)
    (case xk1_4 => first | k_is | rfl | decide +kernel)
    (case xk1_5 => first | k_is | rfl | decide +kernel)
    (case xk1_6 => first | k_is | rfl | decide +kernel)
    (case xk1_7 => first | k_is | rfl | decide +kernel)
    (case xk1_8 => first | k_is | rfl | decide +kernel)
    (case xk1_9 => first | k_is | rfl | decide +kernel)
    (case xk1_10 => first | k_is | rfl | decide +kernel)
    (case xk1_11 => first | k_is | rfl | decide +kernel)
    (case xk1_12 => first | k_is | rfl | decide +kernel)
    (case xk1_13 => first | k_is | rfl | decide +kernel)
    (case xn => first | k_is | rfl | decide +kernel)
    (case xt => first | k_is | rfl | decide +kernel)
    (case z0 => k_is)
    (case z1 => k_is)
    (case z2 => k_is)
    (case z3 => k_is)
    (case z4 => k_is)
    (case z5 => k_is)
    (case z6 => k_is)
    (case z7 => k_is)
    (case z8 => k_is)
