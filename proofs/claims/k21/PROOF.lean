import PyProof.Rows.All
import PySem.Challenge.RW_askbook_k21_askings_refused
import Wide.All
import OpenK.AllK
import Wide.FinOn
import HandS.ForMost
import HandS.ForExc
import HandS.CallSlots
import KE.DataEq
import HandS.Lambda
import KE.KeyNested
import HandS.TupAny
import HandS.Conv
import HandS.IsInst
import HandS.Zip
import KE.DataCmp
import PyProof.DictMoreH
import HandS.SetKeys
import HandS.Exc
import HandS.ExcOwn
import HandS.SetFor
import HandS.TupSets
import HandS.Strs
import HandS.SortInts
import HandS.More
import HandS.TupMul
import HandS.Text
import KE.SortData
import HandS.SortOrd
import KE.GoesZip
import KE.GoesMore
import HandS.Rev
import HandS.WordsDict
import HandS.TupLen
import KE.SortKeyHeap
import HandS.EndTab
import HandS.TryMany
import HandS.ExcIs
import PyProof.StrOps2
import HandS.Deep
import HandS.Call
import HandS.List
import HandS.Style
import KE.GoesEnum
import KE.DataFind
import HandS.RaiseMore
import KE.KDictDisplayH
set_option Elab.async false
set_option linter.all false
set_option maxRecDepth 100000
/-! DL: a data layer of my own over HandS: an expression, a statement, a def is told by a FUNCTION over plain data (PyData), the heap out of sight.
 Lists and dicts that a def itself made and still changes are «own»ed slots; all else is frozen data. -/
namespace DL
open PySem PySem.Spec PyProof.Rows L2

abbrev D := PyData
abbrev DEnv := List (Option D)
inductive Res (α : Type) where
  | ok (a : α) | raise (c : Str) | bad
def Res.bind {α β : Type} : Res α → (α → Res β) → Res β
  | .ok a, f => f a
  | .raise c, _ => .raise c
  | .bad, _ => .bad
@[simp] theorem Res.ok_bind {α β : Type} (a : α) (f : α → Res β) : (Res.ok a).bind f = f a := rfl
@[simp] theorem Res.raise_bind {α β : Type} (c : Str) (f : α → Res β) : (Res.raise c).bind f = .raise c := rfl
@[simp] theorem Res.bad_bind {α β : Type} (f : α → Res β) : (Res.bad : Res α).bind f = .bad := rfl

/-- the tables of code objects that may grow, and the names of their code objects -/
class TabCx where
  T : List (Addr × Str)
instance (priority := low) noTabs : TabCx := ⟨[]⟩
/-- the world in which the keys of dicts with nested keys are told -/
class WCx where
  w : Option World
instance (priority := low) noWorld : WCx := ⟨none⟩
variable [TabCx] [WCx]
/-- what lay there lies there still; tables of code objects may have grown -/
structure Sm (H H' : Hp) : Prop where
  obj : ∀ a o, H a = some o → (∀ ps, o ≠ .tbl ps) → H' a = some o
  ne : ∀ a, H a ≠ none → H' a ≠ none
  tab : LamX.Tabs TabCx.T H → LamX.Tabs TabCx.T H'
theorem Sm.refl (H : Hp) : Sm H H := ⟨fun _ _ h _ => h, fun _ h => h, fun h => h⟩
theorem Sm.trans {H H1 H2 : Hp} (a : Sm H H1) (b : Sm H1 H2) : Sm H H2 := ⟨fun c o h n => b.obj c o (a.obj c o h n) n, fun c h => b.ne c (a.ne c h), fun h => b.tab (a.tab h)⟩
theorem Sm.get {H H' : Hp} (h : Sm H H') {a : Addr} {o : HO} (e : H a = some o) (n : ∀ ps, o ≠ .tbl ps := by exact fun _ z => nomatch z) : H' a = some o := h.obj a o e n
theorem Sm.free {H H' : Hp} (e : Sm H H') {l : Addr} (h : H' l = none) : H l = none := by
  cases q : H l with
  | none => rfl
  | some o => exact absurd h (e.ne l (by rw [q]; exact fun z => nomatch z))
theorem _root_.L2.Same.sm {H H' : Hp} (h : Same H H') : Sm H H' where
  obj := fun c o e _ => h c o e
  ne := fun c e => by
    cases q : H c with
    | none => exact absurd q e
    | some o => rw [h c o q]; exact fun z => nomatch z
  tab := fun t => t.ext h

/-! ### data as it lies in a frozen heap B -/
def kD : Key → D
  | .inl i => .int i
  | .inr x => .str x
/-- a dict whose keys are nested tuples: key, its address, its value -/
abbrev NRow := NestedKey × Addr × V
def nRel (p : NRow) (q : NestedKey × Addr × Value) : Prop := p.1 = q.1 ∧ p.2.1 = q.2.1 ∧ RelV p.2.2 q.2.2
def dnφ (a : Addr) (ps : List NRow) : Heap → Prop := fun h => ps.length ≤ sizeLine ∧ (a == sysModules) = false ∧ ∃ (w : World) (xs : List (NestedKey × Addr × Value)), WCx.w = some w ∧ Paired nRel ps xs ∧
  ∃ o es ep, h.get? a = some o ∧ o.ExactDict ∧ o.data = .dict es ep ∧ es.toList = xs.map (fun x => (⟨x.1.hash w, .ref x.2.1, x.2.2⟩ : DictEntry)) ∧ (xs.map (·.1)).Nodup
/-- a tuple with a tuple in it -/
def nestK : NestedKey → Bool
  | .tup ks => ks.any fun | .tup _ => true | _ => false
  | _ => false
mutual
inductive Rep (K : PySem.W.Frag) (B : Hp) : V → D → Prop
  | non : Rep K B .non .none
  | bl (b : Bool) : Rep K B (.bl b) (.bool b)
  | int (i : Int) : Rep K B (.int i) (.int i)
  | str (x : Str) : Rep K B (.str x) (.str x)
  | lst {a : Addr} {xs : List V} {ds : List D} : SqL K B a xs → Reps K B xs ds → Rep K B (.ref a) (.list ds)
  | tup {a : Addr} {xs : List V} {ds : List D} : B a = some (.tup xs) → Reps K B xs ds → Rep K B (.ref a) (.tuple ds)
  | dK {a : Addr} {kvs : List (Key × V)} {es : List (D × D)} : Rd B a (.dK kvs) → RepK K B kvs es → Rep K B (.ref a) (.dict es)
  | dT {a : Addr} {kvs : List (List Key × V)} {es : List (D × D)} : B a = some (.dT kvs) → RepT K B kvs es → es ≠ [] → Rep K B (.ref a) (.dict es)
  | dN {a : Addr} {ps : List NRow} {es : List (D × D)} : B a = some (.ext (dnφ a ps)) → RepN K B ps es → es ≠ [] → TabCx.T = [] → Rep K B (.ref a) (.dict es)
inductive Reps (K : PySem.W.Frag) (B : Hp) : List V → List D → Prop
  | nil : Reps K B [] []
  | cons {v : V} {vs : List V} {d : D} {ds : List D} : Rep K B v d → Reps K B vs ds → Reps K B (v :: vs) (d :: ds)
inductive RepK (K : PySem.W.Frag) (B : Hp) : List (Key × V) → List (D × D) → Prop
  | nil : RepK K B [] []
  | cons {k : Key} {v : V} {e : D} {kvs : List (Key × V)} {es : List (D × D)} : Rep K B v e → RepK K B kvs es → RepK K B ((k, v) :: kvs) ((kD k, e) :: es)
inductive RepT (K : PySem.W.Frag) (B : Hp) : List (List Key × V) → List (D × D) → Prop
  | nil : RepT K B [] []
  | cons {ks : List Key} {v : V} {e : D} {kvs : List (List Key × V)} {es : List (D × D)} : Rep K B v e → RepT K B kvs es → RepT K B ((ks, v) :: kvs) ((.tuple (ks.map kD), e) :: es)
inductive RepN (K : PySem.W.Frag) (B : Hp) : List NRow → List (D × D) → Prop
  | nil : RepN K B [] []
  | cons {k : NestedKey} {b : Addr} {v : V} {e : D} {ps : List NRow} {es : List (D × D)} : Rep K B (.ref b) k.data → nestK k = true → k.depth ≤ 8 → Rep K B v e → RepN K B ps es → RepN K B ((k, b, v) :: ps) ((k.data, e) :: es)
end

section
variable {K : PySem.W.Frag} {B B' H H' : Hp}
theorem rd_mono {a : Addr} {u : HO} (h : Same B B') (r : Rd B a u) : Rd B' a u := by
  rcases r with r | ⟨o, r⟩
  · exact .inl (h _ _ r)
  · exact .inr ⟨o, h _ _ r⟩
theorem sqL_mono {a : Addr} {xs : List V} (h : Same B B') (r : SqL K B a xs) : SqL K B' a xs := by
  rcases r with r | r
  · exact .inl (rd_mono h r)
  · exact .inr r
theorem sqT_mono {a : Addr} {xs : List V} (h : Same B B') (r : SqT K B a xs) : SqT K B' a xs := by
  rcases r with r | r
  · exact .inl (rd_mono h r)
  · exact .inr r
theorem sqL_sm {a : Addr} {xs : List V} (h : Sm B B') (r : SqL K B a xs) : SqL K B' a xs := by
  rcases r with (r | ⟨o, r⟩) | r
  · exact .inl (.inl (h.obj _ _ r fun ps z => nomatch z))
  · exact .inl (.inr ⟨o, h.obj _ _ r fun ps z => nomatch z⟩)
  · exact .inr r
theorem sqT_sm {a : Addr} {xs : List V} (h : Sm B B') (r : SqT K B a xs) : SqT K B' a xs := by
  rcases r with (r | ⟨o, r⟩) | r
  · exact .inl (.inl (h.obj _ _ r fun ps z => nomatch z))
  · exact .inl (.inr ⟨o, h.obj _ _ r fun ps z => nomatch z⟩)
  · exact .inr r
mutual
theorem Rep.mono (h : Same B B') : ∀ {v : V} {d : D}, Rep K B v d → Rep K B' v d
  | _, _, .non => .non
  | _, _, .bl b => .bl b
  | _, _, .int i => .int i
  | _, _, .str x => .str x
  | _, _, .lst s r => .lst (sqL_mono h s) (Reps.mono h r)
  | _, _, .tup s r => .tup (h _ _ s) (Reps.mono h r)
  | _, _, .dK s r => .dK (rd_mono h s) (RepK.mono h r)
  | _, _, .dT s r n => .dT (h _ _ s) (RepT.mono h r) n
  | _, _, .dN s r n t => .dN (h _ _ s) (RepN.mono h r) n t
theorem Reps.mono (h : Same B B') : ∀ {vs : List V} {ds : List D}, Reps K B vs ds → Reps K B' vs ds
  | _, _, .nil => .nil
  | _, _, .cons a b => .cons (Rep.mono h a) (Reps.mono h b)
theorem RepK.mono (h : Same B B') : ∀ {vs : List (Key × V)} {ds : List (D × D)}, RepK K B vs ds → RepK K B' vs ds
  | _, _, .nil => .nil
  | _, _, .cons a b => .cons (Rep.mono h a) (RepK.mono h b)
theorem RepT.mono (h : Same B B') : ∀ {vs : List (List Key × V)} {ds : List (D × D)}, RepT K B vs ds → RepT K B' vs ds
  | _, _, .nil => .nil
  | _, _, .cons a b => .cons (Rep.mono h a) (RepT.mono h b)
theorem RepN.mono (h : Same B B') : ∀ {vs : List NRow} {ds : List (D × D)}, RepN K B vs ds → RepN K B' vs ds
  | _, _, .nil => .nil
  | _, _, .cons a n l b c => .cons (Rep.mono h a) n l (Rep.mono h b) (RepN.mono h c)
end
theorem Reps.length : ∀ {vs : List V} {ds : List D}, Reps K B vs ds → vs.length = ds.length
  | _, _, .nil => rfl
  | _, _, .cons _ r => by rw [List.length_cons, List.length_cons, Reps.length r]
theorem Reps.get : ∀ {vs : List V} {ds : List D} {i : Nat} {d : D}, Reps K B vs ds → ds[i]? = some d → ∃ v, vs[i]? = some v ∧ Rep K B v d
  | _, _, _, _, .nil, e => by simp at e
  | _, _, 0, _, .cons r _, e => by simp at e; subst e; exact ⟨_, rfl, r⟩
  | _, _, i + 1, _, .cons _ r, e => by
    obtain ⟨v, h1, h2⟩ := Reps.get (i := i) r (by simpa using e)
    exact ⟨v, by simpa using h1, h2⟩
theorem Reps.getV : ∀ {vs : List V} {ds : List D} {i : Nat} {v : V}, Reps K B vs ds → vs[i]? = some v → ∃ d, ds[i]? = some d ∧ Rep K B v d
  | _, _, _, _, .nil, e => by simp at e
  | _, _, 0, _, .cons r _, e => by simp at e; subst e; exact ⟨_, rfl, r⟩
  | _, _, i + 1, _, .cons _ r, e => by
    obtain ⟨v, h1, h2⟩ := Reps.getV (i := i) r (by simpa using e)
    exact ⟨v, by simpa using h1, h2⟩
theorem Reps.append : ∀ {vs us : List V} {ds es : List D}, Reps K B vs ds → Reps K B us es → Reps K B (vs ++ us) (ds ++ es)
  | _, _, _, _, .nil, s => s
  | _, _, _, _, .cons r t, s => .cons r (Reps.append t s)
theorem Reps.drop : ∀ {vs : List V} {ds : List D} (n : Nat), Reps K B vs ds → Reps K B (vs.drop n) (ds.drop n)
  | _, _, 0, r => r
  | _, _, _ + 1, .nil => .nil
  | _, _, n + 1, .cons _ t => Reps.drop n t
theorem Reps.take : ∀ {vs : List V} {ds : List D} (n : Nat), Reps K B vs ds → Reps K B (vs.take n) (ds.take n)
  | _, _, 0, _ => .nil
  | _, _, _ + 1, .nil => .nil
  | _, _, n + 1, .cons r t => .cons r (Reps.take n t)
theorem Reps.ints : ∀ ns : List Int, Reps K B (ns.map V.int) (ns.map PyData.int)
  | [] => .nil
  | n :: ns => .cons (.int n) (Reps.ints ns)
end

/-! ### the state of a def's body over data -/
/-- W: what is wanted of an exception; cv: the classes by name; H0, B0: the heap and the frozen part at the def's entry -/
structure FR where
  W : WX
  cv : Str → Value
  H0 : Hp
  B0 : Hp
  tab : LamX.Tabs TabCx.T H0
def ORep (K : PySem.W.Frag) (B : Hp) (a : Addr) : HO → D → Prop
  | .lst xs, .list ds => Reps K B xs ds
  | .dK kvs, .dict es => RepK K B kvs es
  | .dT kvs, .dict es => RepT K B kvs es ∧ es ≠ []
  | .ext φ, .dict es => ∃ ps, φ = dnφ a ps ∧ RepN K B ps es ∧ es ≠ [] ∧ TabCx.T = []
  | _, _ => False
theorem ORep.mono {K : PySem.W.Frag} {B B' : Hp} (h : Same B B') {a : Addr} {o : HO} {d : D} (r : ORep K B a o d) : ORep K B' a o d := by
  cases o with
  | lst xs => cases d with
    | list ds => exact Reps.mono h r
    | _ => exact False.elim r
  | dK xs => cases d with
    | dict ds => exact RepK.mono h r
    | _ => exact False.elim r
  | dT xs => cases d with
    | dict ds => exact ⟨RepT.mono h r.1, r.2⟩
    | _ => exact False.elim r
  | ext φ => cases d with
    | dict ds =>
      obtain ⟨ps, e, r, n, t⟩ := (r : ∃ ps, φ = dnφ a ps ∧ RepN K B ps ds ∧ ds ≠ [] ∧ TabCx.T = [])
      exact ⟨ps, e, RepN.mono h r, n, t⟩
    | _ => exact False.elim r
  | _ => cases d <;> exact False.elim r
/-- such an object is data, once frozen -/
theorem ORep.rep {K : PySem.W.Frag} {B : Hp} {a : Addr} {o : HO} {d : D} (h : B a = some o) (r : ORep K B a o d) : Rep K B (.ref a) d := by
  cases o with
  | lst xs => cases d with
    | list ds => exact .lst (SqL.of h) r
    | _ => exact False.elim r
  | dK xs => cases d with
    | dict ds => exact .dK (.inl h) r
    | _ => exact False.elim r
  | dT xs => cases d with
    | dict ds => exact .dT h r.1 r.2
    | _ => exact False.elim r
  | ext φ => cases d with
    | dict ds =>
      obtain ⟨ps, e, r, n, t⟩ := (r : ∃ ps, φ = dnφ a ps ∧ RepN K B ps ds ∧ ds ≠ [] ∧ TabCx.T = [])
      subst e
      exact .dN h r n t
    | _ => exact False.elim r
  | _ => cases d <;> exact False.elim r

theorem ORep.nt {K : PySem.W.Frag} {B : Hp} {a : Addr} {o : HO} {d : D} (r : ORep K B a o d) : ∀ ps, o ≠ .tbl ps := fun ps e => by
  subst e
  cases d <;> exact False.elim r
theorem ORep.nx {K : PySem.W.Frag} {B : Hp} {a : Addr} {o : HO} {d : D} (r : ORep K B a o d) : (∀ φ, o ≠ .ext φ) ∨ TabCx.T = [] := by
  cases o with
  | ext φ => cases d with
    | dict ds => exact .inr (r : ∃ ps, φ = dnφ a ps ∧ RepN K B ps ds ∧ ds ≠ [] ∧ TabCx.T = []).choose_spec.2.2.2
    | _ => exact False.elim r
  | _ => exact .inl fun φ z => nomatch z
theorem Sm.mut {H0 H : Hp} {a : Addr} {o o' : HO} (s : Sm H0 H) (n0 : H0 a = none) (h : H a = some o) (nt : ∀ ps, o ≠ .tbl ps) (nx : ∀ φ, o ≠ .ext φ) : Sm H0 (upd H a o') where
  obj := fun b x e n => by
    rw [upd_ne (ne_of_none e n0)]
    exact s.obj b x e n
  ne := fun b e => by
    by_cases hb : b = a
    · rw [hb, upd_same]
      exact fun z => nomatch z
    · rw [upd_ne hb]
      exact s.ne b e
  tab := fun t p hp => by
    obtain ⟨ps, h1, h2, h3⟩ := s.tab t p hp
    have k1 : p.1 ≠ a := fun z => by
      rw [z, h] at h1
      exact nt ps (Option.some.inj h1)
    refine ⟨ps, by rw [upd_ne k1]; exact h1, h2, fun pos cv hc => ?_⟩
    obtain ⟨c, e1, e2⟩ := h3 pos cv hc
    have k2 : c ≠ a := fun z => by
      rw [z, h] at e2
      exact nx _ (Option.some.inj e2)
    exact ⟨c, e1, by rw [upd_ne k2]; exact e2⟩
theorem Sm.mut' {H0 H : Hp} {a : Addr} {o o' : HO} (s : Sm H0 H) (n0 : H0 a = none) (h : H a = some o) (nt : ∀ ps, o ≠ .tbl ps) (nx : (∀ φ, o ≠ .ext φ) ∨ TabCx.T = []) : Sm H0 (upd H a o') := by
  rcases nx with nx | nx
  · exact s.mut n0 h nt nx
  · refine ⟨fun b x e n => ?_, fun b e => ?_, fun _ p hp => ?_⟩
    · rw [upd_ne (ne_of_none e n0)]
      exact s.obj b x e n
    · by_cases hb : b = a
      · rw [hb, upd_same]
        exact fun z => nomatch z
      · rw [upd_ne hb]
        exact s.ne b e
    · rw [nx] at hp
      cases hp
def Own (K : PySem.W.Frag) (F : FR) (B H : Hp) (v : V) (d : D) : Prop := ∃ a o, v = .ref a ∧ B a = none ∧ H a = some o ∧ ORep K B a o d ∧ F.H0 a = none
structure SR (K : PySem.W.Frag) (F : FR) (own : List Nat) (B : Hp) (Γ : DEnv) (σ : L2.St) (H : Hp) : Prop where
  sub : Same B H
  same : Sm F.H0 H
  old : ∀ a, F.H0 a ≠ none → B a = F.B0 a
  len : Γ.length = σ.length
  dat : ∀ i d, i ∉ own → Γ[i]? = some (some d) → ∃ v, σ[i]? = some (some v) ∧ Rep K B v d
  owd : ∀ i d, i ∈ own → Γ[i]? = some (some d) → ∃ v, σ[i]? = some (some v) ∧ Own K F B H v d
  apart : ∀ i j d e v, i ∈ own → j ∈ own → i ≠ j → Γ[i]? = some (some d) → Γ[j]? = some (some e) → σ[i]? = some (some v) → σ[j]? ≠ some (some v)
  nt : ∀ a ps, B a ≠ some (.tbl ps)
theorem SR.tab {K : PySem.W.Frag} {F : FR} {own : List Nat} {B : Hp} {Γ : DEnv} {σ : L2.St} {H : Hp} (s : SR K F own B Γ σ H) : LamX.Tabs TabCx.T H := s.same.tab F.tab
theorem SR.nbT {K : PySem.W.Frag} {F : FR} {own : List Nat} {B : Hp} {Γ : DEnv} {σ : L2.St} {H : Hp} (s : SR K F own B Γ σ H) : ∀ p ∈ TabCx.T, B p.1 = none := fun p hp => by
  obtain ⟨ps, h1, _⟩ := s.tab p hp
  cases e : B p.1 with
  | none => rfl
  | some o =>
    have := s.sub _ _ e
    rw [h1] at this
    cases this
    exact absurd e (s.nt _ _)
theorem nt_upd {B : Hp} {a : Addr} {o : HO} (h : ∀ a ps, B a ≠ some (.tbl ps)) (nt : ∀ ps, o ≠ .tbl ps) : ∀ b ps, upd B a o b ≠ some (.tbl ps) := fun b ps e => by
  by_cases hb : b = a
  · rw [hb, upd_same] at e
    exact nt ps (Option.some.inj e)
  · rw [upd_ne hb] at e
    exact h b ps e
inductive Mode where
  | val | bor | fresh
/-- what lay there at H lies there as before, and is as frozen as before -/
structure Grow (B H B' H' : Hp) : Prop where
  hp : Sm H H'
  fz : ∀ a, H a ≠ none → B' a = B a
theorem Grow.refl {B H : Hp} : Grow B H B H := ⟨Sm.refl H, fun _ _ => rfl⟩
theorem same_ne {H H' : Hp} (h : Sm H H') {a : Addr} (n : H a ≠ none) : H' a ≠ none := h.ne a n
theorem Grow.trans {B H B1 H1 B2 H2 : Hp} (g : Grow B H B1 H1) (k : Grow B1 H1 B2 H2) : Grow B H B2 H2 :=
  ⟨g.hp.trans k.hp, fun a n => (k.fz a (same_ne g.hp n)).trans (g.fz a n)⟩
theorem Grow.same {B H B' H' : Hp} (g : Grow B H B' H') (s : Same B H) : Same B B' := fun a o e => by
  rw [g.fz a (by rw [s a o e]; exact fun z => nomatch z)]
  exact e
/-- s: the heap at the start -/
def RV (K : PySem.W.Frag) (F : FR) (own : List Nat) (Γ : DEnv) (σ : L2.St) : Mode → Hp → Hp → Hp → V → D → Prop
  | .val, _, B, _, v, d => Rep K B v d
  | .bor, _, B, H, v, d => Rep K B v d ∨ Own K F B H v d
  | .fresh, s, B, H, v, d => Own K F B H v d ∧ (∀ i d, i ∈ own → Γ[i]? = some (some d) → σ[i]? ≠ some (some v)) ∧ ∀ a, v = .ref a → s a = none
theorem Own.later {K : PySem.W.Frag} {F : FR} {B B' H H' : Hp} {v : V} {d : D} (r : Own K F B H v d) (hB : Same B B') (hH : Sm H H') (hs : Same B' H') : Rep K B' v d ∨ Own K F B' H' v d := by
  obtain ⟨a, o, rfl, _, h, r, n⟩ := r
  cases e : B' a with
  | none => exact .inr ⟨a, o, rfl, e, hH.obj _ _ h r.nt, r.mono hB, n⟩
  | some o' =>
    have h1 := hs _ _ e
    rw [hH.obj _ _ h r.nt] at h1
    cases h1
    exact .inl ((r.mono hB).rep e)
/-- val, bor stay -/
theorem RV.later {K : PySem.W.Frag} {F : FR} {own : List Nat} {Γ Γ' : DEnv} {σ σ' : L2.St} {m : Mode} {s s' B B' H H' : Hp} {v : V} {d : D} (hm : m ≠ .fresh) (r : RV K F own Γ σ m s B H v d) (hB : Same B B') (hH : Sm H H') (hs : Same B' H') : RV K F own Γ' σ' m s' B' H' v d := by
  cases m with
  | val => exact Rep.mono hB r
  | bor =>
    rcases r with r | r
    · exact .inl (r.mono hB)
    · exact r.later hB hH hs
  | fresh => exact absurd rfl hm
theorem RV.bor {K : PySem.W.Frag} {F : FR} {own : List Nat} {Γ : DEnv} {σ : L2.St} {m : Mode} {s B H : Hp} {v : V} {d : D} (r : RV K F own Γ σ m s B H v d) : Rep K B v d ∨ Own K F B H v d := by
  cases m with
  | val => exact .inl r
  | bor => exact r
  | fresh => exact .inr r.1
theorem RV.early {K : PySem.W.Frag} {F : FR} {own : List Nat} {Γ : DEnv} {σ : L2.St} {m : Mode} {s s' B H : Hp} {v : V} {d : D} (h : Sm s s') (r : RV K F own Γ σ m s' B H v d) : RV K F own Γ σ m s B H v d := by
  cases m with
  | val => exact r
  | bor => exact r
  | fresh => exact ⟨r.1, r.2.1, fun a e => by
      have := r.2.2 a e
      cases q : s a with
      | none => rfl
      | some o => exact absurd this (h.ne a (by rw [q]; exact fun z => nomatch z))⟩

/-- what follows a reading: rv relates what has come to the datum -/
def Post {α β : Type} (K : PySem.W.Frag) (F : FR) (own : List Nat) (rv : Hp → Hp → Hp → β → α → Prop) (t : Res α) (Γ : DEnv) (σ : L2.St) (H B : Hp) (Q : β → Hp → Prop) : Prop := match t with
  | .ok d => ∀ v H' B', SR K F own B' Γ σ H' → Grow B H B' H' → rv H B' H' v d → Q v H'
  | .raise c => ∀ H', Sm H H' → F.W (F.cv c) none σ H'
  | .bad => False
/-- a relation that asks no more of an earlier start -/
def Early {α β : Type} (rv : Hp → Hp → Hp → β → α → Prop) : Prop := ∀ s s' B H v d, Sm s s' → rv s' B H v d → rv s B H v d
theorem Post.mono {α β : Type} {K : PySem.W.Frag} {F : FR} {own : List Nat} {rv : Hp → Hp → Hp → β → α → Prop} {t : Res α} {Γ : DEnv} {σ : L2.St} {H B H' B' : Hp} {Q : β → Hp → Prop} (er : Early rv) (p : Post K F own rv t Γ σ H B Q) (g : Grow B H B' H') : Post K F own rv t Γ σ H' B' Q := by
  cases t with
  | ok d => exact fun v H2 B2 s g2 r => p v H2 B2 s (g.trans g2) (er _ _ _ _ _ _ g.hp r)
  | raise c => exact fun H2 h => p H2 (g.hp.trans h)
  | bad => exact p
/-- the reading of an expression of data -/
def tX {α β : Type} (K : PySem.W.Frag) (F : FR) (own : List Nat) (rv : DEnv → L2.St → Hp → Hp → Hp → β → α → Prop) (t : DEnv → Res α) : L2.St → Hp → (β → Hp → Prop) → Prop := fun σ H Q => ∃ B Γ, SR K F own B Γ σ H ∧ Post K F own (rv Γ σ) (t Γ) Γ σ H B Q
def tD (K : PySem.W.Frag) (F : FR) (own : List Nat) (m : Mode) (t : DEnv → Res D) : TE := tX K F own (fun Γ σ => RV K F own Γ σ m) t
def rvB : Hp → Hp → Hp → Bool → Bool → Prop := fun _ _ _ b d => b = d
def tB (K : PySem.W.Frag) (F : FR) (own : List Nat) (t : DEnv → Res Bool) : TT := tX K F own (fun _ _ => rvB) t
def RVs (K : PySem.W.Frag) (F : FR) (own : List Nat) (Γ : DEnv) (σ : L2.St) (m : Mode) (s B H : Hp) (vs : List V) (ds : List D) : Prop := Paired (RV K F own Γ σ m s B H) vs ds
def tA (K : PySem.W.Frag) (F : FR) (own : List Nat) (m : Mode) (t : DEnv → Res (List D)) : TA := tX K F own (fun Γ σ => RVs K F own Γ σ m) t
theorem early_RV {K : PySem.W.Frag} {F : FR} {own : List Nat} {Γ : DEnv} {σ : L2.St} {m : Mode} : Early (RV K F own Γ σ m) := fun _ _ _ _ _ _ h r => r.early h
theorem early_B : Early rvB := fun _ _ _ _ _ _ _ r => r
theorem early_RVs {K : PySem.W.Frag} {F : FR} {own : List Nat} {Γ : DEnv} {σ : L2.St} {m : Mode} : Early (RVs K F own Γ σ m) := fun _ _ _ _ _ _ h r => Paired.mapP r fun _ _ q => q.early h
/-- the first part runs -/
theorem tX_first {α β γ : Type} {K : PySem.W.Frag} {F : FR} {own : List Nat} {rv : DEnv → L2.St → Hp → Hp → Hp → β → α → Prop} {ta : DEnv → Res α} {f : α → Res γ} {β' : Type} {rv' : Hp → Hp → Hp → β' → γ → Prop} {B H : Hp} {Γ : DEnv} {σ : L2.St} {Q : β' → Hp → Prop} {R : β → Hp → Prop}
    (er : Early rv') (s : SR K F own B Γ σ H) (p : Post K F own rv' ((ta Γ).bind f) Γ σ H B Q)
    (k : ∀ x v H1 B1, ta Γ = .ok x → SR K F own B1 Γ σ H1 → Grow B H B1 H1 → rv Γ σ H B1 H1 v x → Post K F own rv' (f x) Γ σ H1 B1 Q → R v H1) : tX K F own rv ta σ H R := by
  refine ⟨B, Γ, s, ?_⟩
  cases e : ta Γ with
  | ok x =>
    rw [e] at p
    exact fun v H1 B1 s1 g r => k x v H1 B1 e s1 g r (Post.mono er p g)
  | raise c =>
    rw [e] at p
    exact p
  | bad =>
    rw [e] at p
    exact p.elim
theorem PE.mono {X : Cx} {e : Expr} {t t' : TE} (h : PE X e t) (k : ∀ σ H Q, t' σ H Q → t σ H Q) : PE X e t' := ⟨fun pins s σ H Q I q => h.run pins s σ H Q I (k σ H Q q)⟩
theorem PT.mono {X : Cx} {e : Expr} {t t' : TT} (h : PT X e t) (k : ∀ σ H Q, t' σ H Q → t σ H Q) : PT X e t' := ⟨fun pins s σ H Q I q => h.run pins s σ H Q I (k σ H Q q)⟩
theorem PW.mono {X : Cx} {e : Expr} {t t' : TT} (h : PW X e t) (k : ∀ σ H Q, t' σ H Q → t σ H Q) : PW X e t' := ⟨fun wh pins s σ H Q I q => h.run wh pins s σ H Q I (k σ H Q q)⟩
theorem PA.mono {X : Cx} {e : List Expr} {t t' : TA} (h : PA X e t) (k : ∀ σ H Q, t' σ H Q → t σ H Q) : PA X e t' := ⟨fun pos pins s σ H Q I q => h.run pos pins s σ H Q I (k σ H Q q)⟩
theorem PS.mono {X : Cx} {e : Stmt} {t t' : TS} (h : PS X e t) (k : ∀ D σ H, t' D σ H → t D σ H) : PS X e t' := ⟨fun pins s σ H D I q => h.run pins s σ H D I (k D σ H q)⟩
theorem PSs.mono {X : Cx} {e : List Stmt} {t t' : TS} (h : PSs X e t) (k : ∀ D σ H, t' D σ H → t D σ H) : PSs X e t' := ⟨fun pins s σ H D I q => h.run pins s σ H D I (k D σ H q)⟩

/-! ### the judgements -/
abbrev DE (X : Cx) (F : FR) (own : List Nat) (m : Mode) (e : Expr) (t : DEnv → Res D) : Prop := PE X e (tD X.K F own m t)
abbrev DT (X : Cx) (F : FR) (own : List Nat) (e : Expr) (t : DEnv → Res Bool) : Prop := PT X e (tB X.K F own t)
abbrev DW (X : Cx) (F : FR) (own : List Nat) (e : Expr) (t : DEnv → Res Bool) : Prop := PW X e (tB X.K F own t)
abbrev DA (X : Cx) (F : FR) (own : List Nat) (m : Mode) (es : List Expr) (t : DEnv → Res (List D)) : Prop := PA X es (tA X.K F own m t)

/-! ### freezing -/
section
variable {K : PySem.W.Frag} {F : FR} {own own' : List Nat} {B H : Hp} {Γ : DEnv} {σ : L2.St}
/-- a new object that no slot owns is frozen -/
theorem SR.freeze {a : Addr} {o : HO} (s : SR K F own B Γ σ H) (h : H a = some o) (n : B a = none) (h0 : F.H0 a = none) (na : ∀ i d, i ∈ own → Γ[i]? = some (some d) → σ[i]? ≠ some (some (.ref a))) (nt : ∀ ps, o ≠ .tbl ps := by exact fun _ z => nomatch z) : SR K F own (upd B a o) Γ σ H := by
  have sm : Same B (upd B a o) := fun b x e => by rw [upd_ne (ne_of_none e n)]; exact e
  refine ⟨fun b x e => ?_, s.same, fun b hb => ?_, s.len, fun i d hi e => ?_, fun i d hi e => ?_, s.apart, nt_upd s.nt nt⟩
  · by_cases hb : b = a
    · subst hb; rw [upd_same] at e; cases e; exact h
    · rw [upd_ne hb] at e; exact s.sub b x e
  · have : b ≠ a := fun z => hb (z ▸ h0)
    rw [upd_ne this]; exact s.old b hb
  · obtain ⟨v, e1, r⟩ := s.dat i d hi e
    exact ⟨v, e1, r.mono sm⟩
  · obtain ⟨v, e1, b, u, rfl, n1, h1, r, n0⟩ := s.owd i d hi e
    have : b ≠ a := fun z => na i d hi e (z ▸ e1)
    exact ⟨_, e1, b, u, rfl, by rw [upd_ne this]; exact n1, h1, r.mono sm, n0⟩
theorem same_upd {a : Addr} {o : HO} (n : B a = none) : Same B (upd B a o) := fun b x e => by rw [upd_ne (ne_of_none e n)]; exact e
/-- slot i is given up -/
theorem SR.drop1 {i : Nat} (s : SR K F (i :: own) B Γ σ H) (hi : i ∉ own) : ∃ B', Same B B' ∧ SR K F own B' Γ σ H := by
  cases e : Γ[i]? with
  | none =>
    exact ⟨B, Same.refl B, s.sub, s.same, s.old, s.len, fun j d hj e1 => s.dat j d (fun z => by
      rcases List.mem_cons.mp z with z | z
      · subst z; rw [e] at e1; cases e1
      · exact hj z) e1, fun j d hj => s.owd j d (List.mem_cons_of_mem _ hj), fun j k d d' v hj hk => s.apart j k d d' v (List.mem_cons_of_mem _ hj) (List.mem_cons_of_mem _ hk), s.nt⟩
  | some od =>
    cases od with
    | none =>
      exact ⟨B, Same.refl B, s.sub, s.same, s.old, s.len, fun j d hj e1 => s.dat j d (fun z => by
        rcases List.mem_cons.mp z with z | z
        · subst z; rw [e] at e1; cases e1
        · exact hj z) e1, fun j d hj => s.owd j d (List.mem_cons_of_mem _ hj), fun j k d d' v hj hk => s.apart j k d d' v (List.mem_cons_of_mem _ hj) (List.mem_cons_of_mem _ hk), s.nt⟩
    | some d0 =>
      obtain ⟨v, e1, a, o, rfl, n1, h1, r, n0⟩ := s.owd i d0 List.mem_cons_self e
      have sm : Same B (upd B a o) := same_upd n1
      refine ⟨upd B a o, sm, fun b x eb => ?_, s.same, fun b hb => ?_, s.len, fun j d hj ej => ?_, fun j d hj ej => ?_, fun j k d d' v hj hk => s.apart j k d d' v (List.mem_cons_of_mem _ hj) (List.mem_cons_of_mem _ hk), nt_upd s.nt r.nt⟩
      · by_cases hb : b = a
        · subst hb; rw [upd_same] at eb; cases eb; exact h1
        · rw [upd_ne hb] at eb; exact s.sub b x eb
      · have : b ≠ a := fun z => hb (z ▸ n0)
        rw [upd_ne this]; exact s.old b hb
      · by_cases hji : j = i
        · subst hji
          rw [e] at ej; cases ej
          exact ⟨_, e1, (r.mono sm).rep upd_same⟩
        · obtain ⟨v, e2, r2⟩ := s.dat j d (fun z => (List.mem_cons.mp z).elim hji hj) ej
          exact ⟨v, e2, r2.mono sm⟩
      · have hji : j ≠ i := fun z => hi (z ▸ hj)
        obtain ⟨v, e2, b, u, rfl, n2, h2, r2, n3⟩ := s.owd j d (List.mem_cons_of_mem _ hj) ej
        have : b ≠ a := fun z => s.apart j i d d0 _ (List.mem_cons_of_mem _ hj) List.mem_cons_self hji ej e (z ▸ e2) e1
        exact ⟨_, e2, b, u, rfl, by rw [upd_ne this]; exact n2, h2, r2.mono sm, n3⟩
theorem SR.perm (s : SR K F own B Γ σ H) (h : ∀ i, i ∈ own ↔ i ∈ own') : SR K F own' B Γ σ H :=
  ⟨s.sub, s.same, s.old, s.len, fun i d hi => s.dat i d fun z => hi ((h i).mp z), fun i d hi => s.owd i d ((h i).mpr hi), fun i j d e v hi hj => s.apart i j d e v ((h i).mpr hi) ((h j).mpr hj), s.nt⟩
theorem SR.dropN : ∀ (l : List Nat) {B : Hp}, SR K F (l ++ own) B Γ σ H → (∀ i ∈ l, i ∉ own) → ∃ B', Same B B' ∧ SR K F own B' Γ σ H
  | [], B, s, _ => ⟨B, Same.refl B, s⟩
  | i :: l, B, s, hn => by
    by_cases hi : i ∈ l ++ own
    · exact SR.dropN l (s.perm fun j => by
        rw [List.cons_append, List.mem_cons]
        exact ⟨fun z => z.elim (fun z => z ▸ hi) id, .inr⟩) fun j hj => hn j (List.mem_cons_of_mem _ hj)
    · obtain ⟨B1, b1, s1⟩ := SR.drop1 (own := l ++ own) (by exact s) hi
      obtain ⟨B2, b2, s2⟩ := SR.dropN l s1 fun j hj => hn j (List.mem_cons_of_mem _ hj)
      exact ⟨B2, b1.trans b2, s2⟩
/-- fewer slots are owned -/
theorem SR.weak (s : SR K F own B Γ σ H) (h : ∀ i ∈ own', i ∈ own) : ∃ B', Same B B' ∧ SR K F own' B' Γ σ H := by
  refine SR.dropN (own.filter fun i => decide (i ∉ own')) (s.perm fun i => ?_) fun i hi => ?_
  · rw [List.mem_append, List.mem_filter]
    constructor
    · intro hi
      by_cases hj : i ∈ own'
      · exact .inr hj
      · exact .inl ⟨hi, decide_eq_true hj⟩
    · rintro (⟨hi, _⟩ | hi)
      · exact hi
      · exact h i hi
  · exact of_decide_eq_true (List.mem_filter.mp hi).2
end
end DL

/-! DL: statements, loops, defs over data. -/
namespace DL
open PySem PySem.Spec PyProof.Rows L2
variable [TabCx] [WCx]

inductive Out where
  | next (Γ : DEnv) | ret (d : D) | raise (c : Str) | bad
def oBind {α : Type} : Res α → (α → Out) → Out
  | .ok a, f => f a
  | .raise c, _ => .raise c
  | .bad, _ => .bad
@[simp] theorem ok_oBind {α : Type} (a : α) (f : α → Out) : oBind (Res.ok a) f = f a := rfl
@[simp] theorem raise_oBind {α : Type} (c : Str) (f : α → Out) : oBind (Res.raise c) f = .raise c := rfl
@[simp] theorem bad_oBind {α : Type} (f : α → Out) : oBind (Res.bad : Res α) f = .bad := rfl
def Out.andThen : Out → (DEnv → Out) → Out
  | .next Γ, f => f Γ
  | .ret d, _ => .ret d
  | .raise c, _ => .raise c
  | .bad, _ => .bad
@[simp] theorem next_andThen (Γ : DEnv) (f : DEnv → Out) : (Out.next Γ).andThen f = f Γ := rfl
@[simp] theorem ret_andThen (d : D) (f : DEnv → Out) : (Out.ret d).andThen f = .ret d := rfl
@[simp] theorem raise_andThen (c : Str) (f : DEnv → Out) : (Out.raise c).andThen f = .raise c := rfl
@[simp] theorem bad_andThen (f : DEnv → Out) : Out.bad.andThen f = .bad := rfl

structure Fin (F : FR) (B H : Hp) : Prop where
  same : Sm F.H0 H
  sub : Same B H
  old : ∀ a, F.H0 a ≠ none → B a = F.B0 a
  nt : ∀ a ps, B a ≠ some (.tbl ps)
theorem SR.fin {K : PySem.W.Frag} {F : FR} {own : List Nat} {B H : Hp} {Γ : DEnv} {σ : L2.St} (s : SR K F own B Γ σ H) : Fin F B H := ⟨s.same, s.sub, s.old, s.nt⟩
def OPost (K : PySem.W.Frag) (F : FR) (own : List Nat) (Dn : Ends) (o : Out) (B : Hp) : Prop := match o with
  | .next Γ' => ∀ σ' H' B', SR K F own B' Γ' σ' H' → Same B B' → Dn.nx σ' H'
  | .ret d => ∀ v H' B', Fin F B' H' → Rep K B' v d → Dn.rt v H'
  | .raise c => ∀ σ' H', Sm F.H0 H' → F.W (F.cv c) none σ' H'
  | .bad => False
theorem OPost.mono {K : PySem.W.Frag} {F : FR} {own : List Nat} {Dn : Ends} {o : Out} {B B' : Hp} (p : OPost K F own Dn o B) (h : Same B B') : OPost K F own Dn o B' := by
  cases o with
  | next Γ => exact fun σ H B2 s h2 => p σ H B2 s (h.trans h2)
  | ret d => exact p
  | raise c => exact p
  | bad => exact p
def tS (K : PySem.W.Frag) (F : FR) (own own' : List Nat) (t : DEnv → Out) : TS := fun Dn σ H => ∃ B Γ, SR K F own B Γ σ H ∧ OPost K F own' Dn (t Γ) B
abbrev DS (X : Cx) (F : FR) (own own' : List Nat) (st : Stmt) (t : DEnv → Out) : Prop := PS X st (tS X.K F own own' t)
abbrev DSs (X : Cx) (F : FR) (own own' : List Nat) (st : List Stmt) (t : DEnv → Out) : Prop := PSs X st (tS X.K F own own' t)
/-- an expression ahead of the rest of a statement -/
theorem tX_firstO {α β : Type} {K : PySem.W.Frag} {F : FR} {own own' : List Nat} {rv : DEnv → L2.St → Hp → Hp → Hp → β → α → Prop} {ta : DEnv → Res α} {f : α → Out} {B H : Hp} {Γ : DEnv} {σ : L2.St} {Dn : Ends} {R : β → Hp → Prop}
    (s : SR K F own B Γ σ H) (p : OPost K F own' Dn (oBind (ta Γ) f) B)
    (k : ∀ x v H1 B1, ta Γ = .ok x → SR K F own B1 Γ σ H1 → Grow B H B1 H1 → Same B B1 → rv Γ σ H B1 H1 v x → OPost K F own' Dn (f x) B1 → R v H1) : tX K F own rv ta σ H R := by
  refine ⟨B, Γ, s, ?_⟩
  cases e : ta Γ with
  | ok x =>
    rw [e] at p
    exact fun v H1 B1 s1 g r => k x v H1 B1 e s1 g (g.same s.sub) r (OPost.mono p (g.same s.sub))
  | raise c =>
    rw [e] at p
    exact fun H1 h => p σ H1 (s.same.trans h)
  | bad =>
    rw [e] at p
    exact p.elim

theorem tD_firstO {K : PySem.W.Frag} {F : FR} {own own' : List Nat} {m : Mode} {ta : DEnv → Res D} {f : D → Out} {B H : Hp} {Γ : DEnv} {σ : L2.St} {Dn : Ends} {R : V → Hp → Prop}
    (s : SR K F own B Γ σ H) (p : OPost K F own' Dn (oBind (ta Γ) f) B)
    (k : ∀ x v H1 B1, ta Γ = .ok x → SR K F own B1 Γ σ H1 → Grow B H B1 H1 → Same B B1 → RV K F own Γ σ m H B1 H1 v x → OPost K F own' Dn (f x) B1 → R v H1) : tD K F own m ta σ H R := tX_firstO s p k
theorem tB_firstO {K : PySem.W.Frag} {F : FR} {own own' : List Nat} {ta : DEnv → Res Bool} {f : Bool → Out} {B H : Hp} {Γ : DEnv} {σ : L2.St} {Dn : Ends} {R : Bool → Hp → Prop}
    (s : SR K F own B Γ σ H) (p : OPost K F own' Dn (oBind (ta Γ) f) B)
    (k : ∀ x H1 B1, ta Γ = .ok x → SR K F own B1 Γ σ H1 → Grow B H B1 H1 → Same B B1 → OPost K F own' Dn (f x) B1 → R x H1) : tB K F own ta σ H R :=
  tX_firstO (rv := fun _ _ => rvB) s p fun x v H1 B1 e s1 g b r q => by
    have r : v = x := r
    subst r
    exact k v H1 B1 e s1 g b q
section
variable {X : Cx} {F : FR} {own o1 o2 o3 : List Nat}
def sNil : DEnv → Out := fun Γ => .next Γ
theorem dss_nil : DSs X F own own [] sNil := PSs.mono pss_nil fun Dn σ H ⟨B, Γ, s, p⟩ => p σ H B s (Same.refl B)
/-- fewer are owned at the start -/
theorem dss_weak {st : List Stmt} {t : DEnv → Out} (h : DSs X F o2 o3 st t) (ho : ∀ i ∈ o2, i ∈ o1) : DSs X F o1 o3 st t := PSs.mono h fun Dn σ H ⟨B, Γ, s, p⟩ => by
  obtain ⟨B', b, s'⟩ := s.weak ho
  exact ⟨B', Γ, s', OPost.mono p b⟩
theorem ds_weak {st : Stmt} {t : DEnv → Out} (h : DS X F o2 o3 st t) (ho : ∀ i ∈ o2, i ∈ o1) : DS X F o1 o3 st t := PS.mono h fun Dn σ H ⟨B, Γ, s, p⟩ => by
  obtain ⟨B', b, s'⟩ := s.weak ho
  exact ⟨B', Γ, s', OPost.mono p b⟩
theorem OPost.weak {K : PySem.W.Frag} {Dn : Ends} {o : Out} {B : Hp} (p : OPost K F o3 Dn o B) (ho : ∀ i ∈ o3, i ∈ o2) : OPost K F o2 Dn o B := by
  cases o with
  | next Γ =>
    intro σ H B2 s h2
    obtain ⟨B', b, s'⟩ := s.weak ho
    exact p σ H B' s' (h2.trans b)
  | ret d => exact p
  | raise c => exact p
  | bad => exact p
/-- fewer are owned at the end -/
theorem dss_post {st : List Stmt} {t : DEnv → Out} (h : DSs X F o1 o2 st t) (ho : ∀ i ∈ o3, i ∈ o2) : DSs X F o1 o3 st t := PSs.mono h fun Dn σ H ⟨B, Γ, s, p⟩ => ⟨B, Γ, s, OPost.weak p ho⟩
def sSeq (t u : DEnv → Out) : DEnv → Out := fun Γ => (t Γ).andThen u
theorem dss_cons {st : Stmt} {rest : List Stmt} {t u : DEnv → Out} (h1 : DS X F o1 o2 st t) (h2 : DSs X F o2 o3 rest u) : DSs X F o1 o3 (st :: rest) (sSeq t u) := PSs.mono (pss_cons h1 h2) fun Dn σ H ⟨B, Γ, s, p⟩ => by
  refine ⟨B, Γ, s, ?_⟩
  unfold sSeq at p
  cases e : t Γ with
  | next Γ' =>
    rw [e] at p
    exact fun σ' H' B' s' b => ⟨B', Γ', s', OPost.mono p b⟩
  | ret d => rw [e] at p; exact p
  | raise c => rw [e] at p; exact p
  | bad => rw [e] at p; exact p
theorem dss_one {st : Stmt} {t : DEnv → Out} (h1 : DS X F o1 o2 st t) : DSs X F o1 o2 [st] t := PSs.mono (pss_one h1) fun Dn σ H h => h

/-! ### stores -/
theorem SR.set {K : PySem.W.Frag} {B H : Hp} {Γ : DEnv} {σ : L2.St} {i : Nat} {v : V} {d : D} (s : SR K F own B Γ σ H) (hi : i ∉ own) (r : Rep K B v d) : SR K F own B (Γ.set i (some d)) (σ.set i (some v)) H := by
  refine ⟨s.sub, s.same, s.old, by rw [List.length_set, List.length_set, s.len], fun j e hj ej => ?_, fun j e hj ej => ?_, fun j k e e' w hj hk hjk ej ek ev => ?_, s.nt⟩
  · by_cases hji : i = j
    · subst hji
      have hl : i < Γ.length := by
        have := (List.getElem?_eq_some_iff.mp ej).1
        rwa [List.length_set] at this
      rw [List.getElem?_set_self hl] at ej
      cases ej
      exact ⟨v, List.getElem?_set_self (by rw [← s.len]; exact hl), r⟩
    · rw [List.getElem?_set_ne hji] at ej ⊢
      exact s.dat j e hj ej
  · have hji : i ≠ j := fun z => hi (z ▸ hj)
    rw [List.getElem?_set_ne hji] at ej ⊢
    exact s.owd j e hj ej
  · have h1 : i ≠ j := fun z => hi (z ▸ hj)
    have h2 : i ≠ k := fun z => hi (z ▸ hk)
    rw [List.getElem?_set_ne h1] at ej ev
    rw [List.getElem?_set_ne h2] at ek ⊢
    exact s.apart j k e e' w hj hk hjk ej ek ev
theorem SR.setO {K : PySem.W.Frag} {B H : Hp} {Γ : DEnv} {σ : L2.St} {i : Nat} {v : V} {d : D} (s : SR K F own B Γ σ H) (hi : i ∉ own) (r : Own K F B H v d) (na : ∀ i d, i ∈ own → Γ[i]? = some (some d) → σ[i]? ≠ some (some v)) : SR K F (i :: own) B (Γ.set i (some d)) (σ.set i (some v)) H := by
  refine ⟨s.sub, s.same, s.old, by rw [List.length_set, List.length_set, s.len], fun j e hj ej => ?_, fun j e hj ej => ?_, fun j k e e' w hj hk hjk ej ek ev => ?_, s.nt⟩
  · have hji : i ≠ j := fun z => hj (z ▸ List.mem_cons_self)
    rw [List.getElem?_set_ne hji] at ej ⊢
    exact s.dat j e (fun z => hj (List.mem_cons_of_mem _ z)) ej
  · by_cases hji : i = j
    · subst hji
      have hl : i < Γ.length := by
        have := (List.getElem?_eq_some_iff.mp ej).1
        rwa [List.length_set] at this
      rw [List.getElem?_set_self hl] at ej
      cases ej
      exact ⟨v, List.getElem?_set_self (by rw [← s.len]; exact hl), r⟩
    · rw [List.getElem?_set_ne hji] at ej ⊢
      exact s.owd j e ((List.mem_cons.mp hj).resolve_left fun z => hji z.symm) ej
  · by_cases h1 : i = j
    · subst h1
      have h2 : i ≠ k := hjk
      have hl : i < σ.length := by
        have := (List.getElem?_eq_some_iff.mp ev).1
        rwa [List.length_set] at this
      rw [List.getElem?_set_self hl] at ev
      cases ev
      rw [List.getElem?_set_ne h2] at ek ⊢
      exact na k e' ((List.mem_cons.mp hk).resolve_left fun z => h2 z.symm) ek
    · have hj' := (List.mem_cons.mp hj).resolve_left fun z => h1 z.symm
      rw [List.getElem?_set_ne h1] at ej ev
      by_cases h2 : i = k
      · subst h2
        have hl : i < σ.length := by
          have := (List.getElem?_eq_some_iff.mp ek).1
          rw [List.length_set] at this
          rw [← s.len]; exact this
        rw [List.getElem?_set_self hl]
        intro z
        cases z
        exact na j e hj' ej ev
      · have hk' := (List.mem_cons.mp hk).resolve_left fun z => h2 z.symm
        rw [List.getElem?_set_ne h2] at ek ⊢
        exact s.apart j k e e' w hj' hk' hjk ej ek ev
/-- an owned object is changed -/
theorem SR.mutate {K : PySem.W.Frag} {B H : Hp} {Γ : DEnv} {σ : L2.St} {i : Nat} {a : Addr} {o' : HO} {d d' : D} (s : SR K F own B Γ σ H) (hi : i ∈ own) (ed : Γ[i]? = some (some d)) (ev : σ[i]? = some (some (.ref a))) (r : ORep K B a o' d') :
    SR K F own B (Γ.set i (some d')) σ (upd H a o') := by
  obtain ⟨v0, e1, a1, o1, e2, n1, h1, r1, n0⟩ := s.owd i d hi ed
  rw [ev] at e1; cases e1; cases e2
  have hl : i < Γ.length := (List.getElem?_eq_some_iff.mp ed).1
  refine ⟨fun b x e => ?_, s.same.mut' n0 h1 r1.nt r1.nx, s.old, by rw [List.length_set, s.len], fun j e hj ej => ?_, fun j e hj ej => ?_, fun j k e e' w hj hk hjk ej ek ev' => ?_, s.nt⟩
  · rw [upd_ne (ne_of_none e n1)]; exact s.sub b x e
  · have hji : i ≠ j := fun z => hj (z ▸ hi)
    rw [List.getElem?_set_ne hji] at ej
    exact s.dat j e hj ej
  · by_cases hji : i = j
    · subst hji
      rw [List.getElem?_set_self hl] at ej
      cases ej
      exact ⟨_, ev, a, o', rfl, n1, upd_same, r, n0⟩
    · rw [List.getElem?_set_ne hji] at ej
      obtain ⟨v, e2, b, u, rfl, n2, h2, r2, n3⟩ := s.owd j e hj ej
      have : b ≠ a := fun z => s.apart j i e d _ hj hi (fun z => hji z.symm) ej ed e2 (z ▸ ev)
      exact ⟨_, e2, b, u, rfl, n2, by rw [upd_ne this]; exact h2, r2, n3⟩
  · have back : ∀ (j : Nat) (e : D), (Γ.set i (some d'))[j]? = some (some e) → ∃ e0, Γ[j]? = some (some e0) := fun j e ej => by
      by_cases hji : i = j
      · subst hji; exact ⟨d, ed⟩
      · rw [List.getElem?_set_ne hji] at ej; exact ⟨e, ej⟩
    obtain ⟨e0, q1⟩ := back j e ej
    obtain ⟨e1, q2⟩ := back k e' ek
    exact s.apart j k e0 e1 w hj hk hjk q1 q2 ev'

def sSet (i : Nat) (te : DEnv → Res D) : DEnv → Out := fun Γ => oBind (te Γ) fun d => .next (Γ.set i (some d))
theorem ds_set (i : Nat) {x : Str} {e : Expr} {te : DEnv → Res D} {pos pos' : Pos} (hN : X.N.Nodup) (he : DE X F own .val e te) (ho : i ∉ own := by decide) (hi : X.N[i]? = some x := by rfl) (hx : Loc X.env.scope x := by first | exact .inl rfl | exact .inr rfl)
    (hs : swapsWith e (some (.Name x pos')) pos.line X.env = pure false := by rfl) (hf : X.fn x = true ∨ X.env.scope.names.lookup x = some .local := by first | exact .inl rfl | exact .inr rfl) :
    DS X F own own (.Assign [.Name x pos'] e pos) (sSet i te) := PS.mono (ps_set hN hi hx he hs hf) fun Dn σ H ⟨B, Γ, s, p⟩ => by
  unfold tAsg
  exact tD_firstO s p fun d v H1 B1 _ s1 g sb r q => q _ _ _ (s1.set ho r) (Same.refl _)
/-- the new object is owned from here on -/
theorem ds_setO (i : Nat) {x : Str} {e : Expr} {te : DEnv → Res D} {pos pos' : Pos} (hN : X.N.Nodup) (he : DE X F own .fresh e te) (ho : i ∉ own := by decide) (hi : X.N[i]? = some x := by rfl) (hx : Loc X.env.scope x := by first | exact .inl rfl | exact .inr rfl)
    (hs : swapsWith e (some (.Name x pos')) pos.line X.env = pure false := by rfl) (hf : X.fn x = true ∨ X.env.scope.names.lookup x = some .local := by first | exact .inl rfl | exact .inr rfl) :
    DS X F own (i :: own) (.Assign [.Name x pos'] e pos) (sSet i te) := PS.mono (ps_set hN hi hx he hs hf) fun Dn σ H ⟨B, Γ, s, p⟩ => by
  unfold tAsg
  exact tD_firstO s p fun d v H1 B1 _ s1 g sb r q => q _ _ _ (s1.setO ho r.1 r.2.1) (Same.refl _)
def sIf (c : DEnv → Res Bool) (t u : DEnv → Out) : DEnv → Out := fun Γ => oBind (c Γ) fun b => if b then t Γ else u Γ
theorem ds_if {c : Expr} {a b : List Stmt} {tc : DEnv → Res Bool} {t u : DEnv → Out} {pos : Pos} (hc : DT X F o1 c tc) (ha : DSs X F o1 o2 a t) (hb : DSs X F o1 o2 b u) : DS X F o1 o2 (.If c a b pos) (sIf tc t u) := PS.mono (ps_if hc ha hb) fun Dn σ H ⟨B, Γ, s, p⟩ => by
  unfold tIfS
  exact tB_firstO s p fun v H1 B1 _ s1 g sb q => by
    cases v with
    | true => exact ⟨B1, Γ, s1, q⟩
    | false => exact ⟨B1, Γ, s1, q⟩
def sRet (te : DEnv → Res D) : DEnv → Out := fun Γ => oBind (te Γ) .ret
theorem ds_ret {e : Expr} {te : DEnv → Res D} {pos : Pos} (he : DE X F own .val e te) : DS X F own o2 (.Return (some e) pos) (sRet te) := PS.mono (ps_ret he) fun Dn σ H ⟨B, Γ, s, p⟩ => by
  unfold tRet
  exact tD_firstO s p fun d v H1 B1 _ s1 g sb r q => q v H1 B1 s1.fin r
def sDrop (te : DEnv → Res D) : DEnv → Out := fun Γ => oBind (te Γ) fun _ => .next Γ
theorem ds_expr {m : Mode} {e : Expr} {te : DEnv → Res D} {pos : Pos} (he : DE X F own m e te) (hs : swapsWith e none pos.line X.env = pure false := by rfl) : DS X F own own (.Expr e pos) (sDrop te) := PS.mono (ps_expr he hs) fun Dn σ H ⟨B, Γ, s, p⟩ => by
  unfold tDrop
  exact tD_firstO s p fun d v H1 B1 _ s1 g sb r q => q _ _ _ s1 (Same.refl _)
theorem ds_doc {x j pos pos'} : DS X F own own (.Expr (.Constant (.str x) j pos) pos') (fun Γ => .next Γ) := PS.mono ps_doc fun Dn σ H ⟨B, Γ, s, p⟩ => p σ H B s (Same.refl B)

/-! ### targets (ts: the slots that they store) -/
def AgreeBut (ts : List Nat) (σ σ' : L2.St) : Prop := σ'.length = σ.length ∧ ∀ j, j ∉ ts → σ'[j]? = σ[j]?
theorem AgreeBut.refl {ts : List Nat} {σ : L2.St} : AgreeBut ts σ σ := ⟨rfl, fun _ _ => rfl⟩
theorem AgreeBut.trans {ts us : List Nat} {σ σ1 σ2 : L2.St} (a : AgreeBut ts σ σ1) (b : AgreeBut us σ1 σ2) : AgreeBut (ts ++ us) σ σ2 :=
  ⟨b.1.trans a.1, fun j hj => (b.2 j fun z => hj (List.mem_append_right _ z)).trans (a.2 j fun z => hj (List.mem_append_left _ z))⟩
def tG (K : PySem.W.Frag) (F : FR) (own : List Nat) (ts : List Nat) (g : D → DEnv → Res DEnv) : TG := fun v σ H Q => ∃ B Γ d, SR K F own B Γ σ H ∧ Rep K B v d ∧ ∃ Γ', g d Γ = .ok Γ' ∧ ∀ σ', SR K F own B Γ' σ' H → AgreeBut ts σ σ' → Q σ' H
def tGs (K : PySem.W.Frag) (F : FR) (own : List Nat) (ts : List Nat) (g : List D → DEnv → Res DEnv) : TGs := fun v σ H Q => ∃ B Γ d, SR K F own B Γ σ H ∧ Reps K B v d ∧ ∃ Γ', g d Γ = .ok Γ' ∧ ∀ σ', SR K F own B Γ' σ' H → AgreeBut ts σ σ' → Q σ' H
abbrev DG (X : Cx) (F : FR) (own : List Nat) (ts : List Nat) (tg : Expr) (g : D → DEnv → Res DEnv) : Prop := PG X tg (tG X.K F own ts g)
abbrev DGs (X : Cx) (F : FR) (own : List Nat) (ts : List Nat) (tg : List Expr) (g : List D → DEnv → Res DEnv) : Prop := PGs X tg (tGs X.K F own ts g)
theorem PG.mono {e : Expr} {t t' : TG} (h : PG X e t) (k : ∀ v σ H Q, t' v σ H Q → t v σ H Q) : PG X e t' := ⟨fun pins s σ H v u Q I r q => h.run pins s σ H v u Q I r (k v σ H Q q)⟩
theorem PGs.mono {e : List Expr} {t t' : TGs} (h : PGs X e t) (k : ∀ v σ H Q, t' v σ H Q → t v σ H Q) : PGs X e t' := ⟨fun pins s σ H v u Q I r q => h.run pins s σ H v u Q I r (k v σ H Q q)⟩
def gSet (i : Nat) : D → DEnv → Res DEnv := fun d Γ => .ok (Γ.set i (some d))
theorem dg_name (i : Nat) {x : Str} {pos : Pos} (hN : X.N.Nodup) (ho : i ∉ own := by decide) (hi : X.N[i]? = some x := by rfl) (hx : Loc X.env.scope x := by first | exact .inl rfl | exact .inr rfl) (hf : X.fn x = true ∨ X.env.scope.names.lookup x = some .local := by first | exact .inl rfl | exact .inr rfl) :
    DG X F own [i] (.Name x pos) (gSet i) := PG.mono (pg_name hN hi hx hf) fun v σ H Q ⟨B, Γ, d, s, r, Γ', e, k⟩ => by
  cases e
  exact k _ (s.set ho r) ⟨List.length_set, fun j hj => List.getElem?_set_ne fun z => hj (by rw [z]; exact List.mem_cons_self)⟩
def gNone : List D → DEnv → Res DEnv := fun ds Γ => match ds with | [] => .ok Γ | _ => .bad
def gMore (g : D → DEnv → Res DEnv) (gs : List D → DEnv → Res DEnv) : List D → DEnv → Res DEnv := fun ds Γ => match ds with | d :: r => (g d Γ).bind (gs r) | [] => .bad
theorem dgs_nil : DGs X F own [] [] gNone := PGs.mono pgs_nil fun v σ H Q ⟨B, Γ, d, s, r, Γ', e, k⟩ => by
  cases r with
  | nil => cases e; exact ⟨rfl, k _ s AgreeBut.refl⟩
  | cons a b => cases e
theorem dgs_cons {e : Expr} {es : List Expr} {ts us : List Nat} {g : D → DEnv → Res DEnv} {gs : List D → DEnv → Res DEnv} (h1 : DG X F own ts e g) (h2 : DGs X F own us es gs) (hs : (assignEach (e :: es) X.env).map (·.2) = assign e X.env :: (assignEach es X.env).map (·.2) := by rfl) :
    DGs X F own (ts ++ us) (e :: es) (gMore g gs) := PGs.mono (pgs_cons h1 h2 hs) fun v σ H Q ⟨B, Γ, ds, s, r, Γ', e, k⟩ => by
  cases r with
  | nil => cases e
  | @cons v0 vr d0 dr a b =>
    have e : (g d0 Γ).bind (gs dr) = .ok Γ' := e
    cases e1 : g d0 Γ with
    | ok Γ1 =>
      rw [e1] at e
      exact ⟨v0, vr, rfl, B, Γ, d0, s, a, Γ1, e1, fun σ1 s1 a1 => ⟨B, Γ1, dr, s1, b, Γ', e, fun σ2 s2 a2 => k σ2 s2 (a1.trans a2)⟩⟩
    | raise c => rw [e1] at e; cases e
    | bad => rw [e1] at e; cases e
def gTup (n : Nat) (gs : List D → DEnv → Res DEnv) : D → DEnv → Res DEnv := fun d Γ => match d with | .tuple ds => if ds.length = n then gs ds Γ else .bad | _ => .bad
theorem dg_tup {es : List Expr} {k n : Nat} {ts : List Nat} {pos : Pos} {gs : List D → DEnv → Res DEnv} (hc : X.calm = true) (h : DGs X F own ts es gs) (hn : (assignEach es X.env).length = n := by rfl) (hst : (assignEach es X.env).findIdx? (·.1) = none := by rfl) :
    DG X F own ts (.Tuple es k pos) (gTup n gs) := PG.mono (pg_tup hc h hn hst) fun v σ H Q ⟨B, Γ, d, s, r, Γ', e, k⟩ => by
  cases r with
  | @tup a xs ds ht hr =>
    have e : (if ds.length = n then gs ds Γ else Res.bad) = .ok Γ' := e
    by_cases hl : ds.length = n
    · simp only [hl, if_true] at e
      exact ⟨a, xs, rfl, SqT.of (s.sub _ _ ht), by rw [hr.length]; exact hl, B, Γ, ds, s, hr, Γ', e, k⟩
    · simp only [hl, if_false] at e
      cases e
  | _ => cases e
def gThen : Res DEnv → (DEnv → Out) → Out
  | .ok Γ, f => f Γ
  | _, _ => .bad
@[simp] theorem ok_gThen (Γ : DEnv) (f : DEnv → Out) : gThen (.ok Γ) f = f Γ := rfl
def sAsg (te : DEnv → Res D) (g : D → DEnv → Res DEnv) : DEnv → Out := fun Γ => oBind (te Γ) fun d => gThen (g d Γ) .next
theorem ds_asg {ts : List Nat} {tg e : Expr} {te : DEnv → Res D} {g : D → DEnv → Res DEnv} {pos : Pos} (he : DE X F own .val e te) (hg : DG X F own ts tg g) (hs : swapsWithSole [tg] e pos.line X.env = pure false := by rfl) (hw : swappedStores [tg] e X.env = pure none := by rfl)
    (h1 : (assignEach [tg] X.env).map (·.2) = [assign tg X.env] := by rfl) : DS X F own own (.Assign [tg] e pos) (sAsg te g) := PS.mono (ps_asg he hg hs hw h1) fun Dn σ H ⟨B, Γ, s, p⟩ => by
  unfold tAsg
  exact tD_firstO s p fun d v H1 B1 _ s1 gr sb r q => by
    cases e1 : g d Γ with
    | ok Γ' =>
      rw [e1] at q
      exact ⟨B1, Γ, d, s1, r, Γ', e1, fun σ' s' _ => q σ' H1 B1 s' (Same.refl _)⟩
    | raise c => rw [e1] at q; exact q.elim
    | bad => rw [e1] at q; exact q.elim

/-! ### what is walked -/
/-- the iterator yields the data ds while Bi is frozen -/
structure IterOk (K : PySem.W.Frag) (J : It) (Bi : Hp) (ds : List D) : Prop where
  go : ∀ i H, Same Bi H → i < ds.length → J.go i H
  stop : ∀ i H, Same Bi H → ds.length ≤ i → J.stop i H
  yld : ∀ i H x H' d, Same Bi H → ds[i]? = some d → J.yld i H x H' → ∀ (F : FR) (own : List Nat) (B : Hp) (Γ : DEnv) (σ : L2.St), SR K F own B Γ σ H → Same Bi B → ∃ B', SR K F own B' Γ σ H' ∧ Grow B H B' H' ∧ Rep K B' x d
def tI (K : PySem.W.Frag) (F : FR) (own : List Nat) (t : DEnv → Res (List D)) : TI := fun σ H R => ∃ B Γ, SR K F own B Γ σ H ∧ match t Γ with
  | .ok ds => ∀ J H' B', SR K F own B' Γ σ H' → Grow B H B' H' → IterOk K J B' ds → R J H'
  | .raise c => ∀ H', Sm H H' → F.W (F.cv c) none σ H'
  | .bad => False
abbrev DI (X : Cx) (F : FR) (own : List Nat) (tg iter : Expr) (t : DEnv → Res (List D)) : Prop := PI X tg iter (tI X.K F own t)
theorem PI.mono {tg iter : Expr} {t t' : TI} (h : PI X tg iter t) (k : ∀ σ H R, t' σ H R → t σ H R) : PI X tg iter t' := ⟨fun pins s σ H R I q => h.run pins s σ H R I (k σ H R q)⟩
def forL (g : D → DEnv → Res DEnv) (body : DEnv → Out) : List D → DEnv → Out
  | [], Γ => .next Γ
  | d :: ds, Γ => gThen (g d Γ) fun Γ1 => (body Γ1).andThen (forL g body ds)
def sFor (it : DEnv → Res (List D)) (g : D → DEnv → Res DEnv) (body : DEnv → Out) : DEnv → Out := fun Γ => oBind (it Γ) fun ds => forL g body ds Γ
theorem ds_for {ts : List Nat} {tg iter : Expr} {body : List Stmt} {it : DEnv → Res (List D)} {g : D → DEnv → Res DEnv} {t : DEnv → Out} {pos : Pos} (hp : PassesOwn (model X.prog X.w) X.A X.env X.xe) (hc : X.calm = true) (hi : DI X F own tg iter it) (hg : DG X F own ts tg g) (hb : DSs X F own own body t)
    (hs : ∀ x, foldedSetIterable iter X.env x = pure x := by intro _; rfl) : DS X F own own (.For tg iter body [] pos) (sFor it g t) := PS.mono (ps_for hp hc hi hg hb hs) fun Dn σ H ⟨B, Γ, s, p⟩ => by
  refine ⟨B, Γ, s, ?_⟩
  unfold sFor at p
  cases e : it Γ with
  | bad => rw [e] at p; exact p.elim
  | raise c => rw [e] at p; exact fun H' h => p σ H' (s.same.trans h)
  | ok ds =>
    rw [e] at p
    intro J H' B' s' gr io
    have p : OPost X.K F own Dn (forL g t ds Γ) B := p
    refine ⟨fun i m σ H => ∃ B Γ, SR X.K F own B Γ σ H ∧ Same B' B ∧ m = ds.length - i ∧ OPost X.K F own Dn (forL g t (ds.drop i) Γ) B, ⟨ds.length, B', Γ, s', Same.refl _, by simp, p.mono (gr.same s.sub)⟩, ?_⟩
    rintro i m σ1 H1 ⟨B1, Γ1, s1, b1, em, p1⟩
    have sH : Same B' H1 := b1.trans s1.sub
    by_cases hlt : i < ds.length
    · refine .inr ⟨io.go i H1 sH hlt, fun σ2 H2 => ∃ B2 Γ2, SR X.K F own B2 Γ2 σ2 H2 ∧ Same B' B2 ∧ OPost X.K F own Dn (forL g t (ds.drop (i + 1)) Γ2) B2, fun σ2 H2 ⟨B2, Γ2, s2, b2, p2⟩ => ⟨ds.length - (i + 1), by omega, B2, Γ2, s2, b2, rfl, p2⟩, fun x H2 y => ?_⟩
      have hd : ds[i]? = some ds[i] := List.getElem?_eq_getElem hlt
      obtain ⟨B2, s2, g2, r2⟩ := io.yld i H1 x H2 ds[i] sH hd y F own B1 Γ1 σ1 s1 b1
      have b2 : Same B1 B2 := g2.same s1.sub
      rw [List.drop_eq_getElem_cons hlt] at p1
      unfold forL at p1
      cases eg : g ds[i] Γ1 with
      | bad => rw [eg] at p1; exact p1.elim
      | raise c => rw [eg] at p1; exact p1.elim
      | ok Γ2 =>
        rw [eg] at p1
        have p1 : OPost X.K F own Dn ((t Γ2).andThen (forL g t (ds.drop (i + 1)))) B1 := p1
        refine ⟨B2, Γ1, ds[i], s2, r2, Γ2, eg, fun σ3 s3 _ => ⟨B2, Γ2, s3, ?_⟩⟩
        cases et : t Γ2 with
        | next Γ3 =>
          rw [et] at p1
          exact fun σ4 H4 B4 s4 b4 => ⟨B4, Γ3, s4, (b1.trans b2).trans b4, OPost.mono p1 (b2.trans b4)⟩
        | ret d => rw [et] at p1; exact p1
        | raise c => rw [et] at p1; exact p1
        | bad => rw [et] at p1; exact p1
    · refine .inl ⟨io.stop i H1 sH (by omega), ?_⟩
      rw [List.drop_eq_nil_of_le (by omega)] at p1
      exact p1 σ1 H1 B1 s1 (Same.refl _)
def sWhile (c : DEnv → Res Bool) (body : DEnv → Out) : Nat → DEnv → Out
  | 0, _ => .bad
  | n + 1, Γ => oBind (c Γ) fun b => if b then (body Γ).andThen (sWhile c body n) else .next Γ
theorem ds_while (n : Nat) {c : Expr} {body : List Stmt} {tc : DEnv → Res Bool} {t : DEnv → Out} {pos : Pos} (hp : PassesOwn (model X.prog X.w) X.A X.env X.xe) (hc : DT X F own c tc) (hb : DSs X F own own body t) :
    DS X F own own (.While c body [] pos) (sWhile tc t n) := PS.mono (ps_while hp hc hb) fun Dn σ H ⟨B, Γ, s, p⟩ => by
  refine ⟨fun m σ H => ∃ B Γ, SR X.K F own B Γ σ H ∧ OPost X.K F own Dn (sWhile tc t m Γ) B, ⟨n, B, Γ, s, p⟩, ?_⟩
  rintro m σ1 H1 ⟨B1, Γ1, s1, p1⟩
  cases m with
  | zero => exact False.elim p1
  | succ m =>
    refine tB_firstO s1 p1 fun v H2 B2 _ s2 gr sb q => ?_
    cases v with
    | false => exact q σ1 H2 B2 s2 (Same.refl _)
    | true =>
      have q : OPost X.K F own Dn ((t Γ1).andThen (sWhile tc t m)) B2 := q
      refine ⟨fun σ3 H3 => ∃ B3 Γ3, SR X.K F own B3 Γ3 σ3 H3 ∧ OPost X.K F own Dn (sWhile tc t m Γ3) B3, fun σ3 H3 ⟨B3, Γ3, s3, p3⟩ => ⟨m, Nat.lt_succ_self m, B3, Γ3, s3, p3⟩, B2, Γ1, s2, ?_⟩
      cases et : t Γ1 with
      | next Γ3 =>
        rw [et] at q
        exact fun σ4 H4 B4 s4 b4 => ⟨B4, Γ3, s4, OPost.mono q b4⟩
      | ret d => rw [et] at q; exact q
      | raise c => rw [et] at q; exact q
      | bad => rw [et] at q; exact q
end

/-! ### a def's promise over data -/
def spD (K : PySem.W.Frag) (cv : Str → Value) (n : Nat) (f : List D → Res D) : Sp := fun vs H Q E => ∃ B ds, Same B H ∧ LamX.Tabs TabCx.T H ∧ (∀ a ps, B a ≠ some (.tbl ps)) ∧ Reps K B vs ds ∧ vs.length = n ∧ match f ds with
  | .ok d => ∀ v H' B', Sm H H' → Same B' H' → (∀ a, H a ≠ none → B' a = B a) → (∀ a ps, B' a ≠ some (.tbl ps)) → Rep K B' v d → Q v H'
  | .raise c => ∀ H', Sm H H' → E (cv c) none H'
  | .bad => False
def envOf (n : Nat) (ds : List D) : DEnv := ds.map some ++ List.replicate (n - ds.length) none
def runF (n : Nat) (body : DEnv → Out) (ds : List D) : Res D := match body (envOf n ds) with
  | .next _ => .ok .none
  | .ret d => .ok d
  | .raise c => .raise c
  | .bad => .bad
abbrev frOf (cv : Str → Value) (E : XK) (H B : Hp) (tab : LamX.Tabs TabCx.T H) : FR := { W := fun cls d _ H' => E cls d H', cv := cv, H0 := H, B0 := B, tab := tab }
section
variable {P : Program} {w : World} {K : PySem.W.Frag} {mg : Str → Option Value} {base : Heap}
theorem sr_start {F : FR} {N : Nat} {vs : List V} {ds : List D} {H B : Hp} (sub : Same B H) (r : Reps K B vs ds) (h0 : F.H0 = H) (hb : F.B0 = B) (nb : ∀ a ps, B a ≠ some (.tbl ps)) (Nl : List Str) (hl : Nl.length = N) : SR K F [] B (envOf N ds) (L2.start Nl vs) H := by
  have hlen := r.length
  refine ⟨sub, by rw [h0]; exact Sm.refl H, fun a _ => by rw [hb], ?_, fun i d _ e => ?_, fun i d hi => absurd hi (by simp), fun i j d e v hi => absurd hi (by simp), nb⟩
  · unfold envOf L2.start
    simp [hlen, hl]
  · unfold envOf at e
    have hi : i < ds.length := by
      by_cases hi : i < ds.length
      · exact hi
      · rw [List.getElem?_append_right (by simpa using hi), List.getElem?_replicate] at e
        split at e <;> cases e
    rw [List.getElem?_append_left (by simpa using hi), List.getElem?_map] at e
    cases q : ds[i]? with
    | none => rw [q] at e; cases e
    | some d0 =>
      rw [q] at e
      cases e
      obtain ⟨v, e1, r1⟩ := r.get q
      refine ⟨v, ?_, r1⟩
      unfold L2.start
      rw [List.getElem?_append_left (by rw [List.length_map, hlen]; exact hi), List.getElem?_map, e1]
      rfl
theorem fn_ok {x qual : Str} {st : Stmt} {f : Addr} {fd : FuncData} {N ps : List Str} {k : Nat} {cv : Str → Value} {t : DEnv → Out} {own : List Nat} {n m : Nat} (Fn : Fun K x qual st f fd) (S : FnScope N ps (defScope st))
    (hb : ∀ (cdv : Value) (A : Around) (outer : List PySem.Env) (s : Shared) (H B : Hp) (E : XK) (tab : LamX.Tabs TabCx.T H) (nb : ∀ a ps, B a ≠ some (.tbl ps)), fd.code = cdv → Room k (A.deeper (envOfC qual (defScope st) s.heap.objs.size f cdv)) →
      DSs (cxOf (L2.CX P w) P w K mg base N qual (defScope st) f cdv A outer s H E) (frOf cv E H B tab) [] own (defBody st) t) (hn : N.length = n := by rfl) (hm : ps.length = m := by rfl) :
    FnOk P w K mg base (L2.CX P w) (k + 1) f fd ps (spD K cv m (runF n t)) := by
  subst hn hm
  obtain ⟨oc, od, kV, doc, pm, an, cdv, ct, osl, rfl, lk, hcd⟩ := Fn.ex
  refine fn_of lk hcd S (fun vs H Q E ⟨_, _, _, _, _, _, h, _⟩ => h) fun A outer s H vs Q E hr ⟨B, ds, sub, tab, nb, r, hl, p⟩ => ⟨_, hb cdv A outer s H B E tab nb rfl hr, B, envOf N.length ds, sr_start sub r rfl rfl nb N rfl, ?_⟩
  unfold runF at p
  cases e : t (envOf N.length ds) with
  | next Γ =>
    rw [e] at p
    exact fun σ' H' B' s' b => p .non H' B' s'.same s'.sub s'.old s'.nt .non
  | ret d =>
    rw [e] at p
    exact fun v H' B' fi r' => p v H' B' fi.same fi.sub fi.old fi.nt r'
  | raise c =>
    rw [e] at p
    exact fun σ' H' h => p H' h
  | bad =>
    rw [e] at p
    exact p.elim
end
end DL

/-! DL: expressions over data. -/
namespace DL
open PySem PySem.Spec PyProof.Rows L2
variable [TabCx] [WCx]

section
variable {K : PySem.W.Frag} {F : FR} {own : List Nat} {Γ : DEnv} {σ : L2.St} {H B : Hp}
/-- a new object, not frozen -/
theorem SR.grown {p : Addr} {o : HO} (s : SR K F own B Γ σ H) (n : H p = none) : SR K F own B Γ σ (upd H p o) := by
  have sm : Same H (upd H p o) := same_upd n
  refine ⟨s.sub.trans sm, s.same.trans sm.sm, s.old, s.len, s.dat, fun i d hi e => ?_, s.apart, s.nt⟩
  obtain ⟨v, e1, a, u, rfl, n1, h1, r, n0⟩ := s.owd i d hi e
  exact ⟨_, e1, a, u, rfl, n1, sm _ _ h1, r, n0⟩
theorem SR.noB {p : Addr} (s : SR K F own B Γ σ H) (n : H p = none) : B p = none := s.sub.free n
theorem SR.no0 {p : Addr} (s : SR K F own B Γ σ H) (n : H p = none) : F.H0 p = none := s.same.free n
theorem SR.noS {p : Addr} (s : SR K F own B Γ σ H) (n : H p = none) : ∀ i d, i ∈ own → Γ[i]? = some (some d) → σ[i]? ≠ some (some (.ref p)) := fun i d hi e z => by
  obtain ⟨v, e1, a, u, rfl, n1, h1, r, n0⟩ := s.owd i d hi e
  rw [e1] at z
  cases z
  rw [n] at h1
  cases h1
theorem grow_new {p : Addr} {o : HO} (n : H p = none) : Grow B H B (upd H p o) := ⟨(same_upd n).sm, fun _ _ => rfl⟩
theorem grow_frz {p : Addr} {o u : HO} (n : H p = none) : Grow B H (upd B p u) (upd H p o) := ⟨(same_upd n).sm, fun a h => upd_ne fun z => h (z ▸ n)⟩
/-- a borrowed datum -/
abbrev Bor (K : PySem.W.Frag) (F : FR) (B H : Hp) (v : V) (d : D) : Prop := Rep K B v d ∨ Own K F B H v d
theorem Bor.later {B' H' : Hp} {v : V} {d : D} (r : Bor K F B H v d) (g : Grow B H B' H') (s : Same B H) (s' : Same B' H') : Bor K F B' H' v d := by
  rcases r with r | r
  · exact .inl (r.mono (g.same s))
  · exact r.later (g.same s) g.hp s'
theorem Post.freeze {t : Res D} {Q : VK} (p : Post K F own (RV K F own Γ σ .val) t Γ σ H B Q) : Post K F own (RV K F own Γ σ .fresh) t Γ σ H B Q := by
  cases t with
  | ok d =>
    intro v H' B' s g r
    obtain ⟨⟨a, o, rfl, n1, h1, r1, n0⟩, na, nh⟩ := r
    have hn := nh a rfl
    exact p _ H' _ (s.freeze h1 n1 n0 na r1.nt) ⟨g.hp, fun b hb => by rw [upd_ne (show b ≠ a from fun z => hb (by rw [z]; exact hn))]; exact g.fz b hb⟩ ((r1.mono (same_upd n1)).rep upd_same)
  | raise c => exact p
  | bad => exact p
theorem Post.loan {t : Res D} {Q : VK} {m : Mode} (p : Post K F own (RV K F own Γ σ .bor) t Γ σ H B Q) : Post K F own (RV K F own Γ σ m) t Γ σ H B Q := by
  cases t with
  | ok d => exact fun v H' B' s g r => p v H' B' s g r.bor
  | raise c => exact p
  | bad => exact p
/-- what has come stands already -/
theorem Post.here {d : D} {v : V} {Q : VK} (p : Post K F own (RV K F own Γ σ .val) (.ok d) Γ σ H B Q) (s : SR K F own B Γ σ H) (r : Rep K B v d) : Q v H := p v H B s Grow.refl r
theorem Post.hereB {d : Bool} {v : Bool} {Q : Bool → Hp → Prop} (p : Post K F own rvB (.ok d) Γ σ H B Q) (s : SR K F own B Γ σ H) : Q d H := p d H B s Grow.refl rfl
theorem Post.newTup {ds : List D} {vs : List V} {q : Addr} {Q : VK} (p : Post K F own (RV K F own Γ σ .val) (.ok (.tuple ds)) Γ σ H B Q) (s : SR K F own B Γ σ H) (r : Reps K B vs ds) (n : H q = none) : Q (.ref q) (upd H q (.tup vs)) :=
  p _ _ (upd B q (.tup vs)) ((s.grown n).freeze upd_same (s.noB n) (s.no0 n) (s.noS n)) (grow_frz n) (.tup upd_same (r.mono (same_upd (s.noB n))))
theorem Post.newObj {d : D} {o : HO} {q : Addr} {Q : VK} (p : Post K F own (RV K F own Γ σ .fresh) (.ok d) Γ σ H B Q) (s : SR K F own B Γ σ H) (r : ORep K B q o d) (n : H q = none) : Q (.ref q) (upd H q o) :=
  p _ _ B (s.grown n) (grow_new n) ⟨⟨q, o, rfl, s.noB n, upd_same, r, s.no0 n⟩, s.noS n, fun a e => by cases e; exact n⟩
/-- a list, a tuple that is borrowed -/
theorem Bor.list {v : V} {ds : List D} (r : Bor K F B H v (.list ds)) (s : Same B H) : ∃ a xs, v = .ref a ∧ SqL K H a xs ∧ Reps K B xs ds := by
  rcases r with r | ⟨a, o, rfl, _, h, r, _⟩
  · cases r with
    | lst q r => exact ⟨_, _, rfl, sqL_mono s q, r⟩
  · cases o with
    | lst xs => exact ⟨a, xs, rfl, SqL.of h, r⟩
    | _ => exact False.elim r
theorem Bor.tuple {v : V} {ds : List D} (r : Bor K F B H v (.tuple ds)) (s : Same B H) : ∃ a xs, v = .ref a ∧ SqT K H a xs ∧ B a = some (.tup xs) ∧ Reps K B xs ds := by
  rcases r with r | ⟨a, o, rfl, _, h, r, _⟩
  · cases r with
    | tup q r => exact ⟨_, _, rfl, SqT.of (s _ _ q), q, r⟩
  · cases o <;> exact False.elim r
theorem Bor.int {v : V} {i : Int} (r : Bor K F B H v (.int i)) : v = .int i := by
  rcases r with r | ⟨a, o, rfl, _, h, r, _⟩
  · cases r; rfl
  · cases o <;> exact False.elim r
theorem Bor.str {v : V} {i : Str} (r : Bor K F B H v (.str i)) : v = .str i := by
  rcases r with r | ⟨a, o, rfl, _, h, r, _⟩
  · cases r; rfl
  · cases o <;> exact False.elim r
theorem Bor.bool {v : V} {i : Bool} (r : Bor K F B H v (.bool i)) : v = .bl i := by
  rcases r with r | ⟨a, o, rfl, _, h, r, _⟩
  · cases r; rfl
  · cases o <;> exact False.elim r
theorem Bor.none {v : V} (r : Bor K F B H v .none) : v = .non := by
  rcases r with r | ⟨a, o, rfl, _, h, r, _⟩
  · cases r; rfl
  · cases o <;> exact False.elim r
end

section
variable {X : Cx} {F : FR} {own : List Nat}
theorem tD_first {K : PySem.W.Frag} {m : Mode} {γ β' : Type} {rv' : Hp → Hp → Hp → β' → γ → Prop} {ta : DEnv → Res D} {f : D → Res γ} {B H : Hp} {Γ : DEnv} {σ : L2.St} {Q : β' → Hp → Prop} {R : V → Hp → Prop}
    (er : Early rv') (s : SR K F own B Γ σ H) (p : Post K F own rv' ((ta Γ).bind f) Γ σ H B Q)
    (k : ∀ x v H1 B1, SR K F own B1 Γ σ H1 → Grow B H B1 H1 → RV K F own Γ σ m H B1 H1 v x → Post K F own rv' (f x) Γ σ H1 B1 Q → R v H1) : tD K F own m ta σ H R := tX_first er s p fun x v H1 B1 _ s1 g r q => k x v H1 B1 s1 g r q
theorem tB_first {K : PySem.W.Frag} {γ β' : Type} {rv' : Hp → Hp → Hp → β' → γ → Prop} {ta : DEnv → Res Bool} {f : Bool → Res γ} {B H : Hp} {Γ : DEnv} {σ : L2.St} {Q : β' → Hp → Prop} {R : Bool → Hp → Prop}
    (er : Early rv') (s : SR K F own B Γ σ H) (p : Post K F own rv' ((ta Γ).bind f) Γ σ H B Q)
    (k : ∀ x H1 B1, SR K F own B1 Γ σ H1 → Grow B H B1 H1 → Post K F own rv' (f x) Γ σ H1 B1 Q → R x H1) : tB K F own ta σ H R := tX_first (rv := fun _ _ => rvB) er s p fun x v H1 B1 _ s1 g r q => by
  have r : v = x := r
  subst r
  exact k v H1 B1 s1 g q
theorem tA_first {K : PySem.W.Frag} {m : Mode} {γ β' : Type} {rv' : Hp → Hp → Hp → β' → γ → Prop} {ta : DEnv → Res (List D)} {f : List D → Res γ} {B H : Hp} {Γ : DEnv} {σ : L2.St} {Q : β' → Hp → Prop} {R : List V → Hp → Prop}
    (er : Early rv') (s : SR K F own B Γ σ H) (p : Post K F own rv' ((ta Γ).bind f) Γ σ H B Q)
    (k : ∀ x v H1 B1, ta Γ = .ok x → SR K F own B1 Γ σ H1 → Grow B H B1 H1 → RVs K F own Γ σ m H B1 H1 v x → Post K F own rv' (f x) Γ σ H1 B1 Q → R v H1) : tA K F own m ta σ H R := tX_first er s p fun x v H1 B1 e s1 g r q => k x v H1 B1 e s1 g r q
/-! ### modes -/
theorem de_frz {e : Expr} {t : DEnv → Res D} (h : DE X F own .fresh e t) : DE X F own .val e t := PE.mono h fun σ H Q ⟨B, Γ, s, p⟩ => ⟨B, Γ, s, Post.freeze p⟩
theorem de_loan {m : Mode} {e : Expr} {t : DEnv → Res D} (h : DE X F own m e t) : DE X F own .bor e t := PE.mono h fun σ H Q ⟨B, Γ, s, p⟩ => ⟨B, Γ, s, Post.loan p⟩
/-! ### names, constants -/
def xVar (i : Nat) : DEnv → Res D := fun Γ => match Γ[i]? with
  | some (some d) => .ok d
  | _ => .bad
theorem de_var (i : Nat) {x : Str} {pos : Pos} (ho : i ∉ own := by decide) (hN : X.N[i]? = some x := by rfl) (hv : Vis X.env.scope x := by first | exact Or.inl rfl | exact Or.inr (Or.inl rfl) | exact Or.inr (Or.inr rfl)) (hd : (x == ("__debug__" : Str)) = false := by decide)
    (hcd : (x == ("__classdict__" : Str)) = false := by decide) : DE X F own .val (.Name x pos) (xVar i) := PE.mono (pe_var hN hv hd hcd) fun σ H Q ⟨B, Γ, s, p⟩ => by
  unfold xVar at p
  cases e : Γ[i]? with
  | none => rw [e] at p; exact p.elim
  | some od =>
    cases od with
    | none => rw [e] at p; exact p.elim
    | some d =>
      rw [e] at p
      obtain ⟨v, e1, r⟩ := s.dat i d ho e
      exact ⟨v, e1, p v H B s Grow.refl r⟩
theorem de_varB (i : Nat) {x : Str} {pos : Pos} (hN : X.N[i]? = some x := by rfl) (hv : Vis X.env.scope x := by first | exact Or.inl rfl | exact Or.inr (Or.inl rfl) | exact Or.inr (Or.inr rfl)) (hd : (x == ("__debug__" : Str)) = false := by decide)
    (hcd : (x == ("__classdict__" : Str)) = false := by decide) : DE X F own .bor (.Name x pos) (xVar i) := PE.mono (pe_var hN hv hd hcd) fun σ H Q ⟨B, Γ, s, p⟩ => by
  unfold xVar at p
  cases e : Γ[i]? with
  | none => rw [e] at p; exact p.elim
  | some od =>
    cases od with
    | none => rw [e] at p; exact p.elim
    | some d =>
      rw [e] at p
      by_cases ho : i ∈ own
      · obtain ⟨v, e1, r⟩ := s.owd i d ho e
        exact ⟨v, e1, p v H B s Grow.refl (.inr r)⟩
      · obtain ⟨v, e1, r⟩ := s.dat i d ho e
        exact ⟨v, e1, p v H B s Grow.refl (.inl r)⟩
def xC (d : D) : DEnv → Res D := fun _ => .ok d
theorem de_c {v : V} {d : D} {e : Expr} (h : PE X e (tC v)) (r : ∀ K B, Rep K B v d) : DE X F own .val e (xC d) := PE.mono h fun σ H Q ⟨B, Γ, s, p⟩ => p v H B s Grow.refl (r _ _)
theorem de_int {i j pos} : DE X F own .val (.Constant (.int i) j pos) (xC (.int i)) := de_c pe_int fun _ _ => .int i
theorem de_bl {i j pos} : DE X F own .val (.Constant (.bool i) j pos) (xC (.bool i)) := de_c pe_bl fun _ _ => .bl i
theorem de_non {j pos} : DE X F own .val (.Constant .none j pos) (xC .none) := de_c pe_non fun _ _ => .non
theorem de_str {i j pos} : DE X F own .val (.Constant (.str i) j pos) (xC (.str i)) := de_c pe_str fun _ _ => .str i
/-- a module's constant -/
theorem de_glob {x : Str} {v : V} {d : D} {u : Value} {pos : Pos} (hm : X.mg x = some u) (r : RelV v u) (hr : ∀ K B, Rep K B v d) (hg : Gl X x := by rfl) (hd : (x == ("__debug__" : Str)) = false := by decide) : DE X F own .val (.Name x pos) (xC d) := de_c (pe_glob hg hm r hd) hr

/-! ### operators -/
def x2 (g : D → D → Res D) (ta tb : DEnv → Res D) : DEnv → Res D := fun Γ => (ta Γ).bind fun x => (tb Γ).bind fun y => g x y
def x1 (g : D → Res D) (ta : DEnv → Res D) : DEnv → Res D := fun Γ => (ta Γ).bind g
def OpD (K : PySem.W.Frag) (F : FR) (own : List Nat) (m : Mode) (r : R2) (g : D → D → Res D) : Prop := ∀ Γ σ H B x y u v Q, SR K F own B Γ σ H → Bor K F B H u x → Bor K F B H v y → Post K F own (RV K F own Γ σ m) (g x y) Γ σ H B Q → r u v H Q
theorem de_op2 {m : Mode} {r : R2} {g : D → D → Res D} {e : Expr} {ta tb : DEnv → Res D} (h : PE X e (tOp r (tD X.K F own .bor ta) (tD X.K F own .bor tb))) (hr : OpD X.K F own m r g) : DE X F own m e (x2 g ta tb) := PE.mono h fun σ H Q ⟨B, Γ, s, p⟩ => by
  unfold tOp
  exact tD_first early_RV s p fun x u H1 B1 s1 g1 r1 p1 => tD_first early_RV s1 p1 fun y v H2 B2 s2 g2 r2 p2 => hr Γ σ H2 B2 x y u v Q s2 (Bor.later r1 g2 s1.sub s2.sub) r2 p2
theorem de_un {r : V → Hp → VK → Prop} {g : D → Res D} {m : Mode} {e : Expr} {ta : DEnv → Res D} (h : PE X e (tUn r (tD X.K F own .bor ta)))
    (hr : ∀ Γ σ H B x u Q, SR X.K F own B Γ σ H → Bor X.K F B H u x → Post X.K F own (RV X.K F own Γ σ m) (g x) Γ σ H B Q → r u H Q) : DE X F own m e (x1 g ta) := PE.mono h fun σ H Q ⟨B, Γ, s, p⟩ => by
  unfold tUn
  exact tD_first early_RV s p fun x u H1 B1 s1 g1 r1 p1 => hr Γ σ H1 B1 x u Q s1 r1 p1
/-- a test by a comparison -/
def toB : D → Res Bool
  | .bool b => .ok b
  | _ => .bad
def xT (t : DEnv → Res D) : DEnv → Res Bool := fun Γ => (t Γ).bind toB
theorem dt_cmp {r : R2} {g : D → D → Res D} {e : Expr} {ta tb : DEnv → Res D} (h : PT X e (tTest (tOp r (tD X.K F own .bor ta) (tD X.K F own .bor tb)))) (hr : OpD X.K F own .val r g) : DT X F own e (xT (x2 g ta tb)) := PT.mono h fun σ H Q ⟨B, Γ, s, p⟩ => by
  unfold tTest tOp
  have p : Post X.K F own rvB (((ta Γ).bind fun x => (tb Γ).bind fun y => g x y).bind toB) Γ σ H B Q := p
  have e : ∀ {α β γ : Type} (a : Res α) (f : α → Res β) (k : β → Res γ), (a.bind f).bind k = a.bind fun x => (f x).bind k := fun a f k => by cases a <;> rfl
  rw [e] at p
  refine tD_first early_B s p fun x u H1 B1 s1 g1 r1 p1 => ?_
  rw [e] at p1
  refine tD_first early_B s1 p1 fun y v H2 B2 s2 g2 r2 p2 => ?_
  refine hr Γ σ H2 B2 x y u v _ s2 (Bor.later r1 g2 s1.sub s2.sub) r2 ?_
  cases eg : g x y with
  | bad => rw [eg] at p2; exact p2
  | raise c => rw [eg] at p2; exact p2
  | ok d =>
    rw [eg] at p2
    intro w H3 B3 s3 g3 r3
    have p3 := Post.mono early_B p2 g3
    cases d with
    | bool b => cases r3; exact ⟨b, rfl, p3 b H3 B3 s3 Grow.refl rfl⟩
    | _ => exact p3.elim
/-- a test by a value that is True or False -/
theorem dt_val {e : Expr} {t : DEnv → Res D} (h : DE X F own .bor e t) (he : ∀ whole, isTrue e X.env whole = (do let v ← whole; standAt e.pos; holding [v] (truthy v)) := by intro _; rfl) : DT X F own e (xT t) := PT.mono (pt_val h he) fun σ H Q ⟨B, Γ, s, p⟩ => by
  unfold L2.tB
  refine tD_first early_B s p fun x v H1 B1 s1 g1 r1 p1 => ?_
  cases x with
  | bool b => exact ⟨b, Bor.bool r1, p1 b H1 B1 s1 Grow.refl rfl⟩
  | _ => exact p1.elim
def xAndT (t u : DEnv → Res Bool) : DEnv → Res Bool := fun Γ => (t Γ).bind fun b => if b then u Γ else .ok false
def xOrT (t u : DEnv → Res Bool) : DEnv → Res Bool := fun Γ => (t Γ).bind fun b => if b then .ok true else u Γ
def xNotT (t : DEnv → Res Bool) : DEnv → Res Bool := fun Γ => (t Γ).bind fun b => .ok (!b)
theorem dw_and1 {a : Expr} {t : DEnv → Res Bool} {pos : Pos} (h : DT X F own a t) : DW X F own (.BoolOp .And [a] pos) t := pw_and1 h
theorem dw_or1 {a : Expr} {t : DEnv → Res Bool} {pos : Pos} (h : DT X F own a t) : DW X F own (.BoolOp .Or [a] pos) t := pw_or1 h
theorem dw_and {a b : Expr} {rest : List Expr} {t u : DEnv → Res Bool} {pos : Pos} (h : DT X F own a t) (k : DW X F own (.BoolOp .And (b :: rest) pos) u) : DW X F own (.BoolOp .And (a :: b :: rest) pos) (xAndT t u) := PW.mono (pw_and h k) fun σ H Q ⟨B, Γ, s, p⟩ => by
  unfold tAnd
  refine tB_first early_B s p fun x H1 B1 s1 g1 p1 => ?_
  cases x with
  | true => exact ⟨B1, Γ, s1, p1⟩
  | false => exact p1 false H1 B1 s1 Grow.refl rfl
theorem dw_or {a b : Expr} {rest : List Expr} {t u : DEnv → Res Bool} {pos : Pos} (h : DT X F own a t) (k : DW X F own (.BoolOp .Or (b :: rest) pos) u) : DW X F own (.BoolOp .Or (a :: b :: rest) pos) (xOrT t u) := PW.mono (pw_or h k) fun σ H Q ⟨B, Γ, s, p⟩ => by
  unfold tOr
  refine tB_first early_B s p fun x H1 B1 s1 g1 p1 => ?_
  cases x with
  | false => exact ⟨B1, Γ, s1, p1⟩
  | true => exact p1 true H1 B1 s1 Grow.refl rfl
theorem dt_w {e : Expr} {t : DEnv → Res Bool} (h : DW X F own e t) : DT X F own e t := PW.pt h
theorem dt_not {a : Expr} {t : DEnv → Res Bool} {pos : Pos} (h : DT X F own a t) : DT X F own (.UnaryOp .Not a pos) (xNotT t) := PT.mono (pt_not h) fun σ H Q ⟨B, Γ, s, p⟩ => by
  unfold tNot
  exact tB_first early_B s p fun x H1 B1 s1 g1 p1 => p1 (!x) H1 B1 s1 Grow.refl rfl
/-- and, or, not as values (True, False) -/
def xAnd (t u : DEnv → Res D) : DEnv → Res D := fun Γ => (t Γ).bind fun x => (toB x).bind fun b => if b then u Γ else .ok (.bool false)
def xOr (t u : DEnv → Res D) : DEnv → Res D := fun Γ => (t Γ).bind fun x => (toB x).bind fun b => if b then .ok (.bool true) else u Γ
def xNot (t : DEnv → Res D) : DEnv → Res D := fun Γ => (t Γ).bind fun x => (toB x).bind fun b => .ok (.bool (!b))
theorem de_one {op} {m : Mode} {a : Expr} {t : DEnv → Res D} {pos : Pos} (h : DE X F own m a t) : DE X F own m (.BoolOp op [a] pos) t := pe_one h
theorem de_and {a b : Expr} {rest : List Expr} {t u : DEnv → Res D} {pos : Pos} (h : DE X F own .bor a t) (k : DE X F own .val (.BoolOp .And (b :: rest) pos) u) : DE X F own .val (.BoolOp .And (a :: b :: rest) pos) (xAnd t u) := PE.mono (pe_and h k) fun σ H Q ⟨B, Γ, s, p⟩ => by
  unfold tAndV
  refine tD_first early_RV s p fun x v H1 B1 s1 g1 r1 p1 => ?_
  cases x with
  | bool b =>
    refine ⟨b, Bor.bool r1, ?_⟩
    cases b with
    | true => exact ⟨B1, Γ, s1, p1⟩
    | false => exact p1 _ H1 B1 s1 Grow.refl (.bl false)
  | _ => exact p1.elim
theorem de_or {a b : Expr} {rest : List Expr} {t u : DEnv → Res D} {pos : Pos} (h : DE X F own .bor a t) (k : DE X F own .val (.BoolOp .Or (b :: rest) pos) u) : DE X F own .val (.BoolOp .Or (a :: b :: rest) pos) (xOr t u) := PE.mono (pe_or h k) fun σ H Q ⟨B, Γ, s, p⟩ => by
  unfold tOrV
  refine tD_first early_RV s p fun x v H1 B1 s1 g1 r1 p1 => ?_
  cases x with
  | bool b =>
    refine ⟨b, Bor.bool r1, ?_⟩
    cases b with
    | false => exact ⟨B1, Γ, s1, p1⟩
    | true => exact p1 _ H1 B1 s1 Grow.refl (.bl true)
  | _ => exact p1.elim
theorem de_not {a : Expr} {t : DEnv → Res D} {pos : Pos} (h : DE X F own .bor a t) : DE X F own .val (.UnaryOp .Not a pos) (xNot t) := PE.mono (pe_not h) fun σ H Q ⟨B, Γ, s, p⟩ => by
  unfold tNotV
  refine tD_first early_RV s p fun x v H1 B1 s1 g1 r1 p1 => ?_
  cases x with
  | bool b => exact ⟨b, Bor.bool r1, p1 _ H1 B1 s1 Grow.refl (.bl (!b))⟩
  | _ => exact p1.elim

/-! ### arguments, displays -/
def xNil : DEnv → Res (List D) := fun _ => .ok []
def xCons (t : DEnv → Res D) (u : DEnv → Res (List D)) : DEnv → Res (List D) := fun Γ => (t Γ).bind fun x => (u Γ).bind fun r => .ok (x :: r)
theorem da_nil {m : Mode} : DA X F own m [] xNil := PA.mono pa_nil fun σ H Q ⟨B, Γ, s, p⟩ => p [] H B s Grow.refl .nil
theorem da_cons {m : Mode} {e : Expr} {es : List Expr} {t : DEnv → Res D} {u : DEnv → Res (List D)} (h : DE X F own m e t) (k : DA X F own m es u) (hm : m ≠ .fresh := by intro z; cases z) (hs : starEach (e :: es) X.env = (false, eval e X.env) :: starEach es X.env := by rfl) :
    DA X F own m (e :: es) (xCons t u) := PA.mono (pa_cons h k hs) fun σ H Q ⟨B, Γ, s, p⟩ => by
  unfold tCons
  exact tD_first early_RVs s p fun x v H1 B1 s1 g1 r1 p1 => tA_first early_RVs s1 p1 fun xs vs H2 B2 _ s2 g2 r2 p2 => p2 _ H2 B2 s2 Grow.refl (.cons (r1.later hm (g2.same s1.sub) g2.hp s2.sub) (Paired.mapP r2 fun _ _ q => q.later hm (Same.refl _) (Sm.refl _) s2.sub))
theorem RVs.reps {K : PySem.W.Frag} {Γ : DEnv} {σ : L2.St} {s B H : Hp} : ∀ {vs : List V} {ds : List D}, RVs K F own Γ σ .val s B H vs ds → Reps K B vs ds
  | _, _, .nil => .nil
  | _, _, .cons a b => .cons a (RVs.reps b)
theorem RVs.length {K : PySem.W.Frag} {Γ : DEnv} {σ : L2.St} {s B H : Hp} {m : Mode} {vs : List V} {ds : List D} (r : RVs K F own Γ σ m s B H vs ds) : vs.length = ds.length := Paired.length r
def small (ds : List D) : Bool := decide (ds.length ≤ sizeLine)
def xTup (t : DEnv → Res (List D)) : DEnv → Res D := fun Γ => (t Γ).bind fun ds => if ds.length ≤ sizeLine then .ok (.tuple ds) else .bad
theorem de_tup {es : List Expr} {t : DEnv → Res (List D)} {x1 : Nat} {pos : Pos} (h : DA X F own .val es t) : DE X F own .val (.Tuple es x1 pos) (xTup t) := PE.mono (pe_tup h) fun σ H Q ⟨B, Γ, s, p⟩ => by
  unfold tTup
  refine tA_first early_RV s p fun x v H1 B1 _ s1 g1 r1 p1 => ?_
  by_cases hl : x.length ≤ sizeLine
  · rw [if_pos hl] at p1
    exact ⟨by rw [r1.length]; exact hl, fun q hq => Post.newTup p1 s1 r1.reps hq⟩
  · rw [if_neg hl] at p1
    exact p1.elim
def xLst (t : DEnv → Res (List D)) : DEnv → Res D := fun Γ => (t Γ).bind fun ds => if ds.length ≤ sizeLine then .ok (.list ds) else .bad
theorem de_lst {es : List Expr} {t : DEnv → Res (List D)} {pos : Pos} (h : DA X F own .val es t) : DE X F own .fresh (.List es pos) (xLst t) := PE.mono (pe_lst h) fun σ H Q ⟨B, Γ, s, p⟩ => by
  unfold tLst
  refine tA_first early_RV s p fun x v H1 B1 _ s1 g1 r1 p1 => ?_
  by_cases hl : x.length ≤ sizeLine
  · rw [if_pos hl] at p1
    exact ⟨by rw [r1.length]; exact hl, fun q hq => Post.newObj p1 s1 (show ORep X.K B1 _ (.lst v) (.list x) from r1.reps) hq⟩
  · rw [if_neg hl] at p1
    exact p1.elim
theorem de_dK {pos : Pos} : DE X F own .fresh (.Dict [] [] pos) (xC (.dict [])) := PE.mono pe_dnewK fun σ H Q ⟨B, Γ, s, p⟩ => fun q hq => Post.newObj p s (show ORep X.K B _ (.dK []) (.dict []) from .nil) hq

theorem SR.after {K : PySem.W.Frag} {B H B' H' : Hp} {Γ : DEnv} {σ : L2.St} (s : SR K F own B Γ σ H) (g : Grow B H B' H') (sub : Same B' H') (nt : ∀ a ps, B' a ≠ some (.tbl ps)) : SR K F own B' Γ σ H' := by
  have sb := g.same s.sub
  refine ⟨sub, s.same.trans g.hp, fun a n => (g.fz a (same_ne s.same n)).trans (s.old a n), s.len, fun i d hi e => ?_, fun i d hi e => ?_, s.apart, nt⟩
  · obtain ⟨v, e1, r⟩ := s.dat i d hi e
    exact ⟨v, e1, r.mono sb⟩
  · obtain ⟨v, e1, a, o, rfl, n1, h1, r, n0⟩ := s.owd i d hi e
    exact ⟨_, e1, a, o, rfl, by rw [g.fz a (by rw [h1]; exact fun z => nomatch z)]; exact n1, g.hp.obj _ _ h1 r.nt, r.mono sb, n0⟩
/-! ### calls -/
def xCall (g : List D → Res D) (t : DEnv → Res (List D)) : DEnv → Res D := fun Γ => (t Γ).bind g
def CaD (K : PySem.W.Frag) (F : FR) (own : List Nat) (m' m : Mode) (r : List V → Hp → VK → Prop) (g : List D → Res D) : Prop := ∀ Γ σ H B s0 vs ds Q, SR K F own B Γ σ H → RVs K F own Γ σ m' s0 B H vs ds → Post K F own (RV K F own Γ σ m) (g ds) Γ σ H B Q → r vs H Q
theorem de_cb {m m' : Mode} {r : List V → Hp → VK → Prop} {g : List D → Res D} {e : Expr} {t : DEnv → Res (List D)} (h : PE X e (tCB r (tA X.K F own m' t))) (hr : CaD X.K F own m' m r g) : DE X F own m e (xCall g t) := PE.mono h fun σ H Q ⟨B, Γ, s, p⟩ => by
  unfold tCB
  exact tA_first early_RV s p fun x v H1 B1 _ s1 g1 r1 p1 => hr Γ σ H1 B1 H v x Q s1 r1 p1
/-- a def of the text -/
theorem de_call {k n : Nat} {f : Addr} {fd : FuncData} {ps : List Str} {x : Str} {g : List D → Res D} {e : Expr} {es : List Expr} {t : DEnv → Res (List D)} {p pos : Pos} (Fn : FnOk X.prog X.w X.K X.mg X.base (L2.CX X.prog X.w) k f fd ps (spD X.K F.cv n g)) (hr : Room k X.A) (hm : X.mg x = some (.ref f))
    (hk : PySem.W.keepIn X.K (.ref f) = true) (hb : Binds X.K fd ps []) (tk : Takes X F.W) (ha : DA X F own .val (e :: es) t) (hl : ∀ Γ ds, t Γ = .ok ds → ds.length = n) (hg : Gl X x := by rfl) (hdb : (x == ("__debug__" : Str)) = false := by decide)
    (he : starEach (e :: es) X.env = (false, eval e X.env) :: starEach es X.env := by rfl) (hpl : (backTo pos (starEach es X.env)).any (·.1) = false := by rfl) : DE X F own .val (.Call (.Name x p) (e :: es) [] pos) (xCall g t) :=
  PE.mono (pe_callS Fn hr hg hm hk hb (fun σ => passAt tk σ) ha hdb he hpl) fun σ H Q ⟨B, Γ, s, p⟩ => by
    unfold tCallS
    refine tA_first early_RV s p fun x v H1 B1 e1 s1 g1 r1 p1 => ⟨B1, x, s1.sub, s1.tab, s1.nt, r1.reps, by rw [r1.length]; exact hl Γ x e1, ?_⟩
    cases eg : g x with
    | bad => rw [eg] at p1; exact p1
    | raise c => rw [eg] at p1; exact p1
    | ok d =>
      rw [eg] at p1
      intro v2 H2 B2 sm sub fz nt r2
      have gr : Grow B1 H1 B2 H2 := ⟨sm, fz⟩
      exact p1 v2 H2 B2 (s1.after gr sub nt) gr r2
end
end DL

/-! DL: operators, built-in calls, comprehensions over data. -/
namespace DL
open PySem PySem.Spec PyProof.Rows L2
variable [TabCx] [WCx]

/-! ### data that reads -/
section
variable {K : PySem.W.Frag} {F : FR} {own : List Nat} {Γ : DEnv} {σ : L2.St} {H B : Hp}
mutual
theorem Rep.dp (sub : Same B H) : ∀ (d : D) (v : V), d.plain = true → Rep K B v d → Dp K H v d
  | .none, _, _, r => by cases r; exact .non
  | .bool b, _, _, r => by cases r; exact .bl b
  | .int i, _, _, r => by cases r; exact .int i
  | .str x, _, _, r => by cases r; exact .str x
  | .list ds, _, h, r => by
    cases r with
    | lst s r => exact .lst (sqL_mono sub s) (Reps.dp sub ds _ h r)
  | .tuple ds, _, h, r => by
    cases r with
    | tup s r => exact .tup (SqT.of (sub _ _ s)) (Reps.dp sub ds _ h r)
  | .dict _, _, h, _ => nomatch h
theorem Reps.dp (sub : Same B H) : ∀ (ds : List D) (vs : List V), PyData.plainAll ds = true → Reps K B vs ds → DpAll K H vs ds
  | [], _, _, r => by cases r; exact .nil
  | d :: ds, _, h, r => by
    cases r with
    | cons a b =>
      have h' : d.plain = true ∧ PyData.plainAll ds = true := by simpa [PyData.plainAll] using h
      exact .cons (Rep.dp sub d _ h'.1 a) (Reps.dp sub ds _ h'.2 b)
end
theorem Bor.dp {v : V} {d : D} (sub : Same B H) (h : d.plain = true) (r : Bor K F B H v d) : Dp K H v d := by
  rcases r with r | ⟨a, o, rfl, _, h1, r, _⟩
  · exact Rep.dp sub d v h r
  · cases d with
    | list ds =>
      cases o with
      | lst xs => exact .lst (SqL.of h1) (Reps.dp sub ds _ h r)
      | _ => exact False.elim r
    | dict es => exact nomatch h
    | _ => cases o <;> exact False.elim r
end

/-! ### comparisons of data -/
def rDat (K : PySem.W.Frag) (C : D → D → Bool) (g : D → D → Bool) : R2 := fun x y H Q => ∃ d e, Dp K H x d ∧ Dp K H y e ∧ C d e = true ∧ Q (.bl (g d e)) H
theorem op_dat {X : Cx} {op : CmpOp} {C g : D → D → Bool} (hu : X.A.units + 64 < cLine)
    (rule : ∀ (A : Around) (E : Value → Shared → Prop) (s : Shared) (a b : Value) (da db : D) (as bs : List Addr) (Q : Value → Shared → Prop), Reads s.heap a da as → Reads s.heap b db bs → C da db = true → A.units + 64 < cLine → Q (.bool (g da db)) s → wpAny (model X.prog X.w) A (compareOp op a b) Q E s) :
    OpR X (compareOp op) (rDat X.K C g) := by
  intro pins s σ H x y v u Q I rx ry h
  obtain ⟨d, e, hd, he, hc, q⟩ := h
  obtain ⟨as, r1⟩ := Dp.reads I d x v hd rx
  obtain ⟨bs, r2⟩ := Dp.reads I e y u he ry
  exact rule X.A X.xe s v u d e as bs _ r1 r2 hc hu ⟨.bl _, H, I, rfl, q⟩
def gD (C : D → D → Bool) (g : D → D → Bool) : D → D → Res D := fun x y => if x.plain && y.plain && C x y then .ok (.bool (g x y)) else .bad
theorem opd_dat {K : PySem.W.Frag} {F : FR} {own : List Nat} {C g : D → D → Bool} : OpD K F own .val (rDat K C g) (gD C g) := fun Γ σ H B x y u v Q s rx ry p => by
  unfold gD at p
  by_cases hc : (x.plain && y.plain && C x y) = true
  · rw [if_pos hc] at p
    simp only [Bool.and_eq_true] at hc
    exact ⟨x, y, rx.dp s.sub hc.1.1, ry.dp s.sub hc.1.2, hc.2, Post.here p s (.bl _)⟩
  · rw [if_neg hc] at p
    exact p.elim
def low (d : D) : Bool := decide (d.depth ≤ 60)
def eqC (x y : D) : Bool := low x
def eqD : D → D → Res D := gD eqC PyData.eqv
def neD : D → D → Res D := gD eqC fun x y => !PyData.eqv x y
def ordC (x y : D) : Bool := PySem.W.alike x y && (match x with | .none => false | _ => true) && low x
def ltD : D → D → Res D := gD ordC PySem.W.dataLt
def gtD : D → D → Res D := gD ordC fun x y => PySem.W.dataLt y x
def leD : D → D → Res D := gD ordC fun x y => !PySem.W.dataLt y x
def geD : D → D → Res D := gD ordC fun x y => !PySem.W.dataLt x y

section
variable {X : Cx} {F : FR} {own : List Nat}
theorem min_low {d e : D} (h : low d = true) {A : Around} (hu : A.units + 64 < cLine) : A.units + min d.depth e.depth < cLine := by
  have h := of_decide_eq_true h
  have := Nat.min_le_left d.depth e.depth
  omega
theorem plain_and {x y : D} {c : Bool} (h : (x.plain && y.plain && c) = true) : x.plain = true ∧ y.plain = true ∧ c = true := by
  simp only [Bool.and_eq_true] at h
  exact ⟨h.1.1, h.1.2, h.2⟩
abbrev pC (C : D → D → Bool) : D → D → Bool := fun x y => x.plain && y.plain && C x y
theorem opd_datP {K : PySem.W.Frag} {C g : D → D → Bool} : OpD K F own .val (rDat K (pC C) g) (gD C g) := fun Γ σ H B x y u v Q s rx ry p => by
  unfold gD at p
  by_cases hc : (x.plain && y.plain && C x y) = true
  · rw [if_pos hc] at p
    have h := plain_and hc
    exact ⟨x, y, rx.dp s.sub h.1, ry.dp s.sub h.2.1, hc, Post.here p s (.bl _)⟩
  · rw [if_neg hc] at p
    exact p.elim
theorem op_eqP (hu : X.A.units + 64 < cLine) : OpR X (compareOp .Eq) (rDat X.K (pC eqC) PyData.eqv) := op_dat hu fun A E s a b da db as bs Q ra rb hc h q =>
  SeqAt.eq_plain ra rb (plain_and hc).1 (plain_and hc).2.1 (min_low (plain_and hc).2.2 h) q
theorem op_neP (hu : X.A.units + 64 < cLine) : OpR X (compareOp .NotEq) (rDat X.K (pC eqC) fun x y => !PyData.eqv x y) := op_dat hu fun A E s a b da db as bs Q ra rb hc h q =>
  SeqAt.ne_plain ra rb (plain_and hc).1 (plain_and hc).2.1 (min_low (plain_and hc).2.2 h) q
theorem ordC_of {x y : D} (h : ordC x y = true) : PySem.W.alike x y = true ∧ x ≠ .none ∧ low x = true := by
  unfold ordC at h
  simp only [Bool.and_eq_true] at h
  refine ⟨h.1.1, fun z => ?_, h.2⟩
  subst z
  exact absurd h.1.2 (by decide)
theorem op_ltP (hu : X.A.units + 64 < cLine) : OpR X (compareOp .Lt) (rDat X.K (pC ordC) PySem.W.dataLt) := op_dat hu fun A E s a b da db as bs Q ra rb hc h q =>
  let o := ordC_of (plain_and hc).2.2
  PySem.W.lt_data ra rb o.1 o.2.1 (min_low o.2.2 h) q
theorem op_gtP (hu : X.A.units + 64 < cLine) : OpR X (compareOp .Gt) (rDat X.K (pC ordC) fun x y => PySem.W.dataLt y x) := op_dat hu fun A E s a b da db as bs Q ra rb hc h q =>
  let o := ordC_of (plain_and hc).2.2
  PySem.W.gt_data ra rb o.1 o.2.1 (min_low o.2.2 h) q
theorem op_leP (hu : X.A.units + 64 < cLine) : OpR X (compareOp .LtE) (rDat X.K (pC ordC) fun x y => !PySem.W.dataLt y x) := op_dat hu fun A E s a b da db as bs Q ra rb hc h q =>
  let o := ordC_of (plain_and hc).2.2
  PySem.W.le_data ra rb o.1 o.2.1 (min_low o.2.2 h) q
theorem op_geP (hu : X.A.units + 64 < cLine) : OpR X (compareOp .GtE) (rDat X.K (pC ordC) fun x y => !PySem.W.dataLt x y) := op_dat hu fun A E s a b da db as bs Q ra rb hc h q =>
  let o := ordC_of (plain_and hc).2.2
  PySem.W.ge_data ra rb o.1 o.2.1 (min_low o.2.2 h) q
/-- a comparison as a value, as a test -/
theorem de_cmp {op : CmpOp} {r : R2} {g : D → D → Res D} {a b : Expr} {ta tb : DEnv → Res D} {pos : Pos} (ho : OpR X (compareOp op) r) (hr : OpD X.K F own .val r g) (ha : DE X F own .bor a ta) (hb : DE X F own .bor b tb) (hm : behindInMarks op b = false := by rfl) :
    DE X F own .val (.Compare a [op] [b] pos) (x2 g ta tb) := de_op2 (pe_cmpR ho ha hb hm) hr
theorem dt_cmpr {op : CmpOp} {r : R2} {g : D → D → Res D} {a b : Expr} {ta tb : DEnv → Res D} {pos : Pos} (ho : OpR X (compareOp op) r) (hr : OpD X.K F own .val r g) (ha : DE X F own .bor a ta) (hb : DE X F own .bor b tb) (hm : behindInMarks op b = false := by rfl) :
    DT X F own (.Compare a [op] [b] pos) (xT (x2 g ta tb)) := dt_cmp (pt_cmpR ho ha hb hm) hr
/-- is None, is not None; is True -/
def isND : D → D → Res D := fun x y => match y with | .none => .ok (.bool (match x with | .none => true | _ => false)) | _ => .bad
def notND : D → D → Res D := fun x y => match y with | .none => .ok (.bool (match x with | .none => false | _ => true)) | _ => .bad
theorem bor_none_iff {K : PySem.W.Frag} {B H : Hp} {v : V} {d : D} (r : Bor K F B H v d) : decide (v = V.non) = (match d with | .none => true | _ => false) := by
  rcases r with r | ⟨a, o, rfl, _, h1, r, _⟩
  · cases r <;> rfl
  · cases d with
    | none => cases o <;> exact False.elim r
    | _ => rfl
theorem opd_isN {K : PySem.W.Frag} : OpD K F own .val (fun x y H Q => y = .non ∧ Q (.bl (decide (x = .non))) H) isND := fun Γ σ H B x y u v Q s rx ry p => by
  cases y with
  | none =>
    refine ⟨ry.none, ?_⟩
    rw [bor_none_iff rx]
    cases x <;> exact Post.here p s (.bl _)
  | _ => exact p.elim
theorem opd_notN {K : PySem.W.Frag} : OpD K F own .val (fun x y H Q => y = .non ∧ Q (.bl (!decide (x = .non))) H) notND := fun Γ σ H B x y u v Q s rx ry p => by
  cases y with
  | none =>
    refine ⟨ry.none, ?_⟩
    rw [bor_none_iff rx]
    cases x <;> exact Post.here p s (.bl _)
  | _ => exact p.elim

/-! ### arithmetic -/
def addD : D → D → Res D
  | .int i, .int j => .ok (.int (i + j))
  | .str x, .str y => if x.length + y.length ≤ sizeLine then .ok (.str (x ++ y)) else .bad
  | .tuple a, .tuple b => if a.length + b.length ≤ sizeLine then .ok (.tuple (a ++ b)) else .bad
  | .list a, .list b => if a.length + b.length ≤ sizeLine then .ok (.list (a ++ b)) else .bad
  | _, _ => .bad
/-- list + list, read -/
def rCatL (K : PySem.W.Frag) : R2 := fun x y H Q => ∃ l b xs zs, x = .ref l ∧ y = .ref b ∧ SqL K H l xs ∧ SqL K H b zs ∧ xs.length + zs.length ≤ sizeLine ∧ ∀ p, H p = none → Q (.ref p) (upd H p (.lst (xs ++ zs)))
theorem plainL_get {h : Heap} {a : Addr} {vs : Array Value} (p : PlainL h a vs) : ∃ n sl, h.get? a = some { cls := .type "list", data := .seq vs n, slots := sl } := by
  obtain ⟨o, n, ho, hc, hd, hs⟩ := p
  obtain ⟨c, d, dt, sl⟩ := o
  dsimp only at hc hd hs
  subst hc hd hs
  exact ⟨n, sl, ho⟩
theorem list_add_any (l : Addr) (items : Array Value) (n : Nat) (sl : Array (Option Value)) (b : Addr) (items2 : Array Value) (n2 : Nat) (sl2 : Array (Option Value)) (hc0 : items.size + items2.size ≤ sizeLine) :
    Meets (Builtin.«list.__add__» ⟨[.ref l, .ref b], []⟩) (fun _ R s => s.heap.get? l = some { cls := .type "list", dict := none, data := .seq items n, slots := sl } ∧ s.heap.get? b = some { cls := .type "list", dict := none, data := .seq items2 n2, slots := sl2 } ∧
      R (.ok (.ret (Value.ref s.heap.objs.size))) { s with heap := s.heap.push { cls := Value.type "list", data := Data.seq (items ++ items2) }, toks := s.toks }) :=
  .of_wp fun prog w A R s h => by
    obtain ⟨hp, g, d, tk, os⟩ := s; obtain ⟨hl, hb, h⟩ := h
    have f1 := AutoSeq1.idx_int; have f2 := AutoSeq1.sub_tuple_tuple; have f3 := AutoSeq1.sub_list_list; have f4 := AutoSeq1.sub_tuple_list; have f5 := AutoSeq1.sub_list_tuple
    wp_walk using AutoSeq1.wpAny_loadPart' hl, AutoSeq1.wpAny_loadPart' hb
    exact ⟨_, rfl, h⟩
theorem op_catL : OpR X (binaryOp .Add) (rCatL X.K) := by
  intro pins s σ H x y v u Q I rx ry h
  obtain ⟨l, b, xs, zs, rfl, rfl, hH, hB, hz, q⟩ := h
  cases rx
  cases ry
  obtain ⟨its, r, pl, z⟩ := I.list hH
  obtain ⟨its2, r2, pl2, z2⟩ := I.list hB
  obtain ⟨n, sl, e⟩ := plainL_get pl
  obtain ⟨n2, sl2, e2⟩ := plainL_get pl2
  have hl := r.length
  have hl2 := r2.length
  refine concat_meets ⟨_, e, rfl⟩ ⟨_, e2, rfl⟩ noFill_list_add seq_list_add F.slot_list_add F.entry_list_add (F.args_list_add_2 _ _) (list_add_any l its.toArray n sl b its2.toArray n2 sl2 (by rw [List.size_toArray, List.size_toArray]; omega)) ⟨e, e2, ?_⟩
  have ea : its.toArray ++ its2.toArray = (its ++ its2).toArray := by simp
  rw [ea]
  exact ⟨.ref _, _, I.lnew (t' := s.toks) (r.append r2) (by rw [List.length_append]; omega), rfl, q _ I.fresh⟩
theorem opd_add {K : PySem.W.Frag} : OpD K F own .val (fun x y H Q => (rI0 fun i j => V.int (i + j)) x y H Q ∨ (∃ i j, x = V.str i ∧ y = V.str j ∧ i.length + j.length ≤ sizeLine ∧ Q (.str (i ++ j)) H) ∨ rCatA K x y H Q ∨ rCatL K x y H Q) addD := fun Γ σ H B x y u v Q s rx ry p => by
  cases x with
  | int i =>
    cases y with
    | int j => exact .inl ⟨i, j, rx.int, ry.int, Post.here p s (.int _)⟩
    | _ => exact p.elim
  | str i =>
    cases y with
    | str j =>
      have p : Post K F own (RV K F own Γ σ .val) (if i.length + j.length ≤ sizeLine then Res.ok (PyData.str (i ++ j)) else .bad) Γ σ H B Q := p
      by_cases h : i.length + j.length ≤ sizeLine
      · rw [if_pos h] at p
        exact .inr (.inl ⟨i, j, rx.str, ry.str, h, Post.here p s (.str _)⟩)
      · rw [if_neg h] at p
        exact p.elim
    | _ => exact p.elim
  | tuple xs =>
    cases y with
    | tuple ys =>
      have p : Post K F own (RV K F own Γ σ .val) (if xs.length + ys.length ≤ sizeLine then Res.ok (PyData.tuple (xs ++ ys)) else .bad) Γ σ H B Q := p
      by_cases h : xs.length + ys.length ≤ sizeLine
      · rw [if_pos h] at p
        obtain ⟨a, vs, rfl, h1, b1, r1⟩ := rx.tuple s.sub
        obtain ⟨b, us, rfl, h2, b2, r2⟩ := ry.tuple s.sub
        refine .inr (.inr (.inl ⟨a, b, vs, us, rfl, rfl, h1, h2, by rw [r1.length, r2.length]; exact h, fun e => ?_, fun _ e => ?_, fun _ _ q hq => Post.newTup p s (r1.append r2) hq⟩))
        · subst e
          cases r1
          exact Post.here p s (.tup b2 r2)
        · subst e
          cases r2
          rw [List.append_nil] at p
          exact Post.here p s (.tup b1 r1)
      · rw [if_neg h] at p
        exact p.elim
    | _ => exact p.elim
  | list xs =>
    cases y with
    | list ys =>
      have p : Post K F own (RV K F own Γ σ .val) (if xs.length + ys.length ≤ sizeLine then Res.ok (PyData.list (xs ++ ys)) else .bad) Γ σ H B Q := p
      by_cases h : xs.length + ys.length ≤ sizeLine
      · rw [if_pos h] at p
        obtain ⟨a, vs, rfl, h1, r1⟩ := rx.list s.sub
        obtain ⟨b, us, rfl, h2, r2⟩ := ry.list s.sub
        exact .inr (.inr (.inr ⟨a, b, vs, us, rfl, rfl, h1, h2, by rw [r1.length, r2.length]; exact h, fun q hq => Post.newObj (Post.freeze p) s (show ORep K B _ (.lst (vs ++ us)) (.list (xs ++ ys)) from r1.append r2) hq⟩))
      · rw [if_neg h] at p
        exact p.elim
    | _ => exact p.elim
  | _ => exact p.elim
theorem op_addA : OpR X (binaryOp .Add) (fun x y H Q => (rI0 fun i j => V.int (i + j)) x y H Q ∨ (∃ i j, x = V.str i ∧ y = V.str j ∧ i.length + j.length ≤ sizeLine ∧ Q (.str (i ++ j)) H) ∨ rCatA X.K x y H Q ∨ rCatL X.K x y H Q) := op_add.or (op_add_str.or (op_catA.or op_catL))
theorem de_add {a b : Expr} {ta tb : DEnv → Res D} {pos : Pos} (ha : DE X F own .bor a ta) (hb : DE X F own .bor b tb) : DE X F own .val (.BinOp a .Add b pos) (x2 addD ta tb) := de_op2 (pe_op op_addA ha hb) opd_add
/-- a list that is to be owned -/
theorem opd_catF {K : PySem.W.Frag} : OpD K F own .fresh (rCatL K) (fun x y => match x, y with | .list a, .list b => if a.length + b.length ≤ sizeLine then .ok (.list (a ++ b)) else .bad | _, _ => .bad) := fun Γ σ H B x y u v Q s rx ry p => by
  cases x with
  | list xs =>
    cases y with
    | list ys =>
      have p : Post K F own (RV K F own Γ σ .fresh) (if xs.length + ys.length ≤ sizeLine then Res.ok (PyData.list (xs ++ ys)) else .bad) Γ σ H B Q := p
      by_cases h : xs.length + ys.length ≤ sizeLine
      · rw [if_pos h] at p
        obtain ⟨a, vs, rfl, h1, r1⟩ := rx.list s.sub
        obtain ⟨b, us, rfl, h2, r2⟩ := ry.list s.sub
        exact ⟨a, b, vs, us, rfl, rfl, h1, h2, by rw [r1.length, r2.length]; exact h, fun q hq => Post.newObj p s (show ORep K B _ (.lst (vs ++ us)) (.list (xs ++ ys)) from r1.append r2) hq⟩
      · rw [if_neg h] at p
        exact p.elim
    | _ => exact p.elim
  | _ => exact p.elim

def intD (C : Int → Int → Bool) (g : Int → Int → Int) : D → D → Res D := fun x y => match x, y with
  | .int i, .int j => if C i j then .ok (.int (g i j)) else .bad
  | _, _ => .bad
theorem opd_int {K : PySem.W.Frag} {C : Int → Int → Bool} {P : Int → Int → Prop} {g : Int → Int → Int} (h : ∀ i j, C i j = true → P i j) : OpD K F own .val (rI P fun i j => V.int (g i j)) (intD C g) := fun Γ σ H B x y u v Q s rx ry p => by
  cases x with
  | int i =>
    cases y with
    | int j =>
      have p : Post K F own (RV K F own Γ σ .val) (if C i j then Res.ok (PyData.int (g i j)) else .bad) Γ σ H B Q := p
      cases hc : C i j with
      | true => rw [hc] at p; exact ⟨i, j, rx.int, ry.int, h i j hc, Post.here p s (.int _)⟩
      | false => rw [hc] at p; exact p.elim
    | _ => exact p.elim
  | _ => exact p.elim
def subD : D → D → Res D := intD (fun _ _ => true) fun i j => i - j
def modD : D → D → Res D := intD (fun _ j => decide (0 < j)) fun i j => i % j
def fdivD : D → D → Res D := intD (fun _ j => decide (0 < j ∧ j < 1073741824)) fun i j => i / j
def powD : D → D → Res D := intD (fun i j => decide (0 ≤ j ∧ j ≤ 1000000 ∧ i.natAbs < 2 ^ 64)) fun i j => i ^ j.toNat
def mulC (i j : Int) : Bool := decide ((-(2 ^ 64) < i ∧ i < 2 ^ 64) ∨ (-(2 ^ 64) < j ∧ j < 2 ^ 64))
def mulID : D → D → Res D := intD mulC fun i j => i * j
theorem op_subI : OpR X (binaryOp .Sub) (rI (fun _ _ => True) fun i j => V.int (i - j)) := fun pins s σ H x y v u Q I rx ry ⟨i, j, e1, e2, _, q⟩ => op_sub pins s σ H x y v u Q I rx ry ⟨i, j, e1, e2, q⟩
theorem de_sub {a b : Expr} {ta tb : DEnv → Res D} {pos : Pos} (ha : DE X F own .bor a ta) (hb : DE X F own .bor b tb) : DE X F own .val (.BinOp a .Sub b pos) (x2 subD ta tb) := de_op2 (pe_op op_subI ha hb) (opd_int fun _ _ _ => trivial)
theorem de_mod {a b : Expr} {ta tb : DEnv → Res D} {pos : Pos} (ha : DE X F own .bor a ta) (hb : DE X F own .bor b tb) : DE X F own .val (.BinOp a .Mod b pos) (x2 modD ta tb) := de_op2 (pe_op op_mod ha hb) (opd_int fun _ _ h => of_decide_eq_true h)
theorem de_fdiv {a b : Expr} {ta tb : DEnv → Res D} {pos : Pos} (ha : DE X F own .bor a ta) (hb : DE X F own .bor b tb) : DE X F own .val (.BinOp a .FloorDiv b pos) (x2 fdivD ta tb) := de_op2 (pe_op op_fdiv ha hb) (opd_int fun i j h => show 0 < j ∧ j < 1073741824 from of_decide_eq_true h)
theorem de_pow {a b : Expr} {ta tb : DEnv → Res D} {pos : Pos} (ha : DE X F own .bor a ta) (hb : DE X F own .bor b tb) : DE X F own .val (.BinOp a .Pow b pos) (x2 powD ta tb) := de_op2 (pe_op op_pow ha hb) (opd_int fun i j h => show 0 ≤ j ∧ j ≤ 1000000 ∧ i.natAbs < 2 ^ 64 from of_decide_eq_true h)
theorem de_mulI {a b : Expr} {ta tb : DEnv → Res D} {pos : Pos} (ha : DE X F own .bor a ta) (hb : DE X F own .bor b tb) : DE X F own .val (.BinOp a .Mult b pos) (x2 mulID ta tb) := de_op2 (pe_op op_mul ha hb) (opd_int fun i j h => show (-(2 ^ 64) < i ∧ i < 2 ^ 64) ∨ (-(2 ^ 64) < j ∧ j < 2 ^ 64) from of_decide_eq_true h)
def negD : D → Res D
  | .int i => .ok (.int (-i))
  | _ => .bad
theorem de_neg {a : Expr} {ta : DEnv → Res D} {pos : Pos} (ha : DE X F own .bor a ta) : DE X F own .val (.UnaryOp .USub a pos) (x1 negD ta) := de_un (pe_un un_neg ha) fun Γ σ H B x u Q s r p => by
  cases x with
  | int i => exact ⟨i, r.int, Post.here p s (.int _)⟩
  | _ => exact p.elim
end
end DL

/-! DL: built-in calls, subscripts, comprehensions, loops' sources. -/
namespace DL
open PySem PySem.Spec PyProof.Rows L2
variable [TabCx] [WCx]

section
variable {X : Cx} {F : FR} {own : List Nat}
/-! ### a built-in by its name -/
theorem de_blt {m m' : Mode} {id : String} {r : List V → Hp → VK → Prop} {g : List D → Res D} {x : Str} {e : Expr} {es : List Expr} {t : DEnv → Res (List D)} {p pos : Pos} (hc : CallR X (.builtin id) r) (hr : CaD X.K F own m' m r g) (hm : X.mg x = none) (hv : bootBuiltins x = some (.builtin id))
    (ha : DA X F own m' (e :: es) t) (hg : Gl X x := by rfl) (hn : x ≠ "__name__" := by decide) (hdb : (x == ("__debug__" : Str)) = false := by decide) (he : starEach (e :: es) X.env = (false, eval e X.env) :: starEach es X.env := by rfl) (hpl : (backTo pos (starEach es X.env)).any (·.1) = false := by rfl) :
    DE X F own m (.Call (.Name x p) (e :: es) [] pos) (xCall g t) := de_cb (pe_callB hc hg hm hv ha hn hdb he hpl) hr
theorem de_bty {m m' : Mode} {T : String} {r : List V → Hp → VK → Prop} {g : List D → Res D} {x : Str} {e : Expr} {es : List Expr} {t : DEnv → Res (List D)} {p pos : Pos} (hc : CallR X (.type T) r) (hr : CaD X.K F own m' m r g) (hm : X.mg x = none) (hv : bootBuiltins x = some (.type T))
    (ha : DA X F own m' (e :: es) t) (hg : Gl X x := by rfl) (hn : x ≠ "__name__" := by decide) (hdb : (x == ("__debug__" : Str)) = false := by decide) (he : starEach (e :: es) X.env = (false, eval e X.env) :: starEach es X.env := by rfl) (hpl : (backTo pos (starEach es X.env)).any (·.1) = false := by rfl) :
    DE X F own m (.Call (.Name x p) (e :: es) [] pos) (xCall g t) := de_cb (pe_callTy hc hg hm hv ha hn hdb he hpl) hr
theorem rvs1 {K : PySem.W.Frag} {Γ : DEnv} {σ : L2.St} {m : Mode} {s B H : Hp} {vs : List V} {d : D} (r : RVs K F own Γ σ m s B H vs [d]) : ∃ v, vs = [v] ∧ RV K F own Γ σ m s B H v d := by
  cases r with
  | cons a b => cases b; exact ⟨_, rfl, a⟩
theorem rvs2 {K : PySem.W.Frag} {Γ : DEnv} {σ : L2.St} {m : Mode} {s B H : Hp} {vs : List V} {d e : D} (r : RVs K F own Γ σ m s B H vs [d, e]) : ∃ v u, vs = [v, u] ∧ RV K F own Γ σ m s B H v d ∧ RV K F own Γ σ m s B H u e := by
  cases r with
  | cons a b => cases b with
    | cons b c => cases c; exact ⟨_, _, rfl, a, b⟩
/-- one argument, borrowed -/
def on1 (g : D → Res D) : List D → Res D
  | [d] => g d
  | _ => .bad
theorem ca1 {K : PySem.W.Frag} {m : Mode} {r : List V → Hp → VK → Prop} {g : D → Res D} (h : ∀ Γ σ H B v d Q, SR K F own B Γ σ H → Bor K F B H v d → Post K F own (RV K F own Γ σ m) (g d) Γ σ H B Q → r [v] H Q) : CaD K F own .bor m r (on1 g) := fun Γ σ H B s0 vs ds Q s rv p => by
  match ds, rv, p with
  | [d], rv, p =>
    obtain ⟨v, rfl, r1⟩ := rvs1 rv
    exact h Γ σ H B v d Q s r1 p
  | [], _, p => exact p.elim
  | _ :: _ :: _, _, p => exact p.elim

/-! ### len -/
def lenD : D → Res D
  | .str x => if x.length ≤ sizeLine then .ok (.int x.length) else .bad
  | .list xs => .ok (.int xs.length)
  | .tuple xs => .ok (.int xs.length)
  | _ => .bad
theorem ca_len {K : PySem.W.Frag} : CaD K F own .bor .val (fun xs H Q => ∃ x n, xs = [x] ∧ LenV K x H n ∧ Q (.int n) H) (on1 lenD) := ca1 fun Γ σ H B v d Q s r p => by
  cases d with
  | str x =>
    have p : Post K F own (RV K F own Γ σ .val) (if x.length ≤ sizeLine then Res.ok (PyData.int x.length) else .bad) Γ σ H B Q := p
    by_cases h : x.length ≤ sizeLine
    · rw [if_pos h] at p
      cases r.str
      exact ⟨_, x.length, rfl, ⟨h, rfl⟩, Post.here p s (.int _)⟩
    · rw [if_neg h] at p
      exact p.elim
  | list ds =>
    obtain ⟨a, xs, rfl, h, r1⟩ := r.list s.sub
    refine ⟨_, xs.length, rfl, .inl ⟨xs, h, rfl⟩, ?_⟩
    rw [r1.length]
    exact Post.here p s (.int _)
  | tuple ds =>
    obtain ⟨a, xs, rfl, h, _, r1⟩ := r.tuple s.sub
    refine ⟨_, xs.length, rfl, .inr ⟨xs, h, rfl⟩, ?_⟩
    rw [r1.length]
    exact Post.here p s (.int _)
  | _ => exact p.elim
theorem de_len {e : Expr} {t : DEnv → Res D} {p pos : Pos} (h : DE X F own .bor e t) (hm : X.mg "len" = none) (hg : Gl X "len" := by rfl) (hs : starEach [e] X.env = (false, eval e X.env) :: starEach [] X.env := by rfl) :
    DE X F own .val (.Call (.Name "len" p) [e] [] pos) (xCall (on1 lenD) (xCons t xNil)) := de_blt call_len ca_len hm PySem.boot_len (da_cons h da_nil (hs := hs)) hg (he := hs)
/-! ### tuple(xs), list(xs) -/
def tupOfD : D → Res D
  | .list xs => .ok (.tuple xs)
  | .tuple xs => .ok (.tuple xs)
  | _ => .bad
theorem ca_tup {K : PySem.W.Frag} : CaD K F own .bor .val (fun xs H Q => ∃ p ys, xs = [.ref p] ∧ ((SqL K H p ys ∧ ∀ l, H l = none → Q (.ref l) (upd H l (.tup ys))) ∨ (SqT K H p ys ∧ Q (.ref p) H))) (on1 tupOfD) := ca1 fun Γ σ H B v d Q s r p => by
  cases d with
  | list ds =>
    obtain ⟨a, xs, rfl, h, r1⟩ := r.list s.sub
    exact ⟨a, xs, rfl, .inl ⟨h, fun l hl => Post.newTup p s r1 hl⟩⟩
  | tuple ds =>
    obtain ⟨a, xs, rfl, h, b, r1⟩ := r.tuple s.sub
    exact ⟨a, xs, rfl, .inr ⟨h, Post.here p s (.tup b r1)⟩⟩
  | _ => exact p.elim
theorem de_tupOf {e : Expr} {t : DEnv → Res D} {p pos : Pos} (h : DE X F own .bor e t) (hm : X.mg "tuple" = none) (hg : Gl X "tuple" := by rfl) (hs : starEach [e] X.env = (false, eval e X.env) :: starEach [] X.env := by rfl) :
    DE X F own .val (.Call (.Name "tuple" p) [e] [] pos) (xCall (on1 tupOfD) (xCons t xNil)) := de_bty call_tuple_of ca_tup hm (by decide +kernel) (da_cons h da_nil (hs := hs)) hg (he := hs)
def lstOfD : D → Res D
  | .list xs => .ok (.list xs)
  | .tuple xs => .ok (.list xs)
  | _ => .bad
theorem ca_lst {K : PySem.W.Frag} : CaD K F own .bor .fresh (fun xs H Q => ∃ p ys, xs = [.ref p] ∧ (SqL K H p ys ∨ SqT K H p ys) ∧ ∀ l, H l = none → Q (.ref l) (upd H l (.lst ys))) (on1 lstOfD) := ca1 fun Γ σ H B v d Q s r p => by
  cases d with
  | list ds =>
    obtain ⟨a, xs, rfl, h, r1⟩ := r.list s.sub
    exact ⟨a, xs, rfl, .inl h, fun l hl => Post.newObj p s (show ORep K B _ (.lst xs) (.list ds) from r1) hl⟩
  | tuple ds =>
    obtain ⟨a, xs, rfl, h, b, r1⟩ := r.tuple s.sub
    exact ⟨a, xs, rfl, .inr h, fun l hl => Post.newObj p s (show ORep K B _ (.lst xs) (.list ds) from r1) hl⟩
  | _ => exact p.elim
theorem de_lstOf {e : Expr} {t : DEnv → Res D} {p pos : Pos} (h : DE X F own .bor e t) (hm : X.mg "list" = none) (hg : Gl X "list" := by rfl) (hs : starEach [e] X.env = (false, eval e X.env) :: starEach [] X.env := by rfl) :
    DE X F own .fresh (.Call (.Name "list" p) [e] [] pos) (xCall (on1 lstOfD) (xCons t xNil)) := de_bty call_list_of ca_lst hm (by decide +kernel) (da_cons h da_nil (hs := hs)) hg (he := hs)
/-! ### any, all of a list of truths -/
def boolsD : List D → Option (List Bool)
  | [] => some []
  | .bool b :: r => (boolsD r).map (b :: ·)
  | _ :: _ => none
theorem bools_reps {K : PySem.W.Frag} {B : Hp} : ∀ {ds : List D} {bs : List Bool} {vs : List V}, boolsD ds = some bs → Reps K B vs ds → vs = bs.map V.bl
  | [], bs, vs, e, r => by cases r; cases e; rfl
  | d :: ds, bs, vs, e, r => by
    cases r with
    | cons a b =>
      cases d with
      | bool x =>
        have e : (boolsD ds).map (x :: ·) = some bs := e
        cases q : boolsD ds with
        | none => rw [q] at e; cases e
        | some cs =>
          rw [q] at e
          cases e
          cases a
          rw [bools_reps q b]
          rfl
      | _ => cases e
def anyD : D → Res D
  | .list ds => match boolsD ds with | some bs => .ok (.bool (bs.any id)) | none => .bad
  | _ => .bad
def allD : D → Res D
  | .list ds => match boolsD ds with | some bs => .ok (.bool (bs.all id)) | none => .bad
  | _ => .bad
theorem ca_any {K : PySem.W.Frag} : CaD K F own .bor .val (rAny K) (on1 anyD) := ca1 fun Γ σ H B v d Q s r p => by
  cases d with
  | list ds =>
    obtain ⟨a, xs, rfl, h, r1⟩ := r.list s.sub
    have p : Post K F own (RV K F own Γ σ .val) (match boolsD ds with | some bs => Res.ok (PyData.bool (bs.any id)) | none => .bad) Γ σ H B Q := p
    cases e : boolsD ds with
    | none => rw [e] at p; exact p.elim
    | some bs =>
      rw [e] at p
      rw [bools_reps e r1] at h
      exact ⟨a, bs, rfl, h, Post.here p s (.bl _)⟩
  | _ => exact p.elim
theorem ca_all {K : PySem.W.Frag} : CaD K F own .bor .val (rAll K) (on1 allD) := ca1 fun Γ σ H B v d Q s r p => by
  cases d with
  | list ds =>
    obtain ⟨a, xs, rfl, h, r1⟩ := r.list s.sub
    have p : Post K F own (RV K F own Γ σ .val) (match boolsD ds with | some bs => Res.ok (PyData.bool (bs.all id)) | none => .bad) Γ σ H B Q := p
    cases e : boolsD ds with
    | none => rw [e] at p; exact p.elim
    | some bs =>
      rw [e] at p
      rw [bools_reps e r1] at h
      exact ⟨a, bs, rfl, h, Post.here p s (.bl _)⟩
  | _ => exact p.elim
theorem de_any {e : Expr} {t : DEnv → Res D} {p pos : Pos} (hc : X.calm = true) (h : DE X F own .bor e t) (hm : X.mg "any" = none) (hg : Gl X "any" := by rfl) (hs : starEach [e] X.env = (false, eval e X.env) :: starEach [] X.env := by rfl) :
    DE X F own .val (.Call (.Name "any" p) [e] [] pos) (xCall (on1 anyD) (xCons t xNil)) := de_blt (cr_any hc) ca_any hm (by decide +kernel) (da_cons h da_nil (hs := hs)) hg (he := hs)
theorem de_all {e : Expr} {t : DEnv → Res D} {p pos : Pos} (hc : X.calm = true) (h : DE X F own .bor e t) (hm : X.mg "all" = none) (hg : Gl X "all" := by rfl) (hs : starEach [e] X.env = (false, eval e X.env) :: starEach [] X.env := by rfl) :
    DE X F own .val (.Call (.Name "all" p) [e] [] pos) (xCall (on1 allD) (xCons t xNil)) := de_blt (cr_all hc) ca_all hm (by decide +kernel) (da_cons h da_nil (hs := hs)) hg (he := hs)

/-! ### isinstance(x, T) -/
def tyD : D → String
  | .none => "NoneType"
  | .bool _ => "bool"
  | .int _ => "int"
  | .str _ => "str"
  | .list _ => "list"
  | .tuple _ => "tuple"
  | .dict _ => "dict"
theorem tyx_of {K : PySem.W.Frag} {B H : Hp} {v : V} {d : D} (sub : Same B H) (r : Bor K F B H v d) : TyX K H v (.type (tyD d)) ∨ (tyD d = "dict" ∧ ∃ a ps, v = .ref a ∧ H a = some (.ext (dnφ a ps))) := by
  have hl : ∀ {a : Addr} {xs : List V}, SqL K H a xs → TyX K H (.ref a) (.type "list") := fun {a xs} h => by
    rcases h with (h | ⟨o, h⟩) | ⟨o, its, n, h, hc, _⟩
    · exact .base (.lst h)
    · exact .base (.frz h)
    · exact .kList h hc
  have ht : ∀ {a : Addr} {xs : List V}, SqT K H a xs → TyX K H (.ref a) (.type "tuple") := fun {a xs} h => by
    rcases h with (h | ⟨o, h⟩) | ⟨o, its, n, h, hc, _⟩
    · exact .base (.tup h)
    · exact .fTuple h
    · exact .kTuple h hc
  rcases r with r | ⟨a, o, rfl, _, h1, r, _⟩
  · cases r with
    | non => exact .inl (.base .non)
    | bl b => exact .inl (.base (.bl b))
    | int i => exact .inl (.base (.int i))
    | str x => exact .inl (.base (.str x))
    | lst h _ => exact .inl (hl (sqL_mono sub h))
    | tup h _ => exact .inl (ht (SqT.of (sub _ _ h)))
    | dK h _ =>
      rcases rd_mono sub h with h | ⟨o, h⟩
      · exact .inl (.base (.dK h))
      · exact .inl (.fDict h)
    | dT h _ _ => exact .inl (.base (.dT (sub _ _ h)))
    | dN h _ _ _ => exact .inr ⟨rfl, _, _, rfl, sub _ _ h⟩
  · cases o with
    | lst xs => cases d with
      | list ds => exact .inl (.base (.lst h1))
      | _ => exact False.elim r
    | dK xs => cases d with
      | dict ds => exact .inl (.base (.dK h1))
      | _ => exact False.elim r
    | dT xs => cases d with
      | dict ds => exact .inl (.base (.dT h1))
      | _ => exact False.elim r
    | ext φ => cases d with
      | dict ds =>
        obtain ⟨ps, e, _⟩ := (r : ∃ ps, φ = dnφ a ps ∧ RepN K B ps ds ∧ ds ≠ [] ∧ TabCx.T = [])
        subst e
        exact .inr ⟨rfl, a, ps, rfl, h1⟩
      | _ => exact False.elim r
    | _ => cases d <;> exact False.elim r
/-- isinstance(x, T), x a dict with nested keys -/
def rIsiN (K : PySem.W.Frag) : List V → Hp → VK → Prop := fun xs H Q => ∃ (a : Addr) (ps : List NRow) (c : V) (u : Value) (b : Bool), xs = [.ref a, c] ∧ H a = some (.ext (dnφ a ps)) ∧ ClsV c u ∧ PySem.W.kitOne K (.type "dict") u = some b ∧ Q (.bl b) H
theorem call_isiN : CallR X (.builtin "isinstance") (rIsiN X.K) := by
  intro pins s σ H xs us Q I r h
  obtain ⟨a, ps, c, u, b, rfl, ha, k, e, q⟩ := h
  obtain ⟨u1, u2, rfl, r1, r2⟩ := vals2 r
  have e2 := k.eq r2
  subst e2
  cases (show u1 = Value.ref a from r1)
  obtain ⟨⟨_, _, _, _, _, _, o, es, ep, h1, h2, _⟩, _⟩ := (show ObjOk X.prog X.w H s.heap a (.ext (dnφ a ps)) from I.hok a _ ha)
  exact PySem.W.kia_one PySem.W.kitx_dict I.kIn ⟨o, h1, h2.1⟩ e (fun z => nomatch z) fun tk => ⟨.bl b, H, I.tok tk, rfl, q⟩
theorem call_isiA : CallR X (.builtin "isinstance") (fun xs H Q => rIsi X.K xs H Q ∨ rIsiN X.K xs H Q) := fun pins s σ H xs us Q I r h => h.elim (call_isi pins s σ H xs us Q I r) (call_isiN pins s σ H xs us Q I r)
/-- bool is an int -/
def isaT (a T : String) : Bool := a == T || (a == "bool" && T == "int")
def isaD (T : String) (d : D) : Bool := isaT (tyD d) T
theorem isa_tab : ∀ a ∈ ["NoneType", "bool", "int", "str", "list", "tuple", "dict"], ∀ T ∈ ["int", "bool", "str", "list", "tuple"], kitB a T = some (isaT a T) := by decide +kernel
theorem tyD_mem (d : D) : tyD d ∈ ["NoneType", "bool", "int", "str", "list", "tuple", "dict"] := by cases d <;> simp [tyD]
theorem isa_kit {T : String} (hT : T ∈ ["int", "bool", "str", "list", "tuple"]) (d : D) : kitB (tyD d) T = some (isaD T d) := isa_tab _ (tyD_mem d) T hT
def xIsa (T : String) (t : DEnv → Res D) : DEnv → Res D := fun Γ => (t Γ).bind fun d => .ok (.bool (isaD T d))
theorem de_isa {T : String} {x : Str} {e : Expr} {t : DEnv → Res D} {p p2 pos : Pos} (h : DE X F own .bor e t) (hT : T ∈ ["int", "bool", "str", "list", "tuple"]) (hm : X.mg "isinstance" = none) (hmT : X.mg x = none) (hv : bootBuiltins x = some (.type T)) (hg : Gl X "isinstance" := by rfl) (hgT : Gl X x := by rfl)
    (hn : x ≠ "__name__" := by decide) (hdb : (x == ("__debug__" : Str)) = false := by decide)
    (hs : starEach [e, .Name x p2] X.env = (false, eval e X.env) :: starEach [.Name x p2] X.env := by rfl) (hs2 : starEach [.Name x p2] X.env = (false, eval (.Name x p2) X.env) :: starEach [] X.env := by rfl) (hpl : (backTo pos (starEach [.Name x p2] X.env)).any (·.1) = false := by rfl) :
    DE X F own .val (.Call (.Name "isinstance" p) [e, .Name x p2] [] pos) (xIsa T t) :=
  PE.mono (pe_callB call_isiA hg hm (by decide +kernel) (pa_cons h (pa_cons (pe_bltn (v := .ty T) hgT hmT hv rfl hn hdb) pa_nil hs2) hs) (he := hs) (hpl := hpl)) fun σ H Q ⟨B, Γ, s, p⟩ => by
    unfold tCB tCons
    exact tD_first early_RV s p fun d v H1 B1 s1 g1 r1 p1 => by
      rcases tyx_of s1.sub r1 with ty | ⟨e, a, ps, rfl, ha⟩
      · exact .inl ⟨v, .ty T, _, .type T, isaD T d, rfl, .ty T, ty, kit_ty (isa_kit hT d), Post.here p1 s1 (.bl _)⟩
      · exact .inr ⟨a, ps, .ty T, .type T, isaD T d, rfl, ha, .ty T, by rw [← e]; exact kit_ty (isa_kit hT d), Post.here p1 s1 (.bl _)⟩

/-! ### subscripts -/
def ixD : D → D → Res D := fun x y => match y with
  | .int i => (match x with
    | .list ds => (match atI ds i with | some d => .ok d | none => .bad)
    | .tuple ds => (match atI ds i with | some d => .ok d | none => .bad)
    | .str z => if z.length ≤ sizeLine then (match atI z.cps.toList i with | some c => .ok (.str ⟨#[c]⟩) | none => .bad) else .bad
    | _ => .bad)
  | _ => .bad
theorem reps_atI {K : PySem.W.Frag} {B : Hp} {vs : List V} {ds : List D} {i : Int} {d : D} (r : Reps K B vs ds) (e : atI ds i = some d) : ∃ v, atI vs i = some v ∧ Rep K B v d := by
  unfold atI at e ⊢
  rw [r.length]
  cases q : ixN ds.length i with
  | none => rw [q] at e; cases e
  | some j =>
    rw [q] at e
    exact r.get e
theorem opd_ix {K : PySem.W.Frag} : OpD K F own .val (rIx K) ixD := fun Γ σ H B x y u v Q s rx ry p => by
  cases y with
  | int i =>
    cases ry.int
    cases x with
    | list ds =>
      have p : Post K F own (RV K F own Γ σ .val) (match atI ds i with | some d => Res.ok d | none => .bad) Γ σ H B Q := p
      obtain ⟨a, xs, rfl, h, r1⟩ := rx.list s.sub
      cases e : atI ds i with
      | none => rw [e] at p; exact p.elim
      | some d =>
        rw [e] at p
        obtain ⟨w, e1, r2⟩ := reps_atI r1 e
        exact .inl ⟨a, xs, i, w, rfl, rfl, h, e1, Post.here p s r2⟩
    | tuple ds =>
      have p : Post K F own (RV K F own Γ σ .val) (match atI ds i with | some d => Res.ok d | none => .bad) Γ σ H B Q := p
      obtain ⟨a, xs, rfl, h, _, r1⟩ := rx.tuple s.sub
      cases e : atI ds i with
      | none => rw [e] at p; exact p.elim
      | some d =>
        rw [e] at p
        obtain ⟨w, e1, r2⟩ := reps_atI r1 e
        exact .inr (.inl ⟨a, xs, i, w, rfl, rfl, h, e1, Post.here p s r2⟩)
    | str z =>
      have p : Post K F own (RV K F own Γ σ .val) (if z.length ≤ sizeLine then (match atI z.cps.toList i with | some c => Res.ok (PyData.str ⟨#[c]⟩) | none => .bad) else .bad) Γ σ H B Q := p
      by_cases hz : z.length ≤ sizeLine
      · rw [if_pos hz] at p
        cases e : atI z.cps.toList i with
        | none => rw [e] at p; exact p.elim
        | some c =>
          rw [e] at p
          cases rx.str
          exact .inr (.inr ⟨z, i, c, rfl, rfl, hz, e, Post.here p s (.str _)⟩)
      · rw [if_neg hz] at p
        exact p.elim
    | _ => exact p.elim
  | _ => exact p.elim
theorem de_ix {a b : Expr} {ta tb : DEnv → Res D} {pos : Pos} (ha : DE X F own .bor a ta) (hb : DE X F own .bor b tb) (hs : PlainIx b := by intro _ _; rfl) : DE X F own .val (.Subscript a b pos) (x2 ixD ta tb) := de_op2 (pe_ix ix_seq ha hb hs) opd_ix
end
end DL

/-! DL: what is walked; comprehensions; lists that grow; dicts. -/
namespace DL
open PySem PySem.Spec PyProof.Rows L2
variable [TabCx] [WCx]

/-! ### iterators -/
theorem iter_list {K : PySem.W.Frag} {B : Hp} {a : Addr} {xs : List V} {ds : List D} (h : SqL K B a xs) (r : Reps K B xs ds) : IterOk K (Itl K a) B ds where
  go := fun i H sub hi => ⟨xs, xs[i]'(by rw [r.length]; exact hi), sqL_mono sub h, List.getElem?_eq_getElem _⟩
  stop := fun i H sub hi => ⟨xs, sqL_mono sub h, by rw [r.length]; exact hi⟩
  yld := fun i H x H' d sub e y F own B1 Γ σ s b => by
    obtain ⟨rfl, y⟩ := y
    obtain ⟨v, e1, r1⟩ := r.get e
    have := y xs (sqL_mono sub h)
    rw [e1] at this
    cases this
    exact ⟨B1, s, Grow.refl, r1.mono b⟩
theorem iter_tup {K : PySem.W.Frag} {B : Hp} {a : Addr} {xs : List V} {ds : List D} (h : SqT K B a xs) (r : Reps K B xs ds) : IterOk K (Itt K a) B ds where
  go := fun i H sub hi => ⟨xs, xs[i]'(by rw [r.length]; exact hi), sqT_mono sub h, List.getElem?_eq_getElem _⟩
  stop := fun i H sub hi => ⟨xs, sqT_mono sub h, by rw [r.length]; exact hi⟩
  yld := fun i H x H' d sub e y F own B1 Γ σ s b => by
    obtain ⟨rfl, y⟩ := y
    obtain ⟨v, e1, r1⟩ := r.get e
    have := y xs (sqT_mono sub h)
    rw [e1] at this
    cases this
    exact ⟨B1, s, Grow.refl, r1.mono b⟩
/-! ### walked without a store between -/
/-- as IterOk, while the heap H1 stays as it is -/
structure IterOkB (K : PySem.W.Frag) (J : It) (H1 B1 : Hp) (ds : List D) : Prop where
  go : ∀ i H, Sm H1 H → Same B1 H → i < ds.length → J.go i H
  stop : ∀ i H, Sm H1 H → Same B1 H → ds.length ≤ i → J.stop i H
  yld : ∀ i H x H' d, Sm H1 H → Same B1 H → ds[i]? = some d → J.yld i H x H' → ∀ (F : FR) (own : List Nat) (B : Hp) (Γ : DEnv) (σ : L2.St), SR K F own B Γ σ H → Same B1 B → ∃ B', SR K F own B' Γ σ H' ∧ Grow B H B' H' ∧ Rep K B' x d
theorem IterOk.bor {K : PySem.W.Frag} {J : It} {H1 B1 : Hp} {ds : List D} (h : IterOk K J B1 ds) (sub : Same B1 H1) : IterOkB K J H1 B1 ds where
  go := fun i H _ s => h.go i H s
  stop := fun i H _ s => h.stop i H s
  yld := fun i H x H' d _ s => h.yld i H x H' d s
def tIB (K : PySem.W.Frag) (F : FR) (own : List Nat) (t : DEnv → Res (List D)) : TI := fun σ H R => ∃ B Γ, SR K F own B Γ σ H ∧ match t Γ with
  | .ok ds => ∀ J H' B', SR K F own B' Γ σ H' → Grow B H B' H' → IterOkB K J H' B' ds → R J H'
  | .raise c => ∀ H', Sm H H' → F.W (F.cv c) none σ H'
  | .bad => False
abbrev DIB (X : Cx) (F : FR) (own : List Nat) (tg iter : Expr) (t : DEnv → Res (List D)) : Prop := PI X tg iter (tIB X.K F own t)
theorem dib_of {X : Cx} {F : FR} {own : List Nat} {tg iter : Expr} {t : DEnv → Res (List D)} (h : DI X F own tg iter t) : DIB X F own tg iter t := PI.mono h fun σ H R ⟨B, Γ, s, p⟩ => by
  refine ⟨B, Γ, s, ?_⟩
  cases e : t Γ with
  | bad => rw [e] at p; exact p
  | raise c => rw [e] at p; exact p
  | ok ds =>
    rw [e] at p
    exact fun J H' B' s' g io => p J H' B' s' g (io.bor s'.sub)
theorem iterB_list {K : PySem.W.Frag} {H1 B1 : Hp} {a : Addr} {xs : List V} {ds : List D} (h : SqL K H1 a xs) (r : Reps K B1 xs ds) : IterOkB K (Itl K a) H1 B1 ds where
  go := fun i H s _ hi => ⟨xs, xs[i]'(by rw [r.length]; exact hi), sqL_sm s h, List.getElem?_eq_getElem _⟩
  stop := fun i H s _ hi => ⟨xs, sqL_sm s h, by rw [r.length]; exact hi⟩
  yld := fun i H x H' d s _ e y F own B Γ σ sr b => by
    obtain ⟨rfl, y⟩ := y
    obtain ⟨v, e1, r1⟩ := r.get e
    have := y xs (sqL_sm s h)
    rw [e1] at this
    cases this
    exact ⟨B, sr, Grow.refl, r1.mono b⟩
theorem iterB_tup {K : PySem.W.Frag} {H1 B1 : Hp} {a : Addr} {xs : List V} {ds : List D} (h : SqT K H1 a xs) (r : Reps K B1 xs ds) : IterOkB K (Itt K a) H1 B1 ds where
  go := fun i H s _ hi => ⟨xs, xs[i]'(by rw [r.length]; exact hi), sqT_sm s h, List.getElem?_eq_getElem _⟩
  stop := fun i H s _ hi => ⟨xs, sqT_sm s h, by rw [r.length]; exact hi⟩
  yld := fun i H x H' d s _ e y F own B Γ σ sr b => by
    obtain ⟨rfl, y⟩ := y
    obtain ⟨v, e1, r1⟩ := r.get e
    have := y xs (sqT_sm s h)
    rw [e1] at this
    cases this
    exact ⟨B, sr, Grow.refl, r1.mono b⟩
def rangeD (lo : Int) (n : Nat) : List D := (List.range n).map fun i => .int (lo + (i : Nat))
theorem iter_range {K : PySem.W.Frag} {B : Hp} {lo : Int} {n : Nat} : IterOk K (Itr lo n) B (rangeD lo n) where
  go := fun i H sub hi => by
    unfold rangeD at hi
    rw [List.length_map, List.length_range] at hi
    exact hi
  stop := fun i H sub hi => by
    unfold rangeD at hi
    rw [List.length_map, List.length_range] at hi
    exact hi
  yld := fun i H x H' d sub e y F own B1 Γ σ s b => by
    obtain ⟨rfl, rfl⟩ := y
    unfold rangeD at e
    rw [List.getElem?_map] at e
    cases q : (List.range n)[i]? with
    | none => rw [q] at e; cases e
    | some j =>
      rw [q] at e
      have hj : j = i := by
        have h1 := (List.getElem?_eq_some_iff.mp q)
        obtain ⟨h2, h3⟩ := h1
        rw [List.getElem_range] at h3
        exact h3.symm
      subst hj
      cases e
      exact ⟨B1, s, Grow.refl, .int _⟩
def sign1 (c : Nat) : D := .str ⟨#[c]⟩
theorem iter_str {K : PySem.W.Frag} {B : Hp} {x : Str} : IterOk K (Its x) B (x.cps.toList.map sign1) where
  go := fun i H sub hi => by
    rw [List.length_map] at hi
    exact hi
  stop := fun i H sub hi => by
    rw [List.length_map] at hi
    exact hi
  yld := fun i H v H' d sub e y F own B1 Γ σ s b => by
    obtain ⟨rfl, c, y, rfl⟩ := y
    rw [List.getElem?_map, Array.getElem?_toList, y] at e
    cases e
    exact ⟨B1, s, Grow.refl, .str _⟩

section
variable {X : Cx} {F : FR} {own : List Nat} {tg : Expr}
/-- a list, a tuple, a text -/
def iSeq (K : PySem.W.Frag) (tl : TE) : TI := fun σ H R => tl σ H fun x H1 => (∃ a, x = .ref a ∧ (∃ xs, SqL K H1 a xs) ∧ R (Itl K a) H1) ∨ (∃ a, x = .ref a ∧ (∃ xs, SqT K H1 a xs) ∧ R (Itt K a) H1) ∨ (∃ z, x = .str z ∧ R (Its z) H1)
theorem pi_seq {l : Expr} {tl : TE} (hl : PE X l tl) : PI X tg l (iSeq X.K tl) := by
  refine ⟨fun pins s σ H R I h => ?_⟩
  refine thn (hl.run pins s σ H _ I h) fun v s1 ⟨x, H1, I1, r1, q1⟩ => ?_
  rcases q1 with ⟨a, rfl, ⟨xs, hq⟩, q⟩ | ⟨a, rfl, ⟨xs, hq⟩, q⟩ | ⟨z, rfl, q⟩
  · cases r1
    obtain ⟨its, rv, p, hz⟩ := I1.list hq
    refine wpAny_pyIter_list p.isList ?_
    refine ⟨s1.heap.objs.size, [s1.heap.objs.size], _, _, H1, rfl, I1.kept (t' := s1.toks) fun b o e => Heap.get?_push_of_some _ e, turn_list a _, ⟨_, Heap.get?_push_size _ rfl, rfl, rfl⟩, fun b hb => ?_, q⟩
    have e : b = s1.heap.objs.size := by simpa using hb
    subst e
    exact I1.fpOk (Nat.le_refl _) (I1.hok.fresh (Nat.le_refl _))
  · cases r1
    obtain ⟨its, rv, p, hz⟩ := I1.tuple hq
    refine wpAny_pyIter_tuple (show s1.heap.IsTuple a its.toArray from p) ?_
    refine ⟨s1.heap.objs.size, [s1.heap.objs.size], _, _, H1, rfl, I1.kept (t' := s1.toks) fun b o e => Heap.get?_push_of_some _ e, turn_tuple a _, ⟨_, Heap.get?_push_size _ rfl, rfl, rfl⟩, fun b hb => ?_, q⟩
    have e : b = s1.heap.objs.size := by simpa using hb
    subst e
    exact I1.fpOk (Nat.le_refl _) (I1.hok.fresh (Nat.le_refl _))
  · obtain ⟨t, rfl⟩ := r1
    cases ha : z.cps.all (· < 128)
    · exact wpAny_pyIter_wide ha (pi_one (tk := s1.toks) I1 _ (turn_str _ z t "str_iterator" (.inr rfl)) ⟨_, Heap.get?_push_size _ rfl, rfl, rfl⟩ q)
    · exact wpAny_pyIter_ascii ha (pi_one (tk := s1.toks) I1 _ (turn_str _ z t "str_ascii_iterator" (.inl rfl)) ⟨_, Heap.get?_push_size _ rfl, rfl, rfl⟩ q)
def itemsD : D → Res (List D)
  | .list ds => .ok ds
  | .tuple ds => .ok ds
  | .str z => .ok (z.cps.toList.map sign1)
  | _ => .bad
def xItems (t : DEnv → Res D) : DEnv → Res (List D) := fun Γ => (t Γ).bind itemsD
theorem di_seq {l : Expr} {t : DEnv → Res D} (h : DE X F own .val l t) : DI X F own tg l (xItems t) := PI.mono (pi_seq h) fun σ H R ⟨B, Γ, s, p⟩ => by
  refine ⟨B, Γ, s, ?_⟩
  unfold xItems at p
  cases e : t Γ with
  | bad => rw [e] at p; exact p
  | raise c => rw [e] at p; exact p
  | ok d =>
    rw [e] at p
    intro v H' B' s' g r
    have r : Rep X.K B' v d := r
    cases r with
    | lst h r2 => exact .inl ⟨_, rfl, ⟨_, sqL_mono s'.sub h⟩, p _ _ B' s' g (iter_list h r2)⟩
    | tup h r2 => exact .inr (.inl ⟨_, rfl, ⟨_, SqT.of (s'.sub _ _ h)⟩, p _ _ B' s' g (iter_tup (SqT.of h) r2)⟩)
    | str z => exact .inr (.inr ⟨_, rfl, p _ _ B' s' g iter_str⟩)
    | _ => exact p.elim
theorem dib_seq {l : Expr} {t : DEnv → Res D} (h : DE X F own .bor l t) : DIB X F own tg l (xItems t) := PI.mono (pi_seq h) fun σ H R ⟨B, Γ, s, p⟩ => by
  refine ⟨B, Γ, s, ?_⟩
  unfold xItems at p
  cases e : t Γ with
  | bad => rw [e] at p; exact p
  | raise c => rw [e] at p; exact p
  | ok d =>
    rw [e] at p
    intro v H' B' s' g r
    have r : Bor X.K F B' H' v d := r
    cases d with
    | list ds =>
      obtain ⟨a, xs, rfl, h, r2⟩ := r.list s'.sub
      exact .inl ⟨a, rfl, ⟨xs, h⟩, p _ _ B' s' g (iterB_list h r2)⟩
    | tuple ds =>
      obtain ⟨a, xs, rfl, h, _, r2⟩ := r.tuple s'.sub
      exact .inr (.inl ⟨a, rfl, ⟨xs, h⟩, p _ _ B' s' g (iterB_tup h r2)⟩)
    | str z => exact .inr (.inr ⟨z, r.str, p _ _ B' s' g (IterOk.bor iter_str s'.sub)⟩)
    | _ => exact p.elim
def lim62 (i : Int) : Bool := decide (-(2 ^ 62) ≤ i ∧ i < 2 ^ 62)
def range1D : List D → Res (List D)
  | [.int j] => if lim62 j then .ok (rangeD 0 j.toNat) else .bad
  | _ => .bad
def range2D : List D → Res (List D)
  | [.int i, .int j] => if lim62 i && lim62 j then .ok (rangeD i (j - i).toNat) else .bad
  | _ => .bad
def xRange1 (t : DEnv → Res (List D)) : DEnv → Res (List D) := fun Γ => (t Γ).bind range1D
theorem tA_firstI {K : PySem.W.Frag} {B H : Hp} {Γ : DEnv} {σ : L2.St} {t : DEnv → Res (List D)} {f : List D → Res (List D)} {R : It → Hp → Prop} {R' : List V → Hp → Prop} (s : SR K F own B Γ σ H)
    (p : match (t Γ).bind f with
      | .ok ds => ∀ J H' B', SR K F own B' Γ σ H' → Grow B H B' H' → IterOk K J B' ds → R J H'
      | .raise c => ∀ H', Sm H H' → F.W (F.cv c) none σ H'
      | .bad => False)
    (k : ∀ ds vs H1 B1, SR K F own B1 Γ σ H1 → Reps K B1 vs ds → (match f ds with
      | .ok ds => ∀ J H' B', SR K F own B' Γ σ H' → Grow B1 H1 B' H' → IterOk K J B' ds → R J H'
      | .raise c => ∀ H', Sm H1 H' → F.W (F.cv c) none σ H'
      | .bad => False) → R' vs H1) : tA K F own .val t σ H R' := by
  refine ⟨B, Γ, s, ?_⟩
  cases e : t Γ with
  | bad => rw [e] at p; exact p
  | raise c => rw [e] at p; exact p
  | ok ds =>
    rw [e] at p
    intro vs H1 B1 s1 g r
    refine k ds vs H1 B1 s1 r.reps ?_
    have p : (match f ds with
      | .ok ds => ∀ J H' B', SR K F own B' Γ σ H' → Grow B H B' H' → IterOk K J B' ds → R J H'
      | .raise c => ∀ H', Sm H H' → F.W (F.cv c) none σ H'
      | .bad => False) := p
    cases q : f ds with
    | bad => rw [q] at p; exact p
    | raise c => rw [q] at p; exact fun H' h => p H' (g.hp.trans h)
    | ok ds => rw [q] at p; exact fun J H' B' s' g' => p J H' B' s' (g.trans g')
theorem di_range1 {a : Expr} {t : DEnv → Res D} {p pos : Pos} (ha : DE X F own .val a t) (hm : X.mg "range" = none) (hg : Gl X "range" := by rfl) (hs : starEach [a] X.env = [(false, eval a X.env)] := by rfl) : DI X F own tg (.Call (.Name "range" p) [a] [] pos) (xRange1 (xCons t xNil)) :=
  PI.mono (pi_range1 hg hm (da_cons ha da_nil (hs := hs)) hs) fun σ H R ⟨B, Γ, s, p⟩ => by
    unfold iRng1
    refine tA_firstI s p fun ds vs H1 B1 s1 r q => ?_
    cases r with
    | nil => exact q.elim
    | cons r1 r2 =>
      cases r2 with
      | cons r2 r3 => cases r1 <;> exact q.elim
      | nil =>
        cases r1 with
        | int j =>
          have q : (match (if lim62 j then Res.ok (rangeD 0 j.toNat) else .bad) with
            | .ok ds => ∀ J H' B', SR X.K F own B' Γ σ H' → Grow B1 H1 B' H' → IterOk X.K J B' ds → R J H'
            | .raise c => ∀ H', Sm H1 H' → F.W (F.cv c) none σ H'
            | .bad => False) := q
          cases h : lim62 j with
          | false => rw [h] at q; exact q.elim
          | true =>
            rw [h] at q
            have h' := of_decide_eq_true h
            exact ⟨j, rfl, h'.1, h'.2, q _ H1 B1 s1 Grow.refl iter_range⟩
        | _ => exact q.elim

/-! ### comprehensions -/
def FR.quiet (F : FR) : FR := { F with W := fun _ _ _ _ => False }
theorem takes_quiet {s : Shared} {H : Hp} {scope : Scope} {cenv : PySem.Env} {fp : List Addr} : Takes (X.blk s H scope cenv fp) F.quiet.W := takes0
theorem SR.quiet {K : PySem.W.Frag} {B H : Hp} {Γ : DEnv} {σ : L2.St} (s : SR K F own B Γ σ H) : SR K F.quiet own B Γ σ H := ⟨s.sub, s.same, s.old, s.len, s.dat, s.owd, s.apart, s.nt⟩
theorem SR.loud {K : PySem.W.Frag} {B H : Hp} {Γ : DEnv} {σ : L2.St} (s : SR K F.quiet own B Γ σ H) : SR K F own B Γ σ H := ⟨s.sub, s.same, s.old, s.len, s.dat, s.owd, s.apart, s.nt⟩
def wipeE (Γ : DEnv) : List Nat → DEnv
  | [] => Γ
  | v :: vs => (wipeE Γ vs).set v none
theorem SR.unset {K : PySem.W.Frag} {B H : Hp} {Γ : DEnv} {σ : L2.St} {i : Nat} (s : SR K F own B Γ σ H) (hi : i ∉ own) : SR K F own B (Γ.set i none) (σ.set i none) H := by
  have back : ∀ {j : Nat} {d : D}, (Γ.set i none)[j]? = some (some d) → i ≠ j ∧ Γ[j]? = some (some d) := fun {j d} e => by
    by_cases hji : i = j
    · subst hji
      have hl := (List.getElem?_eq_some_iff.mp e).1
      rw [List.length_set] at hl
      rw [List.getElem?_set_self hl] at e
      cases e
    · rw [List.getElem?_set_ne hji] at e
      exact ⟨hji, e⟩
  refine ⟨s.sub, s.same, s.old, by rw [List.length_set, List.length_set, s.len], fun j e hj ej => ?_, fun j e hj ej => ?_, fun j k e e' w hj hk hjk ej ek ev => ?_, s.nt⟩
  · obtain ⟨h1, h2⟩ := back ej
    rw [List.getElem?_set_ne h1]
    exact s.dat j e hj h2
  · obtain ⟨h1, h2⟩ := back ej
    rw [List.getElem?_set_ne h1]
    exact s.owd j e hj h2
  · obtain ⟨h1, h2⟩ := back ej
    obtain ⟨h3, h4⟩ := back ek
    rw [List.getElem?_set_ne h1] at ev
    rw [List.getElem?_set_ne h3]
    exact s.apart j k e e' w hj hk hjk h2 h4 ev
theorem SR.wiped {K : PySem.W.Frag} {B H : Hp} {Γ : DEnv} {σ : L2.St} (s : SR K F own B Γ σ H) : ∀ {vs : List Nat}, (∀ i ∈ vs, i ∉ own) → SR K F own B (wipeE Γ vs) (wipe σ vs) H
  | [], _ => s
  | v :: vs, h => (SR.wiped s fun i hi => h i (List.mem_cons_of_mem _ hi)).unset (h v List.mem_cons_self)
theorem wipe_get_in {σ : L2.St} {i : Nat} : ∀ {vs : List Nat}, i ∈ vs → i < σ.length → (wipe σ vs)[i]? = some none
  | [], h, _ => absurd h (by simp)
  | v :: vs, h, hl => by
    unfold wipe
    by_cases hv : v = i
    · subst hv
      exact List.getElem?_set_self (by rw [wipe_length]; exact hl)
    · rw [List.getElem?_set_ne hv]
      exact wipe_get_in ((List.mem_cons.mp h).resolve_left fun z => hv z.symm) hl
theorem wipe_get_out {σ : L2.St} {i : Nat} : ∀ {vs : List Nat}, i ∉ vs → (wipe σ vs)[i]? = σ[i]?
  | [], _ => rfl
  | v :: vs, h => by
    unfold wipe
    rw [List.getElem?_set_ne fun z => h (by rw [z]; exact List.mem_cons_self)]
    exact wipe_get_out fun z => h (List.mem_cons_of_mem _ z)
theorem wipe_agree {σ σ' : L2.St} {vs ts : List Nat} (a : AgreeBut ts (wipe σ vs) σ') (h : ∀ i ∈ ts, i ∈ vs) : wipe σ' vs = wipe σ vs := by
  refine List.ext_getElem? fun i => ?_
  have hl : σ'.length = σ.length := a.1.trans (wipe_length σ vs)
  by_cases hi : i ∈ vs
  · by_cases hlt : i < σ.length
    · rw [wipe_get_in hi hlt, wipe_get_in hi (by rw [hl]; exact hlt)]
    · rw [List.getElem?_eq_none (by rw [wipe_length, hl]; omega), List.getElem?_eq_none (by rw [wipe_length]; omega)]
  · rw [wipe_get_out hi, a.2 i fun z => hi (h i z)]
def bindB {α : Type} : Res α → (α → Res (List D)) → Res (List D)
  | .ok a, f => f a
  | _, _ => .bad
@[simp] theorem ok_bindB {α : Type} (a : α) (f : α → Res (List D)) : bindB (Res.ok a) f = f a := rfl
@[simp] theorem raise_bindB {α : Type} (c : Str) (f : α → Res (List D)) : bindB (Res.raise c) f = .bad := rfl
@[simp] theorem bad_bindB {α : Type} (f : α → Res (List D)) : bindB Res.bad f = .bad := rfl
/-- one clause: the target, the test, the element (nothing may raise here) -/
def compL (Γ : DEnv) (g : D → DEnv → Res DEnv) (tt : DEnv → Res Bool) (te : DEnv → Res D) : List D → Res (List D)
  | [] => .ok []
  | d :: ds => bindB (g d Γ) fun Γ1 => bindB (tt Γ1) fun b => if b then bindB (te Γ1) fun y => bindB (compL Γ g tt te ds) fun ys => .ok (y :: ys) else compL Γ g tt te ds
theorem compL_le {Γ : DEnv} {g : D → DEnv → Res DEnv} {tt : DEnv → Res Bool} {te : DEnv → Res D} : ∀ {ds ys : List D}, compL Γ g tt te ds = .ok ys → ys.length ≤ ds.length
  | [], ys, e => by cases e; exact Nat.le_refl _
  | d :: ds, ys, e => by
    unfold compL at e
    cases e1 : g d Γ with
    | ok Γ1 =>
      rw [e1, ok_bindB] at e
      cases e2 : tt Γ1 with
      | ok b =>
        rw [e2, ok_bindB] at e
        cases b with
        | false =>
          have := compL_le (ds := ds) (ys := ys) e
          rw [List.length_cons]; omega
        | true =>
          have e : (bindB (te Γ1) fun y => bindB (compL Γ g tt te ds) fun ys => .ok (y :: ys)) = .ok ys := e
          cases e3 : te Γ1 with
          | ok y =>
            rw [e3, ok_bindB] at e
            cases e4 : compL Γ g tt te ds with
            | ok zs =>
              rw [e4, ok_bindB] at e
              cases e
              have := compL_le e4
              rw [List.length_cons, List.length_cons]; omega
            | _ => rw [e4] at e; cases e
          | _ => rw [e3] at e; cases e
      | _ => rw [e2] at e; cases e
    | _ => rw [e1] at e; cases e
theorem compL_noraise {Γ : DEnv} {g : D → DEnv → Res DEnv} {tt : DEnv → Res Bool} {te : DEnv → Res D} {c : Str} : ∀ {ds : List D}, compL Γ g tt te ds = .raise c → False
  | [], e => by cases e
  | d :: ds, e => by
    unfold compL at e
    cases e1 : g d Γ with
    | ok Γ1 =>
      rw [e1, ok_bindB] at e
      cases e2 : tt Γ1 with
      | ok b =>
        rw [e2, ok_bindB] at e
        cases b with
        | false => exact compL_noraise (ds := ds) e
        | true =>
          have e : (bindB (te Γ1) fun y => bindB (compL Γ g tt te ds) fun ys => .ok (y :: ys)) = .raise c := e
          cases e3 : te Γ1 with
          | ok y =>
            rw [e3, ok_bindB] at e
            cases e4 : compL Γ g tt te ds with
            | ok zs => rw [e4] at e; cases e
            | _ => rw [e4] at e; cases e
          | _ => rw [e3] at e; cases e
      | _ => rw [e2] at e; cases e
    | _ => rw [e1] at e; cases e
def xComp (vs : List Nat) (it : DEnv → Res (List D)) (g : D → DEnv → Res DEnv) (tt : DEnv → Res Bool) (te : DEnv → Res D) : DEnv → Res D := fun Γ => (it Γ).bind fun ds => if ds.length ≤ sizeLine then (compL (wipeE Γ vs) g tt te ds).bind fun ys => .ok (.list ys) else .bad
def tT (K : PySem.W.Frag) (F : FR) (own : List Nat) (t : DEnv → Res Bool) : TT := tB K F own t
abbrev DTs (X : Cx) (F : FR) (own : List Nat) (ifs : List Expr) (t : DEnv → Res Bool) : Prop := PTs X ifs (tB X.K F own t)
def xYes : DEnv → Res Bool := fun _ => .ok true
theorem PTs.mono {e : List Expr} {t t' : TT} (h : PTs X e t) (k : ∀ σ H Q, t' σ H Q → t σ H Q) : PTs X e t' := ⟨fun pins s σ H Q I q => h.run pins s σ H Q I (k σ H Q q)⟩
theorem dts_nil : DTs X F own [] xYes := PTs.mono pts_nil fun σ H Q ⟨B, Γ, s, p⟩ => p true H B s Grow.refl rfl
theorem dts_one {c : Expr} {t : DEnv → Res Bool} (h : DT X F own c t) : DTs X F own [c] t := pts_one h
theorem lc_of {X : Cx} {F : FR} {own : List Nat} {ts : List Nat} (vs : List (Str × Nat)) {it : DEnv → Res (List D)} {g : D → DEnv → Res DEnv} {tt : DEnv → Res Bool} {te : DEnv → Res D} (hts : ∀ i ∈ ts, i ∈ vs.map (·.2)) (hvo : ∀ i ∈ vs.map (·.2), i ∉ own) :
    ∀ σ H Q, tD X.K F own .fresh (xComp (vs.map (·.2)) it g tt te) σ H Q → tLc (tIB X.K F own it) (tG X.K F.quiet own ts g) (tB X.K F.quiet own tt) (tD X.K F.quiet own .val te) (vs.map (·.2)) σ H Q := fun σ H Q ⟨B, Γ, s, p⟩ => by
  unfold tLc
  refine ⟨B, Γ, s, ?_⟩
  unfold xComp at p
  cases e : it Γ with
  | bad => rw [e] at p; exact p
  | raise c => rw [e] at p; exact p
  | ok ds =>
    rw [e, Res.ok_bind] at p
    by_cases hz : ds.length ≤ sizeLine
    · rw [if_pos hz] at p
      intro J H1 B1 s1 g1 io Dn hDn
      cases ec : compL (wipeE Γ (vs.map (·.2))) g tt te ds with
      | bad => rw [ec] at p; exact p.elim
      | raise c =>
        exfalso
        exact compL_noraise ec
      | ok ys =>
        rw [ec] at p
        have p := Post.mono early_RV p g1
        have p : Post X.K F own (RV X.K F own Γ σ .fresh) (.ok (.list ys)) Γ σ H1 B1 Q := p
        refine ⟨fun i m H' => ∃ B' acc outs rest, SR X.K F own B' Γ σ H' ∧ H' Dn = some (.lst acc) ∧ Grow B1 H1 B' H' ∧ B' Dn = none ∧ Reps X.K B' acc outs ∧ ys = outs ++ rest ∧ compL (wipeE Γ (vs.map (·.2))) g tt te (ds.drop i) = .ok rest ∧ m = ds.length - i ∧ outs.length ≤ i, ?_, ?_⟩
        · exact ⟨ds.length, B1, [], [], ys, s1.grown hDn, upd_same, grow_new hDn, s1.noB hDn, .nil, rfl, ec, rfl, Nat.le_refl _⟩
        · rintro i m H2 ⟨B2, acc, outs, rest, s2, hD2, g2, nB2, racc, eys, ec2, em, hle⟩
          have b2 : Same B1 B2 := g2.same s1.sub
          have sH : Same B1 H2 := b2.trans s2.sub
          by_cases hlt : i < ds.length
          · refine .inr ⟨io.go i H2 g2.hp sH hlt, fun H' => ∃ B' acc outs rest, SR X.K F own B' Γ σ H' ∧ H' Dn = some (.lst acc) ∧ Grow B1 H1 B' H' ∧ B' Dn = none ∧ Reps X.K B' acc outs ∧ ys = outs ++ rest ∧ compL (wipeE Γ (vs.map (·.2))) g tt te (ds.drop (i + 1)) = .ok rest ∧ outs.length ≤ i + 1, fun H' ⟨B', acc, outs, rest, q1, q2, q3, q4, q5, q6, q7, q8⟩ => ⟨ds.length - (i + 1), by omega, B', acc, outs, rest, q1, q2, q3, q4, q5, q6, q7, rfl, q8⟩, fun x H3 y => ?_⟩
            have hd : ds[i]? = some ds[i] := List.getElem?_eq_getElem hlt
            obtain ⟨B3, s3, g3, r3⟩ := io.yld i H2 x H3 ds[i] g2.hp sH hd y F own B2 Γ σ s2 b2
            rw [List.drop_eq_getElem_cons hlt] at ec2
            unfold compL at ec2
            cases eg : g ds[i] (wipeE Γ (vs.map (·.2))) with
            | bad => rw [eg] at ec2; cases ec2
            | raise c => rw [eg] at ec2; cases ec2
            | ok Γ1 =>
              rw [eg, ok_bindB] at ec2
              refine ⟨B3, wipeE Γ (vs.map (·.2)), ds[i], (s3.wiped hvo).quiet, r3, Γ1, eg, fun σ4 s4 ag => ⟨wipe_agree ag hts, ?_⟩⟩
              refine ⟨B3, Γ1, s4, ?_⟩
              cases et : tt Γ1 with
              | bad => rw [et] at ec2; cases ec2
              | raise c => rw [et] at ec2; cases ec2
              | ok b =>
                rw [et, ok_bindB] at ec2
                intro b' H5 B5 s5 g5 rb
                have rb : b' = b := rb
                subst rb
                -- back to the def's slots
                have back : ∀ {B6 H6 : Hp}, SR X.K F.quiet own B6 Γ1 σ4 H6 → Grow B3 H3 B6 H6 → SR X.K F own B6 Γ σ H6 := fun {B6 H6} s6 g6 => s3.after g6 s6.sub s6.nt
                cases b' with
                | false =>
                  rw [if_neg Bool.false_ne_true]
                  have g25 : Grow B2 H2 B5 H5 := g3.trans g5
                  refine ⟨B5, acc, outs, rest, back s5 g5, g25.hp.obj _ _ hD2 (fun ps z => nomatch z), g2.trans g25, by rw [g25.fz Dn (by rw [hD2]; exact fun z => nomatch z)]; exact nB2, racc.mono (g25.same s2.sub), eys, ec2, by omega⟩
                | true =>
                  rw [if_pos rfl]
                  refine ⟨B5, Γ1, s5, ?_⟩
                  have ec2 : (bindB (te Γ1) fun y => bindB (compL (wipeE Γ (vs.map (·.2))) g tt te (ds.drop (i + 1))) fun ys => .ok (y :: ys)) = .ok rest := ec2
                  cases ee : te Γ1 with
                  | bad => rw [ee] at ec2; cases ec2
                  | raise c => rw [ee] at ec2; cases ec2
                  | ok y =>
                    rw [ee, ok_bindB] at ec2
                    cases er : compL (wipeE Γ (vs.map (·.2))) g tt te (ds.drop (i + 1)) with
                    | bad => rw [er] at ec2; cases ec2
                    | raise c => rw [er] at ec2; cases ec2
                    | ok rest' =>
                      rw [er, ok_bindB] at ec2
                      cases ec2
                      intro yv H6 B6 s6 g6 ry
                      have ry : Rep X.K B6 yv y := ry
                      have g26 : Grow B2 H2 B6 H6 := (g3.trans g5).trans g6
                      have hD6 : H6 Dn = some (.lst acc) := g26.hp.obj _ _ hD2 (fun ps z => nomatch z)
                      have nB6 : B6 Dn = none := by rw [g26.fz Dn (by rw [hD2]; exact fun z => nomatch z)]; exact nB2
                      have s6' := back s6 (g5.trans g6)
                      have hlacc : acc.length < sizeLine := by
                        rw [racc.length]; omega
                      refine ⟨acc, hD6, hlacc, B6, acc ++ [yv], outs ++ [y], rest', ?_, upd_same, ?_, nB6, (racc.mono (g26.same s2.sub)).append (.cons ry .nil), by rw [eys]; simp, rfl, by rw [List.length_append]; simp; omega⟩
                      · -- the list that grows is nobody's slot
                        refine ⟨fun b x e => ?_, s6'.same.mut (s1.same.free hDn) hD6 (fun ps z => nomatch z) (fun φ z => nomatch z), s6'.old, s6'.len, s6'.dat, fun j d hj ej => ?_, s6'.apart, s6'.nt⟩
                        · rw [upd_ne (ne_of_none e nB6)]; exact s6'.sub b x e
                        · obtain ⟨v, e1, a, u, rfl, n1, h1, r, n0⟩ := s6'.owd j d hj ej
                          have hne : a ≠ Dn := fun z => by
                            obtain ⟨v', e1', a', u', e2', n1', h1', _⟩ := s1.owd j d hj ej
                            rw [e1] at e1'
                            cases e1'
                            cases e2'
                            rw [z, hDn] at h1'
                            cases h1'
                          exact ⟨_, e1, a, u, rfl, n1, by rw [upd_ne hne]; exact h1, r, n0⟩
                      · have g16 := g2.trans g26
                        exact ⟨g16.hp.mut hDn hD6 (fun ps z => nomatch z) (fun φ z => nomatch z), g16.fz⟩
          · refine .inl ⟨io.stop i H2 g2.hp sH (by omega), ?_⟩
            rw [List.drop_eq_nil_of_le (by omega)] at ec2
            cases ec2
            rw [List.append_nil] at eys
            subst eys
            refine p _ _ B2 s2 g2 ⟨⟨Dn, _, rfl, nB2, hD2, show ORep X.K B2 _ (.lst acc) (.list ys) from racc, s1.same.free hDn⟩, fun j d hj ej z => ?_, fun a ea => by cases ea; exact hDn⟩
            obtain ⟨v', e1', a', u', e2', n1', h1', _⟩ := s1.owd j d hj ej
            rw [e1'] at z
            cases z
            cases e2'
            rw [hDn] at h1'
            cases h1'
    · rw [if_neg hz] at p
      exact p.elim
theorem de_comp {ts : List Nat} {elt iter : Expr} {ifs : List Expr} {scope : Scope} (vs : List (Str × Nat)) {pos : Pos} {it : DEnv → Res (List D)} {g : D → DEnv → Res DEnv} {tt : DEnv → Res Bool} {te : DEnv → Res D} (hc : X.calm = true) (hN : X.N.Nodup) (hi : DIB X F own tg iter it) (ok : BlkOk X.N X.env.scope scope vs)
    (hg : ∀ (s : Shared) (H : Hp) (C : Addr) (cl : List (Str × Addr)) (fp : List Addr), DG (X.blk s H scope (compEnvC scope cl C X.env) fp) F.quiet own ts tg g) (ht : ∀ (s : Shared) (H : Hp) (C : Addr) (cl : List (Str × Addr)) (fp : List Addr), DTs (X.blk s H scope (compEnvC scope cl C X.env) fp) F.quiet own ifs tt)
    (he : ∀ (s : Shared) (H : Hp) (C : Addr) (cl : List (Str × Addr)) (fp : List Addr), DE (X.blk s H scope (compEnvC scope cl C X.env) fp) F.quiet own .val elt te) (hts : ∀ i ∈ ts, i ∈ vs.map (·.2) := by decide) (hvo : ∀ i ∈ vs.map (·.2), i ∉ own := by decide) (hs : ∀ x, foldedSetIterable iter X.env x = pure x := by intro _; rfl) :
    DE X F own .fresh (.ListComp elt [⟨tg, iter, ifs, 0⟩] scope pos) (xComp (vs.map (·.2)) it g tt te) := PE.mono (pe_lc (g := tG X.K F.quiet own ts g) (tt := tB X.K F.quiet own tt) (te := tD X.K F.quiet own .val te) hc hN hi ok hg ht he hs) (lc_of vs hts hvo)
end
end DL

/-! DL: lists that grow, dicts. -/
namespace DL
open PySem PySem.Spec PyProof.Rows L2
variable [TabCx] [WCx]

def oList : Option (Option D) → (List D → Out) → Out
  | some (some (.list ds)), f => f ds
  | _, _ => .bad
def oDict : Option (Option D) → (List (D × D) → Out) → Out
  | some (some (.dict es)), f => f es
  | _, _ => .bad
@[simp] theorem oList_ok (ds : List D) (f : List D → Out) : oList (some (some (.list ds))) f = f ds := rfl
@[simp] theorem oDict_ok (ds : List (D × D)) (f : List (D × D) → Out) : oDict (some (some (.dict ds))) f = f ds := rfl
theorem Own.listAt {K : PySem.W.Frag} {F : FR} {B H : Hp} {v : V} {ds : List D} (r : Own K F B H v (.list ds)) : ∃ a xs, v = .ref a ∧ H a = some (.lst xs) ∧ Reps K B xs ds := by
  obtain ⟨a, o, rfl, _, h, r, _⟩ := r
  cases o with
  | lst xs => exact ⟨a, xs, rfl, h, r⟩
  | _ => exact False.elim r

section
variable {X : Cx} {F : FR} {own : List Nat}
/-! ### x.append(e), x.extend(e) of an owned list -/
def sAppend (i : Nat) (te : DEnv → Res D) : DEnv → Out := fun Γ => oList Γ[i]? fun ds => oBind (te Γ) fun d => if ds.length < sizeLine then .next (Γ.set i (some (.list (ds ++ [d])))) else .bad
theorem own_slot {K : PySem.W.Frag} {B H : Hp} {Γ : DEnv} {σ : L2.St} {i : Nat} {ds : List D} (s : SR K F own B Γ σ H) (hi : i ∈ own) (e : Γ[i]? = some (some (.list ds))) : ∃ a xs, σ[i]? = some (some (.ref a)) ∧ H a = some (.lst xs) ∧ Reps K B xs ds := by
  obtain ⟨v, e1, r⟩ := s.owd i _ hi e
  obtain ⟨a, xs, rfl, h, r⟩ := r.listAt
  exact ⟨a, xs, e1, h, r⟩
theorem oList_of {o : Option (Option D)} {f : List D → Out} {K : PySem.W.Frag} {own' : List Nat} {Dn : Ends} {B : Hp} (p : OPost K F own' Dn (oList o f) B) : ∃ ds, o = some (some (.list ds)) := by
  match o, p with
  | some (some (.list ds)), _ => exact ⟨ds, rfl⟩
  | none, p => exact p.elim
  | some none, p => exact p.elim
  | some (some .none), p => exact p.elim
  | some (some (.bool _)), p => exact p.elim
  | some (some (.int _)), p => exact p.elim
  | some (some (.str _)), p => exact p.elim
  | some (some (.tuple _)), p => exact p.elim
  | some (some (.dict _)), p => exact p.elim
theorem oDict_of {o : Option (Option D)} {f : List (D × D) → Out} {K : PySem.W.Frag} {own' : List Nat} {Dn : Ends} {B : Hp} (p : OPost K F own' Dn (oDict o f) B) : ∃ ds, o = some (some (.dict ds)) := by
  match o, p with
  | some (some (.dict ds)), _ => exact ⟨ds, rfl⟩
  | none, p => exact p.elim
  | some none, p => exact p.elim
  | some (some .none), p => exact p.elim
  | some (some (.bool _)), p => exact p.elim
  | some (some (.int _)), p => exact p.elim
  | some (some (.str _)), p => exact p.elim
  | some (some (.tuple _)), p => exact p.elim
  | some (some (.list _)), p => exact p.elim
theorem ds_append (i : Nat) {x : Str} {e : Expr} {te : DEnv → Res D} {p1 p2 p3 p4 : Pos} (he : DE X F own .val e te) (hi : i ∈ own := by decide) (hN : X.N[i]? = some x := by rfl) (hv : Vis X.env.scope x := by first | exact Or.inl rfl | exact Or.inr (Or.inl rfl) | exact Or.inr (Or.inr rfl)) (hd : (x == ("__debug__" : Str)) = false := by decide)
    (hcd : (x == ("__classdict__" : Str)) = false := by decide) (hbase : attributeBase (.Name x p1) "append" X.env (eval (.Name x p1) X.env) = eval (.Name x p1) X.env := by rfl)
    (hfew : ((backTo p3 (starEach [e] X.env)).all (fun x => !x.1) && (backToKw p3 (keywordEach [] X.env)).all (fun x => x.1.isSome) && decide (([e] : List Expr).length + ([] : List Keyword).length + (if ([] : List Keyword).isEmpty then 0 else 1) < 30)) = true := by rfl)
    (hline : (p2.endLine == p3.line) = true := by rfl) (hs : starEach [e] X.env = (false, eval e X.env) :: starEach [] X.env := by rfl) (hplain : (backTo p3 (starEach [] X.env)).any (·.1) = false := by rfl) (hsw : swapsWith (.Call (.Attribute (.Name x p1) "append" p2) [e] [] p3) none p4.line X.env = pure false := by rfl) :
    DS X F own own (.Expr (.Call (.Attribute (.Name x p1) "append" p2) [e] [] p3) p4) (sAppend i te) :=
  PS.mono (ps_expr (pe_bm PySem.F.plainAttrs_list PySem.F.slot_list_append PySem.F.type_list_append mt_append (pe_var hN hv hd hcd) (pa_cons he pa_nil hs) hbase hfew hline hs hplain) hsw) fun Dn σ H ⟨B, Γ, s, p⟩ => by
    unfold tDrop tBM tVar tCons
    unfold sAppend at p
    obtain ⟨ds, ei⟩ := oList_of p
    rw [ei] at p
    obtain ⟨a, xs, ev, hL, rL⟩ := own_slot s hi ei
    refine ⟨.ref a, ev, .inl ⟨rfl, xs, SqL.of hL⟩, ?_⟩
    refine tD_firstO s p fun d v H1 B1 _ s1 g1 sb r q => ?_
    have q : OPost X.K F own Dn (if ds.length < sizeLine then .next (Γ.set i (some (.list (ds ++ [d])))) else .bad) B1 := q
    by_cases hz : ds.length < sizeLine
    · rw [if_pos hz] at q
      have h1 := g1.hp.get hL
      refine ⟨a, xs, v, rfl, rfl, h1, by rw [rL.length]; exact hz, ?_⟩
      exact q _ _ B1 (s1.mutate hi ei ev (show ORep X.K B1 _ (.lst (xs ++ [v])) (.list (ds ++ [d])) from (rL.mono sb).append (.cons r .nil))) (Same.refl _)
    · rw [if_neg hz] at q
      exact q.elim
/-- x.extend(e), e a list or a tuple -/
def seqOf : D → Res (List D)
  | .list ds => .ok ds
  | .tuple ds => .ok ds
  | _ => .bad
def sExtend (i : Nat) (te : DEnv → Res D) : DEnv → Out := fun Γ => oList Γ[i]? fun ds => oBind (te Γ) fun d => oBind (seqOf d) fun es => if ds.length + es.length ≤ sizeLine then .next (Γ.set i (some (.list (ds ++ es)))) else .bad
theorem list_extend_any (l : Addr) (items : Array Value) (n : Nat) (b : Addr) (items2 : Array Value) (n2 : Nat) (sl2 : Array (Option Value)) (hc0 : ¬(!items.isEmpty && Builtin.List.listTooLong (items.size + items2.size)) = true) (hc1 : items.size ≤ sizeLine) (hs2 : items.size + items2.size ≤ sizeLine + 1) :
    Meets (Builtin.«list.extend» ⟨[.ref l, .ref b], []⟩) (fun _ R s => s.heap.get? l = some { cls := .type "list", dict := none, data := .seq items n, slots := #[] } ∧ s.heap.get? b = some { cls := .type "list", dict := none, data := .seq items2 n2, slots := sl2 } ∧ R (.ok (.ret Value.none)) { s with heap := s.heap.update l (Obj.mapSeq fun x => x ++ items2), toks := s.toks }) :=
  .of_wp fun prog w A R s h => by
    obtain ⟨hp, g, d, tk, os⟩ := s; obtain ⟨hl, hb, h⟩ := h; have f1 := AutoSeq1.idx_int; have f2 := AutoSeq1.sub_tuple_tuple; have f3 := AutoSeq1.sub_list_list; have f4 := AutoSeq1.sub_tuple_list; have f5 := AutoSeq1.sub_list_tuple
    have hz' : (items ++ items2).size ≤ sizeLine + 1 := by rw [Array.size_append]; exact hs2
    wp_walk using (wpAny_updateSeq hl rfl (hz := hc1) (_hz' := hz')), AutoSeq1.wpAny_loadPart' hl, AutoSeq1.wpAny_loadPart' hb
    exact ⟨_, rfl, h⟩
theorem list_extend_anyT (l : Addr) (items : Array Value) (n : Nat) (b : Addr) (items2 : Array Value) (n2 : Nat) (d2 : Option Addr) (sl2 : Array (Option Value)) (hc0 : ¬(!items.isEmpty && Builtin.List.listTooLong (items.size + items2.size)) = true) (hc1 : items.size ≤ sizeLine) (hs2 : items.size + items2.size ≤ sizeLine + 1) :
    Meets (Builtin.«list.extend» ⟨[.ref l, .ref b], []⟩) (fun _ R s => s.heap.get? l = some { cls := .type "list", dict := none, data := .seq items n, slots := #[] } ∧ s.heap.get? b = some { cls := .type "tuple", dict := d2, data := .seq items2 n2, slots := sl2 } ∧ R (.ok (.ret Value.none)) { s with heap := s.heap.update l (Obj.mapSeq fun x => x ++ items2), toks := s.toks }) :=
  .of_wp fun prog w A R s h => by
    obtain ⟨hp, g, d, tk, os⟩ := s; obtain ⟨hl, hb, h⟩ := h; have f1 := AutoSeq1.idx_int; have f2 := AutoSeq1.sub_tuple_tuple; have f3 := AutoSeq1.sub_list_list; have f4 := AutoSeq1.sub_tuple_list; have f5 := AutoSeq1.sub_list_tuple
    have hz' : (items ++ items2).size ≤ sizeLine + 1 := by rw [Array.size_append]; exact hs2
    wp_walk using (wpAny_updateSeq hl rfl (hz := hc1) (_hz' := hz')), AutoSeq1.wpAny_loadPart' hl, AutoSeq1.wpAny_loadPart' hb
    exact ⟨_, rfl, h⟩
def rExtA (K : PySem.W.Frag) : V → List V → Hp → VK → Prop := fun x vs H Q => ∃ l b xs zs, x = .ref l ∧ vs = [.ref b] ∧ H l = some (.lst xs) ∧ (SqL K H b zs ∨ SqT K H b zs) ∧ xs.length + zs.length ≤ sizeLine ∧ Q .non (upd H l (.lst (xs ++ zs)))
theorem mt_extA : MtM X "list.extend" (rExtA X.K) := by
  intro pins s σ H x vs v us Q I rx rv h
  obtain ⟨l, b, xs, zs, rfl, rfl, hH, hB, hz, q⟩ := h
  cases rx
  obtain ⟨u, rfl, ru⟩ := rv.one
  cases ru
  obtain ⟨z, its, n, r, hl, e⟩ := I.lstM hH
  have fin : ∀ its2 : List Value, Vals zs its2 → wants (EP X pins σ Q) X.xe (.ok (.ret Value.none)) { s with heap := s.heap.update l (Obj.mapSeq fun x => x ++ its2.toArray), toks := s.toks } := fun its2 r2 =>
    ⟨.non, _, I.lset (its' := its ++ its2) hH e (by simp) (r.append r2) (by rw [List.length_append]; omega), rfl, q⟩
  have big : ∀ its2 : List Value, Vals zs its2 → its.toArray.size + its2.toArray.size ≤ sizeLine := fun its2 r2 => by
    have := r2.length
    rw [List.size_toArray, List.size_toArray]; omega
  have long : ∀ its2 : List Value, Vals zs its2 → ¬ (!its.toArray.isEmpty && Builtin.List.listTooLong (its.toArray.size + its2.toArray.size)) = true := fun its2 r2 => by
    rw [notLongL (big its2 r2), Bool.and_false]
    exact Bool.false_ne_true
  rcases hB with hB | hB
  · obtain ⟨its2, r2, pl2, z2⟩ := I.list hB
    obtain ⟨n2, sl2, e2⟩ := plainL_get pl2
    exact call_meets F.slot_list_extend ⟨_, e, rfl⟩ F.entry_list_extend (F.args_list_extend_2 _ _) (list_extend_any l its.toArray n b its2.toArray n2 sl2 (long its2 r2) (by rw [List.size_toArray]; omega) (by have := big its2 r2; omega)) ⟨e, e2, fin its2 r2⟩
  · obtain ⟨its2, r2, ⟨⟨c2, d2, dt2, sl2⟩, e2, hc2, n2, hd2⟩, z2⟩ := I.tuple hB
    dsimp only at hc2 hd2
    subst hc2 hd2
    exact call_meets F.slot_list_extend ⟨_, e, rfl⟩ F.entry_list_extend (F.args_list_extend_2 _ _) (list_extend_anyT l its.toArray n b its2.toArray n2 d2 sl2 (long its2 r2) (by rw [List.size_toArray]; omega) (by have := big its2 r2; omega)) ⟨e, e2, fin its2 r2⟩
theorem ds_extend (i : Nat) {x : Str} {e : Expr} {te : DEnv → Res D} {p1 p2 p3 p4 : Pos} (he : DE X F own .val e te) (hi : i ∈ own := by decide) (hN : X.N[i]? = some x := by rfl) (hv : Vis X.env.scope x := by first | exact Or.inl rfl | exact Or.inr (Or.inl rfl) | exact Or.inr (Or.inr rfl)) (hd : (x == ("__debug__" : Str)) = false := by decide)
    (hcd : (x == ("__classdict__" : Str)) = false := by decide) (hbase : attributeBase (.Name x p1) "extend" X.env (eval (.Name x p1) X.env) = eval (.Name x p1) X.env := by rfl)
    (hfew : ((backTo p3 (starEach [e] X.env)).all (fun x => !x.1) && (backToKw p3 (keywordEach [] X.env)).all (fun x => x.1.isSome) && decide (([e] : List Expr).length + ([] : List Keyword).length + (if ([] : List Keyword).isEmpty then 0 else 1) < 30)) = true := by rfl)
    (hline : (p2.endLine == p3.line) = true := by rfl) (hs : starEach [e] X.env = (false, eval e X.env) :: starEach [] X.env := by rfl) (hplain : (backTo p3 (starEach [] X.env)).any (·.1) = false := by rfl) (hsw : swapsWith (.Call (.Attribute (.Name x p1) "extend" p2) [e] [] p3) none p4.line X.env = pure false := by rfl) :
    DS X F own own (.Expr (.Call (.Attribute (.Name x p1) "extend" p2) [e] [] p3) p4) (sExtend i te) :=
  PS.mono (ps_expr (pe_bm PySem.F.plainAttrs_list PySem.F.slot_list_extend PySem.F.type_list_extend mt_extA (pe_var hN hv hd hcd) (pa_cons he pa_nil hs) hbase hfew hline hs hplain) hsw) fun Dn σ H ⟨B, Γ, s, p⟩ => by
    unfold tDrop tBM tVar tCons
    unfold sExtend at p
    obtain ⟨ds, ei⟩ := oList_of p
    rw [ei] at p
    obtain ⟨a, xs, ev, hL, rL⟩ := own_slot s hi ei
    refine ⟨.ref a, ev, .inl ⟨rfl, xs, SqL.of hL⟩, ?_⟩
    refine tD_firstO s p fun d v H1 B1 _ s1 g1 sb r q => ?_
    have r : Rep X.K B1 v d := r
    have h1 := g1.hp.get hL
    have fin : ∀ (es : List D) (b : Addr) (zs : List V), v = .ref b → (SqL X.K H1 b zs ∨ SqT X.K H1 b zs) → Reps X.K B1 zs es → OPost X.K F own Dn (if ds.length + es.length ≤ sizeLine then .next (Γ.set i (some (.list (ds ++ es)))) else .bad) B1 → rExtA X.K (.ref a) [v] H1 fun _ H1 => Dn.nx σ H1 := fun es b zs ev2 hs rz q => by
      subst ev2
      by_cases hz : ds.length + es.length ≤ sizeLine
      · rw [if_pos hz] at q
        exact ⟨a, b, xs, zs, rfl, rfl, h1, hs, by rw [rL.length, rz.length]; exact hz, q _ _ B1 (s1.mutate hi ei ev (show ORep X.K B1 _ (.lst (xs ++ zs)) (.list (ds ++ es)) from (rL.mono sb).append rz)) (Same.refl _)⟩
      · rw [if_neg hz] at q
        exact q.elim
    cases r with
    | lst h r2 => exact fin _ _ _ rfl (.inl (sqL_mono s1.sub h)) r2 q
    | tup h r2 => exact fin _ _ _ rfl (.inr (SqT.of (s1.sub _ _ h))) r2 q
    | _ => exact q.elim

/-! ### dicts -/
def dGet (es : List (D × D)) (k : D) : Option D := (es.find? fun e => PyData.eqv e.1 k).map (·.2)
def dPut (es : List (D × D)) (k v : D) : List (D × D) := if es.any fun e => PyData.eqv e.1 k then es.map fun e => if PyData.eqv e.1 k then (e.1, v) else e else es ++ [(k, v)]
theorem eqv_kD (a b : Key) : PyData.eqv (kD a) (kD b) = decide (a = b) := by
  cases a with
  | inl i => cases b with
    | inl j => show (i == j) = _; rw [key_ll]
    | inr y => rfl
  | inr x => cases b with
    | inl j => rfl
    | inr y => show (x == y) = _; rw [key_rr]; exact Bool.beq_eq_decide_eq x y
theorem eqv_kDs : ∀ (a b : List Key), PyData.eqvAll (a.map kD) (b.map kD) = decide (a = b)
  | [], [] => rfl
  | [], _ :: _ => rfl
  | _ :: _, [] => rfl
  | x :: a, y :: b => by
    show (PyData.eqv (kD x) (kD y) && PyData.eqvAll (a.map kD) (b.map kD)) = _
    rw [eqv_kD, eqv_kDs a b]
    by_cases h1 : x = y
    · by_cases h2 : a = b
      · simp [h1, h2]
      · simp [h1, h2]
    · simp [h1]
theorem eqv_tup (a b : List Key) : PyData.eqv (.tuple (a.map kD)) (.tuple (b.map kD)) = decide (a = b) := eqv_kDs a b
def keyOf : D → Option Key
  | .int i => some (.inl i)
  | .str x => some (.inr x)
  | _ => none
theorem keyOf_eq {d : D} {k : Key} (h : keyOf d = some k) : d = kD k := by
  cases d <;> cases h <;> rfl
def keysOf : List D → Option (List Key)
  | [] => some []
  | d :: ds => match keyOf d, keysOf ds with
    | some k, some ks => some (k :: ks)
    | _, _ => none
theorem keysOf_eq : ∀ {ds : List D} {ks : List Key}, keysOf ds = some ks → ds = ks.map kD
  | [], ks, h => by cases h; rfl
  | d :: ds, ks, h => by
    unfold keysOf at h
    cases e1 : keyOf d with
    | none => rw [e1] at h; cases h
    | some k =>
      cases e2 : keysOf ds with
      | none => rw [e1, e2] at h; cases h
      | some ks' =>
        rw [e1, e2] at h
        cases h
        rw [List.map_cons, ← keyOf_eq e1, ← keysOf_eq e2]
theorem rep_kD {K : PySem.W.Frag} {B : Hp} {v : V} {k : Key} (r : Rep K B v (kD k)) : v = kV k := by
  cases k <;> cases r <;> rfl
theorem reps_kD {K : PySem.W.Frag} {B : Hp} : ∀ {vs : List V} {ks : List Key}, Reps K B vs (ks.map kD) → vs = ks.map kV
  | vs, [], r => by cases r; rfl
  | vs, k :: ks, r => by
    cases r with
    | cons a b => rw [rep_kD a, reps_kD b]; rfl
section
variable {K : PySem.W.Frag} {B : Hp}
theorem RepK.get (k : Key) : ∀ {kvs : List (Key × V)} {es : List (D × D)}, RepK K B kvs es → (∃ v d, valV kvs k = some v ∧ dGet es (kD k) = some d ∧ Rep K B v d) ∨ (valV kvs k = none ∧ dGet es (kD k) = none)
  | _, _, .nil => .inr ⟨rfl, rfl⟩
  | _, _, .cons (k := k') (v := v) (e := e) (kvs := kvs) (es := es) a b => by
    by_cases h : k' = k
    · refine .inl ⟨v, e, valV_pos h, ?_, a⟩
      unfold dGet
      rw [List.find?_cons_of_pos (by rw [eqv_kD]; exact decide_eq_true h)]
      rfl
    · have e1 : valV ((k', v) :: kvs) k = valV kvs k := valV_neg h
      have e2 : dGet ((kD k', e) :: es) (kD k) = dGet es (kD k) := by
        unfold dGet
        rw [List.find?_cons_of_neg (by rw [eqv_kD]; simp [h])]
      rw [e1, e2]
      exact RepK.get k b
theorem RepT.get (k : List Key) : ∀ {kvs : List (List Key × V)} {es : List (D × D)}, RepT K B kvs es → (∃ v d, valV kvs k = some v ∧ dGet es (.tuple (k.map kD)) = some d ∧ Rep K B v d) ∨ (valV kvs k = none ∧ dGet es (.tuple (k.map kD)) = none)
  | _, _, .nil => .inr ⟨rfl, rfl⟩
  | _, _, .cons (ks := k') (v := v) (e := e) (kvs := kvs) (es := es) a b => by
    by_cases h : k' = k
    · refine .inl ⟨v, e, valV_pos h, ?_, a⟩
      unfold dGet
      rw [List.find?_cons_of_pos (by rw [eqv_tup]; exact decide_eq_true h)]
      rfl
    · have e1 : valV ((k', v) :: kvs) k = valV kvs k := valV_neg h
      have e2 : dGet ((.tuple (k'.map kD), e) :: es) (.tuple (k.map kD)) = dGet es (.tuple (k.map kD)) := by
        unfold dGet
        rw [List.find?_cons_of_neg (by rw [eqv_tup]; simp [h])]
      rw [e1, e2]
      exact RepT.get k b
theorem RepK.any (k : Key) : ∀ {kvs : List (Key × V)} {es : List (D × D)}, RepK K B kvs es → (kvs.any fun kv => decide (kv.1 = k)) = es.any fun e => PyData.eqv e.1 (kD k)
  | _, _, .nil => rfl
  | _, _, .cons a b => by
    rw [List.any_cons, List.any_cons, RepK.any k b, eqv_kD]
theorem RepT.any (k : List Key) : ∀ {kvs : List (List Key × V)} {es : List (D × D)}, RepT K B kvs es → (kvs.any fun kv => decide (kv.1 = k)) = es.any fun e => PyData.eqv e.1 (.tuple (k.map kD))
  | _, _, .nil => rfl
  | _, _, .cons a b => by
    rw [List.any_cons, List.any_cons, RepT.any k b, eqv_tup]
theorem RepK.repl (k : Key) {v : V} {d : D} (r : Rep K B v d) : ∀ {kvs : List (Key × V)} {es : List (D × D)}, RepK K B kvs es → RepK K B (kvs.map fun kv => if kv.1 = k then (kv.1, v) else kv) (es.map fun e => if PyData.eqv e.1 (kD k) then (e.1, d) else e)
  | _, _, .nil => .nil
  | _, _, .cons (k := k') a b => by
    rw [List.map_cons, List.map_cons]
    by_cases h : k' = k
    · rw [if_pos h, if_pos (by rw [eqv_kD]; exact decide_eq_true h)]
      exact .cons r (RepK.repl k r b)
    · rw [if_neg h, if_neg (by rw [eqv_kD]; simp [h])]
      exact .cons a (RepK.repl k r b)
theorem RepT.repl (k : List Key) {v : V} {d : D} (r : Rep K B v d) : ∀ {kvs : List (List Key × V)} {es : List (D × D)}, RepT K B kvs es → RepT K B (kvs.map fun kv => if kv.1 = k then (kv.1, v) else kv) (es.map fun e => if PyData.eqv e.1 (.tuple (k.map kD)) then (e.1, d) else e)
  | _, _, .nil => .nil
  | _, _, .cons (ks := k') a b => by
    rw [List.map_cons, List.map_cons]
    by_cases h : k' = k
    · rw [if_pos h, if_pos (by rw [eqv_tup]; exact decide_eq_true h)]
      exact .cons r (RepT.repl k r b)
    · rw [if_neg h, if_neg (by rw [eqv_tup]; simp [h])]
      exact .cons a (RepT.repl k r b)
theorem RepK.append : ∀ {a b : List (Key × V)} {c d : List (D × D)}, RepK K B a c → RepK K B b d → RepK K B (a ++ b) (c ++ d)
  | _, _, _, _, .nil, r => r
  | _, _, _, _, .cons a b, r => .cons a (RepK.append b r)
theorem RepT.append : ∀ {a b : List (List Key × V)} {c d : List (D × D)}, RepT K B a c → RepT K B b d → RepT K B (a ++ b) (c ++ d)
  | _, _, _, _, .nil, r => r
  | _, _, _, _, .cons a b, r => .cons a (RepT.append b r)
theorem RepK.put (k : Key) {v : V} {d : D} {kvs : List (Key × V)} {es : List (D × D)} (r : Rep K B v d) (h : RepK K B kvs es) : RepK K B (putK kvs k v) (dPut es (kD k) d) := by
  unfold putK dPut
  rw [h.any k]
  cases (es.any fun e => PyData.eqv e.1 (kD k)) with
  | true => exact h.repl k r
  | false => exact h.append (.cons r .nil)
theorem RepT.put (k : List Key) {v : V} {d : D} {kvs : List (List Key × V)} {es : List (D × D)} (r : Rep K B v d) (h : RepT K B kvs es) : RepT K B (putK kvs k v) (dPut es (.tuple (k.map kD)) d) := by
  unfold putK dPut
  rw [h.any k]
  cases (es.any fun e => PyData.eqv e.1 (.tuple (k.map kD))) with
  | true => exact h.repl k r
  | false => exact h.append (.cons r .nil)
theorem RepK.length : ∀ {kvs : List (Key × V)} {es : List (D × D)}, RepK K B kvs es → kvs.length = es.length
  | _, _, .nil => rfl
  | _, _, .cons _ b => by rw [List.length_cons, List.length_cons, RepK.length b]
theorem RepT.length : ∀ {kvs : List (List Key × V)} {es : List (D × D)}, RepT K B kvs es → kvs.length = es.length
  | _, _, .nil => rfl
  | _, _, .cons _ b => by rw [List.length_cons, List.length_cons, RepT.length b]
theorem dPut_ne (es : List (D × D)) (k v : D) : dPut es k v ≠ [] := by
  unfold dPut
  cases h : (es.any fun e => PyData.eqv e.1 k) with
  | true =>
    cases es with
    | nil => cases h
    | cons a b => simp
  | false => simp
end
/-- keys that are ints and texts; keys that are tuples of such -/
def guardK (es : List (D × D)) : Bool := es.all fun e => match e.1 with | .tuple _ => false | _ => true
def guardT (es : List (D × D)) : Bool := es.all fun e => match e.1 with | .tuple ds => (keysOf ds).isSome | _ => false
theorem guardK_T {K : PySem.W.Frag} {B : Hp} {kvs : List (List Key × V)} {es : List (D × D)} (r : RepT K B kvs es) (n : es ≠ []) (g : guardK es = true) : False := by
  cases r with
  | nil => exact n rfl
  | cons a b =>
    unfold guardK at g
    rw [List.all_cons] at g
    cases g
theorem keys_nested : ∀ ks : List NestedKey, (ks.any fun | .tup _ => true | _ => false) = true → keysOf (NestedKey.datas ks) = none
  | [], h => by cases h
  | k :: ks, h => by
    rw [List.any_cons, Bool.or_eq_true] at h
    unfold NestedKey.datas keysOf
    rcases h with h | h
    · cases k <;> first | rfl | cases h
    · rw [keys_nested ks h]
      cases keyOf (NestedKey.data k) <;> rfl
theorem guardK_N {K : PySem.W.Frag} {B : Hp} {ps : List NRow} {es : List (D × D)} (r : RepN K B ps es) (n : es ≠ []) (g : guardK es = true) : False := by
  cases r with
  | nil => exact n rfl
  | @cons k _ _ _ _ _ a nk _ _ _ =>
    unfold guardK at g
    rw [List.all_cons] at g
    cases k <;> first | cases nk | cases g
theorem guardT_N {K : PySem.W.Frag} {B : Hp} {ps : List NRow} {es : List (D × D)} (r : RepN K B ps es) (n : es ≠ []) (g : guardT es = true) : False := by
  cases r with
  | nil => exact n rfl
  | @cons k _ _ _ _ _ a nk _ _ _ =>
    unfold guardT at g
    rw [List.all_cons, Bool.and_eq_true] at g
    have g := g.1
    cases k with
    | tup ks =>
      have g : (keysOf (NestedKey.datas ks)).isSome = true := g
      rw [keys_nested ks nk] at g
      cases g
    | _ => cases nk
theorem RepN.length {K : PySem.W.Frag} {B : Hp} : ∀ {ps : List NRow} {es : List (D × D)}, RepN K B ps es → ps.length = es.length
  | _, _, .nil => rfl
  | _, _, .cons _ _ _ _ r => by rw [List.length_cons, List.length_cons, RepN.length r]
theorem guardT_K {K : PySem.W.Frag} {B : Hp} {kvs : List (Key × V)} {es : List (D × D)} (r : RepK K B kvs es) (g : guardT es = true) : kvs = [] ∧ es = [] := by
  cases r with
  | nil => exact ⟨rfl, rfl⟩
  | @cons k _ _ _ _ a b =>
    unfold guardT at g
    rw [List.all_cons] at g
    cases k <;> cases g
end
end DL

/-! DL: operations on dicts. -/
namespace DL
open PySem PySem.Spec PyProof.Rows L2
variable [TabCx] [WCx]

section
variable {X : Cx} {pins : List (Addr × Obj)} {σ : L2.St} {H : Hp} {s : Shared} {a b : Addr} {r : Value} {d : V} {k : List Key} {A : Around} {E : Value → Shared → Prop}
/-- the dict at a is one with tuple keys (the empty one may be told as the other) -/
def IsT (H : Hp) (a : Addr) (kvs : List (List Key × V)) : Prop := H a = some (.dT kvs) ∨ (H a = some (.dK []) ∧ kvs = [])
theorem isT_of {kvs : List (List Key × V)} (I : Inv X pins σ H s) (e : IsT H a kvs) : kvs.length ≤ sizeLine ∧ (a == sysModules) = false ∧ ∃ xs, KT H kvs xs ∧ s.heap.DictOfH (tupleKind (mixKind X.prog X.w)) a xs := by
  rcases e with e | ⟨e, rfl⟩
  · exact dt_of I.hok e
  · obtain ⟨z, hd, vs, rel, o, es, ep, h1, h2, h3, h4, h5, h6⟩ := dk_of I.hok e
    refine ⟨z, hd, [], .nil, o, es, ep, h1, h2, h3, ?_, (fun x hx => nomatch hx), List.nodup_nil⟩
    cases rel
    have : es.toList.length = 0 := by
      have := h5
      first
        | (have q := this.length; simpa using q)
        | (cases this; rename_i q; simp_all)
        | (revert this; cases hq : es.toList with
            | nil => intro _; rfl
            | cons x y => intro q; cases q)
    exact List.eq_nil_of_length_eq_zero this
theorem d_setdT {kvs : List (List Key × V)} {Q : Value → Shared → Prop} (hu : A.units + 1 < cLine) (I : Inv X pins σ H s) (e : IsT H a kvs) (eb : H b = some (.tup (k.map kV))) (rd : RelV d r) (hl : kvs.length < sizeLine)
    (h1 : ∀ v, valV kvs k = some v → ∀ (w' : Value) (s' : Shared), Inv X pins σ H s' → RelV v w' → Q w' s') (h2 : valV kvs k = none → ∀ (w' : Value) (s' : Shared), Inv X pins σ (upd H a (.dT (putK kvs k d))) s' → RelV d w' → Q w' s') :
    wpAny (model X.prog X.w) A (call (.builtin "dict.setdefault") [.ref a, .ref b, r]) Q E s := by
  obtain ⟨z, hd, xs, rel, dd⟩ := isT_of I e
  have hz : xs.length ≤ sizeLine := by rw [← Paired.length rel]; exact z
  have hl2 : (putK kvs k d).length ≤ sizeLine := by have := length_putK kvs k d; omega
  have q0 := rel.val k
  have eM : Mut (H a) := by
    rcases e with e | ⟨e, _⟩
    · rw [e]; exact True.intro
    · rw [e]; exact True.intro
  have eN : ∀ c ys, H c = some (.tup ys) → c ≠ a := fun c ys ec z => by
    subst z
    rcases e with e | ⟨e, _⟩
    · rw [ec] at e; cases e
    · rw [ec] at e; cases e
  refine call_setdefault_heap (hsz := hz) (tupleKind_room_in1 hu) (key_of I.hok eb) hd dd (fun p hp => ?_) fun hn h' dd' hs => ?_
  · rw [hp] at q0
    cases q1 : valV kvs k with
    | none => rw [q1] at q0; exact (show False from q0).elim
    | some v => rw [q1] at q0; exact h1 v q1 _ _ (I.tok _) q0
  · rw [hn] at q0
    cases q1 : valV kvs k with
    | some v => rw [q1] at q0; exact (show False from q0).elim
    | none =>
      obtain ⟨q, es, ep, hq, g2, g3, g4, _, g5⟩ := dd'
      refine h2 q1 _ _ (d_write (t' := s.toks + _) I eM hs ⟨q, hq⟩ ⟨hl2, hd, _, (rel.put k eb rd).keeps fun c ys ec => ?_, q, es, ep, hq, g2, g3, g4, g5⟩) rd
      rw [upd_ne (eN c ys ec)]
      exact ec
end
/-- a dict of any kind -/
def IsDA (H : Hp) (a : Addr) : Prop := IsD H a ∨ ∃ ps, H a = some (.ext (dnφ a ps))
theorem isDA_at {X : Cx} {pins : List (Addr × Obj)} {σ : L2.St} {H : Hp} {s : Shared} {a : Addr} (I : Inv X pins σ H s) (d : IsDA H a) :
    s.TypeIs (.ref a) "dict" ∧ (∀ b, Value.ref a = .ref b → ∃ ob, s.heap.get? b = some ob ∧ ob.dict = none) ∧ (a == sysModules) = false := by
  rcases d with d | ⟨ps, e⟩
  · exact isD_at I d
  · obtain ⟨⟨_, hd, _, _, _, _, o, es, ep, h1, h2, _⟩, _⟩ := (show ObjOk X.prog X.w H s.heap a (.ext (dnφ a ps)) from I.hok a _ e)
    refine ⟨⟨o, h1, h2.1⟩, fun b q => ?_, hd⟩
    cases q
    exact ⟨o, h1, h2.2.1⟩
def setdQ (a : Addr) (y z : V) (H3 : Hp) (Q : VK) : Prop :=
  (∃ (kvs : List (Key × V)) (k : Key), H3 a = some (.dK kvs) ∧ y = kV k ∧ kvs.length < sizeLine ∧ (∀ v, valV kvs k = some v → Q v H3) ∧ (valV kvs k = none → Q z (upd H3 a (.dK (putK kvs k z))))) ∨
  (∃ (kvs : List (List Key × V)) (k : List Key) (b : Addr), IsT H3 a kvs ∧ y = .ref b ∧ H3 b = some (.tup (k.map kV)) ∧ kvs.length < sizeLine ∧ (∀ v, valV kvs k = some v → Q v H3) ∧ (valV kvs k = none → Q z (upd H3 a (.dT (putK kvs k z)))))
def tDSetdA (td ty tx : TE) : TE := fun σ H Q => td σ H fun x H1 => ∃ a, x = .ref a ∧ IsDA H1 a ∧ ty σ H1 fun y H2 => tx σ H2 fun z H3 => setdQ a y z H3 Q
section
variable {X : Cx} {o e f : Expr} {td ty tx : TE} {apos cpos : Pos}
theorem pe_dsetdA (hu : X.A.units + 1 < cLine) (ho : PE X o td) (he : PE X e ty) (hf : PE X f tx) (m : M2 X o "setdefault" apos e f cpos) : PE X (.Call (.Attribute o "setdefault" apos) [e, f] [] cpos) (tDSetdA td ty tx) := by
  refine ⟨fun pins s σ H Q I h => ?_⟩
  refine wpAny_Call_method m.base m.few m.line PySem.F.plainAttrs_dict PySem.F.slot_dict_setdefault PySem.F.type_dict_setdefault (thn (ho.run pins s σ H _ I h) fun u s1 ⟨x, H1, I1, rx, a, ex, d, q1⟩ => ?_)
  subst ex
  obtain rfl : u = Value.ref a := rx
  obtain ⟨t1, t2, _⟩ := isDA_at I1 d
  refine ⟨t1, t2, ?_⟩
  rw [m.trees]
  refine Calls.callWith_builtin rfl (Calls.evalArgs_plain (Calls.spliced_cons (thn (he.run pins s1 σ H1 _ I1 q1) fun iv s2 ⟨y, H2, I2, ry, q2⟩ =>
    Calls.spliced_cons (thn (hf.run pins s2 σ H2 _ I2 q2) fun fv s3 ⟨z, H3, I3, rz, q⟩ => Calls.spliced_nil ?_))))
  rcases q with ⟨kvs, k, ea, ey, hl, q3, q4⟩ | ⟨kvs, k, b, ea, ey, eb, hl, q3, q4⟩
  · subst ey
    exact d_setd I3 ea ry rz hl (fun v hv w' s4 I4 rw' => ⟨v, _, I4, rw', q3 v hv⟩) fun hn w' s4 I4 rw' => ⟨z, _, I4, rw', q4 hn⟩
  · subst ey
    cases (show iv = Value.ref b from ry)
    exact d_setdT hu I3 ea eb rz hl (fun v hv w' s4 I4 rw' => ⟨v, _, I4, rw', q3 v hv⟩) fun hn w' s4 I4 rw' => ⟨z, _, I4, rw', q4 hn⟩
end

/-! ### over data -/
def kOK (es : List (D × D)) (k : D) : Bool := match k with
  | .tuple ks => (keysOf ks).isSome && guardT es
  | _ => (keyOf k).isSome && guardK es
theorem kOK_cases {es : List (D × D)} {k : D} (h : kOK es k = true) : (∃ kk, k = kD kk ∧ guardK es = true) ∨ (∃ ks : List Key, k = .tuple (ks.map kD) ∧ guardT es = true) := by
  unfold kOK at h
  cases k with
  | tuple ds =>
    have h : ((keysOf ds).isSome && guardT es) = true := h
    rw [Bool.and_eq_true] at h
    obtain ⟨ks, e⟩ := Option.isSome_iff_exists.mp h.1
    exact .inr ⟨ks, by rw [keysOf_eq e], h.2⟩
  | int i => exact .inl ⟨.inl i, rfl, by simpa [keyOf] using h⟩
  | str x => exact .inl ⟨.inr x, rfl, by simpa [keyOf] using h⟩
  | _ => cases h
theorem Bor.dict {K : PySem.W.Frag} {F : FR} {B H : Hp} {v : V} {es : List (D × D)} (sub : Same B H) (r : Bor K F B H v (.dict es)) : ∃ a, v = .ref a ∧ ((∃ kvs, Rd H a (.dK kvs) ∧ RepK K B kvs es) ∨ (∃ kvs, H a = some (.dT kvs) ∧ RepT K B kvs es ∧ es ≠ []) ∨ ∃ ps, H a = some (.ext (dnφ a ps)) ∧ RepN K B ps es ∧ es ≠ []) := by
  rcases r with r | ⟨a, o, rfl, _, h1, r, _⟩
  · cases r with
    | dK h r => exact ⟨_, rfl, .inl ⟨_, rd_mono sub h, r⟩⟩
    | dT h r n => exact ⟨_, rfl, .inr (.inl ⟨_, sub _ _ h, r, n⟩)⟩
    | dN h r n _ => exact ⟨_, rfl, .inr (.inr ⟨_, sub _ _ h, r, n⟩)⟩
  · cases o with
    | dK kvs => exact ⟨a, rfl, .inl ⟨kvs, .inl h1, r⟩⟩
    | dT kvs => exact ⟨a, rfl, .inr (.inl ⟨kvs, h1, r.1, r.2⟩)⟩
    | ext φ =>
      obtain ⟨ps, e, r, n, _⟩ := (r : ∃ ps, φ = dnφ a ps ∧ RepN K B ps es ∧ es ≠ [] ∧ TabCx.T = [])
      subst e
      exact ⟨a, rfl, .inr (.inr ⟨ps, h1, r, n⟩)⟩
    | _ => exact False.elim r
/-- d.setdefault(k, d): the value, the dict behind -/
def sdefD (es : List (D × D)) (k d : D) : Res (D × List (D × D)) := if kOK es k && decide (es.length < sizeLine) then (match dGet es k with
  | some v => .ok (v, es)
  | none => .ok (d, dPut es k d)) else .bad
section
variable {X : Cx} {F : FR} {own o2 : List Nat}
/-- if d.setdefault(k, e) != w: a else: b -/
def sSetdIf (i : Nat) (tk td tw : DEnv → Res D) (t u : DEnv → Out) : DEnv → Out := fun Γ => oDict Γ[i]? fun es => oBind (tk Γ) fun k => oBind (td Γ) fun d => oBind (sdefD es k d) fun r => oBind (x2 neD (xC r.1) tw (Γ.set i (some (.dict r.2)))) fun c => oBind (toB c) fun c => if c then t (Γ.set i (some (.dict r.2))) else u (Γ.set i (some (.dict r.2)))
theorem own_slotD {K : PySem.W.Frag} {B H : Hp} {Γ : DEnv} {σ : L2.St} {i : Nat} {es : List (D × D)} (s : SR K F own B Γ σ H) (hi : i ∈ own) (e : Γ[i]? = some (some (.dict es))) : ∃ a, σ[i]? = some (some (.ref a)) ∧ ((∃ kvs, H a = some (.dK kvs) ∧ RepK K B kvs es) ∨ (∃ kvs, H a = some (.dT kvs) ∧ RepT K B kvs es ∧ es ≠ []) ∨ ∃ ps, H a = some (.ext (dnφ a ps)) ∧ RepN K B ps es ∧ es ≠ [] ∧ TabCx.T = []) := by
  obtain ⟨v, e1, r⟩ := s.owd i _ hi e
  obtain ⟨a, o, rfl, _, h1, r, _⟩ := r
  cases o with
  | dK kvs => exact ⟨a, e1, .inl ⟨kvs, h1, r⟩⟩
  | dT kvs => exact ⟨a, e1, .inr (.inl ⟨kvs, h1, r.1, r.2⟩)⟩
  | ext φ =>
    obtain ⟨ps, e, r, n, t⟩ := (r : ∃ ps, φ = dnφ a ps ∧ RepN K B ps es ∧ es ≠ [] ∧ TabCx.T = [])
    subst e
    exact ⟨a, e1, .inr (.inr ⟨ps, h1, r, n, t⟩)⟩
  | _ => exact False.elim r
theorem SR.setSame {K : PySem.W.Frag} {B H : Hp} {Γ : DEnv} {σ : L2.St} {i : Nat} {d : D} (s : SR K F own B Γ σ H) (e : Γ[i]? = some (some d)) : SR K F own B (Γ.set i (some d)) σ H := by
  have : Γ.set i (some d) = Γ := by
    refine List.ext_getElem? fun j => ?_
    by_cases h : i = j
    · subst h
      have hl := (List.getElem?_eq_some_iff.mp e).1
      rw [List.getElem?_set_self hl, e]
    · rw [List.getElem?_set_ne h]
  rw [this]
  exact s
/-- what setdefault leaves, by data -/
theorem setd_step {K : PySem.W.Frag} {B H : Hp} {Γ : DEnv} {σ : L2.St} {i : Nat} {es es' : List (D × D)} {a : Addr} {y z : V} {k d v : D} {Q : VK} (s : SR K F own B Γ σ H) (hi : i ∈ own) (e : Γ[i]? = some (some (.dict es))) (ev : σ[i]? = some (some (.ref a)))
    (rk : Rep K B y k) (rd : Rep K B z d) (eo : (∃ kvs, H a = some (.dK kvs) ∧ RepK K B kvs es) ∨ (∃ kvs, H a = some (.dT kvs) ∧ RepT K B kvs es ∧ es ≠ []) ∨ ∃ ps, H a = some (.ext (dnφ a ps)) ∧ RepN K B ps es ∧ es ≠ [] ∧ TabCx.T = []) (h : sdefD es k d = .ok (v, es'))
    (q : ∀ w H', SR K F own B (Γ.set i (some (.dict es'))) σ H' → Rep K B w v → Q w H') :
    setdQ a y z H Q := by
  unfold sdefD at h
  cases hc : (kOK es k && decide (es.length < sizeLine)) with
  | false => rw [hc] at h; cases h
  | true =>
    rw [hc] at h
    have h : (match dGet es k with | some v => Res.ok (v, es) | none => .ok (d, dPut es k d)) = .ok (v, es') := h
    rw [Bool.and_eq_true] at hc
    have hlen := of_decide_eq_true hc.2
    have here : ∀ w, Rep K B w v → es' = es → Q w H := fun w r e' => q w H (by subst e'; exact s.setSame e) r
    rcases kOK_cases hc.1 with ⟨kk, rfl, g⟩ | ⟨ks, rfl, g⟩
    · rcases eo with ⟨kvs, hH, r⟩ | ⟨kvs, hH, r, n⟩ | ⟨ps, hH, r, n, _⟩
      · refine .inl ⟨kvs, kk, hH, rep_kD rk, by rw [r.length]; exact hlen, fun w hw => ?_, fun hn => ?_⟩
        · rcases r.get kk with ⟨w', d', h1, h2, h3⟩ | ⟨h1, _⟩
          · rw [hw] at h1; cases h1
            rw [h2] at h; cases h
            exact here w h3 rfl
          · rw [hw] at h1; cases h1
        · rcases r.get kk with ⟨w', d', h1, _⟩ | ⟨_, h2⟩
          · rw [hn] at h1; cases h1
          · rw [h2] at h; cases h
            exact q z _ (s.mutate hi e ev (show ORep K B _ (.dK _) (.dict _) from r.put kk rd)) rd
      · exact (guardK_T r n g).elim
      · exact (guardK_N r n g).elim
    · have go : ∀ kvs, IsT H a kvs → RepT K B kvs es → ∃ (kvs : List (List Key × V)) (k : List Key) (b : Addr), IsT H a kvs ∧ y = .ref b ∧ H b = some (.tup (k.map kV)) ∧ kvs.length < sizeLine ∧ (∀ v, valV kvs k = some v → Q v H) ∧ (valV kvs k = none → Q z (upd H a (.dT (putK kvs k z)))) := fun kvs hT r => by
        cases rk with
        | @tup b xs _ hb hr =>
          have ex := reps_kD hr
          subst ex
          refine ⟨kvs, ks, b, hT, rfl, s.sub _ _ hb, by rw [r.length]; exact hlen, fun w hw => ?_, fun hn => ?_⟩
          · rcases r.get ks with ⟨w', d', h1, h2, h3⟩ | ⟨h1, _⟩
            · rw [hw] at h1; cases h1
              rw [h2] at h; cases h
              exact here w h3 rfl
            · rw [hw] at h1; cases h1
          · rcases r.get ks with ⟨w', d', h1, _⟩ | ⟨_, h2⟩
            · rw [hn] at h1; cases h1
            · rw [h2] at h; cases h
              exact q z _ (s.mutate hi e ev (show ORep K B _ (.dT _) (.dict _) from ⟨r.put ks rd, dPut_ne _ _ _⟩)) rd
      rcases eo with ⟨kvs, hH, r⟩ | ⟨kvs, hH, r, n⟩ | ⟨ps, hH, r, n, _⟩
      · obtain ⟨rfl, rfl⟩ := guardT_K r g
        exact .inr (go [] (.inr ⟨hH, rfl⟩) .nil)
      · exact .inr (go kvs (.inl hH) r)
      · exact (guardT_N r n g).elim
theorem ds_setdIf (i : Nat) {x : Str} {ek ed ew : Expr} {a b : List Stmt} {tk td tw : DEnv → Res D} {t u : DEnv → Out} {p1 p2 p3 p4 p5 : Pos} (hu : X.A.units + 64 < cLine) (hk : DE X F own .val ek tk) (hd : DE X F own .val ed td) (hw : DE X F own .bor ew tw) (ha : DSs X F own o2 a t) (hb : DSs X F own o2 b u)
    (hi : i ∈ own := by decide) (hN : X.N[i]? = some x := by rfl) (hv : Vis X.env.scope x := by first | exact Or.inl rfl | exact Or.inr (Or.inl rfl) | exact Or.inr (Or.inr rfl)) (hdb : (x == ("__debug__" : Str)) = false := by decide)
    (hcd : (x == ("__classdict__" : Str)) = false := by decide) (m : M2 X (.Name x p1) "setdefault" p2 ek ed p3 := by exact ⟨rfl, rfl, rfl, rfl⟩) :
    DS X F own o2 (.If (.Compare (.Call (.Attribute (.Name x p1) "setdefault" p2) [ek, ed] [] p3) [.NotEq] [ew] p4) a b p5) (sSetdIf i tk td tw t u) :=
  PS.mono (ps_if (pt_cmpR (op_neP hu) (pe_dsetdA (by omega) (pe_var hN hv hdb hcd) hk hd m) hw (nomark _)) ha hb) fun Dn σ H ⟨B, Γ, s, p⟩ => by
    unfold tIfS tTest tOp tDSetdA tVar
    unfold sSetdIf at p
    obtain ⟨es, ei⟩ := oDict_of p
    rw [ei] at p
    obtain ⟨a0, ev, eo⟩ := own_slotD s hi ei
    refine ⟨.ref a0, ev, a0, rfl, ?_, ?_⟩
    · rcases eo with ⟨kvs, h, _⟩ | ⟨kvs, h, _⟩ | ⟨ps, h, _⟩
      · exact .inl (.inl ⟨kvs, .inl h⟩)
      · exact .inl (.inr ⟨kvs, .inl h⟩)
      · exact .inr ⟨ps, h⟩
    refine tD_firstO s p fun k y H1 B1 _ s1 g1 sb1 r1 p1 => ?_
    refine tD_firstO s1 p1 fun d z H2 B2 _ s2 g2 sb2 r2 p2 => ?_
    have r1 : Rep X.K B2 y k := Rep.mono sb2 r1
    have r2 : Rep X.K B2 z d := r2
    have eo2 : (∃ kvs, H2 a0 = some (.dK kvs) ∧ RepK X.K B2 kvs es) ∨ (∃ kvs, H2 a0 = some (.dT kvs) ∧ RepT X.K B2 kvs es ∧ es ≠ []) ∨ ∃ ps, H2 a0 = some (.ext (dnφ a0 ps)) ∧ RepN X.K B2 ps es ∧ es ≠ [] ∧ TabCx.T = [] := by
      obtain ⟨a1, ev1, eo1⟩ := own_slotD s2 hi ei
      rw [ev] at ev1
      cases ev1
      exact eo1
    cases e3 : sdefD es k d with
    | bad => rw [e3] at p2; exact p2.elim
    | raise c =>
      exfalso
      unfold sdefD at e3
      split at e3
      · split at e3 <;> cases e3
      · cases e3
    | ok r =>
      obtain ⟨v, es'⟩ := r
      rw [e3] at p2
      refine setd_step s2 hi ei ev r1 r2 eo2 e3 fun w H3 s3 rw => ?_
      have p3 : OPost X.K F o2 Dn (oBind (x2 neD (xC v) tw (Γ.set i (some (.dict es')))) fun c => oBind (toB c) fun c => if c then t (Γ.set i (some (.dict es'))) else u (Γ.set i (some (.dict es')))) B2 := p2
      unfold x2 xC at p3
      have as : ∀ {α β : Type} (a : Res α) (f : α → Res β) (k : β → Out), oBind (a.bind f) k = oBind a fun x => oBind (f x) k := fun a f k => by cases a <;> rfl
      rw [Res.ok_bind, as] at p3
      refine tD_firstO s3 p3 fun y2 u2 H4 B4 _ s4 g4 sb4 r4 p4 => ?_
      unfold neD gD at p4
      by_cases hc : (v.plain && y2.plain && eqC v y2) = true
      · rw [if_pos hc] at p4
        have h := plain_and hc
        refine ⟨v, y2, Bor.dp s4.sub h.1 (F := F) (.inl (rw.mono sb4)), Bor.dp s4.sub h.2.1 r4, hc, _, rfl, ?_⟩
        have p5 : OPost X.K F o2 Dn (if (!PyData.eqv v y2) then t (Γ.set i (some (.dict es'))) else u (Γ.set i (some (.dict es')))) B4 := p4
        show if (!PyData.eqv v y2) = true then tS X.K F own o2 t Dn σ H4 else tS X.K F own o2 u Dn σ H4
        cases hb2 : (!PyData.eqv v y2) with
        | true => rw [hb2] at p5; exact iteT ⟨B4, _, s4, p5⟩
        | false => rw [hb2] at p5; exact iteF ⟨B4, _, s4, p5⟩
      · rw [if_neg hc] at p4
        exact p4.elim
end
end DL

/-! DL: small words of the generator, the law's own end. -/
namespace DL
open PySem PySem.Spec PyProof.Rows L2
variable [TabCx] [WCx]
theorem lenN : ∀ (Γ : DEnv) (ds : List D), xNil Γ = .ok ds → ds.length = 0 := fun Γ ds e => by cases e; rfl
theorem lenC {t : DEnv → Res D} {u : DEnv → Res (List D)} {n : Nat} (h : ∀ (Γ : DEnv) (ds : List D), u Γ = .ok ds → ds.length = n) : ∀ (Γ : DEnv) (ds : List D), xCons t u Γ = .ok ds → ds.length = n + 1 := fun Γ ds e => by
  unfold xCons at e
  cases e1 : t Γ with
  | ok x =>
    rw [e1, Res.ok_bind] at e
    cases e2 : u Γ with
    | ok r =>
      rw [e2] at e
      cases e
      rw [List.length_cons, h Γ r e2]
    | _ => rw [e2] at e; cases e
  | _ => rw [e1] at e; cases e
/-- the law's promise -/
def spLaw (K : PySem.W.Frag) (n : Nat) : Sp := fun vs H Q _ => ∃ (a : Addr) (ns : List Int), vs = [.ref a] ∧ SqL K H a (ns.map V.int) ∧ ns.length ≤ n ∧ LamX.Tabs TabCx.T H ∧ ∀ H', Q (.bl true) H'
theorem cx_false {P : Program} {w : World} {outer : List PySem.Env} {H : Hp} {s : Shared} {e : Value} {s' : Shared} (h : L2.CX P w outer H s (fun _ _ _ => False) e s') : False := by
  obtain ⟨_, _, _, _, _, _, _, _, _, _, _, _, z⟩ := h
  exact z
theorem law_imp {P : Program} {w : World} {K : PySem.W.Frag} {mg : Str → Option Value} {base : Heap} {k n : Nat} {f : Addr} {fd : FuncData} {x : Str} {cv : Str → Value} {g : List D → Res D} (F : FnOk P w K mg base (L2.CX P w) k f fd [x] (spD K cv 1 g)) (h : ∀ ns : List Int, ns.length ≤ n → g [.list (ns.map .int)] = .ok (.bool true)) :
    FnOk P w K mg base (L2.CX P w) k f fd [x] (spLaw K n) := F.imp fun vs H Q E ⟨a, ns, e, hS, hl, ht, q⟩ => by
  subst e
  have sub : Same (fun b => match H b with | some (.tbl _) => none | o => o) H := fun b o e => by
    dsimp only at e
    split at e
    · cases e
    · exact e
  have at_ : ∀ {b : Addr} {o : HO}, H b = some o → (∀ ps, o ≠ .tbl ps) → (match H b with | some (.tbl _) => none | o => o) = some o := fun {b o} e n => by
    rw [e]
    split
    · rename_i ps z
      exact absurd (Option.some.inj z) (n ps)
    · rfl
  refine ⟨fun b => match H b with | some (.tbl _) => none | o => o, [.list (ns.map .int)], sub, ht, fun b ps e => ?_, .cons (.lst ?_ (Reps.ints ns)) .nil, rfl, ?_⟩
  · dsimp only at e
    split at e
    · cases e
    · rename_i n
      exact n ps e
  · rcases hS with (r | ⟨o, r⟩) | r
    · exact .inl (.inl (at_ r fun ps z => nomatch z))
    · exact .inl (.inr ⟨o, at_ r fun ps z => nomatch z⟩)
    · exact .inr r
  · rw [h ns hl]
    intro v H' B' _ _ _ _ r
    cases r
    exact q H'
end DL

/-! DL: what the combinators come to, for simp; loops and comprehensions as plain lists. -/
namespace DL
open PySem PySem.Spec PyProof.Rows L2
variable [TabCx] [WCx]
section
variable {Γ : DEnv}
@[simp] theorem ap_sSeq (t u : DEnv → Out) : sSeq t u Γ = (t Γ).andThen u := rfl
@[simp] theorem ap_sNil : sNil Γ = .next Γ := rfl
@[simp] theorem ap_sSet (i : Nat) (te : DEnv → Res D) : sSet i te Γ = oBind (te Γ) fun d => .next (Γ.set i (some d)) := rfl
@[simp] theorem ap_sIf (c : DEnv → Res Bool) (t u : DEnv → Out) : sIf c t u Γ = oBind (c Γ) fun b => if b then t Γ else u Γ := rfl
@[simp] theorem ap_sRet (te : DEnv → Res D) : sRet te Γ = oBind (te Γ) .ret := rfl
@[simp] theorem ap_sDrop (te : DEnv → Res D) : sDrop te Γ = oBind (te Γ) fun _ => .next Γ := rfl
@[simp] theorem ap_sAsg (te : DEnv → Res D) (g : D → DEnv → Res DEnv) : sAsg te g Γ = oBind (te Γ) fun d => gThen (g d Γ) .next := rfl
@[simp] theorem ap_sFor (it : DEnv → Res (List D)) (g : D → DEnv → Res DEnv) (b : DEnv → Out) : sFor it g b Γ = oBind (it Γ) fun ds => forL g b ds Γ := rfl
@[simp] theorem ap_sAppend (i : Nat) (te : DEnv → Res D) : sAppend i te Γ = oList Γ[i]? fun ds => oBind (te Γ) fun d => if ds.length < sizeLine then .next (Γ.set i (some (.list (ds ++ [d])))) else .bad := rfl
@[simp] theorem ap_sExtend (i : Nat) (te : DEnv → Res D) : sExtend i te Γ = oList Γ[i]? fun ds => oBind (te Γ) fun d => oBind (seqOf d) fun es => if ds.length + es.length ≤ sizeLine then .next (Γ.set i (some (.list (ds ++ es)))) else .bad := rfl
@[simp] theorem ap_sSetdIf (i : Nat) (tk td tw : DEnv → Res D) (t u : DEnv → Out) : sSetdIf i tk td tw t u Γ = oDict Γ[i]? fun es => oBind (tk Γ) fun k => oBind (td Γ) fun d => oBind (sdefD es k d) fun r => oBind (x2 neD (xC r.1) tw (Γ.set i (some (.dict r.2)))) fun c => oBind (toB c) fun c => if c then t (Γ.set i (some (.dict r.2))) else u (Γ.set i (some (.dict r.2))) := rfl
@[simp] theorem ap_gSet (i : Nat) (d : D) : gSet i d Γ = .ok (Γ.set i (some d)) := rfl
@[simp] theorem ap_gTup (n : Nat) (gs : List D → DEnv → Res DEnv) (ds : List D) : gTup n gs (.tuple ds) Γ = if ds.length = n then gs ds Γ else .bad := rfl
@[simp] theorem ap_gNone : gNone [] Γ = .ok Γ := rfl
@[simp] theorem ap_gMore (g : D → DEnv → Res DEnv) (gs : List D → DEnv → Res DEnv) (d : D) (r : List D) : gMore g gs (d :: r) Γ = (g d Γ).bind (gs r) := rfl
@[simp] theorem forL_nil (g : D → DEnv → Res DEnv) (b : DEnv → Out) : forL g b [] Γ = .next Γ := rfl
@[simp] theorem ap_xC (d : D) : xC d Γ = .ok d := rfl
@[simp] theorem ap_xVar0 (d : D) (r : DEnv) : xVar 0 (some d :: r) = .ok d := rfl
@[simp] theorem ap_xVarS (n : Nat) (o : Option D) (r : DEnv) : xVar (n + 1) (o :: r) = xVar n r := by unfold xVar; rw [List.getElem?_cons_succ]
@[simp] theorem ap_x2 (g : D → D → Res D) (ta tb : DEnv → Res D) : x2 g ta tb Γ = (ta Γ).bind fun x => (tb Γ).bind fun y => g x y := rfl
@[simp] theorem ap_x1 (g : D → Res D) (ta : DEnv → Res D) : x1 g ta Γ = (ta Γ).bind g := rfl
@[simp] theorem ap_xT (t : DEnv → Res D) : xT t Γ = (t Γ).bind toB := rfl
@[simp] theorem ap_toB (b : Bool) : toB (.bool b) = .ok b := rfl
@[simp] theorem ap_xAndT (t u : DEnv → Res Bool) : xAndT t u Γ = (t Γ).bind fun b => if b then u Γ else .ok false := rfl
@[simp] theorem ap_xOrT (t u : DEnv → Res Bool) : xOrT t u Γ = (t Γ).bind fun b => if b then .ok true else u Γ := rfl
@[simp] theorem ap_xNotT (t : DEnv → Res Bool) : xNotT t Γ = (t Γ).bind fun b => .ok (!b) := rfl
@[simp] theorem ap_xAnd (t u : DEnv → Res D) : xAnd t u Γ = (t Γ).bind fun x => (toB x).bind fun b => if b then u Γ else .ok (.bool false) := rfl
@[simp] theorem ap_xOr (t u : DEnv → Res D) : xOr t u Γ = (t Γ).bind fun x => (toB x).bind fun b => if b then .ok (.bool true) else u Γ := rfl
@[simp] theorem ap_xNot (t : DEnv → Res D) : xNot t Γ = (t Γ).bind fun x => (toB x).bind fun b => .ok (.bool (!b)) := rfl
@[simp] theorem ap_xNil : xNil Γ = .ok [] := rfl
@[simp] theorem ap_xCons (t : DEnv → Res D) (u : DEnv → Res (List D)) : xCons t u Γ = (t Γ).bind fun x => (u Γ).bind fun r => .ok (x :: r) := rfl
theorem ap_xTup (t : DEnv → Res (List D)) : xTup t Γ = (t Γ).bind fun ds => if ds.length ≤ sizeLine then .ok (.tuple ds) else .bad := rfl
theorem ap_xLst (t : DEnv → Res (List D)) : xLst t Γ = (t Γ).bind fun ds => if ds.length ≤ sizeLine then .ok (.list ds) else .bad := rfl
@[simp] theorem ap_xCall (g : List D → Res D) (t : DEnv → Res (List D)) : xCall g t Γ = (t Γ).bind g := rfl
@[simp] theorem ap_on1 (g : D → Res D) (d : D) : on1 g [d] = g d := rfl
@[simp] theorem ap_xIsa (T : String) (t : DEnv → Res D) : xIsa T t Γ = (t Γ).bind fun d => .ok (.bool (isaD T d)) := rfl
@[simp] theorem ap_xItems (t : DEnv → Res D) : xItems t Γ = (t Γ).bind itemsD := rfl
@[simp] theorem ap_itemsL (ds : List D) : itemsD (.list ds) = .ok ds := rfl
@[simp] theorem ap_itemsT (ds : List D) : itemsD (.tuple ds) = .ok ds := rfl
@[simp] theorem ap_xRange1 (t : DEnv → Res (List D)) : xRange1 t Γ = (t Γ).bind range1D := rfl
@[simp] theorem ap_xYes : xYes Γ = .ok true := rfl
theorem ap_xComp (vs : List Nat) (it : DEnv → Res (List D)) (g : D → DEnv → Res DEnv) (tt : DEnv → Res Bool) (te : DEnv → Res D) : xComp vs it g tt te Γ = (it Γ).bind fun ds => if ds.length ≤ sizeLine then (compL (wipeE Γ vs) g tt te ds).bind fun ys => .ok (.list ys) else .bad := rfl
@[simp] theorem ap_tupOfL (ds : List D) : tupOfD (.list ds) = .ok (.tuple ds) := rfl
@[simp] theorem ap_tupOfT (ds : List D) : tupOfD (.tuple ds) = .ok (.tuple ds) := rfl
@[simp] theorem ap_lstOfL (ds : List D) : lstOfD (.list ds) = .ok (.list ds) := rfl
@[simp] theorem ap_lstOfT (ds : List D) : lstOfD (.tuple ds) = .ok (.list ds) := rfl
@[simp] theorem ap_lenL (ds : List D) : lenD (.list ds) = .ok (.int ds.length) := rfl
@[simp] theorem ap_lenT (ds : List D) : lenD (.tuple ds) = .ok (.int ds.length) := rfl
@[simp] theorem ap_addI (i j : Int) : addD (.int i) (.int j) = .ok (.int (i + j)) := rfl
@[simp] theorem ap_subI (i j : Int) : subD (.int i) (.int j) = .ok (.int (i - j)) := rfl
theorem ap_modI {i j : Int} (h : 0 < j) : modD (.int i) (.int j) = .ok (.int (i % j)) := by unfold modD intD; simp [h]
theorem ap_fdivI {i j : Int} (h : 0 < j) (h2 : j < 1073741824) : fdivD (.int i) (.int j) = .ok (.int (i / j)) := by unfold fdivD intD; simp [h, h2]
theorem ap_mulL {i j : Int} (h : -(2 ^ 64) < i ∧ i < 2 ^ 64) : mulID (.int i) (.int j) = .ok (.int (i * j)) := by unfold mulID intD mulC; simp only [decide_eq_true_eq]; rw [if_pos (Or.inl h)]
theorem ap_mulR {i j : Int} (h : -(2 ^ 64) < j ∧ j < 2 ^ 64) : mulID (.int i) (.int j) = .ok (.int (i * j)) := by unfold mulID intD mulC; simp only [decide_eq_true_eq]; rw [if_pos (Or.inr h)]
end
theorem sz : sizeLine = 16777216 := by decide
/-! ### comparisons of numbers -/
@[simp] theorem low_int (i : Int) : low (.int i) = true := rfl
theorem ap_ltI (i j : Int) : ltD (.int i) (.int j) = .ok (.bool (decide (i < j))) := by
  show Res.ok (PyData.bool (PySem.W.dataLt (.int i) (.int j))) = _
  rw [PySem.W.dataLt_int]
theorem ap_eqI (i j : Int) : eqD (.int i) (.int j) = .ok (.bool (i == j)) := rfl
theorem ap_neI (i j : Int) : neD (.int i) (.int j) = .ok (.bool (!(i == j))) := rfl
theorem ap_eqP {x y : D} (hx : x.plain = true) (hy : y.plain = true) (hl : low x = true) : eqD x y = .ok (.bool (PyData.eqv x y)) := by
  unfold eqD gD eqC
  rw [hx, hy, hl]
  rfl
theorem ap_neP {x y : D} (hx : x.plain = true) (hy : y.plain = true) (hl : low x = true) : neD x y = .ok (.bool (!PyData.eqv x y)) := by
  unfold neD gD eqC
  rw [hx, hy, hl]
  rfl
/-! ### lists of data -/
theorem plainAll_map {α : Type} (f : α → D) (l : List α) (h : ∀ a ∈ l, (f a).plain = true) : PyData.plainAll (l.map f) = true := by
  induction l with
  | nil => rfl
  | cons a l ih =>
    rw [List.map_cons, PyData.plainAll, h a List.mem_cons_self, ih fun b hb => h b (List.mem_cons_of_mem _ hb)]
    rfl
theorem depthAll_map {α : Type} (f : α → D) (l : List α) (n : Nat) (h : ∀ a ∈ l, (f a).depth ≤ n) : PyData.depthAll (l.map f) ≤ n := by
  induction l with
  | nil => simp [PyData.depthAll]
  | cons a l ih =>
    rw [List.map_cons, PyData.depthAll]
    have := h a List.mem_cons_self
    have := ih fun b hb => h b (List.mem_cons_of_mem _ hb)
    exact Nat.max_le.mpr ⟨by assumption, by assumption⟩
theorem low_of {d : D} (h : d.depth ≤ 60) : low d = true := decide_eq_true h
theorem eqvAll_map {α : Type} (f : α → D) (hf : ∀ a b, PyData.eqv (f a) (f b) = true ↔ a = b) : ∀ (l m : List α), PyData.eqvAll (l.map f) (m.map f) = true ↔ l = m
  | [], [] => by simp [PyData.eqvAll]
  | [], _ :: _ => by simp [PyData.eqvAll]
  | _ :: _, [] => by simp [PyData.eqvAll]
  | a :: l, b :: m => by
    rw [List.map_cons, List.map_cons, PyData.eqvAll, Bool.and_eq_true, hf, eqvAll_map f hf l m]
    simp
/-! ### comprehensions, loops -/
theorem compL_fm {Γ : DEnv} {g : D → DEnv → Res DEnv} {tt : DEnv → Res Bool} {te : DEnv → Res D} {p : D → Bool} {h : D → D} : ∀ {ds : List D}, (∀ d ∈ ds, ∃ Γ1, g d Γ = .ok Γ1 ∧ tt Γ1 = .ok (p d) ∧ (p d = true → te Γ1 = .ok (h d))) → compL Γ g tt te ds = .ok ((ds.filter p).map h)
  | [], _ => rfl
  | d :: ds, H => by
    obtain ⟨Γ1, e1, e2, e3⟩ := H d List.mem_cons_self
    have ih := compL_fm (ds := ds) fun d hd => H d (List.mem_cons_of_mem _ hd)
    unfold compL
    rw [e1, ok_bindB, e2, ok_bindB]
    cases hp : p d with
    | true =>
      rw [List.filter_cons_of_pos hp, List.map_cons, if_pos rfl, e3 hp, ok_bindB, ih, ok_bindB]
    | false => rw [List.filter_cons_of_neg (by simp [hp]), if_neg Bool.false_ne_true, ih]
/-- over encoded items: α is what they are -/
theorem compL_enc {α : Type} {Γ : DEnv} {g : D → DEnv → Res DEnv} {tt : DEnv → Res Bool} {te : DEnv → Res D} (enc : α → D) {p : α → Bool} {h : α → D} : ∀ {l : List α}, (∀ a ∈ l, ∃ Γ1, g (enc a) Γ = .ok Γ1 ∧ tt Γ1 = .ok (p a) ∧ (p a = true → te Γ1 = .ok (h a))) → compL Γ g tt te (l.map enc) = .ok ((l.filter p).map h)
  | [], _ => rfl
  | d :: ds, H => by
    obtain ⟨Γ1, e1, e2, e3⟩ := H d List.mem_cons_self
    have ih := compL_enc enc (l := ds) fun d hd => H d (List.mem_cons_of_mem _ hd)
    rw [List.map_cons]
    unfold compL
    rw [e1, ok_bindB, e2, ok_bindB]
    cases hp : p d with
    | true =>
      rw [List.filter_cons_of_pos hp, List.map_cons, if_pos rfl, e3 hp, ok_bindB, ih, ok_bindB]
    | false => rw [List.filter_cons_of_neg (by simp [hp]), if_neg Bool.false_ne_true, ih]
/-- a loop that carries a state S: R says how it lies in the slots -/
theorem forL_state {S α : Type} {g : D → DEnv → Res DEnv} {b : DEnv → Out} (enc : α → D) (R : S → DEnv → Prop) (step : S → α → S) : ∀ {l : List α} {s : S} {Γ : DEnv}, R s Γ → (∀ s Γ a, a ∈ l → R s Γ → ∃ Γ1 Γ2, g (enc a) Γ = .ok Γ1 ∧ b Γ1 = .next Γ2 ∧ R (step s a) Γ2) → ∃ Γ', forL g b (l.map enc) Γ = .next Γ' ∧ R (l.foldl step s) Γ'
  | [], s, Γ, h, _ => ⟨Γ, rfl, h⟩
  | a :: l, s, Γ, h, H => by
    obtain ⟨Γ1, Γ2, e1, e2, h2⟩ := H s Γ a List.mem_cons_self h
    obtain ⟨Γ', e3, h3⟩ := forL_state enc R step (l := l) h2 fun s Γ a ha => H s Γ a (List.mem_cons_of_mem _ ha)
    refine ⟨Γ', ?_, h3⟩
    rw [List.map_cons]
    unfold forL
    rw [e1, ok_gThen, e2, next_andThen, e3]
/-- a loop that may leave: by a predicate on prefixes -/
theorem forL_cons {g : D → DEnv → Res DEnv} {b : DEnv → Out} {d : D} {ds : List D} {Γ Γ1 : DEnv} (e : g d Γ = .ok Γ1) : forL g b (d :: ds) Γ = (b Γ1).andThen (forL g b ds) := by
  show gThen (g d Γ) _ = _
  rw [e, ok_gThen]
def OptP {S : Type} (P : S → Prop) (Q : Prop) : Option S → Prop
  | some s => P s
  | none => Q
/-- a loop that carries a state and may leave with d; R speaks of what is still to come -/
theorem forL_opt {S α : Type} {g : D → DEnv → Res DEnv} {b : DEnv → Out} (enc : α → D) (R : List α → S → DEnv → Prop) (step : S → α → Option S) {d : D} (H : ∀ a r s Γ, R (a :: r) s Γ → ∃ Γ1, g (enc a) Γ = .ok Γ1 ∧ OptP (fun s2 => ∃ Γ2, b Γ1 = .next Γ2 ∧ R r s2 Γ2) (b Γ1 = .ret d) (step s a)) : ∀ {l : List α} {s : S} {Γ : DEnv}, R l s Γ → OptP (fun s2 => ∃ Γ2, forL g b (l.map enc) Γ = .next Γ2 ∧ R [] s2 Γ2) (forL g b (l.map enc) Γ = .ret d) (l.foldlM step s)
  | [], s, Γ, h => ⟨Γ, rfl, h⟩
  | a :: l, s, Γ, h => by
    obtain ⟨Γ1, e1, h1⟩ := H a l s Γ h
    rw [List.foldlM_cons, List.map_cons, forL_cons e1]
    cases e : step s a with
    | none =>
      rw [e] at h1
      show (b Γ1).andThen _ = _
      rw [show b Γ1 = .ret d from h1]
      rfl
    | some s2 =>
      rw [e] at h1
      obtain ⟨Γ2, e2, h2⟩ := h1
      have ih := forL_opt enc R step H (l := l) h2
      show OptP _ _ (l.foldlM step s2)
      rw [e2]
      exact ih
theorem forL_run {S α : Type} {g : D → DEnv → Res DEnv} {b : DEnv → Out} (enc : α → D) (R : List α → S → DEnv → Prop) (step : S → α → S) (H : ∀ a r s Γ, R (a :: r) s Γ → ∃ Γ1 Γ2, g (enc a) Γ = .ok Γ1 ∧ b Γ1 = .next Γ2 ∧ R r (step s a) Γ2) : ∀ {l : List α} {s : S} {Γ : DEnv}, R l s Γ → ∃ Γ2, forL g b (l.map enc) Γ = .next Γ2 ∧ R [] (l.foldl step s) Γ2
  | [], s, Γ, h => ⟨Γ, rfl, h⟩
  | a :: l, s, Γ, h => by
    obtain ⟨Γ1, Γ2, e1, e2, h1⟩ := H a l s Γ h
    obtain ⟨Γ3, e3, h3⟩ := forL_run enc R step H (l := l) h1
    rw [List.map_cons, forL_cons e1, e2]
    exact ⟨Γ3, e3, h3⟩
/-- a loop that leaves with d at the first item that fails p -/
theorem forL_all {α : Type} {g : D → DEnv → Res DEnv} {b : DEnv → Out} (enc : α → D) (R : DEnv → Prop) (p : α → Bool) {d : D} : ∀ {l : List α} {Γ : DEnv}, (∀ a ∈ l, ∀ Γ, R Γ → ∃ Γ1, g (enc a) Γ = .ok Γ1 ∧ (if p a then ∃ Γ2, b Γ1 = .next Γ2 ∧ R Γ2 else b Γ1 = .ret d)) → R Γ → (if l.all p then ∃ Γ2, forL g b (l.map enc) Γ = .next Γ2 ∧ R Γ2 else forL g b (l.map enc) Γ = .ret d)
  | [], Γ, _, h => ⟨Γ, rfl, h⟩
  | a :: l, Γ, H, h => by
    obtain ⟨Γ1, e1, h1⟩ := H a List.mem_cons_self Γ h
    rw [List.map_cons, forL_cons e1, List.all_cons]
    cases e : p a with
    | false =>
      rw [e] at h1
      show (b Γ1).andThen _ = _
      rw [show b Γ1 = .ret d from h1]
      rfl
    | true =>
      rw [e] at h1
      obtain ⟨Γ2, e2, h2⟩ := h1
      rw [Bool.true_and, e2]
      exact forL_all enc R p (l := l) (fun a ha => H a (List.mem_cons_of_mem _ ha)) h2
theorem rangeD0 (n : Nat) : rangeD 0 n = (List.range n).map fun k : Nat => (.int (k : Int) : D) := by
  unfold rangeD
  refine List.map_congr_left fun k _ => ?_
  rw [Int.zero_add]
theorem ap_range {j : Int} (h : 0 ≤ j) (h2 : j < 2 ^ 62) : range1D [.int j] = .ok ((List.range j.toNat).map fun k : Nat => (.int (k : Int) : D)) := by
  show (if lim62 j then Res.ok (rangeD 0 j.toNat) else .bad) = _
  have : lim62 j = true := decide_eq_true ⟨by omega, h2⟩
  rw [this, if_pos rfl, rangeD0]
theorem atI_map {α β : Type} (f : α → β) {l : List α} {i : Int} : atI (l.map f) i = (atI l i).map f := by
  unfold atI
  rw [List.length_map]
  cases ixN l.length i with
  | none => rfl
  | some j => show (l.map f)[j]? = (l[j]?).map f; rw [List.getElem?_map]
theorem ap_ixL {α : Type} (f : α → D) {l : List α} {k : Nat} {a : α} (h : l[k]? = some a) : ixD (.list (l.map f)) (.int k) = .ok (f a) := by
  show (match atI (l.map f) k with | some d => Res.ok d | none => .bad) = _
  rw [atI_map, atI_nat h]
  rfl
theorem ap_ixT {α : Type} (f : α → D) {l : List α} {k : Nat} {a : α} (h : l[k]? = some a) : ixD (.tuple (l.map f)) (.int k) = .ok (f a) := by
  show (match atI (l.map f) k with | some d => Res.ok d | none => .bad) = _
  rw [atI_map, atI_nat h]
  rfl
@[simp] theorem ap_ixT0 (a : D) (r : List D) : ixD (.tuple (a :: r)) (.int 0) = .ok a := by
  show (match atI (a :: r) 0 with | some d => Res.ok d | none => .bad) = _
  rw [show (0 : Int) = ((0 : Nat) : Int) from rfl, atI_nat (v := a) rfl]
@[simp] theorem ap_ixT1 (a b : D) (r : List D) : ixD (.tuple (a :: b :: r)) (.int 1) = .ok b := by
  show (match atI (a :: b :: r) 1 with | some d => Res.ok d | none => .bad) = _
  rw [show (1 : Int) = ((1 : Nat) : Int) from rfl, atI_nat (v := b) rfl]
end DL

/-! DL: in, not in; dicts read and written by d[k]; raise. -/
namespace DL
open PySem PySem.Spec PyProof.Rows L2
variable [TabCx] [WCx]
/-! ### x in xs, a list or a tuple -/
def inC (x y : D) : Bool := (match y with | .list _ => true | .tuple _ => true | _ => false) && low x
def inG (x y : D) : Bool := match y with
  | .list ds => ds.any fun e => PyData.eqv e x
  | .tuple ds => ds.any fun e => PyData.eqv e x
  | _ => false
def inD : D → D → Res D := gD inC inG
def ninD : D → D → Res D := gD inC fun x y => !inG x y
section
variable {X : Cx} {F : FR} {own : List Nat}
theorem in_room {d : D} {ds : List D} (h : low d = true) {A : Around} (hu : A.units + 64 < cLine) : A.units + 1 + min (PyData.depthAll ds) d.depth < cLine := by
  have h := of_decide_eq_true h
  have := Nat.min_le_right (PyData.depthAll ds) d.depth
  omega
theorem inC_of {x y : D} (h : inC x y = true) : ((∃ ds, y = .list ds) ∨ ∃ ds, y = .tuple ds) ∧ low x = true := by
  unfold inC at h
  rw [Bool.and_eq_true] at h
  refine ⟨?_, h.2⟩
  cases y with
  | list ds => exact .inl ⟨ds, rfl⟩
  | tuple ds => exact .inr ⟨ds, rfl⟩
  | _ => exact absurd h.1 Bool.false_ne_true
theorem op_inP (hu : X.A.units + 64 < cLine) : OpR X (compareOp .In) (rDat X.K (pC inC) inG) := op_dat hu fun A E s a b da db as bs Q ra rb hc h q => by
  obtain ⟨h1, h2, h3⟩ := plain_and hc
  obtain ⟨⟨ds, rfl⟩ | ⟨ds, rfl⟩, h4⟩ := inC_of h3
  · exact SeqAt.in_list_data rb ra (by rw [PyData.plain] at h2; exact h2) h1 (in_room h4 h) q
  · exact SeqAt.in_tuple_data rb ra (by rw [PyData.plain] at h2; exact h2) h1 (in_room h4 h) q
theorem op_ninP (hu : X.A.units + 64 < cLine) : OpR X (compareOp .NotIn) (rDat X.K (pC inC) fun x y => !inG x y) := op_dat hu fun A E s a b da db as bs Q ra rb hc h q => by
  obtain ⟨h1, h2, h3⟩ := plain_and hc
  obtain ⟨⟨ds, rfl⟩ | ⟨ds, rfl⟩, h4⟩ := inC_of h3
  · exact SeqAt.notIn_list_data rb ra (by rw [PyData.plain] at h2; exact h2) h1 (in_room h4 h) q
  · exact SeqAt.notIn_tuple_data rb ra (by rw [PyData.plain] at h2; exact h2) h1 (in_room h4 h) q
/-! ### k in d, d[k] -/
def kIn (es : List (D × D)) (k : D) : Bool := match k with
  | .tuple ks => (keysOf ks).isSome && guardT es && !es.isEmpty
  | _ => (keyOf k).isSome && guardK es
def dinD : D → D → Res D := fun x y => match y with
  | .dict es => if kIn es x then .ok (.bool (dGet es x).isSome) else .bad
  | _ => .bad
def dninD : D → D → Res D := fun x y => match y with
  | .dict es => if kIn es x then .ok (.bool (!(dGet es x).isSome)) else .bad
  | _ => .bad
def dixD : D → D → Res D := fun x y => match x with
  | .dict es => if kIn es y then (match dGet es y with | some d => .ok d | none => .bad) else .bad
  | _ => .bad
/-- what a dict holds at a key, told of the heap -/
theorem dget_of {K : PySem.W.Frag} {B H : Hp} {u v : V} {es : List (D × D)} {k : D} (sub : Same B H) (rd : Bor K F B H u (.dict es)) (rk : Bor K F B H v k) (h : kIn es k = true) :
    ∃ a o, u = .ref a ∧ DGet H a v o ∧ ((∃ w d, o = some w ∧ dGet es k = some d ∧ Rep K B w d) ∨ (o = none ∧ dGet es k = none)) := by
  obtain ⟨a, rfl, hd⟩ := rd.dict sub
  have flat : ∀ kk : Key, k = kD kk → guardK es = true → ∃ a' o, V.ref a = .ref a' ∧ DGet H a' v o ∧ ((∃ w d, o = some w ∧ dGet es k = some d ∧ Rep K B w d) ∨ (o = none ∧ dGet es k = none)) := by
    intro kk ek g
    subst ek
    have ev : v = kV kk := by
      rcases rk with rk | ⟨b, ob, _, _, _, r, _⟩
      · exact rep_kD rk
      · cases kk <;> cases ob <;> exact False.elim r
    subst ev
    rcases hd with ⟨kvs, h1, r⟩ | ⟨kvs, h1, r, n⟩ | ⟨ps, _, r, n⟩
    · refine ⟨a, _, rfl, .inl ⟨kvs, kk, h1, rfl, rfl⟩, ?_⟩
      rcases r.get kk with ⟨w, d, e1, e2, e3⟩ | ⟨e1, e2⟩
      · exact .inl ⟨w, d, e1, e2, e3⟩
      · exact .inr ⟨e1, e2⟩
    · exact (guardK_T r n g).elim
    · exact (guardK_N r n g).elim
  cases k with
  | int i => exact flat (.inl i) rfl (by have h : ((keyOf (.int i)).isSome && guardK es) = true := h; rw [Bool.and_eq_true] at h; exact h.2)
  | str x => exact flat (.inr x) rfl (by have h : ((keyOf (.str x)).isSome && guardK es) = true := h; rw [Bool.and_eq_true] at h; exact h.2)
  | tuple ds =>
    have h : ((keysOf ds).isSome && guardT es && !es.isEmpty) = true := h
    simp only [Bool.and_eq_true, Bool.not_eq_true', List.isEmpty_eq_false_iff] at h
    obtain ⟨⟨h1, g⟩, n⟩ := h
    obtain ⟨ks, e⟩ := Option.isSome_iff_exists.mp h1
    rw [keysOf_eq e] at rk ⊢
    rcases rk with rk | ⟨b, ob, _, _, _, r, _⟩
    · rcases hd with ⟨kvs, h1, r⟩ | ⟨kvs, h1, r, _⟩ | ⟨ps, _, r, n⟩
      rotate_left 2
      · exact (guardT_N r n g).elim
      · exact absurd (guardT_K r g).2 n
      · cases rk with
        | @tup b xs _ hb hr =>
          have ex := reps_kD hr
          subst ex
          refine ⟨a, _, rfl, DGet.t (k := ks) h1 (sub _ _ hb), ?_⟩
          rcases r.get ks with ⟨w, d, e1, e2, e3⟩ | ⟨e1, e2⟩
          · exact .inl ⟨w, d, e1, e2, e3⟩
          · exact .inr ⟨e1, e2⟩
    · cases ob <;> exact False.elim r
  | none => cases h
  | bool b => cases h
  | list ds => cases h
  | dict ds => cases h
def rDin (g : Bool → Bool) : R2 := fun x y H Q => ∃ a o, y = .ref a ∧ DGet H a x o ∧ Q (.bl (g o.isSome)) H
theorem op_din (hu : X.A.units + 64 < cLine) : OpR X (compareOp .In) (rDin fun b => b) := fun pins s σ H x y v u Q I rx ry ⟨a, o, e, g, q⟩ => by
  subst e
  obtain rfl : u = Value.ref a := ry
  exact d_in (by omega) I g rx fun s' I' => ⟨.bl _, H, I', rfl, q⟩
theorem op_dnin (hu : X.A.units + 64 < cLine) : OpR X (compareOp .NotIn) (rDin fun b => !b) := fun pins s σ H x y v u Q I rx ry ⟨a, o, e, g, q⟩ => by
  subst e
  obtain rfl : u = Value.ref a := ry
  exact d_notIn (by omega) I g rx fun s' I' => ⟨.bl _, H, I', rfl, q⟩
theorem opd_din {K : PySem.W.Frag} : OpD K F own .val (rDin fun b => b) dinD := fun Γ σ H B x y u v Q s rx ry p => by
  cases y with
  | dict es =>
    have p : Post K F own (RV K F own Γ σ .val) (if kIn es x then .ok (.bool (dGet es x).isSome) else .bad) Γ σ H B Q := p
    by_cases h : kIn es x = true
    · rw [if_pos h] at p
      obtain ⟨a, o, e, g, c⟩ := dget_of s.sub ry rx h
      refine ⟨a, o, e, g, ?_⟩
      rcases c with ⟨w, d, e1, e2, _⟩ | ⟨e1, e2⟩ <;> (rw [e2] at p; subst e1; exact Post.here p s (.bl _))
    · rw [if_neg h] at p
      exact p.elim
  | _ => exact p.elim
theorem opd_dnin {K : PySem.W.Frag} : OpD K F own .val (rDin fun b => !b) dninD := fun Γ σ H B x y u v Q s rx ry p => by
  cases y with
  | dict es =>
    have p : Post K F own (RV K F own Γ σ .val) (if kIn es x then .ok (.bool (!(dGet es x).isSome)) else .bad) Γ σ H B Q := p
    by_cases h : kIn es x = true
    · rw [if_pos h] at p
      obtain ⟨a, o, e, g, c⟩ := dget_of s.sub ry rx h
      refine ⟨a, o, e, g, ?_⟩
      rcases c with ⟨w, d, e1, e2, _⟩ | ⟨e1, e2⟩ <;> (rw [e2] at p; subst e1; exact Post.here p s (.bl _))
    · rw [if_neg h] at p
      exact p.elim
  | _ => exact p.elim
theorem de_dix {o i : Expr} {to ti : DEnv → Res D} {pos : Pos} (hu : X.A.units + 64 < cLine) (ho : DE X F own .bor o to) (hi : DE X F own .bor i ti) (hs : NoSl i := by exact fun _ _ => rfl) : DE X F own .val (.Subscript o i pos) (x2 dixD to ti) :=
  de_op2 (r := fun x y H Q => ∃ a v, x = .ref a ∧ DGet H a y (some v) ∧ Q v H) (pe_dget (by omega) ho hi hs) fun Γ σ H B x y u v Q s rx ry p => by
    cases x with
    | dict es =>
      have p : Post X.K F own (RV X.K F own Γ σ .val) (if kIn es y then (match dGet es y with | some d => .ok d | none => .bad) else .bad) Γ σ H B Q := p
      by_cases h : kIn es y = true
      · rw [if_pos h] at p
        obtain ⟨a, o, e, g, c⟩ := dget_of s.sub rx ry h
        rcases c with ⟨w, d, e1, e2, r⟩ | ⟨e1, e2⟩
        · rw [e2] at p
          subst e1
          exact ⟨a, w, e, g, Post.here p s r⟩
        · rw [e2] at p
          exact p.elim
      · rw [if_neg h] at p
        exact p.elim
    | _ => exact p.elim
/-! ### d[k] = v of an owned dict with flat keys -/
def kFlat (es : List (D × D)) (k : D) : Bool := (keyOf k).isSome && guardK es
def sDput (i : Nat) (tk tv : DEnv → Res D) : DEnv → Out := fun Γ => oDict Γ[i]? fun es => oBind (tv Γ) fun v => oBind (tk Γ) fun k => if kFlat es k && decide (es.length < sizeLine) then .next (Γ.set i (some (.dict (dPut es k v)))) else .bad
theorem ds_dput (i : Nat) {x : Str} {ek ev : Expr} {tk tv : DEnv → Res D} {p1 p2 p3 : Pos} (hu : X.A.units + 64 < cLine) (hk : DE X F own .val ek tk) (hvv : DE X F own .val ev tv)
    (hi : i ∈ own := by decide) (hN : X.N[i]? = some x := by rfl) (hv : Vis X.env.scope x := by first | exact Or.inl rfl | exact Or.inr (Or.inl rfl) | exact Or.inr (Or.inr rfl)) (hdb : (x == ("__debug__" : Str)) = false := by decide)
    (hcd : (x == ("__classdict__" : Str)) = false := by decide) (hs : swapsWith ev (some (.Subscript (.Name x p1) ek p2)) p3.line X.env = pure false := by rfl) :
    DS X F own own (.Assign [.Subscript (.Name x p1) ek p2] ev p3) (sDput i tk tv) :=
  PS.mono (ps_dput (by omega) (pe_var hN hv hdb hcd) hk hvv hs) fun Dn σ H ⟨B, Γ, s, p⟩ => by
    unfold sDPut tVar
    unfold sDput at p
    obtain ⟨es, ei⟩ := oDict_of p
    rw [ei] at p
    obtain ⟨a0, e0, eo⟩ := own_slotD s hi ei
    refine tD_firstO s p fun v z H1 B1 _ s1 g1 sb1 r1 p1 => ?_
    refine ⟨.ref a0, e0, ?_⟩
    refine tD_firstO s1 p1 fun k y H2 B2 _ s2 g2 sb2 r2 p2 => ?_
    have r1 : Rep X.K B2 z v := Rep.mono sb2 r1
    have r2 : Rep X.K B2 y k := r2
    have p2 : OPost X.K F own Dn (if kFlat es k && decide (es.length < sizeLine) then .next (Γ.set i (some (.dict (dPut es k v)))) else .bad) B2 := p2
    cases hc : (kFlat es k && decide (es.length < sizeLine)) with
    | false => rw [hc] at p2; exact p2.elim
    | true =>
      rw [hc] at p2
      rw [Bool.and_eq_true] at hc
      obtain ⟨hk1, hlen⟩ := hc
      unfold kFlat at hk1
      rw [Bool.and_eq_true] at hk1
      obtain ⟨kk, ekk⟩ := Option.isSome_iff_exists.mp hk1.1
      have ek2 := keyOf_eq ekk
      subst ek2
      have ey := rep_kD r2
      subst ey
      rcases eo with ⟨kvs, hH, r⟩ | ⟨kvs, hH, r, n⟩ | ⟨ps, _, r, n, _⟩
      · have hH2 := g2.hp.get (g1.hp.get hH)
        have r : RepK X.K B2 kvs es := (r.mono sb1).mono sb2
        refine ⟨a0, _, rfl, DPut.k hH2 (by rw [r.length]; exact of_decide_eq_true hlen), ?_⟩
        exact p2 _ _ B2 (s2.mutate hi ei e0 (show ORep X.K B2 _ (.dK _) (.dict _) from r.put kk r1)) (Same.refl _)
      · exact (guardK_T r n hk1.2).elim
      · exact (guardK_N r n hk1.2).elim
/-! ### raise C("..") -/
def sRaise (c : Str) : DEnv → Out := fun _ => .raise c
theorem ds_raise {own' : List Nat} {C : Addr} {x m : Str} {j : Nat} {p p2 p3 pos : Pos} {B newId initId : String} {bmB : List Value} (Fx : ExcBaseFacts B newId initId bmB) (q : PySem.W.excIn X.K C bmB newId = true) (gC : X.mg x = some (.ref C)) (kC : PySem.W.keepIn X.K (.ref C) = true) (r : Raises X (.ref C)) (ec : F.cv x = .ref C)
    (tk : Takes X F.W) (hg : Gl X x := by rfl) (hcalm : X.calm = true := by rfl) (hdb : (x == ("__debug__" : Str)) = false := by decide) : DS X F own own' (.Raise (some (.Call (.Name x p) [.Constant (.str m) j p2] [] p3)) none pos) (sRaise x) :=
  PS.mono (ps_raise hcalm tk (pmk_own Fx q gC kC r hg hdb)) fun Dn σ H ⟨B, Γ, s, p⟩ => by
    have p : ∀ σ' H', Sm F.H0 H' → F.W (F.cv x) none σ' H' := p
    rw [ec] at p
    exact p σ H s.same
end
@[simp] theorem ap_sDput {Γ : DEnv} (i : Nat) (tk tv : DEnv → Res D) : sDput i tk tv Γ = oDict Γ[i]? fun es => oBind (tv Γ) fun v => oBind (tk Γ) fun k => if kFlat es k && decide (es.length < sizeLine) then .next (Γ.set i (some (.dict (dPut es k v)))) else .bad := rfl
@[simp] theorem ap_sRaise {Γ : DEnv} (c : Str) : sRaise c Γ = .raise c := rfl
end DL

/-! DL: set(xs) of a list or a tuple, sorted(set(xs)). -/
namespace DL
open PySem PySem.Spec PyProof.Rows L2
/-- the set that is still empty -/
abbrev set0 (w : World) : Obj := { cls := .type "set", dict := none, data := .set #[] 0 (.fresh 0 0 (!w.params.followText "set-order")) }
def SeqObj (h : Heap) (l : Addr) (items : Array Value) : Prop := h.IsList l items ∨ h.IsTuple l items
section
variable {P : Program} {w : World} {A : Around} {E : Value → Shared → Prop} {s : Shared}
set_option maxHeartbeats 3200000 in
theorem set_open {l : Addr} {items : Array Value} {Q : Value → Shared → Prop} (hl : SeqObj s.heap l items) (hh : A.handled = none) (Res : Heap → Prop)
    (loop : ∀ (I : Addr) (G : Array GenState → Array GenState → Prop) (St : Nat → Shared → Prop) (s1 : Shared) (R : Result → Shared → Prop), WalksS P w A.in1.in1.in1 I [I, l] [I] G items.size (fun i v => items[i]? = some v) St → St 0 s1 → s1.heap.get? s.heap.objs.size = some (set0 w) →
      (∀ b o, s.heap.get? b = some o → s1.heap.get? b = some o) → s.heap.objs.size ∉ [I, l] → s.heap.get? I = none → (∀ s', Moved [s.heap.objs.size, I] G s1 s' → Res s'.heap → R (.ok (.ret .none)) s') → codeAny (model P w) A.in1.in1 (.builtin "set.update.loop" ⟨[.ref s.heap.objs.size, .ref I], []⟩) R s1)
    (h : ∀ (h' : Heap) (tk : Nat), Res h' → (∀ b o, s.heap.get? b = some o → h'.get? b = some o) → Q (.ref s.heap.objs.size) { s with heap := h', toks := tk }) :
    wpAny (model P w) A (call (.type "set") [.ref l]) Q E s := by
  have ⟨c, tl, hmro⟩ := F.called_set.mro
  have m1 := F.called_set.made
  have m2 := F.called_set.sub
  have m3 := F.called_set.notType
  have m4 := F.called_set.canCreate
  have m5 := F.typeCall_set_1 (.ref l)
  refine wpAny_call (codeAny_of_tree (show wpAny _ _ (callAny (.type "set") _) _ _ _ from wpAny_pure ⟨Code.quiet_builtin _ (by decide +kernel), codeAny_builtin F.entry_type_call ?_⟩))
  rw [Around.under_plain (weight_type_call_type "set" [.ref l] []) rfl]
  repeat (any_goals (first | assumption | wp_step))
  refine codeAny_mono (code_set_led1 (.ref l) (E := E) (Q₁ := fun u t => u = .ref s.heap.objs.size ∧ t = { s with heap := s.heap.push (set0 w) }) ⟨rfl, rfl⟩) fun r t hr => ?_
  match r, hr with
  | .error e, hr => exact hr
  | .ok (.ret u), hr =>
    obtain ⟨rfl, rfl⟩ := hr
    have h0 : (s.heap.push (set0 w)).get? s.heap.objs.size = some (set0 w) := Heap.get?_push_size _ rfl
    have hT : Shared.TypeIs { s with heap := s.heap.push (set0 w) } (.ref s.heap.objs.size) "set" := ⟨_, h0, rfl⟩
    have m6 := F.called_set.init.lookup
    have m7 := F.called_set.init.bind (.ref s.heap.objs.size)
    repeat (any_goals (first | assumption | wp_step))
    refine codeAny_mono (codeAny_call_builtin (R := wants (fun r t => r = .none ∧ ∃ h' tk, t = { s with heap := h', toks := tk } ∧ Res h' ∧ (∀ b o, s.heap.get? b = some o → h'.get? b = some o)) E) F.called_set.init.plain F.entry_set_init (check_set_init_1 hT ?_)) fun r t hr => ?_
    · have hh3 : A.in1.in1.in1.handled = none := by simp [hh]
      have sz1 : (s.heap.push (set0 w)).objs.size = s.heap.objs.size + 1 := Heap.size_push ..
      have old1 : ∀ b o, s.heap.get? b = some o → (s.heap.push (set0 w)).get? b = some o := fun b o e => Heap.get?_push_of_some _ e
      have fin : ∀ (it : Obj) (G : Array GenState → Array GenState → Prop), (∀ g g', G g g' → g' = g) → ∀ s' : Shared, Moved [s.heap.objs.size, (s.heap.push (set0 w)).objs.size] G { s with heap := (s.heap.push (set0 w)).push it } s' → ∃ tk, s' = { s with heap := s'.heap, toks := tk } ∧ ∀ b o, s.heap.get? b = some o → s'.heap.get? b = some o := by
        intro it G hG s' hm
        obtain ⟨h', g', d', tk, os'⟩ := s'
        have e1 : g' = s.gens := hG _ _ hm.gens
        have e2 : d' = s.drawn := hm.drawn
        have e3 : os' = s.os := hm.os
        subst e1; subst e2; subst e3
        refine ⟨tk, rfl, fun b o e => hm.heap b o (fun hb => ?_) (Heap.get?_push_of_some _ (old1 b o e))⟩
        have lt := Heap.lt_size e
        rcases List.mem_cons.mp hb with hb | hb
        · exact Nat.ne_of_lt lt hb
        · rw [List.mem_singleton.mp hb, sz1] at lt
          exact absurd lt (Nat.not_lt_of_le (Nat.le_succ _))
      have out : ∀ (it : Obj), l < s.heap.objs.size → (s.heap.push (set0 w)).objs.size ≠ l ∧ s.heap.objs.size ∉ [(s.heap.push (set0 w)).objs.size, l] ∧ ((s.heap.push (set0 w)).push it).get? s.heap.objs.size = some (set0 w) ∧ ∀ b o, s.heap.get? b = some o → ((s.heap.push (set0 w)).push it).get? b = some o := by
        intro it lt
        refine ⟨fun e => absurd lt (Nat.not_lt_of_le (by rw [← e, sz1]; exact Nat.le_succ _)), fun hb => ?_, Heap.get?_push_of_some _ h0, fun b o e => Heap.get?_push_of_some _ (old1 b o e)⟩
        rcases List.mem_cons.mp hb with hb | hb
        · rw [sz1] at hb
          exact absurd hb (Nat.ne_of_lt (Nat.lt_succ_self _))
        · rw [List.mem_singleton] at hb
          exact absurd hb (Nat.ne_of_gt lt)
      rcases hl with hl | hl
      · obtain ⟨⟨oc, od, odt, os⟩, g1, g2, nl, g3⟩ := hl
        simp only at g2 g3
        subst g2; subst g3
        have lt := Heap.lt_size g1
        have g4 := old1 _ _ g1
        have m8 := F.sub_list_set
        have m9 := F.sub_list_frozenset
        have m10 : (Value.type "list" == Value.type "dict") = false := by decide
        have isl : (s.heap.push (set0 w)).IsList l items := ⟨_, g4, rfl, nl, rfl⟩
        unfold Builtin.«set.__init__» noKeywords Builtin.Frozenset.updateFrom
        generalize hPI : pyIter = PI
        wp_walk
        subst hPI
        refine wpAny_pyIter_list isl (wpAny_bind (wpAny_runValue ?_))
        have o1 := out { cls := .type "list_iterator", data := .fields #[.ref l, .int 0 0] } lt
        refine loop _ _ _ _ _ ((Walks.list hh3 _ l (fun e => o1.1 e.symm) items).toS) ⟨⟨_, Heap.get?_push_size _ rfl, rfl, rfl⟩, isl.push _⟩ o1.2.2.1 o1.2.2.2 o1.2.1 (Heap.get?_none_of_le (by rw [sz1]; exact Nat.le_succ _)) fun s' hm hr => ?_
        obtain ⟨tk, es', k⟩ := fin _ _ (fun _ _ h => h) s' hm
        show wpAny _ _ _ _ _ _
        refine wpAny_pure ?_
        show wpAny _ _ (ret Value.none) _ _ _
        exact wpAny_pure ⟨rfl, s'.heap, tk, es', hr, k⟩
      · obtain ⟨⟨oc, od, odt, os⟩, g1, g2, nl, g3⟩ := hl
        simp only at g2 g3
        subst g2; subst g3
        have lt := Heap.lt_size g1
        have g4 := old1 _ _ g1
        have m8 := F.sub_tuple_set
        have m9 := F.sub_tuple_frozenset
        have m10 : (Value.type "tuple" == Value.type "dict") = false := by decide
        have isl : (s.heap.push (set0 w)).IsTuple l items := ⟨_, g4, rfl, nl, rfl⟩
        unfold Builtin.«set.__init__» noKeywords Builtin.Frozenset.updateFrom
        generalize hPI : pyIter = PI
        wp_walk
        subst hPI
        refine wpAny_pyIter_tuple isl (wpAny_bind (wpAny_runValue ?_))
        have o1 := out { cls := .type "tuple_iterator", data := .fields #[.ref l, .int 0 0] } lt
        refine loop _ _ _ _ _ ((Walks.tuple hh3 _ l (fun e => o1.1 e.symm) items).toS) ⟨⟨_, Heap.get?_push_size _ rfl, rfl, rfl⟩, isl.push _⟩ o1.2.2.1 o1.2.2.2 o1.2.1 (Heap.get?_none_of_le (by rw [sz1]; exact Nat.le_succ _)) fun s' hm hr => ?_
        obtain ⟨tk, es', k⟩ := fin _ _ (fun _ _ h => h) s' hm
        show wpAny _ _ _ _ _ _
        refine wpAny_pure ?_
        show wpAny _ _ (ret Value.none) _ _ _
        exact wpAny_pure ⟨rfl, s'.heap, tk, es', hr, k⟩
    · match r, hr with
      | .error e, hr => exact hr
      | .ok (.ret u), hr =>
        obtain ⟨rfl, h', tk, rfl, hr, k⟩ := hr
        repeat (any_goals (first | assumption | wp_step))
        exact h _ _ hr k
      | .ok .next, hr => exact hr.elim
      | .ok .brk, hr => exact hr.elim
      | .ok .cont, hr => exact hr.elim
  | .ok .next, hr => exact hr.elim
  | .ok .brk, hr => exact hr.elim
  | .ok .cont, hr => exact hr.elim
end
end DL

/-! DL: sorted(set(xs)) of ints; sorted(d) of a dict with int keys. -/
namespace DL
open PySem PySem.Spec PyProof.Rows L2
variable [TabCx] [WCx]
section
variable {P : Program} {w : World} {A : Around} {E : Value → Shared → Prop} {s : Shared}
theorem set_ints {l : Addr} {items : Array Value} (ns : List Int) {Q : Value → Shared → Prop} (hh : A.handled = none) (hl : SeqObj s.heap l items) (hit : IntsAre items.toList ns) (hb : ns.length + 1 < scanBound)
    (h : ∀ (h' : Heap) (tk c : Nat), SetR w h' s.heap.objs.size (fun j => decide (j ∈ ns)) c → c ≤ ns.length → (∀ b o, s.heap.get? b = some o → h'.get? b = some o) → Q (.ref s.heap.objs.size) { s with heap := h', toks := tk }) :
    wpAny (model P w) A (call (.type "set") [.ref l]) Q E s := by
  have hn : items.size = ns.length := by rw [← hit.length, Array.length_toList]
  have hval : ∀ (i : Nat) (v : Value), items[i]? = some v → ∃ k t, ns[i]? = some k ∧ v = .int k t := fun i v hv => by
    have hi : i < ns.length := hn ▸ (Array.getElem?_eq_some_iff.mp hv).1
    obtain ⟨t, e⟩ := PyProof.Rows.IntsAre.int_at hit i v (by rw [Array.getElem?_toList]; exact hv)
    refine ⟨ns[i], t, List.getElem?_eq_getElem hi, ?_⟩
    rw [e, List.getD_eq_getElem?_getD, List.getElem?_eq_getElem hi, Option.getD_some]
  exact set_open hl hh (fun h' => ∃ c, c ≤ ns.length ∧ SetR w h' s.heap.objs.size (fun j => decide (j ∈ ns)) c)
    (fun I G St s1 R W st h0 old out _ hr => set_update_ints W s.heap.objs.size out ns hn hb hval (items.size - 0) 0 s1 (Nat.sub_zero _) (Nat.zero_le _) st ⟨0, Nat.le_refl 0, setR_new_at h0⟩ fun s' c hm hc hR => hr s' hm ⟨c, hn ▸ hc, hR⟩)
    fun h' tk ⟨c, hc, hR⟩ k => h h' tk c hR hc k
end
/-! ### the rising list of what stands in a list -/
def insU (x : Int) : List Int → List Int
  | [] => [x]
  | y :: l => if x < y then x :: y :: l else if x = y then y :: l else y :: insU x l
def sortU : List Int → List Int
  | [] => []
  | x :: l => insU x (sortU l)
theorem mem_insU {x k : Int} : ∀ {l : List Int}, k ∈ insU x l ↔ k = x ∨ k ∈ l
  | [] => by unfold insU; simp
  | y :: l => by
    unfold insU
    by_cases h : x < y
    · rw [if_pos h]
      simp
    · rw [if_neg h]
      by_cases h2 : x = y
      · rw [if_pos h2]
        subst h2
        simp
      · rw [if_neg h2, List.mem_cons, mem_insU, List.mem_cons]
        exact ⟨fun h => h.elim (fun h => .inr (.inl h)) fun h => h.elim .inl fun h => .inr (.inr h), fun h => h.elim (fun h => .inr (.inl h)) fun h => h.elim .inl fun h => .inr (.inr h)⟩
theorem mem_sortU {k : Int} : ∀ {l : List Int}, k ∈ sortU l ↔ k ∈ l
  | [] => Iff.rfl
  | x :: l => by
    unfold sortU
    rw [mem_insU, mem_sortU, List.mem_cons]
theorem insU_rises {x : Int} : ∀ {l : List Int}, l.Pairwise (· < ·) → (insU x l).Pairwise (· < ·)
  | [], _ => by unfold insU; simp
  | y :: l, h => by
    obtain ⟨h1, h2⟩ := List.pairwise_cons.mp h
    unfold insU
    by_cases hx : x < y
    · rw [if_pos hx]
      refine List.pairwise_cons.mpr ⟨fun z hz => ?_, h⟩
      rcases List.mem_cons.mp hz with rfl | hz
      · exact hx
      · exact Int.lt_trans hx (h1 z hz)
    · rw [if_neg hx]
      by_cases h3 : x = y
      · rw [if_pos h3]
        exact h
      · rw [if_neg h3]
        refine List.pairwise_cons.mpr ⟨fun z hz => ?_, insU_rises h2⟩
        rcases mem_insU.mp hz with rfl | hz
        · omega
        · exact h1 z hz
theorem sortU_rises : ∀ {l : List Int}, (sortU l).Pairwise (· < ·)
  | [] => List.Pairwise.nil
  | _ :: _ => insU_rises sortU_rises
theorem rises_eq : ∀ {a b : List Int}, a.Pairwise (· < ·) → b.Pairwise (· < ·) → (∀ k, k ∈ a ↔ k ∈ b) → a = b
  | [], [], _, _, _ => rfl
  | [], y :: b, _, _, h => absurd ((h y).mpr List.mem_cons_self) (by simp)
  | x :: a, [], _, _, h => absurd ((h x).mp List.mem_cons_self) (by simp)
  | x :: a, y :: b, ha, hb, h => by
    obtain ⟨a1, a2⟩ := List.pairwise_cons.mp ha
    obtain ⟨b1, b2⟩ := List.pairwise_cons.mp hb
    have e : x = y := by
      rcases List.mem_cons.mp ((h x).mp List.mem_cons_self) with e | hx
      · exact e
      · rcases List.mem_cons.mp ((h y).mpr List.mem_cons_self) with e | hy
        · exact e.symm
        · have := a1 y hy
          have := b1 x hx
          omega
    subst e
    rw [rises_eq a2 b2 fun k => ?_]
    have hk := h k
    rw [List.mem_cons, List.mem_cons] at hk
    refine ⟨fun q => (hk.mp (.inr q)).resolve_left fun e => ?_, fun q => (hk.mpr (.inr q)).resolve_left fun e => ?_⟩
    · subst e; exact absurd (a1 _ q) (Int.lt_irrefl _)
    · subst e; exact absurd (b1 _ q) (Int.lt_irrefl _)
theorem sortU_eq {a ns : List Int} (h : a.Pairwise (· < ·)) (m : ∀ k, k ∈ a ↔ k ∈ ns) : a = sortU ns := rises_eq h sortU_rises fun k => (m k).trans mem_sortU.symm
theorem insU_len {x : Int} : ∀ {l : List Int}, (insU x l).length ≤ l.length + 1
  | [] => by simp [insU]
  | y :: l => by
    unfold insU
    split
    · simp
    · split
      · simp
      · simp only [List.length_cons]
        have := insU_len (x := x) (l := l)
        omega
theorem sortU_len : ∀ {l : List Int}, (sortU l).length ≤ l.length
  | [] => Nat.le_refl _
  | x :: l => by
    unfold sortU
    have := insU_len (x := x) (l := sortU l)
    have := sortU_len (l := l)
    simp only [List.length_cons]
    omega
def intsOf : List D → Option (List Int)
  | [] => some []
  | .int i :: r => (intsOf r).map (i :: ·)
  | _ :: _ => none
theorem intsOf_eq : ∀ {ds : List D} {ns : List Int}, intsOf ds = some ns → ds = ns.map .int
  | [], ns, h => by cases h; rfl
  | .int i :: r, ns, h => by
    unfold intsOf at h
    cases e : intsOf r with
    | none => rw [e] at h; cases h
    | some m =>
      rw [e] at h
      cases h
      rw [List.map_cons, ← intsOf_eq e]
  | .none :: _, _, h => by cases h
  | .bool _ :: _, _, h => by cases h
  | .str _ :: _, _, h => by cases h
  | .list _ :: _, _, h => by cases h
  | .tuple _ :: _, _, h => by cases h
  | .dict _ :: _, _, h => by cases h
theorem intsOf_map : ∀ ns : List Int, intsOf (ns.map .int) = some ns
  | [] => rfl
  | n :: ns => by
    rw [List.map_cons]
    unfold intsOf
    rw [intsOf_map ns]
    rfl
theorem reps_ints {K : PySem.W.Frag} {B : Hp} : ∀ {vs : List V} {ns : List Int}, Reps K B vs (ns.map .int) → vs = ns.map V.int
  | _, [], r => by cases r; rfl
  | _, n :: ns, r => by
    cases r with
    | cons a b =>
      rw [reps_ints b]
      cases a
      rfl
/-- sorted(set(xs)), xs a list or a tuple of ints -/
def sortSetD : D → Res D := fun d => match d with
  | .list ds => (match intsOf ds with | some ns => if ns.length < 64 then .ok (.list ((sortU ns).map .int)) else .bad | none => .bad)
  | .tuple ds => (match intsOf ds with | some ns => if ns.length < 64 then .ok (.list ((sortU ns).map .int)) else .bad | none => .bad)
  | _ => .bad
section
variable {X : Cx} {F : FR} {own : List Nat}
theorem ints_of_vals : ∀ {ns : List Int} {us : List Value}, Vals (ns.map V.int) us → IntsAre us ns
  | [], _, .nil => .nil
  | n :: ns, _, .cons ⟨t, e⟩ r => by
    subst e
    exact .cons n t (ints_of_vals r)
def rSetI (K : PySem.W.Frag) (w : World) : List V → Hp → VK → Prop := fun vs H Q => ∃ (l : Addr) (ns : List Int), vs = [V.ref l] ∧ (SqL K H l (ns.map V.int) ∨ SqT K H l (ns.map V.int)) ∧ ns.length + 1 < scanBound ∧ ∀ p c, H p = none → c ≤ ns.length → Q (.ref p) (upd H p (SetO w p (fun j => decide (j ∈ ns)) c))
theorem cr_setI (hc : X.calm = true) : CallR X (.type "set") (rSetI X.K X.w) := by
  intro pins s σ H vs us Q I r h
  obtain ⟨l, ns, rfl, hs, hb, q⟩ := h
  rw [Vals.ref1 r]
  have hn : H s.heap.objs.size = none := I.hok.fresh (Nat.le_refl _)
  have go : ∀ items : Array Value, SeqObj s.heap l items → IntsAre items.toList ns → wpAny (model X.prog X.w) X.A (call (.type "set") [.ref l]) (EP X pins σ Q) X.xe s := fun items hl hi =>
    set_ints ns (I.ok.hd hc) hl hi hb fun h' tk c R hle k => ⟨.ref s.heap.objs.size, _, I.laid (t' := tk) k (Nat.le_refl _) (setO_new R), rfl, q _ c hn hle⟩
  rcases hs with hs | hs
  · obtain ⟨its, rv, hl, _⟩ := I.list hs
    exact go its.toArray (.inl hl.isList) (by simpa using ints_of_vals rv)
  · obtain ⟨its, rv, hl, _⟩ := I.tuple hs
    exact go its.toArray (.inr hl) (by simpa using ints_of_vals rv)
theorem de_sortSet {e : Expr} {t : DEnv → Res D} {p p2 pos pos2 : Pos} (hc : X.calm = true) (h : DE X F own .bor e t) (hm : X.mg "sorted" = none) (hm2 : X.mg "set" = none) (hg : Gl X "sorted" := by rfl) (hg2 : Gl X "set" := by rfl) (hs : starEach [e] X.env = (false, eval e X.env) :: starEach [] X.env := by rfl)
    (hs2 : starEach [.Call (.Name "set" p2) [e] [] pos2] X.env = (false, eval (.Call (.Name "set" p2) [e] [] pos2) X.env) :: starEach [] X.env := by rfl) :
    DE X F own .fresh (.Call (.Name "sorted" p) [.Call (.Name "set" p2) [e] [] pos2] [] pos) (x1 sortSetD t) :=
  PE.mono (pe_callB (cr_sortedSet hc) hg hm (by decide +kernel) (pa_cons (pe_callTy (cr_setI hc) hg2 hm2 (by decide +kernel) (pa_cons h pa_nil hs) (he := hs)) pa_nil hs2) (he := hs2)) fun σ H Q ⟨B, Γ, s, pp⟩ => by
    unfold tCB tCons tNil
    refine tD_first early_RV s pp fun d v H1 B1 s1 g1 r1 p1 => ?_
    have core : ∀ (l : Addr) (ns : List Int), v = .ref l → (SqL X.K H1 l (ns.map V.int) ∨ SqT X.K H1 l (ns.map V.int)) → ns.length < 64 → Post X.K F own (RV X.K F own Γ σ .fresh) (.ok (.list ((sortU ns).map .int))) Γ σ H1 B1 Q →
        rSetI X.K X.w [v] H1 fun p H2 => rSortedSet X.w [p] H2 Q := by
      intro l ns ev hs h64 p1
      subst ev
      refine ⟨l, ns, rfl, hs, by unfold scanBound; omega, fun p c hp hle => ?_⟩
      refine ⟨p, _, c, rfl, upd_same, by omega, fun ns' q h1 h2 h3 hq => ?_⟩
      have e : ns' = sortU ns := sortU_eq h1 fun k => (h2 k).trans decide_eq_true_iff
      subst e
      exact Post.newObj (Post.mono early_RV p1 (grow_new hp)) (s1.grown hp) (show ORep X.K B1 _ (.lst _) (.list _) from Reps.ints _) hq
    have seq : ∀ ds : List D, (∃ l xs, v = .ref l ∧ (SqL X.K H1 l xs ∨ SqT X.K H1 l xs) ∧ Reps X.K B1 xs ds) → Post X.K F own (RV X.K F own Γ σ .fresh) (match intsOf ds with | some ns => if ns.length < 64 then .ok (.list ((sortU ns).map .int)) else .bad | none => .bad) Γ σ H1 B1 Q → rSetI X.K X.w [v] H1 fun p H2 => rSortedSet X.w [p] H2 Q := by
      intro ds ⟨l, xs, ev, hs, r⟩ p1
      cases e : intsOf ds with
      | none => rw [e] at p1; exact p1.elim
      | some ns =>
        rw [e] at p1
        have p1 : Post X.K F own (RV X.K F own Γ σ .fresh) (if ns.length < 64 then .ok (.list ((sortU ns).map .int)) else .bad) Γ σ H1 B1 Q := p1
        by_cases h : ns.length < 64
        · rw [if_pos h] at p1
          rw [intsOf_eq e] at r
          have ex := reps_ints r
          subst ex
          exact core l ns ev hs h p1
        · rw [if_neg h] at p1
          exact p1.elim
    have r1 : Bor X.K F B1 H1 v d := r1
    cases d with
    | list ds =>
      obtain ⟨a, xs, rfl, h, r⟩ := r1.list s1.sub
      exact seq ds ⟨a, xs, rfl, .inl h, r⟩ p1
    | tuple ds =>
      obtain ⟨a, xs, rfl, h, _, r⟩ := r1.tuple s1.sub
      exact seq ds ⟨a, xs, rfl, .inr h, r⟩ p1
    | _ => exact p1.elim
/-! ### sorted(d) of a dict with int keys -/
theorem repK_keys {K : PySem.W.Frag} {B : Hp} : ∀ {kvs : List (Key × V)} {es : List (D × D)}, RepK K B kvs es → es.map (·.1) = kvs.map fun kv => kD kv.1
  | _, _, .nil => rfl
  | _, _, .cons a b => by rw [List.map_cons, List.map_cons, repK_keys b]
theorem keys_inl : ∀ {kvs : List (Key × V)} {ns : List Int}, (kvs.map fun kv => kD kv.1) = ns.map .int → kvs.map (·.1) = ns.map Sum.inl
  | [], [], _ => rfl
  | [], _ :: _, h => by cases h
  | _ :: _, [], h => by cases h
  | (k, v) :: kvs, n :: ns, h => by
    rw [List.map_cons, List.map_cons] at h
    obtain ⟨h1, h2⟩ := List.cons.inj h
    rw [List.map_cons, List.map_cons, keys_inl h2]
    cases k with
    | inl i => cases h1; rfl
    | inr x => cases h1
def sortKeyD : D → Res D := fun d => match d with
  | .dict es => (match intsOf (es.map (·.1)) with | some ns => if ns.length < 64 ∧ ns.Nodup then .ok (.list ((sortU ns).map .int)) else .bad | none => .bad)
  | _ => .bad
theorem lt_of_le_nodup {l : List Int} (h : l.Pairwise (· ≤ ·)) (n : l.Nodup) : l.Pairwise (· < ·) := by
  induction l with
  | nil => exact List.Pairwise.nil
  | cons x l ih =>
    obtain ⟨h1, h2⟩ := List.pairwise_cons.mp h
    obtain ⟨n1, n2⟩ := List.nodup_cons.mp n
    refine List.pairwise_cons.mpr ⟨fun y hy => ?_, ih h2 n2⟩
    have := h1 y hy
    have : x ≠ y := fun z => n1 (z ▸ hy)
    omega
theorem ca_sortKey (hcalm : X.calm = true) : CaD X.K F own .bor .fresh (fun xs H Q => ∃ (a : Addr) (kvs : List (Key × V)) (ks : List Int), xs = [.ref a] ∧ Rd H a (.dK kvs) ∧ kvs.map (·.1) = ks.map Sum.inl ∧ ks.length < 64 ∧
    ∀ (ys : List Int) (p : Addr), ys.Perm ks → ys.Pairwise (· ≤ ·) → H p = none → Q (.ref p) (upd H p (.lst (ys.map V.int)))) (on1 sortKeyD) := ca1 fun Γ σ H B v d Q s r p => by
  cases d with
  | dict es =>
    have p : Post X.K F own (RV X.K F own Γ σ .fresh) (match intsOf (es.map (·.1)) with | some ns => if ns.length < 64 ∧ ns.Nodup then .ok (.list ((sortU ns).map .int)) else .bad | none => .bad) Γ σ H B Q := p
    cases e : intsOf (es.map (·.1)) with
    | none => rw [e] at p; exact p.elim
    | some ns =>
      rw [e] at p
      have p : Post X.K F own (RV X.K F own Γ σ .fresh) (if ns.length < 64 ∧ ns.Nodup then .ok (.list ((sortU ns).map .int)) else .bad) Γ σ H B Q := p
      by_cases h : ns.length < 64 ∧ ns.Nodup
      · rw [if_pos h] at p
        have fin : ∀ a kvs, v = .ref a → Rd H a (.dK kvs) → kvs.map (·.1) = ns.map Sum.inl → ∃ (a : Addr) (kvs : List (Key × V)) (ks : List Int), [v] = [.ref a] ∧ Rd H a (.dK kvs) ∧ kvs.map (·.1) = ks.map Sum.inl ∧ ks.length < 64 ∧
            ∀ (ys : List Int) (p : Addr), ys.Perm ks → ys.Pairwise (· ≤ ·) → H p = none → Q (.ref p) (upd H p (.lst (ys.map V.int))) := by
          intro a kvs ev h1 hk
          subst ev
          refine ⟨a, kvs, ns, rfl, h1, hk, h.1, fun ys q hp hs hq => ?_⟩
          have e : ys = sortU ns := sortU_eq (lt_of_le_nodup hs (hp.nodup_iff.mpr h.2)) fun k => hp.mem_iff
          subst e
          exact Post.newObj p s (show ORep X.K B _ (.lst _) (.list _) from Reps.ints _) hq
        obtain ⟨a, ev, hd⟩ := r.dict s.sub
        rcases hd with ⟨kvs, h1, rk⟩ | ⟨kvs, h1, rk, n⟩ | ⟨ps, h1, rk, n⟩
        · exact fin a kvs ev h1 (keys_inl (by rw [← repK_keys rk]; exact intsOf_eq e))
        · exfalso
          cases rk with
          | nil => exact n rfl
          | cons x y => cases e
        · exfalso
          cases rk with
          | nil => exact n rfl
          | @cons k _ _ _ _ _ _ nk _ _ _ => cases k <;> first | cases nk | cases e
      · rw [if_neg h] at p
        exact p.elim
  | _ => exact p.elim
theorem de_sortKey {e : Expr} {t : DEnv → Res D} {p pos : Pos} (hc : X.calm = true) (h : DE X F own .bor e t) (hm : X.mg "sorted" = none) (hg : Gl X "sorted" := by rfl) (hs : starEach [e] X.env = (false, eval e X.env) :: starEach [] X.env := by rfl) :
    DE X F own .fresh (.Call (.Name "sorted" p) [e] [] pos) (xCall (on1 sortKeyD) (xCons t xNil)) := de_blt (call_sortedDI hc) (ca_sortKey hc) hm (by decide +kernel) (da_cons h da_nil (hs := hs)) hg (he := hs)
end
end DL

/-! DL: int(x), tuple(range(n)). -/
namespace DL
open PySem PySem.Spec PyProof.Rows L2
variable [TabCx] [WCx]
section
variable {X : Cx} {F : FR} {own : List Nat}
def intOfD : D → Res D
  | .int i => .ok (.int i)
  | .bool b => .ok (.int (if b then 1 else 0))
  | _ => .bad
theorem ca_int {K : PySem.W.Frag} : CaD K F own .bor .val (fun xs H Q => (∃ i, xs = [.int i] ∧ Q (.int i) H) ∨ ∃ k, xs = [.bl k] ∧ Q (.int (if k then 1 else 0)) H) (on1 intOfD) := ca1 fun Γ σ H B v d Q s r p => by
  cases d with
  | int i =>
    cases r.int
    exact .inl ⟨i, rfl, Post.here p s (.int _)⟩
  | bool b =>
    cases r.bool
    exact .inr ⟨b, rfl, Post.here p s (.int _)⟩
  | _ => exact p.elim
theorem de_intOf {e : Expr} {t : DEnv → Res D} {p pos : Pos} (h : DE X F own .bor e t) (hm : X.mg "int" = none) (hg : Gl X "int" := by rfl) (hs : starEach [e] X.env = (false, eval e X.env) :: starEach [] X.env := by rfl) :
    DE X F own .val (.Call (.Name "int" p) [e] [] pos) (xCall (on1 intOfD) (xCons t xNil)) := de_bty call_int1 ca_int hm (by decide +kernel) (da_cons h da_nil (hs := hs)) hg (he := hs)
/-- tuple(range(n)) -/
def tupRgD : D → Res D
  | .int j => if j ≤ 16777216 ∧ -(2 ^ 62) ≤ j then .ok (.tuple (rangeD 0 j.toNat)) else .bad
  | _ => .bad
theorem rgV_reps {K : PySem.W.Frag} {B : Hp} (j : Int) : Reps K B (rgV 0 j) (rangeD 0 j.toNat) := by
  unfold rgV rangeD
  rw [Int.sub_zero]
  generalize List.range j.toNat = l
  induction l with
  | nil => exact .nil
  | cons a l ih => exact .cons (.int _) ih
theorem de_tupRg {a : Expr} {t : DEnv → Res D} {p p2 pos pos2 : Pos} (hc : X.calm = true) (h : DE X F own .val a t) (hm : X.mg "tuple" = none) (hm2 : X.mg "range" = none) (hg : Gl X "tuple" := by rfl) (hg2 : Gl X "range" := by rfl) (na : starEach [a] X.env = (false, eval a X.env) :: starEach [] X.env := by rfl)
    (na2 : starEach [.Call (.Name "range" p2) [a] [] pos2] X.env = (false, eval (.Call (.Name "range" p2) [a] [] pos2) X.env) :: starEach [] X.env := by rfl) :
    DE X F own .val (.Call (.Name "tuple" p) [.Call (.Name "range" p2) [a] [] pos2] [] pos) (x1 tupRgD t) :=
  PE.mono (pe_tupRg hc hg hm (prg_1 hg2 hm2 h na) na2) fun σ H Q ⟨B, Γ, s, pp⟩ => by
    unfold tTupRg tRg1
    refine tD_first early_RV s pp fun d v H1 B1 s1 g1 r1 p1 => ?_
    have r1 : Rep X.K B1 v d := r1
    cases d with
    | int j =>
      cases r1
      have p1 : Post X.K F own (RV X.K F own Γ σ .val) (if j ≤ 16777216 ∧ -(2 ^ 62) ≤ j then .ok (.tuple (rangeD 0 j.toNat)) else .bad) Γ σ H1 B1 Q := p1
      by_cases hj : j ≤ 16777216 ∧ -(2 ^ 62) ≤ j
      · rw [if_pos hj] at p1
        refine ⟨j, rfl, ⟨by decide, by decide, hj.2, by omega, by omega⟩, fun q hq => ?_⟩
        exact Post.newTup p1 s1 (rgV_reps j) hq
      · rw [if_neg hj] at p1
        exact p1.elim
    | _ => exact p1.elim
end
end DL

/-! DL: a tuple times an int. -/
namespace DL
open PySem PySem.Spec PyProof.Rows L2
variable [TabCx] [WCx]
/-- t * 1 is t -/
theorem tup_mul_one (l : Addr) (items : Array Value) (n : Nat) (dd : Option Addr) (sl : Array (Option Value)) (u : Tok) :
    Meets (Builtin.«tuple.__mul__» ⟨[.ref l, .int 1 u], []⟩) (fun _ R s => s.heap.get? l = some { cls := .type "tuple", dict := dd, data := .seq items n, slots := sl } ∧ R (.ok (.ret (.ref l))) s) :=
  .of_wp fun prog w A R s h => by
    obtain ⟨hp, g, d, tk, os⟩ := s
    obtain ⟨hl, h⟩ := h
    have f1 := AutoSeq1.idx_int
    have c1 : (items.isEmpty || (1 : Int) == 1) = true := by rw [Bool.or_eq_true]; exact .inr rfl
    wp_walk using wpAny_loadPart' hl
    repeat (first
      | (refine wpAny_ite_false (by decide) ?_; wp_walk using wpAny_loadPart' hl)
      | (refine wpAny_ite_true (decide_eq_true c1) ?_; wp_walk using wpAny_loadPart' hl))
    exact ⟨_, rfl, h⟩
section
variable {X : Cx} {F : FR} {own : List Nat}
theorem op_mulT1 : OpR X (binaryOp .Mult) (fun x y H Q => ∃ l xs, x = .ref l ∧ y = .int 1 ∧ SqT X.K H l xs ∧ Q (.ref l) H) := by
  intro pins s σ H x y v u Q I rx ry ⟨l, xs, ex, ey, hT, q⟩
  subst ex ey
  cases rx
  obtain ⟨t, rfl⟩ := ry
  obtain ⟨its, _, ⟨⟨c0, dd, d0, sl⟩, ho, hc, n, hd⟩, _⟩ := I.tuple hT
  obtain rfl : c0 = _ := hc
  obtain rfl : d0 = _ := hd
  exact wpAny_binaryOp_repeat_ref (T := "tuple") (U := "int") (by decide) ⟨_, ho, rfl⟩ (fun s' => typeIs_int s' 1 t) noFill_tuple_mul PySem.F.fills_int_mul PySem.F.slot_int_rmul repeat_tuple PySem.F.slot_int_index.lookup
    (call_meets PySem.F.slot_int_rmul (typeIs_int s 1 t) PySem.F.entry_int_rmul (PySem.F.args_int_rmul_2 _ _) (int_rmul_tuple 1 t l its.toArray n dd sl) ⟨ho, rfl, ⟨_, ho, rfl⟩, call_meets PySem.F.slot_tuple_mul ⟨_, ho, rfl⟩ PySem.F.entry_tuple_mul (PySem.F.args_tuple_mul_2 _ _) (tup_mul_one l its.toArray n dd sl t) ⟨ho, .ref l, H, I, rfl, q⟩⟩)
def mulTD : D → D → Res D := fun x y => match x, y with
  | .tuple ds, .int k => if ds ≠ [] ∧ 1 ≤ k ∧ k ≤ 1000 ∧ ds.length ≤ 1000 then .ok (.tuple (List.replicate k.toNat ds).flatten) else .bad
  | _, _ => .bad
theorem reps_rep {K : PySem.W.Frag} {B : Hp} {vs : List V} {ds : List D} (r : Reps K B vs ds) : ∀ k : Nat, Reps K B (List.replicate k vs).flatten (List.replicate k ds).flatten
  | 0 => .nil
  | k + 1 => by
    rw [List.replicate_succ, List.replicate_succ, List.flatten_cons, List.flatten_cons]
    exact Reps.append r (reps_rep r k)
theorem de_mulT {a b : Expr} {ta tb : DEnv → Res D} {pos : Pos} (ha : DE X F own .bor a ta) (hb : DE X F own .bor b tb) : DE X F own .val (.BinOp a .Mult b pos) (x2 mulTD ta tb) :=
  de_op2 (pe_op (op_mulT1.or op_repT) ha hb) fun Γ σ H B x y u v Q s rx ry p => by
    cases y with
    | int k =>
      cases x with
      | tuple ds =>
        have p : Post X.K F own (RV X.K F own Γ σ .val) (if ds ≠ [] ∧ 1 ≤ k ∧ k ≤ 1000 ∧ ds.length ≤ 1000 then .ok (.tuple (List.replicate k.toNat ds).flatten) else .bad) Γ σ H B Q := p
        by_cases h : ds ≠ [] ∧ 1 ≤ k ∧ k ≤ 1000 ∧ ds.length ≤ 1000
        · rw [if_pos h] at p
          obtain ⟨n, h1, h2, h3⟩ := h
          cases ry.int
          obtain ⟨a, xs, rfl, hT, hb, r⟩ := rx.tuple s.sub
          by_cases h4 : k = 1
          · subst h4
            refine .inl ⟨a, xs, rfl, rfl, hT, Post.here p s ?_⟩
            have e : (List.replicate (1 : Int).toNat ds).flatten = ds := by simp
            rw [e]
            exact .tup hb r
          · refine .inr ⟨a, k, xs, rfl, rfl, hT, fun z => n ?_, by omega, h2, by rw [r.length]; exact h3, fun q hq => Post.newTup p s (reps_rep r _) hq⟩
            subst z
            cases r
            rfl
        · rw [if_neg h] at p
          exact p.elim
      | _ => exact p.elim
    | _ => cases x <;> exact p.elim
end
end DL

/-! DL: x = [.. for ..]. -/
namespace DL
open PySem PySem.Spec PyProof.Rows L2
variable [TabCx] [WCx]
section
variable {X : Cx} {F : FR} {own : List Nat} {tg : Expr}
theorem ds_setC {ts : List Nat} {elt iter : Expr} {ifs : List Expr} {scope : Scope} (i : Nat) {y : Str} {py spos : Pos} (vs : List (Str × Nat)) {pos : Pos} {it : DEnv → Res (List D)} {g : D → DEnv → Res DEnv} {tt : DEnv → Res Bool} {te : DEnv → Res D} (hc : X.calm = true) (hN : X.N.Nodup) (hi : DIB X F own tg iter it) (ok : BlkOk X.N X.env.scope scope vs)
    (hg : ∀ (s : Shared) (H : Hp) (C : Addr) (cl : List (Str × Addr)) (fp : List Addr), DG (X.blk s H scope (compEnvC scope cl C X.env) fp) F.quiet own ts tg g) (ht : ∀ (s : Shared) (H : Hp) (C : Addr) (cl : List (Str × Addr)) (fp : List Addr), DTs (X.blk s H scope (compEnvC scope cl C X.env) fp) F.quiet own ifs tt)
    (he : ∀ (s : Shared) (H : Hp) (C : Addr) (cl : List (Str × Addr)) (fp : List Addr), DE (X.blk s H scope (compEnvC scope cl C X.env) fp) F.quiet own .val elt te) (ho : i ∉ own := by decide) (hy : X.N[i]? = some y := by rfl) (hyl : X.env.scope.names.lookup y = some .local := by rfl)
    (hsw : swapsWith (.ListComp elt [⟨tg, iter, ifs, 0⟩] scope pos) (some (.Name y py)) spos.line X.env = pure true := by rfl) (hts : ∀ i ∈ ts, i ∈ vs.map (·.2) := by decide) (hvo : ∀ i ∈ vs.map (·.2), i ∉ own := by decide) (hs : ∀ x, foldedSetIterable iter X.env x = pure x := by intro _; rfl) :
    DS X F own own (.Assign [.Name y py] (.ListComp elt [⟨tg, iter, ifs, 0⟩] scope pos) spos) (sSet i (xComp (vs.map (·.2)) it g tt te)) :=
  PS.mono (ps_setLc (g := tG X.K F.quiet own ts g) (tt := tB X.K F.quiet own tt) (te := tD X.K F.quiet own .val te) hc hN hy hyl hsw hi ok hg ht he hs) fun Dn σ H ⟨B, Γ, s, p⟩ => by
    unfold tAsg
    have h : tD X.K F own .val (xComp (vs.map (·.2)) it g tt te) σ H (fun x H1 => gName i x σ H1 Dn.nx) := tD_firstO s p fun d v H1 B1 _ s1 g sb r q => q _ _ _ (s1.set ho r) (Same.refl _)
    obtain ⟨B2, Γ2, s2, p2⟩ := h
    exact lc_of vs hts hvo σ H _ ⟨B2, Γ2, s2, Post.freeze p2⟩
theorem ds_setCO {ts : List Nat} {elt iter : Expr} {ifs : List Expr} {scope : Scope} (i : Nat) {y : Str} {py spos : Pos} (vs : List (Str × Nat)) {pos : Pos} {it : DEnv → Res (List D)} {g : D → DEnv → Res DEnv} {tt : DEnv → Res Bool} {te : DEnv → Res D} (hc : X.calm = true) (hN : X.N.Nodup) (hi : DIB X F own tg iter it) (ok : BlkOk X.N X.env.scope scope vs)
    (hg : ∀ (s : Shared) (H : Hp) (C : Addr) (cl : List (Str × Addr)) (fp : List Addr), DG (X.blk s H scope (compEnvC scope cl C X.env) fp) F.quiet own ts tg g) (ht : ∀ (s : Shared) (H : Hp) (C : Addr) (cl : List (Str × Addr)) (fp : List Addr), DTs (X.blk s H scope (compEnvC scope cl C X.env) fp) F.quiet own ifs tt)
    (he : ∀ (s : Shared) (H : Hp) (C : Addr) (cl : List (Str × Addr)) (fp : List Addr), DE (X.blk s H scope (compEnvC scope cl C X.env) fp) F.quiet own .val elt te) (ho : i ∉ own := by decide) (hy : X.N[i]? = some y := by rfl) (hyl : X.env.scope.names.lookup y = some .local := by rfl)
    (hsw : swapsWith (.ListComp elt [⟨tg, iter, ifs, 0⟩] scope pos) (some (.Name y py)) spos.line X.env = pure true := by rfl) (hts : ∀ i ∈ ts, i ∈ vs.map (·.2) := by decide) (hvo : ∀ i ∈ vs.map (·.2), i ∉ own := by decide) (hs : ∀ x, foldedSetIterable iter X.env x = pure x := by intro _; rfl) :
    DS X F own (i :: own) (.Assign [.Name y py] (.ListComp elt [⟨tg, iter, ifs, 0⟩] scope pos) spos) (sSet i (xComp (vs.map (·.2)) it g tt te)) :=
  PS.mono (ps_setLc (g := tG X.K F.quiet own ts g) (tt := tB X.K F.quiet own tt) (te := tD X.K F.quiet own .val te) hc hN hy hyl hsw hi ok hg ht he hs) fun Dn σ H ⟨B, Γ, s, p⟩ => by
    unfold tAsg
    exact lc_of vs hts hvo σ H _ (tD_firstO s p fun d v H1 B1 _ s1 g sb r q => q _ _ _ (s1.setO ho r.1 r.2.1) (Same.refl _))
end
end DL

/-! DL: len(set(xs)) of a list of ints that stand there once each. -/
namespace DL
open PySem PySem.Spec PyProof.Rows L2
variable [TabCx] [WCx]
def lenSetD : D → Res D := fun d => match d with
  | .list ds => (match intsOf ds with | some ns => if ns.length < 64 ∧ ns.Nodup then .ok (.int ns.length) else .bad | none => .bad)
  | _ => .bad
section
variable {X : Cx} {F : FR} {own : List Nat}
theorem de_lenSet {e : Expr} {t : DEnv → Res D} {p p2 pos pos2 : Pos} (hc : X.calm = true) (h : DE X F own .bor e t) (hm : X.mg "len" = none) (hm2 : X.mg "set" = none) (hg : Gl X "len" := by rfl) (hg2 : Gl X "set" := by rfl) (hs : starEach [e] X.env = (false, eval e X.env) :: starEach [] X.env := by rfl) :
    DE X F own .val (.Call (.Name "len" p) [.Call (.Name "set" p2) [e] [] pos2] [] pos) (x1 lenSetD t) :=
  PE.mono (L2.pe_lenSetI hc hg hm hg2 hm2 h (na := hs)) fun σ H Q ⟨B, Γ, s, pp⟩ => by
    unfold L2.tLenSetI
    refine tD_first early_RV s pp fun d v H1 B1 s1 g1 r1 p1 => ?_
    have r1 : Bor X.K F B1 H1 v d := r1
    cases d with
    | list ds =>
      obtain ⟨a, xs, rfl, h, r⟩ := r1.list s1.sub
      have p1 : Post X.K F own (RV X.K F own Γ σ .val) (match intsOf ds with | some ns => if ns.length < 64 ∧ ns.Nodup then .ok (.int ns.length) else .bad | none => .bad) Γ σ H1 B1 Q := p1
      cases e : intsOf ds with
      | none => rw [e] at p1; exact p1.elim
      | some ns =>
        rw [e] at p1
        have p1 : Post X.K F own (RV X.K F own Γ σ .val) (if ns.length < 64 ∧ ns.Nodup then .ok (.int ns.length) else .bad) Γ σ H1 B1 Q := p1
        by_cases hn : ns.length < 64 ∧ ns.Nodup
        · rw [if_pos hn] at p1
          rw [intsOf_eq e] at r
          have ex := reps_ints r
          subst ex
          exact ⟨a, ns, rfl, h, hn.1, hn.2, Post.here p1 s1 (.int _)⟩
        · rw [if_neg hn] at p1
          exact p1.elim
    | _ => exact p1.elim
end
end DL

/-! DL: slices of lists, tuples and texts. -/
namespace DL
open PySem PySem.Spec PyProof.Rows L2
variable [TabCx] [WCx]
def rvO : Hp → Hp → Hp → Option Int → Option Int → Prop := fun _ _ _ o d => o = d
theorem early_O : Early rvO := fun _ _ _ _ _ _ _ r => r
abbrev DO (X : Cx) (F : FR) (own : List Nat) (e : Option Expr) (t : DEnv → Res (Option Int)) : Prop := PO X e (tX X.K F own (fun _ _ => rvO) t)
def xNo : DEnv → Res (Option Int) := fun _ => .ok none
def partD : D → Res (Option Int)
  | .int i => .ok (some i)
  | _ => .bad
def xPart (t : DEnv → Res D) : DEnv → Res (Option Int) := fun Γ => (t Γ).bind partD
def cutD (ds : List D) (lo hi : Option Int) : List D := (ds.drop (HT.sIx ds.length 0 lo)).take (HT.sIx ds.length ds.length hi - HT.sIx ds.length 0 lo)
def slD (d : D) (lo hi : Option Int) : Res D := match d with
  | .list ds => .ok (.list (cutD ds lo hi))
  | .tuple ds => .ok (.tuple (cutD ds lo hi))
  | .str z => if z.length ≤ sizeLine then .ok (.str (cutS z lo hi)) else .bad
  | _ => .bad
def xSl (t : DEnv → Res D) (tl th : DEnv → Res (Option Int)) : DEnv → Res D := fun Γ => (t Γ).bind fun d => (tl Γ).bind fun l => (th Γ).bind fun h => slD d l h
theorem Reps.takeR {K : PySem.W.Frag} {B : Hp} : ∀ (n : Nat) {vs : List V} {ds : List D}, Reps K B vs ds → Reps K B (vs.take n) (ds.take n)
  | 0, _, _, _ => .nil
  | _ + 1, _, _, .nil => .nil
  | n + 1, _, _, .cons a b => .cons a (Reps.takeR n b)
theorem Reps.dropR {K : PySem.W.Frag} {B : Hp} : ∀ (n : Nat) {vs : List V} {ds : List D}, Reps K B vs ds → Reps K B (vs.drop n) (ds.drop n)
  | 0, _, _, r => r
  | _ + 1, _, _, .nil => .nil
  | n + 1, _, _, .cons _ b => Reps.dropR n b
theorem reps_cut {K : PySem.W.Frag} {B : Hp} {vs : List V} {ds : List D} (r : Reps K B vs ds) (lo hi : Option Int) : Reps K B (cutV vs lo hi) (cutD ds lo hi) := by
  unfold cutV cutD
  rw [r.length]
  exact Reps.takeR _ (Reps.dropR _ r)
theorem PO.mono' {X : Cx} {e : Option Expr} {t t' : TO} (h : PO X e t) (k : ∀ σ H Q, t' σ H Q → t σ H Q) : PO X e t' := ⟨fun pins s σ H Q I q => h.run pins s σ H Q I (k σ H Q q)⟩
section
variable {X : Cx} {F : FR} {own : List Nat}
theorem do_none : DO X F own none xNo := DL.PO.mono' po_none fun σ H Q ⟨B, Γ, s, p⟩ => p none H B s Grow.refl rfl
theorem do_some {e : Expr} {t : DEnv → Res D} (h : DE X F own .bor e t) : DO X F own (some e) (xPart t) := DL.PO.mono' (po_some h) fun σ H Q ⟨B, Γ, s, p⟩ => by
  unfold tPart
  refine tD_first early_O s p fun d v H1 B1 s1 g1 r1 p1 => ?_
  have r1 : Bor X.K F B1 H1 v d := r1
  cases d with
  | int i => exact ⟨i, r1.int, p1 (some i) H1 B1 s1 Grow.refl rfl⟩
  | _ => exact p1.elim
theorem de_sl {e : Expr} {lo hi : Option Expr} {t : DEnv → Res D} {tl th : DEnv → Res (Option Int)} {p2 pos : Pos} (he : DE X F own .bor e t) (hl : DO X F own lo tl) (hh : DO X F own hi th) :
    DE X F own .val (.Subscript e (.Slice lo hi none p2) pos) (xSl t tl th) :=
  PE.mono (pe_slice (sl_list.or (sl_tupA.or sl_str)) he hl hh) fun σ H Q ⟨B, Γ, s, p⟩ => by
    unfold tSl
    refine tD_first early_RV s p fun d v H1 B1 s1 g1 r1 p1 => ?_
    refine tX_first early_RV s1 p1 fun l lv H2 B2 _ s2 g2 el p2 => ?_
    refine tX_first early_RV s2 p2 fun h hv H3 B3 _ s3 g3 eh p3 => ?_
    have el : lv = l := el
    have eh : hv = h := eh
    subst el eh
    have r1 : Bor X.K F B3 H3 v d := Bor.later (Bor.later r1 g2 s1.sub s2.sub) g3 s2.sub s3.sub
    cases d with
    | list ds =>
      obtain ⟨a, xs, rfl, hx, r⟩ := r1.list s3.sub
      exact .inl ⟨a, xs, rfl, hx, fun q hq => Post.newObj (Post.freeze p3) s3 (show ORep X.K B3 _ (.lst _) (.list _) from reps_cut r lv hv) hq⟩
    | tuple ds =>
      obtain ⟨a, xs, rfl, hx, hb, r⟩ := r1.tuple s3.sub
      refine .inr (.inl ⟨a, xs, rfl, hx, fun w => ?_, fun _ q hq => Post.newTup p3 s3 (reps_cut r lv hv) hq⟩)
      have e : cutD ds lv hv = ds := by
        unfold cutD
        rw [← r.length, w.1, w.2, r.length]
        simp
      have p3 : Post X.K F own (RV X.K F own Γ σ .val) (.ok (.tuple (cutD ds lv hv))) Γ σ H3 B3 Q := p3
      rw [e] at p3
      exact Post.here p3 s3 (.tup hb r)
    | str z =>
      have p3 : Post X.K F own (RV X.K F own Γ σ .val) (if z.length ≤ sizeLine then .ok (.str (cutS z lv hv)) else .bad) Γ σ H3 B3 Q := p3
      by_cases hz : z.length ≤ sizeLine
      · rw [if_pos hz] at p3
        exact .inr (.inr ⟨z, r1.str, hz, Post.here p3 s3 (.str _)⟩)
      · rw [if_neg hz] at p3
        exact p3.elim
    | _ => exact p3.elim
end
end DL

/-! DL: sorted(xs) of alike plain data. -/
namespace DL
open PySem PySem.Spec PyProof.Rows L2
variable [TabCx] [WCx]
def rSortDat (K : PySem.W.Frag) : List V → Hp → VK → Prop := fun vs H Q => ∃ (a : Addr) (ps : List (V × D)), vs = [V.ref a] ∧ SqL K H a (ps.map (·.1)) ∧ (∀ p ∈ ps, Dp K H p.1 p.2) ∧ PySem.W.AllAlike (ps.map (·.2)) ∧ PySem.W.Sortable (ps.map (·.2)) ∧ (∀ p ∈ ps, p.2.depth ≤ 60) ∧
  ∀ q, H q = none → Q (.ref q) (upd H q (.lst ((ps.mergeSort (PySem.W.dataLe false fun p => p.2)).map (·.1))))
section
variable {X : Cx} {F : FR} {own : List Nat}
theorem each_vals : ∀ {ps : List (V × D)} {us : List Value}, Vals (ps.map (·.1)) us → PySem.W.EachIs (fun (u : Value) (p : V × D) => RelV p.1 u) us ps
  | [], _, .nil => .nil
  | _ :: _, _, .cons r t => .cons r (each_vals t)
theorem vals_each : ∀ {ps : List (V × D)} {us : List Value}, PySem.W.EachIs (fun (u : Value) (p : V × D) => RelV p.1 u) us ps → Vals (ps.map (·.1)) us
  | [], _, .nil => .nil
  | _ :: _, _, .cons r t => .cons r (vals_each t)
theorem cr_sortDat (hu : X.A.units + 64 < cLine) : CallR X (.builtin "sorted") (rSortDat X.K) := by
  intro pins s σ H vs us Q I r h
  obtain ⟨a, ps, rfl, hs, hd, h1, h2, h3, q⟩ := h
  obtain ⟨its, rv, hl, hz⟩ := I.list hs
  rw [Vals.ref1 r]
  have e := each_vals rv
  have er : PySem.W.EachIs (fun (u : Value) (p : V × D) => ∃ as, Reads s.heap u p.2 as) its ps := by
    have go : ∀ {us : List Value} {qs : List (V × D)}, (∀ p ∈ qs, Dp X.K H p.1 p.2) → PySem.W.EachIs (fun (u : Value) (p : V × D) => RelV p.1 u) us qs → PySem.W.EachIs (fun (u : Value) (p : V × D) => ∃ as, Reads s.heap u p.2 as) us qs := by
      intro us qs hq ee
      induction ee with
      | nil => exact .nil
      | cons r _ ih => exact .cons (Dp.reads I _ _ _ (hq _ List.mem_cons_self) r) (ih fun p hp => hq p (List.mem_cons_of_mem _ hp))
    exact go hd e
  refine PySem.W.sorted_data (R := fun (u : Value) (p : V × D) => RelV p.1 u) (enc := fun p => p.2) hl.isList e er h1 h2 (by rw [List.length_map] at hz; exact hz) (fun b hb => by have := h3 b hb; omega) fun out ho eo => ?_
  obtain ⟨ep, he'⟩ := PyProof.Rows.sortedAll_at s.heap its out.toArray
  have hv := vals_each eo
  have hlen : ((ps.mergeSort (PySem.W.dataLe false fun p => p.2)).map (·.1)).length ≤ sizeLine := by
    rw [List.length_map, List.length_mergeSort]
    rw [List.length_map] at hz
    exact hz
  exact ⟨.ref _, upd H (s.heap.objs.size + 1) (.lst ((ps.mergeSort (PySem.W.dataLe false fun p => p.2)).map (·.1))), I.laid (t' := s.toks) (fun _ _ => PyProof.Rows.sortedAll_old) (Nat.le_succ _) ⟨hlen, out, ep, hv, he'⟩, rfl, q _ (I.hok.fresh (Nat.le_succ _))⟩
def alikeB (ds : List D) : Bool := ds.all fun d => ds.all fun e => PySem.W.alike d e
def tupB : D → Bool
  | .tuple (_ :: _) => true
  | _ => false
def flatB : D → Bool
  | .none => false
  | .tuple _ => false
  | _ => true
def sortOk (ds : List D) : Bool := PyData.plainAll ds && alikeB ds && (ds.all tupB || ds.all flatB) && ds.all low
/-- sorted(xs) -/
def sortD : D → Res D
  | .list ds => if sortOk ds then .ok (.list (ds.mergeSort (PySem.W.dataLe false fun d => d))) else .bad
  | _ => .bad
theorem sortOk_of {ds : List D} (h : sortOk ds = true) : PyData.plainAll ds = true ∧ PySem.W.AllAlike ds ∧ PySem.W.Sortable ds ∧ ∀ d ∈ ds, d.depth ≤ 60 := by
  unfold sortOk at h
  simp only [Bool.and_eq_true, Bool.or_eq_true] at h
  obtain ⟨⟨⟨h1, h2⟩, h3⟩, h4⟩ := h
  refine ⟨h1, fun d hd e he => ?_, ?_, fun d hd => of_decide_eq_true (List.all_eq_true.mp h4 d hd)⟩
  · exact List.all_eq_true.mp (List.all_eq_true.mp h2 d hd) e he
  · rcases h3 with h3 | h3
    · refine .inl fun d hd => ?_
      have q := List.all_eq_true.mp h3 d hd
      match d, q with
      | .tuple (x :: r), _ => exact ⟨x, r, rfl⟩
    · refine .inr fun d hd => ?_
      have q := List.all_eq_true.mp h3 d hd
      refine ⟨fun e => ?_, fun xs e => ?_⟩
      · subst e; cases q
      · subst e; cases q
theorem zip_fst : ∀ {vs : List V} {ds : List D}, vs.length = ds.length → (vs.zip ds).map (·.1) = vs
  | [], _, _ => rfl
  | _ :: _, [], h => by cases h
  | v :: vs, d :: ds, h => by
    show v :: (vs.zip ds).map (·.1) = _
    rw [zip_fst (by simpa using h)]
theorem zip_snd : ∀ {vs : List V} {ds : List D}, vs.length = ds.length → (vs.zip ds).map (·.2) = ds
  | [], [], _ => rfl
  | [], _ :: _, h => by cases h
  | _ :: _, [], h => by cases h
  | v :: vs, d :: ds, h => by
    show d :: (vs.zip ds).map (·.2) = _
    rw [zip_snd (by simpa using h)]
theorem reps_zip {K : PySem.W.Frag} {B : Hp} : ∀ {vs : List V} {ds : List D}, Reps K B vs ds → ∀ p ∈ vs.zip ds, Rep K B p.1 p.2
  | _, _, .nil => fun p hp => by cases hp
  | _, _, .cons a b => fun p hp => by
    rcases List.mem_cons.mp hp with rfl | hp
    · exact a
    · exact reps_zip b p hp
theorem reps_of {K : PySem.W.Frag} {B : Hp} : ∀ {ps : List (V × D)}, (∀ p ∈ ps, Rep K B p.1 p.2) → Reps K B (ps.map (·.1)) (ps.map (·.2))
  | [], _ => .nil
  | p :: ps, h => .cons (h p List.mem_cons_self) (reps_of fun q hq => h q (List.mem_cons_of_mem _ hq))
theorem plain_mem : ∀ {ds : List D}, PyData.plainAll ds = true → ∀ d ∈ ds, d.plain = true
  | [], _, _, h => by cases h
  | x :: ds, h, d, hd => by
    rw [PyData.plainAll, Bool.and_eq_true] at h
    rcases List.mem_cons.mp hd with rfl | hd
    · exact h.1
    · exact plain_mem h.2 d hd
theorem ca_sort {K : PySem.W.Frag} : CaD K F own .bor .fresh (rSortDat K) (on1 sortD) := ca1 fun Γ σ H B v d Q s r p => by
  cases d with
  | list ds =>
    have p : Post K F own (RV K F own Γ σ .fresh) (if sortOk ds then .ok (.list (ds.mergeSort (PySem.W.dataLe false fun d => d))) else .bad) Γ σ H B Q := p
    by_cases h : sortOk ds = true
    · rw [if_pos h] at p
      obtain ⟨h1, h2, h3, h4⟩ := sortOk_of h
      obtain ⟨a, xs, rfl, hx, r1⟩ := r.list s.sub
      have hl := r1.length
      have rz := reps_zip r1
      have hz : ∀ q ∈ xs.zip ds, q.2 ∈ ds := fun q hq => by
        have : q.2 ∈ (xs.zip ds).map (·.2) := List.mem_map.mpr ⟨q, hq, rfl⟩
        rwa [zip_snd hl] at this
      refine ⟨a, xs.zip ds, rfl, by rw [zip_fst hl]; exact hx, fun q hq => Rep.dp s.sub _ _ (plain_mem h1 _ (hz q hq)) (rz q hq), by rw [zip_snd hl]; exact h2, by rw [zip_snd hl]; exact h3, fun q hq => h4 _ (hz q hq), fun q hq => ?_⟩
      have em : ((xs.zip ds).mergeSort (PySem.W.dataLe false fun p => p.2)).map (·.2) = ds.mergeSort (PySem.W.dataLe false fun d => d) := by
        have q := List.map_mergeSort (r := PySem.W.dataLe false fun p : V × D => p.2) (s := PySem.W.dataLe false fun d : D => d) (f := fun p : V × D => p.2) (l := xs.zip ds) (fun a _ b _ => rfl)
        rw [zip_snd hl] at q
        exact q
      have rr : Reps K B (((xs.zip ds).mergeSort (PySem.W.dataLe false fun p => p.2)).map (·.1)) (ds.mergeSort (PySem.W.dataLe false fun d => d)) := by
        rw [← em]
        exact reps_of fun p hp => rz p ((List.mergeSort_perm _ _).mem_iff.mp hp)
      exact Post.newObj p s (show ORep K B _ (.lst _) (.list _) from rr) hq
    · rw [if_neg h] at p
      exact p.elim
  | _ => exact p.elim
theorem de_sort {e : Expr} {t : DEnv → Res D} {p pos : Pos} (hu : X.A.units + 64 < cLine) (h : DE X F own .bor e t) (hm : X.mg "sorted" = none) (hg : Gl X "sorted" := by rfl) (hs : starEach [e] X.env = (false, eval e X.env) :: starEach [] X.env := by rfl) :
    DE X F own .fresh (.Call (.Name "sorted" p) [e] [] pos) (xCall (on1 sortD) (xCons t xNil)) := de_blt (cr_sortDat hu) ca_sort hm (by decide +kernel) (da_cons h da_nil (hs := hs)) hg (he := hs)
end
end DL

/-! DL: tables of sets, of any mask 2 ^ k - 1. -/
namespace DLT
open PySem PySem.Spec PyProof.Rows L2

/-! ### x -> 5 x + 1 runs through all residues of 2 ^ k -/
def geo : Nat → Nat
  | 0 => 0
  | n + 1 => geo n * 5 + 1
theorem geo_add (a : Nat) : ∀ b, geo (a + b) = 5 ^ b * geo a + geo b
  | 0 => by simp [geo]
  | b + 1 => by
    show geo (a + b) * 5 + 1 = 5 ^ (b + 1) * geo a + (geo b * 5 + 1)
    have e : 5 ^ (b + 1) * geo a = 5 ^ b * geo a * 5 := by rw [Nat.pow_succ, Nat.mul_right_comm]
    rw [geo_add a b, e]
    omega
theorem five_odd : ∀ n : Nat, ∃ r, 5 ^ n = 4 * r + 1
  | 0 => ⟨0, rfl⟩
  | n + 1 => by
    obtain ⟨r, e⟩ := five_odd n
    exact ⟨5 * r + 1, by rw [Nat.pow_succ, e]; omega⟩
theorem odd_mul (a b : Nat) : ∃ c, (2 * a + 1) * (2 * b + 1) = 2 * c + 1 :=
  ⟨2 * (a * b) + a + b, by rw [Nat.add_mul, Nat.mul_add, Nat.mul_assoc 2 a, Nat.mul_left_comm a 2 b]; omega⟩
theorem geo_pow : ∀ k : Nat, ∃ q, geo (2 ^ k) = 2 ^ k * (2 * q + 1)
  | 0 => ⟨0, rfl⟩
  | k + 1 => by
    obtain ⟨q, e⟩ := geo_pow k
    obtain ⟨r, e5⟩ := five_odd (2 ^ k)
    obtain ⟨c, ec⟩ := odd_mul r q
    refine ⟨c, ?_⟩
    have e2 : 2 ^ (k + 1) = 2 ^ k + 2 ^ k := by rw [Nat.pow_succ]; omega
    have e3 : (4 * r + 1) * geo (2 ^ k) + geo (2 ^ k) = (2 ^ k + 2 ^ k) * (2 * c + 1) := by
      rw [← ec, e]
      generalize 2 ^ k = N
      have h1 : (4 * r + 1) * (N * (2 * q + 1)) + N * (2 * q + 1) = (4 * r + 1 + 1) * (N * (2 * q + 1)) := by rw [Nat.add_mul (4 * r + 1) 1, Nat.one_mul]
      have h2 : 4 * r + 1 + 1 = 2 * (2 * r + 1) := by omega
      have h3 : N + N = 2 * N := by omega
      rw [h1, h2, h3, Nat.mul_assoc 2, Nat.mul_left_comm (2 * r + 1) N, Nat.mul_assoc 2]
    have e4 : geo (2 ^ (k + 1)) = 5 ^ (2 ^ k) * geo (2 ^ k) + geo (2 ^ k) := by rw [e2, geo_add]
    rw [e4, e5, e3, ← e2]
theorem geo_all : ∀ (k j : Nat), j < 2 ^ k → ∃ b, b < 2 ^ k ∧ geo b % 2 ^ k = j
  | 0, j, h => ⟨0, by decide, by
    have : j = 0 := by simpa using h
    subst this
    rfl⟩
  | k + 1, j, h => by
    have hN : 0 < 2 ^ k := Nat.pow_pos (by decide)
    have e2 : 2 ^ (k + 1) = 2 ^ k * 2 := Nat.pow_succ 2 k
    obtain ⟨b, hb, eb⟩ := geo_all k (j % 2 ^ k) (Nat.mod_lt _ hN)
    obtain ⟨r, e5⟩ := five_odd b
    obtain ⟨q, eq⟩ := geo_pow k
    obtain ⟨c, ec⟩ := odd_mul (2 * r) q
    have ea : geo (2 ^ k + b) = 2 ^ k * 2 * c + 2 ^ k + geo b := by
      rw [geo_add, e5, eq, Nat.mul_left_comm, show 4 * r + 1 = 2 * (2 * r) + 1 by omega, ec, Nat.mul_add, Nat.mul_one, Nat.mul_assoc]
    rw [e2] at h ⊢
    generalize 2 ^ k = N at hN hb eb ea h ⊢
    have d1 := Nat.div_add_mod (geo b) N
    have d2 := Nat.div_add_mod j N
    have hj : j / N = 0 ∨ j / N = 1 := by
      have : j / N < 2 := Nat.div_lt_of_lt_mul h
      revert this
      generalize j / N = y
      omega
    have hm := Nat.mod_lt j hN
    rw [eb] at d1
    generalize j % N = x at d1 d2 hm eb
    have fin : ∀ u y, y < N * 2 → (N * 2 * u + y) % (N * 2) = y := fun u y hy => by rw [Nat.mul_add_mod, Nat.mod_eq_of_lt hy]
    rcases Nat.mod_two_eq_zero_or_one (geo b / N) with z | z
    · have ez : N * (geo b / N) = N * 2 * (geo b / N / 2) := by
        rw [Nat.mul_assoc, show 2 * (geo b / N / 2) = geo b / N by omega]
      rcases hj with hj | hj
      · rw [hj, Nat.mul_zero] at d2
        refine ⟨b, by omega, ?_⟩
        rw [← d1, ez, fin _ _ (by omega)]
        omega
      · rw [hj, Nat.mul_one] at d2
        refine ⟨N + b, by omega, ?_⟩
        have e : geo (N + b) = N * 2 * (c + geo b / N / 2) + (N + x) := by
          rw [ea, ← d1, ez, Nat.mul_add]
          have : N * 2 * (geo b / N / 2) + x = geo b := by omega
          rw [this]
          omega
        rw [e, fin _ _ (by omega)]
        omega
    · have ez : N * (geo b / N) = N * 2 * (geo b / N / 2) + N := by
        rw [Nat.mul_assoc, show N * (geo b / N) = N * (2 * (geo b / N / 2) + 1) by rw [show 2 * (geo b / N / 2) + 1 = geo b / N by omega], Nat.mul_add, Nat.mul_one]
      rcases hj with hj | hj
      · rw [hj, Nat.mul_zero] at d2
        refine ⟨N + b, by omega, ?_⟩
        have e : geo (N + b) = N * 2 * (c + geo b / N / 2 + 1) + x := by
          have : N * 2 * (geo b / N / 2) + N + x = geo b := by omega
          rw [ea, Nat.mul_add, Nat.mul_add]
          omega
        rw [e, fin _ _ (by omega)]
        omega
      · rw [hj, Nat.mul_one] at d2
        refine ⟨b, by omega, ?_⟩
        have e : geo b = N * 2 * (geo b / N / 2) + (N + x) := by omega
        rw [e, fin _ _ (by omega)]
        omega
theorem lcg_geo (m : Nat) : ∀ b, lcgN m b = geo b % (m + 1)
  | 0 => (Nat.zero_mod _).symm
  | b + 1 => by
    show (lcgN m b * 5 + 1) % (m + 1) = (geo b * 5 + 1) % (m + 1)
    rw [lcg_geo m b]
    simp [Nat.add_mod, Nat.mul_mod]

/-- the masks that come -/
def MaskG (m : Nat) : Prop := m = 7 ∨ m = 31 ∨ m = 127 ∨ m = 511 ∨ m = 2047 ∨ m = 8191
theorem MaskG.pow {m : Nat} (h : MaskG m) : ∃ k, m + 1 = 2 ^ k := by
  rcases h with e | e | e | e | e | e <;> subst e
  · exact ⟨3, rfl⟩
  · exact ⟨5, rfl⟩
  · exact ⟨7, rfl⟩
  · exact ⟨9, rfl⟩
  · exact ⟨11, rfl⟩
  · exact ⟨13, rfl⟩
theorem MaskG.odd {m : Nat} (h : MaskG m) : m % 2 = 1 := by
  rcases h with e | e | e | e | e | e <;> subst e <;> rfl
theorem MaskG.ge {m : Nat} (h : MaskG m) : 7 ≤ m := by
  rcases h with e | e | e | e | e | e <;> omega
theorem MaskG.le {m : Nat} (h : MaskG m) : m ≤ 8191 := by
  rcases h with e | e | e | e | e | e <;> omega
theorem all_met {m : Nat} (hm : MaskG m) {i j : Nat} (hi : i ≤ m) (hj : j ≤ m) : ∃ k, k ≤ m ∧ lcgI m i k = j := by
  obtain ⟨e, hk⟩ := hm.pow
  have one : ∀ {x : Nat}, x ≤ m → ∃ b, b ≤ m ∧ lcgN m b = x := fun {x} hx => by
    obtain ⟨b, h1, h2⟩ := geo_all e x (by omega)
    exact ⟨b, by omega, by rw [lcg_geo, hk]; exact h2⟩
  have round : ∀ k, lcgN m (m + 1 + k) = lcgN m k := fun k => by
    obtain ⟨q, eq⟩ := geo_pow e
    rw [lcg_geo, lcg_geo, hk, geo_add, eq, Nat.mul_left_comm, Nat.mul_add_mod]
  obtain ⟨a, a1, a2⟩ := one hi
  obtain ⟨b, b1, b2⟩ := one hj
  subst a2 b2
  by_cases c : a ≤ b
  · exact ⟨b - a, by omega, by rw [lcgN_add, Nat.add_sub_cancel' c]⟩
  · refine ⟨m + 1 + b - a, by omega, ?_⟩
    rw [lcgN_add, Nat.add_sub_cancel' (by omega), round]
theorem run_met {m : Nat} (hm : MaskG m) (h : Int) {j : Nat} (hj : j ≤ m) : ∃ n, n ≤ m + 12 ∧ runI m (SetTable.bits h) n = j := by
  obtain ⟨k, k1, k2⟩ := all_met hm (runI_le m (SetTable.bits h) 12) hj
  refine ⟨12 + k, by omega, ?_⟩
  rw [runI_tail (bits_lt h), k2]
theorem way_met {m : Nat} (hm : MaskG m) (h : Int) {j : Nat} (hj : j ≤ m) : ∃ k, k < 10 * SetTable.turns m ∧ way m h k = j := by
  obtain ⟨n, n1, n2⟩ := run_met hm h hj
  obtain ⟨k, k1, k2⟩ := run_nth m (SetTable.bits h) n
  refine ⟨k, by unfold SetTable.turns; omega, ?_⟩
  show SetTable.Probe.j _ = j
  rw [k2]
  exact n2
theorem way_in {m : Nat} {h : Int} {k : Nat} : way m h k ≤ m := by
  have hi : SetTable.bits h % (m + 1) ≤ m := Nat.le_of_lt_succ (Nat.mod_lt _ (Nat.succ_pos _))
  have r := runEnd_bd hi
  have := nth_in (m := m) k (runAt m (SetTable.bits h % (m + 1)) (SetTable.bits h)) (by unfold runAt; dsimp only; omega)
  exact Nat.le_trans (Nat.le_add_right _ _) this

/-! ### a table whose slots are found again from their hashes -/
structure Tab (t : SetTable) (hs : List Int) : Prop where
  ris : Ris t.place.toList
  dm : t.dummies = #[]
  sz : t.place.size = hs.length
  mok : MaskG t.mask
  bd : ∀ x ∈ t.place.toList, x ≤ t.mask
  reach : ∀ (i : Nat) (h : Int) (j : Nat), hs[i]? = some h → t.place.toList[i]? = some j → ∃ k, way t.mask h k = j ∧ ∀ q, q < k → way t.mask h q ∈ t.place.toList
theorem Tab.first {t : SetTable} {hs : List Int} (T : Tab t hs) (hl : hs.length ≤ t.mask) (h : Int) : ∃ n, n < 10 * SetTable.turns t.mask ∧ way t.mask h n ∉ t.place.toList ∧ ∀ k, k < n → way t.mask h k ∈ t.place.toList := by
  obtain ⟨j, j1, j2⟩ := st_missing t.place.toList (t.mask + 1) (by rw [Array.length_toList, T.sz]; omega)
  obtain ⟨k, k1, k2⟩ := way_met T.mok h (Nat.le_of_lt_succ j1)
  obtain ⟨n, n1, n2, n3⟩ := st_least (p := fun k => way t.mask h k ∉ t.place.toList) k (k2 ▸ j2)
  exact ⟨n, Nat.lt_of_le_of_lt n1 k1, n2, fun q hq => Classical.not_not.mp (n3 q hq)⟩
theorem Tab.before {t : SetTable} {hs : List Int} (T : Tab t hs) {h : Int} {n i j : Nat} (hn : way t.mask h n ∉ t.place.toList) (hi : hs[i]? = some h) (hj : t.place.toList[i]? = some j) : ∃ k, k < n ∧ way t.mask h k = j := by
  obtain ⟨k, k1, k2⟩ := T.reach i h j hi hj
  refine ⟨k, Nat.lt_of_not_le fun z => ?_, k1⟩
  rcases Nat.lt_or_eq_of_le z with z | z
  · exact hn (k2 n z)
  · subst z
    rw [k1] at hn
    exact hn (List.mem_of_getElem? hj)
theorem Tab.put {t : SetTable} {hs : List Int} (T : Tab t hs) {h : Int} {n : Nat} (hn : way t.mask h n ∉ t.place.toList) (hb : ∀ k, k < n → way t.mask h k ∈ t.place.toList) :
    SetTable.below t.place (way t.mask h n) ≤ hs.length ∧ Tab (t.put (way t.mask h n)).1 (hs.take (SetTable.below t.place (way t.mask h n)) ++ h :: hs.drop (SetTable.below t.place (way t.mask h n))) ∧ (t.put (way t.mask h n)).1.fill = hs.length + 1 := by
  have hm : way t.mask h n ≤ t.mask := way_in
  generalize ej : way t.mask h n = j at hn hm ⊢
  obtain ⟨c1, _, _⟩ := below_cut T.ris j
  have hz : t.place.toList.length = hs.length := by rw [Array.length_toList, T.sz]
  have hp : SetTable.below t.place j ≤ hs.length := T.sz ▸ c1
  have hq : SetTable.below t.place j ≤ t.place.toList.length := hz ▸ hp
  have pl := put_place t j
  have up : ∀ {x : Nat}, x ∈ t.place.toList → x ∈ (t.put j).1.place.toList := fun hx => by
    rw [pl]
    exact mem_ins.mpr (.inr hx)
  have sz : (t.put j).1.place.size = hs.length + 1 := by rw [← Array.length_toList, pl, len_ins _ hq, hz]
  refine ⟨hp, ⟨ris_insert T.ris fun e => hn (List.mem_of_getElem? (by rw [Array.getElem?_toList]; exact e)), put_dm T.dm j, by rw [len_ins _ hp]; exact sz, T.mok, fun x hx => ?_, fun i g q e1 e2 => ?_⟩, ?_⟩
  · rw [pl] at hx
    rcases mem_ins.mp hx with rfl | hx
    · exact hm
    · exact T.bd x hx
  · rw [tins_get hs hp] at e1
    rw [pl, tins_get _ hq] at e2
    have old : ∀ i', hs[i']? = some g → t.place.toList[i']? = some q → ∃ k, way t.mask g k = q ∧ ∀ r, r < k → way t.mask g r ∈ (t.put j).1.place.toList := fun i' a1 a2 => by
      obtain ⟨k, k1, k2⟩ := T.reach i' g q a1 a2
      exact ⟨k, k1, fun r hr => up (k2 r hr)⟩
    by_cases c : i < SetTable.below t.place j
    · rw [if_pos c] at e1 e2
      exact old i e1 e2
    · rw [if_neg c] at e1 e2
      by_cases d : i = SetTable.below t.place j
      · rw [if_pos d] at e1 e2
        cases e1
        cases e2
        exact ⟨n, ej, fun r hr => up (hb r hr)⟩
      · rw [if_neg d] at e1 e2
        exact old (i - 1) e1 e2
  · unfold SetTable.fill
    rw [sz, put_dm T.dm j]
    rfl

/-! ### laid anew -/
theorem free_met {m : Nat} (hm : MaskG m) (owner : Array (Option Nat)) (h : Int) {j : Nat} (hj : j ≤ m) (hf : oAt owner j = none) :
    ∃ n, SetTable.layClean.free m owner (SetTable.turns m) (SetTable.bits h % (m + 1)) (SetTable.bits h) = some (way m h n) ∧ oAt owner (way m h n) = none ∧ ∀ k, k < n → oAt owner (way m h k) ≠ none := by
  obtain ⟨r, r1, r2⟩ := run_met hm h hj
  have at_r : way m h (off m (SetTable.bits h % (m + 1)) (SetTable.bits h) r) = j := by
    show SetTable.Probe.j _ = j
    rw [nth_off, itL_run]
    exact r2
  obtain ⟨n, n1, n2, n3⟩ := st_least (p := fun k => oAt owner (way m h k) = none) _ (show oAt owner (way m h _) = none by rw [at_r]; exact hf)
  refine ⟨n, free_spec m owner _ r _ _ n (by unfold SetTable.turns; omega) n1 (fun k hk => ?_) ?_, n2, n3⟩
  · cases z : oAt owner (way m h k) with
    | none => exact absurd z (n3 k hk)
    | some _ => rfl
  · exact congrArg Option.isNone n2
theorem owned {m : Nat} (hm : MaskG m) {done : List Int} {owner : Array (Option Nat)} (W : Own m done owner) (hl : done.length ≤ m) (h : Int) :
    ∃ j, SetTable.layClean.free m owner (SetTable.turns m) (SetTable.bits h % (m + 1)) (SetTable.bits h) = some j ∧ Own m (done ++ [h]) (owner.setIfInBounds j (some done.length)) := by
  obtain ⟨ps, p1, p2⟩ := W.ps
  obtain ⟨j0, j1, j2⟩ := st_missing ps (m + 1) (by omega)
  have free0 : oAt owner j0 = none := Classical.byContradiction fun z => j2 (p2 j0 (Nat.le_of_lt_succ j1) z)
  obtain ⟨n, n1, n2, n3⟩ := free_met hm owner h (Nat.le_of_lt_succ j1) free0
  refine ⟨way m h n, n1, ?_⟩
  have hin : way m h n ≤ m := way_in
  generalize ej : way m h n = j at n2 hin ⊢
  have self := oAt_set_self (owner := owner) (some done.length) (j := j) (by rw [W.sz]; omega)
  have keep : ∀ {i : Nat}, oAt owner i ≠ none → oAt (owner.setIfInBounds j (some done.length)) i ≠ none := fun {i} hi => by
    by_cases c : i = j
    · subst c
      rw [self]
      exact fun z => nomatch z
    · rw [oAt_set_ne _ c]
      exact hi
  refine ⟨by rw [Array.size_setIfInBounds]; exact W.sz, fun i k hi e => ?_, fun k hk => ?_, j :: ps, by simp [p1], fun i hi e => ?_⟩
  · by_cases c : i = j
    · subst c
      rw [self] at e
      cases e
      exact ⟨h, n, by simp, ej, fun q hq => keep (n3 q hq)⟩
    · rw [oAt_set_ne _ c] at e
      obtain ⟨g, q, g1, g2, g3⟩ := W.at_ i k hi e
      exact ⟨g, q, by rw [List.getElem?_append_left (List.getElem?_eq_some_iff.mp g1).1]; exact g1, g2, fun r hr => keep (g3 r hr)⟩
  · rcases Nat.lt_or_eq_of_le (Nat.le_of_lt_succ (show k < done.length + 1 by simpa using hk)) with c | c
    · obtain ⟨i, i1, i2⟩ := W.all k c
      refine ⟨i, i1, ?_⟩
      rw [oAt_set_ne _ fun z => ?_]
      · exact i2
      · subst z
        rw [n2] at i2
        cases i2
    · subst c
      exact ⟨j, hin, self⟩
  · by_cases c : i = j
    · exact c ▸ List.mem_cons_self
    · rw [oAt_set_ne _ c] at e
      exact List.mem_cons_of_mem _ (p2 i hi e)
theorem folded {m : Nat} (hm : MaskG m) : ∀ (rest done : List Int) (owner : Array (Option Nat)), Own m done owner → done.length + rest.length ≤ m → ∃ o2, rest.foldl (stepF m) (some (owner, done.length)) = some (o2, (done ++ rest).length) ∧ Own m (done ++ rest) o2
  | [], done, owner, W, _ => ⟨owner, by simp, by simpa using W⟩
  | h :: rest, done, owner, W, hl => by
    have hl : done.length + (rest.length + 1) ≤ m := hl
    obtain ⟨j, e, W1⟩ := owned hm W (by omega) h
    obtain ⟨o2, f, W2⟩ := folded hm rest (done ++ [h]) _ W1 (by simp; omega)
    rw [List.append_assoc] at f W2
    refine ⟨o2, ?_, W2⟩
    rw [List.foldl_cons, stepF_some e]
    simpa using f
theorem relaid_tab (t : SetTable) {hs : Array Int} {wanted m : Nat} (hw : SetTable.sizeAbove wanted - 1 = m) (hm : MaskG m) (hn : hs.size ≤ m) :
    ∃ t2 order, t.relaid hs wanted = some (t2, order) ∧ order.toList.Perm (List.range hs.size) ∧ Tab t2 (order.toList.map fun i => hs.getD i 0) ∧ t2.mask = m ∧ t2.led = t.led := by
  obtain ⟨owner, f, W⟩ := folded hm hs.toList [] _ (Own.init m) (by simpa using hn)
  rw [List.nil_append] at f W
  have lc : SetTable.layClean m hs = some owner := by
    rw [layClean_eq]
    have f : hs.toList.foldl (stepF m) (some (Array.replicate (m + 1) none, 0)) = some (owner, hs.toList.length) := f
    rw [f]
    rfl
  have R := ris_live (fun j => owner.getD j none) (List.range (m + 1)) (by unfold Ris; exact List.pairwise_lt_range)
  have r1 : Ris ((liveOf m owner).map (·.1)) := R.1
  have r2 : ∀ x ∈ (liveOf m owner).map (·.1), x ∈ List.range (m + 1) := R.2
  have hlen : (liveOf m owner).length = hs.size := by
    obtain ⟨ps, p1, p2⟩ := W.ps
    have once : ((liveOf m owner).map (·.1)).Nodup := List.Pairwise.imp (fun h => Nat.ne_of_lt h) r1
    have a := nat_nodup_len _ ps once fun x hx => by
      obtain ⟨⟨y, k⟩, q1, rfl⟩ := List.mem_map.mp hx
      obtain ⟨b1, b2⟩ := (mem_live W.sz).mp q1
      exact p2 y b1 (by rw [b2]; exact fun z => nomatch z)
    have b := nat_nodup_len (List.range hs.size) ((liveOf m owner).map (·.2)) List.nodup_range fun k hk => by
      obtain ⟨j, b1, b2⟩ := W.all k (by simpa using hk)
      exact List.mem_map.mpr ⟨(j, k), (mem_live W.sz).mpr ⟨b1, b2⟩, rfl⟩
    simp at a b p1
    omega
  refine ⟨tabOf t m owner, ((liveOf m owner).map (·.2)).toArray, by rw [relaid_eq, hw, lc]; rfl, perm_range _ _ (by simpa using hlen) fun k hk => ?_, ⟨r1, rfl, by simp [tabOf], hm, fun x hx => Nat.le_of_lt_succ (List.mem_range.mp (r2 x hx)), fun i h j h1 h2 => ?_⟩, rfl, rfl⟩
  · obtain ⟨j, b1, b2⟩ := W.all k (by simpa using hk)
    exact List.mem_map.mpr ⟨(j, k), (mem_live W.sz).mpr ⟨b1, b2⟩, rfl⟩
  · have h1 : (((liveOf m owner).map (·.2)).map fun i => hs.getD i 0)[i]? = some h := h1
    have h2 : ((liveOf m owner).map (·.1))[i]? = some j := h2
    rw [List.getElem?_map, List.getElem?_map] at h1
    rw [List.getElem?_map] at h2
    cases hq : (liveOf m owner)[i]? with
    | none => rw [hq] at h2; cases h2
    | some q =>
      obtain ⟨y, k⟩ := q
      rw [hq] at h1 h2
      cases h2
      obtain ⟨b1, b2⟩ := (mem_live W.sz).mp (List.mem_of_getElem? hq)
      obtain ⟨g, n, a1, a2, a3⟩ := W.at_ _ k b1 b2
      have eg : hs.getD k 0 = g := by rw [Array.getD_eq_getD_getElem?, ← Array.getElem?_toList, a1]; rfl
      have eh : hs.getD k 0 = h := by simpa using h1
      obtain rfl : g = h := eg.symm.trans eh
      refine ⟨n, a2, fun r hr => ?_⟩
      show way m g r ∈ (liveOf m owner).map (·.1)
      cases z : oAt owner (way m g r) with
      | none => exact absurd z (a3 r hr)
      | some k2 => exact List.mem_map.mpr ⟨(way m g r, k2), (mem_live W.sz).mpr ⟨way_in, z⟩, rfl⟩
/-! ### the next size -/
theorem size_5 : SetTable.sizeAbove (SetTable.grown 5) = 32 := by decide +kernel
theorem size_19 : SetTable.sizeAbove (SetTable.grown 19) = 128 := by decide +kernel
theorem size_77 : SetTable.sizeAbove (SetTable.grown 77) = 512 := by decide +kernel
theorem size_307 : SetTable.sizeAbove (SetTable.grown 307) = 2048 := by decide +kernel
theorem size_1229 : SetTable.sizeAbove (SetTable.grown 1229) = 8192 := by decide +kernel
/-- the table laid anew where n members have filled one -/
theorem grown_ok {m n : Nat} (hm : MaskG m) (h1 : m * 3 ≤ n * 5) (h2 : (n - 1) * 5 < m * 3) (hn : n ≤ 4000) : ∃ m2, SetTable.sizeAbove (SetTable.grown n) - 1 = m2 ∧ MaskG m2 ∧ n * 4 ≤ m2 ∧ SetTable.sizeAbove (SetTable.grown n) ≤ 8192 := by
  rcases hm with e | e | e | e | e | e
  · obtain rfl : n = 5 := by omega
    exact ⟨31, by rw [size_5], .inr (.inl rfl), by omega, by rw [size_5]; omega⟩
  · obtain rfl : n = 19 := by omega
    exact ⟨127, by rw [size_19], .inr (.inr (.inl rfl)), by omega, by rw [size_19]; omega⟩
  · obtain rfl : n = 77 := by omega
    exact ⟨511, by rw [size_77], .inr (.inr (.inr (.inl rfl))), by omega, by rw [size_77]; omega⟩
  · obtain rfl : n = 307 := by omega
    exact ⟨2047, by rw [size_307], .inr (.inr (.inr (.inr (.inl rfl)))), by omega, by rw [size_307]; omega⟩
  · obtain rfl : n = 1229 := by omega
    exact ⟨8191, by rw [size_1229], .inr (.inr (.inr (.inr (.inr rfl)))), by omega, by rw [size_1229]; omega⟩
  · exfalso
    omega
end DLT

/-! DL: sets of nested tuples: search, add, set(xs), sorted of it. -/
namespace DLT
open PySem PySem.Spec PyProof.Rows L2

section
variable {P : Program} {w : World}
/-! ### small questions asked of a key -/
def ClassAt (P : Program) (w : World) (n : Nat) (s : Shared) (v : Value) : Prop := ∀ (A : Around) (E : Value → Shared → Prop) (Q : Bool → Shared → Prop), Q false s → wpAny (model P w) A (ofAClassStatement n v) Q E s
def HashAt (P : Program) (w : World) (n : Nat) (s : Shared) (v : Value) : Prop := ∀ (A : Around) (E : Value → Shared → Prop) (Q : Bool → Shared → Prop), (∀ b, Q b s) → wpAny (model P w) A (hashByValue n v) Q E s
theorem ClassAt.pure {n : Nat} {s : Shared} {v : Value} (h : ofAClassStatement n v = Pure.pure false) : ClassAt P w n s v := fun A E Q q => by
  rw [h]
  exact wpAny_pure q
theorem HashAt.pure {n : Nat} {s : Shared} {v : Value} {b : Bool} (h : hashByValue n v = Pure.pure b) : HashAt P w n s v := fun A E Q q => by
  rw [h]
  exact wpAny_pure (q b)
theorem ClassAt.tup {n : Nat} {s : Shared} {a : Addr} {o : Obj} {vs : Array Value} {m : Nat} (ho : s.heap.get? a = some o) (hc : o.cls = .type "tuple") (hd : o.data = .seq vs m) (hq : ∀ v ∈ vs.toList, ClassAt P w n s v) : ClassAt P w (n + 1) s (.ref a) := fun A E Q h => by
  have hT : s.TypeIs (.ref a) "tuple" := ⟨o, ho, hc⟩
  unfold ofAClassStatement
  refine wpAny_bind (wpAny_typeOf hT ?_)
  dsimp only
  have e : (("tuple" : String) == "tuple") = true := by decide
  simp only [e, if_true, Bool.not_true, Bool.false_eq_true, if_false]
  try refine wpAny_bind (wpAny_pure ?_)
  try simp only [Bool.not_true, Bool.false_eq_true, if_false]
  show wpAny _ _ (seqItems? (.ref a) >>= _) _ _ s
  refine wpAny_bind (wpAny_seqItems ho hd ?_)
  dsimp only
  refine wpAny_bind ?_
  show wpAny _ _ (forIn vs _ _) _ _ s
  rw [← Array.forIn_toList]
  refine wpAny_forIn_list _ (fun rest r s' => s' = s ∧ r.1 = none ∧ ∀ v ∈ rest, ClassAt P w n s v) _ ?_ ?_ _ _ ⟨rfl, rfl, hq⟩
  · rintro v rest r s' ⟨rfl, hr, all⟩
    refine wpAny_bind (all v List.mem_cons_self _ _ _ ?_)
    simp only [Bool.false_eq_true, if_false]
    exact wpAny_pure ⟨rfl, rfl, fun u hu => all u (List.mem_cons_of_mem _ hu)⟩
  · rintro ⟨r1, r2⟩ s' ⟨rfl, hr, _⟩
    dsimp only at hr
    subst hr
    exact wpAny_pure h
theorem HashAt.tup {n : Nat} {s : Shared} {a : Addr} {o : Obj} {vs : Array Value} {m : Nat} (ho : s.heap.get? a = some o) (hc : o.cls = .type "tuple") (hd : o.data = .seq vs m) (hq : ∀ v ∈ vs.toList, HashAt P w n s v) : HashAt P w (n + 1) s (.ref a) := fun A E Q h => by
  have hT : s.TypeIs (.ref a) "tuple" := ⟨o, ho, hc⟩
  unfold hashByValue
  refine wpAny_bind (wpAny_specialOf hT F.slot_tuple_hash.lookup ?_)
  show wpAny _ _ (seqItems? (.ref a) >>= _) _ _ s
  refine wpAny_bind (wpAny_seqItems ho hd ?_)
  refine wpAny_bind ?_
  show wpAny _ _ (forIn vs _ _) _ _ s
  rw [← Array.forIn_toList]
  refine wpAny_forIn_list _ (fun rest r s' => s' = s ∧ r.1 = none ∧ ∀ v ∈ rest, HashAt P w n s v) _ ?_ ?_ _ _ ⟨rfl, rfl, hq⟩
  · rintro v rest r s' ⟨rfl, hr, all⟩
    refine wpAny_bind (all v List.mem_cons_self _ _ _ fun b => ?_)
    cases b with
    | true =>
      simp only [Bool.not_true, Bool.false_eq_true, if_false]
      exact wpAny_pure ⟨rfl, rfl, fun u hu => all u (List.mem_cons_of_mem _ hu)⟩
    | false =>
      simp only [Bool.not_false, if_true]
      exact wpAny_pure (wpAny_pure (h false))
  · rintro ⟨r1, r2⟩ s' ⟨rfl, hr, _⟩
    dsimp only at hr
    subst hr
    exact wpAny_pure (h true)
mutual
theorem class_key : ∀ (k : NestedKey) (v : Value) (n : Nat) (s : Shared), NestedIs s.heap k v → k.depth ≤ n → ClassAt P w n s v
  | .none, _, n, s, x, _ => by cases x; exact .pure (by cases n <;> rfl)
  | .num i, _, n, s, x, _ => by cases x <;> exact .pure (by cases n <;> rfl)
  | .text y, _, n, s, x, _ => by cases x; exact .pure (by cases n <;> rfl)
  | .tup ks, _, n, s, x, hn => by
    cases x with
    | tup hg hc hd hk =>
      simp only [NestedKey.depth] at hn
      obtain ⟨m, rfl⟩ : ∃ m, n = m + 1 := ⟨n - 1, by omega⟩
      exact .tup hg hc hd (class_keys ks _ m s hk (by omega))
theorem class_keys : ∀ (ks : List NestedKey) (vs : List Value) (n : Nat) (s : Shared), NestedAll s.heap ks vs → NestedKey.depthAll ks ≤ n → ∀ v ∈ vs, ClassAt P w n s v
  | [], _, n, s, x, _, v, hv => by cases x; cases hv
  | k :: ks, _, n, s, x, hn, v, hv => by
    cases x with
    | cons x1 x2 =>
      simp only [NestedKey.depthAll] at hn
      rcases List.mem_cons.mp hv with rfl | hv
      · exact class_key k _ n s x1 (by omega)
      · exact class_keys ks _ n s x2 (by omega) v hv
end
mutual
theorem hash_key : ∀ (k : NestedKey) (v : Value) (n : Nat) (s : Shared), NestedIs s.heap k v → k.depth ≤ n → HashAt P w n s v
  | .none, _, n, s, x, _ => by cases x; exact .pure (b := true) (by cases n <;> rfl)
  | .num i, _, n, s, x, _ => by cases x <;> exact .pure (b := true) (by cases n <;> rfl)
  | .text y, _, n, s, x, _ => by cases x; exact .pure (b := false) (by cases n <;> rfl)
  | .tup ks, _, n, s, x, hn => by
    cases x with
    | tup hg hc hd hk =>
      simp only [NestedKey.depth] at hn
      obtain ⟨m, rfl⟩ : ∃ m, n = m + 1 := ⟨n - 1, by omega⟩
      exact .tup hg hc hd (hash_keys ks _ m s hk (by omega))
theorem hash_keys : ∀ (ks : List NestedKey) (vs : List Value) (n : Nat) (s : Shared), NestedAll s.heap ks vs → NestedKey.depthAll ks ≤ n → ∀ v ∈ vs, HashAt P w n s v
  | [], _, n, s, x, _, v, hv => by cases x; cases hv
  | k :: ks, _, n, s, x, hn, v, hv => by
    cases x with
    | cons x1 x2 =>
      simp only [NestedKey.depthAll] at hn
      rcases List.mem_cons.mp hv with rfl | hv
      · exact hash_key k _ n s x1 (by omega)
      · exact hash_keys ks _ n s x2 (by omega) v hv
end
end

/-- the tuple at a is the key k -/
def IsN (h : Heap) (k : NestedKey) (a : Addr) : Prop := NestedIs h k (.ref a) ∧ k.depth ≤ 8
theorem IsN.keep {h h' : Heap} {k : NestedKey} {a : Addr} (x : IsN h k a) (hk : ∀ b o, h.get? b = some o → h'.get? b = some o) : IsN h' k a := ⟨NestedIs.at (fun a o vs n e _ => hk a o e) _ _ x.1, x.2⟩
theorem IsN.same {h h' : Heap} {k : NestedKey} {a b : Addr} {o : Obj} {es : Array (Int × Value)} {ep : Nat} {t : SetTable} (x : IsN h k b) (ho : h.get? a = some o) (hd : o.data = .set es ep t) (hs : Heap.SameBut a h h') : IsN h' k b :=
  ⟨NestedIs.at (fun c oc vs n e ed => (hs.2 c fun z => by
    subst z
    rw [ho] at e
    cases e
    rw [hd] at ed
    cases ed).trans e) _ _ x.1, x.2⟩
abbrev Row := Addr × NestedKey
section
variable {P : Program} {w : World} {A : Around} {E : Value → Shared → Prop} {s : Shared}
theorem eqBool_key {x y : NestedKey} {a b : Addr} {Q : Bool → Shared → Prop} (hu : A.units + 8 < cLine) (hx : IsN s.heap x a) (hy : IsN s.heap y b) (h : Q (decide (x = y)) s) : wpAny (model P w) A (eqBool (.ref a) (.ref b)) Q E s :=
  (nestedKind P w).eqBool hu hx hy h
/-- a search among keys shows nothing -/
theorem seen_key {k : NestedKey} {b : Addr} {Q : Bool → Shared → Prop} (hk : IsN s.heap k b) {ys : List Value} (hy : ∀ y ∈ ys, ∃ k' c, y = Value.ref c ∧ IsN s.heap k' c) (h : Q false s) : wpAny (model P w) A (searchCouldBeSeen (.ref b) ys) Q E s := by
  unfold searchCouldBeSeen
  refine wpAny_bind ?_
  refine wpAny_forIn_list _ (fun rest r s' => s' = s ∧ r.1 = none ∧ ∀ y ∈ rest, ∃ k' c, y = Value.ref c ∧ IsN s.heap k' c) _ ?_ ?_ _ _ ⟨rfl, rfl, hy⟩
  · rintro v rest r s' ⟨rfl, hr, all⟩
    obtain ⟨k', c, rfl, hc⟩ := all v List.mem_cons_self
    have more := fun u hu => all u (List.mem_cons_of_mem _ hu)
    dsimp only
    by_cases hv : (b == c || (carriedByValue (.ref b) && carriedByValue (.ref c))) = true
    · exact wp_if_pos hv (wpAny_pure ⟨rfl, rfl, more⟩)
    · refine wp_if_neg hv ?_
      refine wpAny_bind (quiet_key k _ 8 s' hk.1 hk.2 A E _ ?_)
      simp only [Bool.not_true, Bool.false_eq_true, if_false]
      refine wpAny_bind (quiet_key k' _ 8 s' hc.1 hc.2 A E _ ?_)
      simp only [Bool.not_true, Bool.false_eq_true, if_false]
      refine wpAny_bind (class_key k _ 8 s' hk.1 hk.2 A E _ ?_)
      simp only [Bool.false_eq_true, if_false]
      refine wpAny_bind (class_key k' _ 8 s' hc.1 hc.2 A E _ ?_)
      simp only [Bool.false_eq_true, if_false]
      exact wpAny_pure ⟨rfl, rfl, more⟩
  · rintro ⟨r1, r2⟩ s' ⟨rfl, hr, _⟩
    dsimp only at hr
    subst hr
    exact wpAny_pure h

/-! ### the set -/
def rowV (w : World) (p : Row) : Int × Value := (p.2.hash w, .ref p.1)
structure SetN (w : World) (h : Heap) (a : Addr) (L : List Row) (es : Array (Int × Value)) (ep : Nat) (t : SetTable) : Prop where
  ob : ∃ o, h.get? a = some o ∧ o.ExactSet ∧ o.data = .set es ep t
  rows : es.toList = L.map (rowV w)
  tab : Tab t (L.map fun p => p.2.hash w)
  nd : (L.map (·.2)).Nodup
  key : ∀ p ∈ L, IsN h p.2 p.1
  led : w.params.followText "set-order" = true ∨ t.led = true
  room : L.length * 5 < t.mask * 3
  few : L.length ≤ 4000
variable {a : Addr} {L : List Row} {es : Array (Int × Value)} {ep : Nat} {t : SetTable}
theorem rows_size (h : es.toList = L.map (rowV w)) : es.size = L.length := by
  have q := congrArg List.length h
  simpa using q
theorem rows_at (h : es.toList = L.map (rowV w)) {i : Nat} {p : Row} (hp : L[i]? = some p) : es[i]? = some (rowV w p) := by
  rw [← Array.getElem?_toList, h, List.getElem?_map, hp]
  rfl
theorem fits_of (T : Tab t (L.map fun p => p.2.hash w)) (h : es.toList = L.map (rowV w)) (hl : L.length ≤ t.mask) : t.fits es.size = true := by
  have h1 := T.sz
  rw [List.length_map] at h1
  unfold SetTable.fits SetTable.fill
  rw [T.dm, rows_size h, h1]
  simp [hl]
theorem SetN.fits (R : SetN w s.heap a L es ep t) : t.fits es.size = true := fits_of R.tab R.rows (by have := R.room; omega)
theorem SetN.keep {h h' : Heap} (R : SetN w h a L es ep t) (ha : ∀ o, h.get? a = some o → h'.get? a = some o) (hk : ∀ p ∈ L, IsN h' p.2 p.1) : SetN w h' a L es ep t := by
  obtain ⟨o, ho, r⟩ := R.ob
  exact ⟨⟨o, ha o ho, r⟩, R.rows, R.tab, R.nd, hk, R.led, R.room, R.few⟩
theorem setN_new {h : Heap} (ho : h.get? a = some (DL.set0 w)) : SetN w h a [] #[] 0 (.fresh 0 0 (!w.params.followText "set-order")) where
  ob := ⟨_, ho, ⟨rfl, rfl, rfl⟩, rfl⟩
  rows := rfl
  tab := ⟨List.Pairwise.nil, rfl, rfl, .inl rfl, fun x hx => (by cases hx), fun i h j hi => (by simp at hi)⟩
  nd := List.nodup_nil
  key := fun p hp => (by cases hp)
  led := by
    show _ ∨ (!w.params.followText "set-order") = true
    cases w.params.followText "set-order"
    · exact .inr rfl
    · exact .inl rfl
  room := by show 0 * 5 < 7 * 3; decide
  few := Nat.zero_le _

/-- the way of h, step c -/
abbrev stn (m : Nat) (h : Int) (c : Nat) : SetTable.Probe := nth m (runAt m (SetTable.bits h % (m + 1)) (SetTable.bits h)) c
theorem stn_dummy (m : Nat) (h : Int) (c : Nat) : (stn m h c).dummy = none := by
  have go : ∀ (n : Nat) (p : SetTable.Probe), p.dummy = none → (nth m p n).dummy = none := by
    intro n
    induction n with
    | zero => exact fun p h => h
    | succ n ih => exact fun p h => ih _ (by unfold adv; split <;> exact h)
  exact go c _ rfl
theorem search_key (R : SetN w s.heap a L es ep t) {x : Addr} {k : NestedKey} (hx : IsN s.heap k x) (hu : A.units + 8 < cLine) {n : Nat} (nf : n < 10 * SetTable.turns t.mask) (n1 : way t.mask (k.hash w) n ∉ t.place.toList) (n2 : ∀ c, c < n → way t.mask (k.hash w) c ∈ t.place.toList)
    {Q : SetFound → Shared → Prop} (hin : k ∈ L.map (·.2) → Q (.there none) s) (hout : k ∉ L.map (·.2) → Q (.free (way t.mask (k.hash w) n) false) s) :
    ∀ (f c : Nat) (stand : Option SetTable.Probe), stand.getD (t.probeStart (k.hash w)) = stn t.mask (k.hash w) c → c ≤ n → n - c < f → (∀ (i : Nat) (p : Row), L[i]? = some p → p.2 = k → ∃ d, c ≤ d ∧ d < n ∧ t.place.toList[i]? = some (way t.mask (k.hash w) d)) →
      wpAny (model P w) A (setSearchFrom a (.ref x) (k.hash w) true f stand) Q E s
  | 0, c, stand, _, _, hf, _ => absurd hf (Nat.not_lt_zero _)
  | f + 1, c, stand, hst, hc, hf, hre => by
    obtain ⟨o, ho, hex, hd⟩ := R.ob
    generalize eh : k.hash w = h at *
    rw [setSearchFrom_succ]
    refine wpAny_bind (wpAny_setState_of ho hd R.fits ?_)
    dsimp only
    refine wp_if_neg (by unfold SetTable.gaveWay; rw [R.tab.mok.odd]; decide) ?_
    try refine wpAny_bind (wpAny_pure ?_)
    have sh : ∀ q, nth t.mask (stn t.mask h c) q = stn t.mask h (c + q) := fun q => (nth_add t.mask c _ q).symm
    have spec := go_spec t R.tab.ris R.tab.dm (fun i => (es[i]?.map (·.1)).getD 0) h (10 * SetTable.turns t.mask) (n - c) (stn t.mask h c) (stn_dummy _ _ _) (by omega) (fun q hq => by rw [sh]; exact n2 (c + q) (by omega)) (by rw [sh, show c + (n - c) = n by omega]; exact n1)
    have hashAt : ∀ {i : Nat} {p : Row}, L[i]? = some p → (es[i]?.map (·.1)).getD 0 = p.2.hash w := fun hp => by rw [rows_at R.rows hp]; rfl
    rcases spec with ⟨q, i, hq, hi, hh, hno, hpr⟩ | ⟨hno, hpr⟩
    · rw [sh] at hi
      rw [sh, sh] at hpr
      have hpr2 : t.probe (fun i => (es[i]?.map (·.1)).getD 0) h (stand.getD (t.probeStart h)) = some (.candidate (way t.mask h (c + q)) i (stn t.mask h (c + (q + 1)))) := by rw [hst]; exact hpr
      rw [hpr2]
      dsimp only
      have hil : i < L.length := by
        have h1 := (List.getElem?_eq_some_iff.mp hi).1
        have h2 := R.tab.sz
        rw [List.length_map] at h2
        rw [Array.length_toList] at h1
        omega
      obtain ⟨p, hp⟩ : ∃ p, L[i]? = some p := ⟨_, List.getElem?_eq_getElem hil⟩
      have hm := List.mem_of_getElem? hp
      have ent : es[i]? = some (p.2.hash w, Value.ref p.1) := rows_at R.rows hp
      have rest : wpAny (model P w) A (searchRest a (.ref x) h true f es t (way t.mask h (c + q)) i (stn t.mask h (c + (q + 1)))) Q E s := by
        unfold searchRest
        rw [ent]
        dsimp only
        refine wpAny_bind (wpAny_holding (eqBool_key hu (R.key p hm) hx ?_))
        refine wpAny_bind (wpAny_setState_of ho hd R.fits ?_)
        dsimp only
        by_cases hkk : p.2 = k
        · exact wp_if_pos (by simp [hkk]) (wpAny_pure (hin (List.mem_map.mpr ⟨p, hm, hkk⟩)))
        · refine wp_if_neg (by simp [hkk]) ?_
          try refine wpAny_bind (wpAny_pure ?_)
          rw [sameMem]
          dsimp only
          have hsl : t.slot (way t.mask h (c + q)) = .live i := slot_live R.tab.ris hi
          simp only [if_true, hsl, ent]
          refine wpAny_bind (wpAny_isSame_ref_self (wpAny_bind (wpAny_pure ?_)))
          simp only [if_true]
          refine wp_if_neg (by simp [hkk]) ?_
          subst eh
          refine search_key R hx hu nf n1 n2 hin hout f (c + (q + 1)) _ rfl (by omega) (by omega) fun i0 p0 h0 hk0 => ?_
          obtain ⟨d, d1, d2, d3⟩ := hre i0 p0 h0 hk0
          refine ⟨d, Nat.lt_of_not_le fun z => ?_, d2, d3⟩
          have z : d ≤ c + q := z
          rcases Nat.lt_or_eq_of_le z with z | z
          · refine hno (d - c) i0 (by omega) (by rw [sh, show c + (d - c) = d by omega]; exact d3) ?_
            rw [hashAt h0, hk0]
          · subst z
            have s0 := slot_live R.tab.ris d3
            rw [hsl] at s0
            cases s0
            rw [hp] at h0
            cases h0
            exact hkk hk0
      by_cases hl : t.led = true
      · refine wp_if_neg (by simp [hl]) ?_
        try refine wpAny_bind (wpAny_pure ?_)
        exact rest
      · refine wp_if_pos (by simp [hl]) ?_
        refine wpAny_bind (seen_key hx (fun y hy => ?_) ?_)
        · obtain ⟨e, he, rfl⟩ := List.mem_map.mp hy
          have he1 : e ∈ es ∧ e.1 = h := by simpa using he
          have he2 : e ∈ es.toList := by simpa using he1.1
          rw [R.rows] at he2
          obtain ⟨p2, hp2, rfl⟩ := List.mem_map.mp he2
          exact ⟨p2.2, p2.1, rfl, R.key p2 hp2⟩
        · refine wp_if_neg (by decide) ?_
          try refine wpAny_bind (wpAny_pure ?_)
          exact rest
    · rw [sh, show c + (n - c) = n by omega] at hpr
      have hpr2 : t.probe (fun i => (es[i]?.map (·.1)).getD 0) h (stand.getD (t.probeStart h)) = some (.empty (way t.mask h n) none) := by rw [hst]; exact hpr
      rw [hpr2]
      dsimp only
      refine wpAny_pure (hout fun hm => ?_)
      obtain ⟨p0, h0, hk0⟩ := List.mem_map.mp hm
      obtain ⟨i0, hi0, e0⟩ := List.getElem_of_mem h0
      have h00 : L[i0]? = some p0 := by rw [List.getElem?_eq_getElem hi0, e0]
      obtain ⟨d, d1, d2, d3⟩ := hre i0 p0 h00 hk0
      refine hno (d - c) i0 (by omega) (by rw [sh, show c + (d - c) = d by omega]; exact d3) ?_
      rw [hashAt h00, hk0, eh]
theorem find_key (R : SetN w s.heap a L es ep t) {x : Addr} {k : NestedKey} (hx : IsN s.heap k x) (hu : A.units + 8 < cLine) {Q : SetFound → Shared → Prop} (hin : k ∈ L.map (·.2) → Q (.there none) s)
    (hout : ∀ n, k ∉ L.map (·.2) → way t.mask (k.hash w) n ∉ t.place.toList → (∀ c, c < n → way t.mask (k.hash w) c ∈ t.place.toList) → Q (.free (way t.mask (k.hash w) n) false) s) : wpAny (model P w) A (setSearch a (.ref x) (k.hash w) true) Q E s := by
  have room := R.room
  obtain ⟨n, nf, n1, n2⟩ := R.tab.first (by rw [List.length_map]; omega) (k.hash w)
  have := R.tab.mok.le
  have big : n < 100000 := by unfold SetTable.turns at nf; omega
  unfold setSearch
  refine search_key R hx hu nf n1 n2 hin (fun hn => hout n hn n1 n2) 100000 0 none rfl (Nat.zero_le _) (by omega) fun i p hp hk => ?_
  have hil : i < t.place.toList.length := by
    have h1 := (List.getElem?_eq_some_iff.mp hp).1
    have h2 := R.tab.sz
    rw [List.length_map] at h2
    rw [Array.length_toList]
    omega
  have hj := List.getElem?_eq_getElem hil
  obtain ⟨c, c1, c2⟩ := R.tab.before n1 (by rw [List.getElem?_map, hp, ← hk]; rfl) hj
  exact ⟨c, Nat.zero_le _, c1, by rw [hj, c2]⟩
theorem ordered (L : List Row) (es : Array (Int × Value)) (order : Array Nat) (hr : es.toList = L.map (rowV w)) (hp : order.toList.Perm (List.range L.length)) :
    ∃ L2 : List Row, (order.filterMap (es[·]?)).toList = L2.map (rowV w) ∧ L2.Perm L ∧ (L2.map fun p => p.2.hash w) = order.toList.map fun i => (es.map (·.1)).getD i 0 := by
  have go : ∀ l : List Nat, (∀ i ∈ l, i < L.length) → ∃ L2 : List Row, L2 = l.filterMap (fun i => L[i]?) ∧ l.filterMap (fun i => es[i]?) = L2.map (rowV w) ∧ (L2.map fun p => p.2.hash w) = l.map fun i => (es.map (·.1)).getD i 0 := by
    intro l
    induction l with
    | nil => exact fun _ => ⟨[], rfl, rfl, rfl⟩
    | cons i l ih =>
      intro hl
      obtain ⟨L2, e1, e2, e3⟩ := ih fun j hj => hl j (List.mem_cons_of_mem _ hj)
      obtain ⟨p, hp⟩ : ∃ p, L[i]? = some p := ⟨_, List.getElem?_eq_getElem (hl i List.mem_cons_self)⟩
      have he := rows_at hr hp
      refine ⟨p :: L2, by rw [List.filterMap_cons_some hp, e1], by rw [List.filterMap_cons_some he, e2]; rfl, ?_⟩
      have e4 : (es.map (·.1)).getD i 0 = p.2.hash w := by rw [Array.getD_eq_getD_getElem?, Array.getElem?_map, he]; rfl
      rw [List.map_cons, List.map_cons, e3, e4]
  obtain ⟨L2, e1, e2, e3⟩ := go order.toList fun i hi => List.mem_range.mp (hp.mem_iff.mp hi)
  refine ⟨L2, by first | (rw [Array.toList_filterMap]; exact e2) | simpa using e2, ?_, e3⟩
  have all : (List.range L.length).filterMap (fun i => L[i]?) = L := by
    refine List.ext_getElem? fun i => ?_
    have e : (List.range L.length).filterMap (fun i => L[i]?) = (List.range L.length).pmap (fun i h => L[i]'h) fun i h => List.mem_range.mp h := by
      have go : ∀ (l : List Nat) (hl : ∀ i ∈ l, i < L.length), l.filterMap (fun i => L[i]?) = l.pmap (fun i h => L[i]'h) hl := by
        intro l
        induction l with
        | nil => exact fun _ => rfl
        | cons i l ih =>
          intro hl
          rw [List.filterMap_cons_some (List.getElem?_eq_getElem (hl i List.mem_cons_self)), ih fun j hj => hl j (List.mem_cons_of_mem _ hj)]
          rfl
      exact go _ _
    rw [e, List.getElem?_pmap]
    by_cases h : i < L.length
    · simp [h]
    · simp [h]
  rw [e1]
  have q := hp.filterMap fun i => L[i]?
  rw [all] at q
  exact q
theorem relay_key {o : Obj} (ho : s.heap.get? a = some o) (hex : o.ExactSet) (hd : o.data = .set es ep t) (rows : es.toList = L.map (rowV w)) (hf : t.fits es.size = true) (nd : (L.map (·.2)).Nodup) (key : ∀ p ∈ L, IsN s.heap p.2 p.1)
    (ld : w.params.followText "set-order" = true ∨ t.led = true) (few : L.length ≤ 4000) {wanted m : Nat} (hw : SetTable.sizeAbove wanted - 1 = m) (hm : MaskG m) (hw2 : SetTable.sizeAbove wanted ≤ 8192) (hn : L.length * 4 ≤ m) (h0 : 0 < L.length) {Q : Unit → Shared → Prop}
    (hQ : ∀ h' L' es' ep' t', Heap.SameBut a s.heap h' → SetN w h' a L' es' ep' t' → L'.Perm L → Q () { s with heap := h' }) : wpAny (model P w) A (setRelay a wanted) Q E s := by
  have hsl := rows_size rows
  obtain ⟨t2, order, e, hp, T, em, el⟩ := relaid_tab t (hs := es.map (·.1)) hw hm (by rw [Array.size_map, hsl]; omega)
  rw [Array.size_map, hsl] at hp
  obtain ⟨L2, r1, r2, r3⟩ := ordered L es order rows hp
  rw [← r3] at T
  have hs2 : (order.filterMap (es[·]?)).size = es.size := by rw [rows_size r1, hsl, r2.length_eq]
  rw [setRelay_eq]
  refine wpAny_bind (wpAny_setState_of ho hd hf ?_)
  dsimp only
  refine wp_if_neg (by rw [sizeLine_eq]; omega) ?_
  try refine wpAny_bind (wpAny_pure ?_)
  rw [e]
  dsimp only
  refine wpAny_bind ?_
  refine wp_if_neg (by rw [hs2]; simp) ?_
  try refine wpAny_bind (wpAny_pure ?_)
  refine wpAny_pure ?_
  dsimp only
  refine wpAny_storeSet_of ho hd ?_ (by rw [hs2, hsl, sizeLine_eq]; omega)
  have sb : Heap.SameBut a s.heap (s.heap.update a (Obj.putSet (order.filterMap (es[·]?)) t2)) := Heap.SameBut.update ..
  refine hQ _ L2 _ (ep + 1) t2 sb ⟨⟨_, store_at ho hd, ⟨hex.1, hex.2.1, hex.2.2⟩, rfl⟩, r1, T, (r2.map (·.2)).nodup_iff.mpr nd, fun p hp => (key p (r2.mem_iff.mp hp)).same ho hd sb, by rw [el]; exact ld, ?_, by rw [r2.length_eq]; exact few⟩ r2
  rw [r2.length_eq, em]
  omega
theorem add_key (R : SetN w s.heap a L es ep t) {x : Addr} {k : NestedKey} (hx : IsN s.heap k x) (hu : A.units + 8 < cLine) (hfew : k ∉ L.map (·.2) → L.length + 1 ≤ 4000) {Q : Bool → Shared → Prop}
    (hQ : ∀ b h' L' es' ep' t', Heap.SameBut a s.heap h' → SetN w h' a L' es' ep' t' → (k ∈ L.map (·.2) → L' = L) → (k ∉ L.map (·.2) → L'.Perm ((x, k) :: L)) → Q b { s with heap := h' }) : wpAny (model P w) A (setAddHashed a (.ref x) (k.hash w)) Q E s := by
  obtain ⟨o, ho, hex, hd⟩ := R.ob
  have hsl := rows_size R.rows
  have room := R.room
  unfold setAddHashed
  refine wpAny_holding ?_
  rw [show (100000 : Nat) = 99999 + 1 from rfl, setAddHashedIn_succ]
  refine wpAny_bind (wpAny_setState_of ho hd R.fits ?_)
  dsimp only
  refine wp_if_neg (by simp [byScan, Value.scannable]) ?_
  try refine wpAny_bind (wpAny_pure ?_)
  refine wpAny_bind (find_key R hx hu (fun hm => ?_) fun n hm n1 n2 => ?_)
  · dsimp only
    exact wpAny_pure (hQ false s.heap L es ep t (Heap.SameBut.refl a s.heap) R (fun _ => rfl) fun z => absurd hm z)
  · dsimp only
    have hfew := hfew hm
    refine wpAny_bind (wpAny_setState_of ho hd R.fits ?_)
    dsimp only
    obtain ⟨q1, q2, q3⟩ := R.tab.put n1 n2
    have qm : (t.put (way t.mask (k.hash w) n)).1.mask = t.mask := rfl
    have ql : (t.put (way t.mask (k.hash w) n)).1.led = t.led := rfl
    have qp : (t.put (way t.mask (k.hash w) n)).2 = SetTable.below t.place (way t.mask (k.hash w) n) := rfl
    generalize t.put (way t.mask (k.hash w) n) = pt at q2 q3 qm ql qp ⊢
    generalize SetTable.below t.place (way t.mask (k.hash w) n) = p at q1 q2 qp
    obtain ⟨t1, p1⟩ := pt
    dsimp only at q2 q3 qm ql qp ⊢
    subst qp
    have cont : ∀ b : Bool, wpAny (model P w) A (do
        storeSet a (SetTable.insertAt es p1 (k.hash w, .ref x)) (if b then t1 else { t1 with plain := false })
        if !false && (if b then t1 else { t1 with plain := false }).tooFull then setRelay a (SetTable.grown (es.size + 1))
        return true) Q E s := by
      intro b
      have q2' : Tab (if b then t1 else { t1 with plain := false }) ((L.map fun p => p.2.hash w).take p1 ++ k.hash w :: (L.map fun p => p.2.hash w).drop p1) := by
        cases b with
        | true => exact q2
        | false => exact ⟨q2.ris, q2.dm, q2.sz, q2.mok, q2.bd, q2.reach⟩
      have q3' : (if b then t1 else { t1 with plain := false }).fill = L.length + 1 := by
        rw [List.length_map] at q3
        cases b <;> exact q3
      have qm' : (if b then t1 else { t1 with plain := false }).mask = t.mask := by cases b <;> exact qm
      have ql' : (if b then t1 else { t1 with plain := false }).led = t.led := by cases b <;> exact ql
      generalize (if b then t1 else { t1 with plain := false }) = t2 at q2' q3' qm' ql' ⊢
      have hin : (SetTable.insertAt es p1 (k.hash w, Value.ref x)).toList = (L.take p1 ++ (x, k) :: L.drop p1).map (rowV w) := by
        rw [SetTable.toList_insertAt, R.rows, List.map_append, List.map_cons, List.map_take, List.map_drop]
        rfl
      have pm := put_perm L p1 (x, k)
      have hhs : (L.take p1 ++ (x, k) :: L.drop p1).map (fun p => p.2.hash w) = (L.map fun p => p.2.hash w).take p1 ++ k.hash w :: (L.map fun p => p.2.hash w).drop p1 := by
        rw [List.map_append, List.map_cons, List.map_take, List.map_drop]
      rw [← hhs] at q2'
      generalize L.take p1 ++ (x, k) :: L.drop p1 = L1 at pm q2' hin
      have hlen : L1.length = L.length + 1 := pm.length_eq
      have nd1 : (L1.map (·.2)).Nodup := (pm.map (·.2)).nodup_iff.mpr (List.nodup_cons.mpr ⟨hm, R.nd⟩)
      have hes := rows_size hin
      generalize SetTable.insertAt es p1 (k.hash w, Value.ref x) = es1 at hin hes ⊢
      refine wpAny_bind (wpAny_storeSet_of ho hd ?_ (by rw [hes, hlen, sizeLine_eq]; omega))
      have sb : Heap.SameBut a s.heap (s.heap.update a (Obj.putSet es1 t2)) := Heap.SameBut.update ..
      have ho1 := store_at (es' := es1) (t' := t2) ho hd
      generalize s.heap.update a (Obj.putSet es1 t2) = h1 at sb ho1 ⊢
      have key1 : ∀ p ∈ L1, IsN h1 p.2 p.1 := fun p hp => by
        rcases List.mem_cons.mp (pm.mem_iff.mp hp) with rfl | hp
        · exact hx.same ho hd sb
        · exact (R.key p hp).same ho hd sb
      have ld1 : w.params.followText "set-order" = true ∨ t2.led = true := by rw [ql']; exact R.led
      by_cases hfull : t2.tooFull = true
      · have g : wpAny (model P w) A (setRelay a (SetTable.grown (L.length + 1))) (fun _ s' => wpAny (model P w) A (pure true) Q E s') E { s with heap := h1 } := by
          obtain ⟨m, g1, g2, g3, g4⟩ := grown_ok (n := L.length + 1) R.tab.mok (by
            have h := hfull
            unfold SetTable.tooFull at h
            rw [decide_eq_true_eq, q3', qm'] at h
            omega) (by omega) hfew
          refine relay_key (s := { s with heap := h1 }) ho1 ⟨hex.1, hex.2.1, hex.2.2⟩ rfl hin (fits_of q2' hin ?_) nd1 key1 ld1 (by rw [hlen]; exact hfew) g1 g2 g4 (by rw [hlen]; exact g3) (by omega) ?_
          · have := q2'.mok.ge
            rw [hlen, qm']
            rw [qm'] at this
            omega
          · intro h2 L2 es2 ep2 t3 sb2 R2 pm2
            exact wpAny_pure (hQ true h2 L2 es2 ep2 t3 (sb.trans sb2) R2 (fun z => absurd z hm) fun _ => pm2.trans pm)
        rw [← hsl] at g
        first
          | (refine wpAny_bind ?_; exact wp_if_pos (by simp [hfull]) g)
          | exact wp_if_pos (by simp [hfull]) (wpAny_bind g)
      · have fin : Q true { s with heap := h1 } := by
          refine hQ true h1 L1 es1 (ep + 1) t2 sb ⟨⟨_, ho1, ⟨hex.1, hex.2.1, hex.2.2⟩, rfl⟩, hin, q2', nd1, key1, ld1, ?_, by rw [hlen]; exact hfew⟩ (fun z => absurd z hm) fun _ => pm
          unfold SetTable.tooFull at hfull
          rw [decide_eq_true_eq, q3'] at hfull
          rw [hlen]
          omega
        first
          | exact wp_if_neg (by simp [hfull]) (wpAny_pure fin)
          | (refine wpAny_bind ?_; exact wp_if_neg (by simp [hfull]) (wpAny_pure (wpAny_pure fin)))
    by_cases hpl : t1.plain = true
    · first
        | (refine wpAny_bind ?_; refine wp_if_pos hpl ?_; exact hash_key k _ 8 s hx.1 hx.2 A E _ cont)
        | exact wp_if_pos hpl (wpAny_bind (hash_key k _ 8 s hx.1 hx.2 A E _ cont))
    · first
        | (refine wpAny_bind ?_; refine wp_if_neg hpl ?_; exact wpAny_pure (cont true))
        | exact wp_if_neg hpl (wpAny_bind (wpAny_pure (cont true)))
end
end DLT
namespace DLT
open PySem PySem.Spec PyProof.Rows L2
/-- what the set has of the first i items -/
structure GotN (ks : List Row) (i : Nat) (L : List Row) : Prop where
  sub : ∀ p ∈ L, p ∈ ks.take i
  all : ∀ p ∈ ks.take i, p.2 ∈ L.map (·.2)
theorem GotN.same {ks L : List Row} {i : Nat} {x : Row} (g : GotN ks i L) (h : ks[i]? = some x) (hm : x.2 ∈ L.map (·.2)) : GotN ks (i + 1) L := by
  have e := take_next h
  refine ⟨fun p hp => ?_, fun p hp => ?_⟩
  · rw [e]
    exact List.mem_append_left _ (g.sub p hp)
  · rw [e] at hp
    rcases List.mem_append.mp hp with z | z
    · exact g.all p z
    · exact List.mem_singleton.mp z ▸ hm
theorem GotN.more {ks L L' : List Row} {i : Nat} {x : Row} (g : GotN ks i L) (h : ks[i]? = some x) (pm : L'.Perm (x :: L)) : GotN ks (i + 1) L' := by
  have e := take_next h
  refine ⟨fun p hp => ?_, fun p hp => ?_⟩
  · rw [e]
    rcases List.mem_cons.mp (pm.mem_iff.mp hp) with rfl | z
    · exact List.mem_append_right _ List.mem_cons_self
    · exact List.mem_append_left _ (g.sub p z)
  · rw [(pm.map (·.2)).mem_iff, List.map_cons]
    rw [e] at hp
    rcases List.mem_append.mp hp with z | z
    · exact List.mem_cons_of_mem _ (g.all p z)
    · exact List.mem_singleton.mp z ▸ List.mem_cons_self
section
variable {P : Program} {w : World} {A : Around} {E : Value → Shared → Prop} {s : Shared}
theorem update_keys {I : Addr} {fp wr : List Addr} {G : Array GenState → Array GenState → Prop} {n : Nat} {Pv : Nat → Value → Prop} {St : Nat → Shared → Prop} {R : Result → Shared → Prop} (W : WalksS P w A.in1 I fp wr G n Pv St) (S : Addr) (hSf : S ∉ fp) (ks : List Row) (hn : n = ks.length)
    (hfew : ∀ L : List Row, (L.map (·.2)).Nodup → (∀ p ∈ L, p ∈ ks) → L.length ≤ 4000) (hval : ∀ i v, Pv i v → ∃ p, ks[i]? = some p ∧ v = .ref p.1) (h0 : Heap) (hk : ∀ p ∈ ks, IsN h0 p.2 p.1) (hS0 : h0.get? S = none) (hw0 : ∀ b ∈ wr, h0.get? b = none) (hu : A.in1.units + 9 < cLine) :
    ∀ (m i : Nat) (s : Shared), n - i = m → i ≤ n → St i s → (∀ b o, h0.get? b = some o → s.heap.get? b = some o) → (∃ L es ep t, SetN w s.heap S L es ep t ∧ GotN ks i L) →
      (∀ s' L es ep t, Moved (S :: wr) G s s' → SetN w s'.heap S L es ep t → GotN ks n L → (∀ b o, h0.get? b = some o → s'.heap.get? b = some o) → R (.ok (.ret .none)) s') →
      codeAny (model P w) A (.builtin "set.update.loop" ⟨[.ref S, .ref I], []⟩) R s := by
  have hSw : S ∉ wr := fun z => hSf (W.sub _ z)
  have wide : ∀ b ∈ wr, b ∈ S :: wr := fun b hb => List.mem_cons_of_mem _ hb
  have stay : ∀ {s s' : Shared}, Moved wr G s s' → (∀ b o, h0.get? b = some o → s.heap.get? b = some o) → ∀ b o, h0.get? b = some o → s'.heap.get? b = some o := fun hm kp b o e =>
    hm.heap b o (fun hb => by have := hw0 b hb; rw [e] at this; cases this) (kp b o e)
  intro m
  induction m with
  | zero =>
    intro i s hm hi hst kp ⟨L, es, ep, t, hS, g⟩ hR
    obtain rfl : i = n := by omega
    refine codeAny_builtin F.entry_set_update_loop ?_
    rw [Around.under_plainId F.plain_set_update_loop _]
    show wpAny _ A.in1 (pyNext (.ref I) >>= _) _ _ s
    refine wpAny_bind (W.done s _ _ hst fun s' mv => ?_)
    show wpAny _ A.in1 (ret Value.none) _ _ s'
    have kp' := stay mv kp
    exact wpAny_pure (hR s' L es ep t (mv.mono wide) (hS.keep (fun o e => mv.heap S o hSw e) fun p hp => (hk p (List.mem_of_mem_take (g.sub p hp))).keep kp') g kp')
  | succ m ih =>
    intro i s hm hi hst kp ⟨L, es, ep, t, hS, g⟩ hR
    have hlt : i < n := by omega
    refine codeAny_builtin F.entry_set_update_loop ?_
    rw [Around.under_plainId F.plain_set_update_loop _]
    show wpAny _ A.in1 (pyNext (.ref I) >>= _) _ _ s
    refine wpAny_bind (W.item i s _ _ hlt hst fun v s' hP hst' mv => ?_)
    obtain ⟨p, hp, rfl⟩ := hval i v hP
    have hpk := List.mem_of_getElem? hp
    have kp' := stay mv kp
    have hS' : SetN w s'.heap S L es ep t := hS.keep (fun o e => mv.heap S o hSw e) fun q hq => (hk q (List.mem_of_mem_take (g.sub q hq))).keep kp'
    have hx : IsN s'.heap p.2 p.1 := (hk p hpk).keep kp'
    show wpAny _ A.in1 (holding [Value.ref p.1] (setAdd S (.ref p.1)) >>= _) _ _ s'
    refine wpAny_bind (wpAny_holding ?_)
    unfold setAdd
    refine wpAny_holding ?_
    refine wpAny_bind (pyHash_key p.2 _ A.in1 s' _ hx.1 (by have := hx.2; omega) ?_)
    refine add_key (s := { s' with toks := s'.toks + p.2.draws }) hS' hx (by omega) (fun hn => ?_) fun b h' L' es' ep' t' sb hS2 c1 c2 => ?_
    · refine hfew (p :: L) (List.nodup_cons.mpr ⟨hn, hS.nd⟩) fun q hq => ?_
      rcases List.mem_cons.mp hq with rfl | hq
      · exact hpk
      · exact List.mem_of_mem_take (g.sub q hq)
    have g' : GotN ks (i + 1) L' := by
      by_cases c : p.2 ∈ L.map (·.2)
      · rw [c1 c]
        exact g.same hp c
      · exact g.more hp (c2 c)
    have kp2 : ∀ b o, h0.get? b = some o → h'.get? b = some o := fun b o e => (sb.2 b (fun z => by rw [z, hS0] at e; cases e)).trans (kp' b o e)
    refine wpAny_pure ⟨plainId_quiet F.plain_set_update_loop _, ih (i + 1) _ (by omega) hlt (W.frame _ s' _ _ hst' (Nat.le_add_right _ _) fun b hb o e => ?_) kp2 ⟨L', es', ep', t', hS2, g'⟩ fun s2 L2 es2 ep2 t2 mv2 hS3 g2 kp3 => ?_⟩
    · rw [sb.2 b fun z => hSf (z ▸ hb)]
      exact e
    · refine hR s2 L2 es2 ep2 t2 (Moved.trans W.gtrans ((mv.mono wide).then_heap (Nat.le_add_right _ _) fun b o hb e => ?_) mv2) hS3 g2 kp3
      rw [sb.2 b fun z => hb (z ▸ List.mem_cons_self)]
      exact e
/-- set(xs) -/
theorem set_keys {l : Addr} {items : Array Value} (ks : List Row) {Q : Value → Shared → Prop} (hh : A.handled = none) (hl : DL.SeqObj s.heap l items) (hit : items.toList = ks.map fun p => Value.ref p.1) (hk : ∀ p ∈ ks, IsN s.heap p.2 p.1)
    (hfew : ∀ L : List Row, (L.map (·.2)).Nodup → (∀ p ∈ L, p ∈ ks) → L.length ≤ 4000) (hu : A.units + 20 < cLine)
    (h : ∀ (h' : Heap) (tk : Nat) (L : List Row) (es : Array (Int × Value)) (ep : Nat) (t : SetTable), SetN w h' s.heap.objs.size L es ep t → (∀ p ∈ L, p ∈ ks) → (∀ p ∈ ks, p.2 ∈ L.map (·.2)) → (∀ b o, s.heap.get? b = some o → h'.get? b = some o) → Q (.ref s.heap.objs.size) { s with heap := h', toks := tk }) :
    wpAny (model P w) A (call (.type "set") [.ref l]) Q E s := by
  have hz : items.size = ks.length := by
    have q := congrArg List.length hit
    simpa using q
  have hval : ∀ (i : Nat) (v : Value), items[i]? = some v → ∃ p, ks[i]? = some p ∧ v = .ref p.1 := fun i v hv => by
    rw [← Array.getElem?_toList, hit, List.getElem?_map] at hv
    cases q : ks[i]? with
    | none => rw [q] at hv; cases hv
    | some p => rw [q] at hv; cases hv; exact ⟨p, rfl, rfl⟩
  refine DL.set_open hl hh (fun h' => ∃ L es ep t, SetN w h' s.heap.objs.size L es ep t ∧ GotN ks items.size L)
    (fun I G St s1 R W st h0 old out hI hr => update_keys (A := A.in1.in1) W s.heap.objs.size out ks hz hfew hval s.heap hk (Heap.get?_none_of_le (Nat.le_refl _)) (fun b hb => by rw [List.mem_singleton.mp hb]; exact hI) (by simp only [Around.in1_units]; omega) items.size 0 s1 (Nat.sub_zero _) (Nat.zero_le _) st old
      ⟨[], #[], 0, _, setN_new h0, fun p hp => (by cases hp), fun p hp => (by simp at hp)⟩ fun s' L es ep t mv hS g kp => hr s' mv ⟨L, es, ep, t, hS, g⟩)
    fun h' tk ⟨L, es, ep, t, hS, g⟩ old => h h' tk L es ep t hS (fun p hp => List.mem_of_mem_take (g.sub p hp)) (fun p hp => g.all p (by rw [hz, List.take_length]; exact hp)) old
theorem perm_back {α β : Type} {f : α → β} {xs ys : List β} (h : xs.Perm ys) : ∀ L : List α, ys = L.map f → ∃ L1 : List α, xs = L1.map f ∧ L1.Perm L := by
  induction h with
  | nil => exact fun L e => ⟨[], rfl, by cases L with | nil => exact .nil | cons a b => cases e⟩
  | cons x _ ih =>
    intro L e
    cases L with
    | nil => cases e
    | cons a L =>
      rw [List.map_cons] at e
      obtain ⟨e1, e2⟩ := List.cons.inj e
      obtain ⟨L1, h1, h2⟩ := ih L e2
      exact ⟨a :: L1, by rw [List.map_cons, h1, e1], h2.cons a⟩
  | swap x y l =>
    intro L e
    cases L with
    | nil => cases e
    | cons a L =>
      cases L with
      | nil => cases e
      | cons b L =>
        rw [List.map_cons, List.map_cons] at e
        obtain ⟨e1, e2⟩ := List.cons.inj e
        obtain ⟨e3, e4⟩ := List.cons.inj e2
        exact ⟨b :: a :: L, by rw [List.map_cons, List.map_cons, e1, e3, e4], .swap _ _ _⟩
  | trans _ _ ih1 ih2 =>
    intro L e
    obtain ⟨L2, h1, h2⟩ := ih2 L e
    obtain ⟨L1, h3, h4⟩ := ih1 L2 h1
    exact ⟨L1, h3, h4.trans h2⟩
theorem each_ref : ∀ {out : List Value} {L : List Row}, PySem.W.EachIs (fun (v : Value) (p : Row) => v = .ref p.1) out L → out = L.map fun p => Value.ref p.1
  | _, _, .nil => rfl
  | _, _, .cons e t => by rw [List.map_cons, e, each_ref t]
theorem ref_each : ∀ (L : List Row), PySem.W.EachIs (fun (v : Value) (p : Row) => v = .ref p.1) (L.map fun p => Value.ref p.1) L
  | [] => .nil
  | p :: L => .cons rfl (ref_each L)
theorem each_all {R : Value → Row → Prop} : ∀ (L : List Row), (∀ p ∈ L, R (.ref p.1) p) → PySem.W.EachIs R (L.map fun p => Value.ref p.1) L
  | [], _ => .nil
  | p :: L, h => .cons (h p List.mem_cons_self) (each_all L fun q hq => h q (List.mem_cons_of_mem _ hq))
abbrev leN : Row → Row → Bool := PySem.W.dataLe false fun p : Row => p.2.data
theorem sort_refs {a : Addr} {L : List Row} {n : Nat} {Q : Value → Shared → Prop} (ho : s.heap.get? a = some (seqObj "list" (L.map fun p => Value.ref p.1).toArray n)) (rd : ∀ p ∈ L, Reads s.heap (.ref p.1) p.2.data []) (hz : L.length ≤ sizeLine) (hu : A.units + 64 < cLine) (hd : ∀ p ∈ L, p.2.data.depth ≤ 60)
    (guard : L.length ≤ 1 ∨ PySem.W.AllAlike (L.map fun p => p.2.data) ∧ PySem.W.Sortable (L.map fun p => p.2.data))
    (h : ∀ L' : List Row, L' = L.mergeSort leN → Q .none { s with heap := sortedHeap s.heap a (L.map fun p => Value.ref p.1) (L'.map fun p => Value.ref p.1).toArray }) : wpAny (model P w) A (call (.builtin "list.sort") [.ref a]) Q E s := by
  rcases guard with g | ⟨g1, g2⟩
  · refine wpAny_call_entry slot_list_sort ⟨_, ho, rfl⟩ entry_list_sort (SrtO.list_sort_ord (ltv := fun _ _ => false) ⟨fun _ _ _ => rfl, fun _ _ _ _ _ => rfl⟩ ho (by rw [List.length_map]; exact hz) (fun z => absurd z (by rw [List.length_map]; omega)) fun out _ st => ⟨.none, rfl, ?_⟩) (args_list_sort _)
    have e : out = L.map fun p => Value.ref p.1 := by
      obtain ⟨L1, e1, e2⟩ := perm_back st.perm L rfl
      rw [e1]
      match L, g, e2 with
      | [], _, e2 => rw [List.perm_nil.mp e2]
      | [p], _, e2 => rw [List.perm_singleton.mp e2]
    have em : L = L.mergeSort leN := by
      match L, g with
      | [], _ => simp
      | [p], _ => simp
    have q := h L em
    rw [e]
    exact q
  · refine PySem.W.list_sort_data (R := fun (v : Value) (p : Row) => v = .ref p.1) (enc := fun p : Row => p.2.data) ho (ref_each L) (each_all L fun p hp => ⟨[], rd p hp, by simp⟩) g1 g2 hz (fun p hp => by have := hd p hp; omega) fun out _ eo => ?_
    rw [each_ref eo]
    exact h _ rfl
theorem sorted_keys {a : Addr} {L : List Row} {es : Array (Int × Value)} {ep : Nat} {t : SetTable} {Q : Value → Shared → Prop} (R : SetN w s.heap a L es ep t) (hh : A.handled = none) (hu : A.units + 66 < cLine) (rd : ∀ p ∈ L, Reads s.heap (.ref p.1) p.2.data []) (hd : ∀ p ∈ L, p.2.data.depth ≤ 60)
    (guard : L.length ≤ 1 ∨ PySem.W.AllAlike (L.map fun p => p.2.data) ∧ PySem.W.Sortable (L.map fun p => p.2.data))
    (hQ : ∀ s' q (out : Array Value) (c : Nat) (L1 L2 : List Row), (∀ b o, s.heap.get? b = some o → s'.heap.get? b = some o) → s'.gens = s.gens → s'.os = s.os → s.heap.objs.size ≤ q → s'.heap.get? q = some (seqObj "list" out c) → out.toList = L2.map (fun p => Value.ref p.1) → L1.Perm L → L2 = L1.mergeSort leN → Q (.ref q) s') :
    wpAny (model P w) A (call (.builtin "sorted") [.ref a]) Q E s := by
  obtain ⟨o, ho, hex, hdt⟩ := R.ob
  have hsz := rows_size R.rows
  have few := R.few
  refine Calls.call_function_entry kind_sorted plain_sorted entry_sorted (args_sorted1 _) ?_
  unfold Builtin.«sorted»
  refine wpAny_bind (m := checkCount "sorted" 1 1 _) (wpAny_pure ?_)
  refine wpAny_bind (collect_set (A := A.in1) hh ⟨o, ho, hex.1, hdt⟩ R.fits (by unfold scanBound; omega) R.tab.ris R.led fun s1 vs k1 hz g1 o1 pm => ?_)
  have er : es.toList.map (·.2) = L.map fun p => Value.ref p.1 := by
    rw [R.rows, List.map_map]
    rfl
  obtain ⟨L1, e1, pL⟩ := perm_back pm L er
  subst e1
  have hl1 : L1.length ≤ sizeLine := by rw [pL.length_eq, sizeLine_eq]; omega
  refine wpAny_bind (wpAny_newList ?_ (by rw [List.length_map]; exact hl1))
  have hoL : (s1.heap.push (seqObj "list" (L1.map fun p => Value.ref p.1).toArray 0)).get? s1.heap.objs.size = some (seqObj "list" (L1.map fun p => Value.ref p.1).toArray 0) := Heap.get?_push_size _ rfl
  have guard1 : L1.length ≤ 1 ∨ PySem.W.AllAlike (L1.map fun p => p.2.data) ∧ PySem.W.Sortable (L1.map fun p => p.2.data) := by
    rcases guard with g | ⟨g1, g2⟩
    · exact .inl (by rw [pL.length_eq]; exact g)
    · have pd := pL.map fun p : Row => p.2.data
      refine .inr ⟨fun d hd e he => g1 d (pd.mem_iff.mp hd) e (pd.mem_iff.mp he), ?_⟩
      rcases g2 with g2 | g2
      · exact .inl fun d hd => g2 d (pd.mem_iff.mp hd)
      · exact .inr fun d hd => g2 d (pd.mem_iff.mp hd)
  refine wpAny_bind (wpAny_holding (sort_refs (s := { s1 with heap := s1.heap.push (seqObj "list" (L1.map fun p => Value.ref p.1).toArray 0) }) hoL (fun p hp => PyProof.Rows.Reads.keeps (fun b u e => Heap.get?_push_of_some _ (k1 b u e)) (rd p (pL.mem_iff.mp hp))) hl1 (by simp only [Around.in1_units]; omega) (fun p hp => hd p (pL.mem_iff.mp hp)) guard1 fun L2 e2 => ?_))
  obtain ⟨c, hc⟩ := sortedHeap_at (vs := L1.map fun p => Value.ref p.1) (out := (L2.map fun p => Value.ref p.1).toArray) hoL
  refine wpAny_pure ⟨_, rfl, hQ _ s1.heap.objs.size _ c L1 L2 (fun b u e => ?_) g1 o1 hz hc rfl pL e2⟩
  have q := k1 b u e
  have hlt := Heap.lt_size q
  show (sortedHeap (s1.heap.push (seqObj "list" (L1.map fun p => Value.ref p.1).toArray 0)) s1.heap.objs.size (L1.map fun p => Value.ref p.1) (L2.map fun p => Value.ref p.1).toArray).get? b = some u
  rw [sortedHeap_old (Nat.ne_of_lt hlt) (by rw [size_push']; exact Nat.lt_succ_of_lt hlt)]
  exact Heap.get?_push_of_some _ q
end
end DLT

/-! DL: sorted(set(xs)) of nested tuples, over data. -/
namespace DL
open PySem PySem.Spec PyProof.Rows L2 DLT
variable [TabCx] [WCx]
mutual
def keyN : D → Option NestedKey
  | .none => some .none
  | .int i => some (.num i)
  | .str x => some (.text x)
  | .tuple ds => (keysN ds).map .tup
  | .bool _ => none
  | .list _ => none
  | .dict _ => none
def keysN : List D → Option (List NestedKey)
  | [] => some []
  | d :: ds => match keyN d, keysN ds with
    | some k, some ks => some (k :: ks)
    | _, _ => none
end
theorem keysN_cons {d : D} {ds : List D} {ks : List NestedKey} (h : keysN (d :: ds) = some ks) : ∃ k r, keyN d = some k ∧ keysN ds = some r ∧ ks = k :: r := by
  rw [keysN] at h
  cases e1 : keyN d with
  | none => rw [e1] at h; cases h
  | some k =>
    cases e2 : keysN ds with
    | none => rw [e1, e2] at h; cases h
    | some r => rw [e1, e2] at h; cases h; exact ⟨k, r, rfl, rfl, rfl⟩
mutual
theorem keyN_data : ∀ (d : D) (k : NestedKey), keyN d = some k → k.data = d
  | .none, _, h => by cases h; rfl
  | .int _, _, h => by cases h; rfl
  | .str _, _, h => by cases h; rfl
  | .bool _, _, h => by cases h
  | .list _, _, h => by cases h
  | .dict _, _, h => by cases h
  | .tuple ds, _, h => by
    rw [keyN] at h
    cases e : keysN ds with
    | none => rw [e] at h; cases h
    | some ks =>
      rw [e] at h
      cases h
      show PyData.tuple (NestedKey.datas ks) = _
      rw [keysN_data ds ks e]
theorem keysN_data : ∀ (ds : List D) (ks : List NestedKey), keysN ds = some ks → NestedKey.datas ks = ds
  | [], _, h => by cases h; rfl
  | d :: ds, _, h => by
    obtain ⟨k, r, e1, e2, rfl⟩ := keysN_cons h
    show k.data :: NestedKey.datas r = _
    rw [keyN_data d k e1, keysN_data ds r e2]
end
theorem datas_map : ∀ ks : List NestedKey, NestedKey.datas ks = ks.map NestedKey.data
  | [] => rfl
  | k :: ks => by
    show k.data :: NestedKey.datas ks = _
    rw [datas_map ks]
    rfl
mutual
theorem key_of_data : ∀ k : NestedKey, keyN k.data = some k
  | .none => rfl
  | .num _ => rfl
  | .text _ => rfl
  | .tup ks => by
    show (keysN (NestedKey.datas ks)).map NestedKey.tup = _
    rw [keys_of_data ks]
    rfl
theorem keys_of_data : ∀ ks : List NestedKey, keysN (NestedKey.datas ks) = some ks
  | [] => rfl
  | k :: ks => by
    show keysN (k.data :: NestedKey.datas ks) = _
    rw [keysN, key_of_data k, keys_of_data ks]
end
mutual
theorem reads_key {h : Heap} : ∀ (d : D) (k : NestedKey) (v : Value) (as : List Addr), keyN d = some k → Reads h v d as → NestedIs h k v ∧ as = []
  | .none, _, _, _, e, r => by cases e; cases r; exact ⟨.none, rfl⟩
  | .int _, _, _, _, e, r => by cases e; cases r; exact ⟨.int _ _, rfl⟩
  | .str _, _, _, _, e, r => by cases e; cases r; exact ⟨.text _ _, rfl⟩
  | .bool _, _, _, _, e, _ => by cases e
  | .list _, _, _, _, e, _ => by cases e
  | .dict _, _, _, _, e, _ => by cases e
  | .tuple ds, _, _, _, e, r => by
    rw [keyN] at e
    cases q : keysN ds with
    | none => rw [q] at e; cases e
    | some ks =>
      rw [q] at e
      cases e
      cases r with
      | tuple h1 h2 h3 h4 =>
        obtain ⟨a, b⟩ := reads_keys ds ks _ _ q h4
        exact ⟨.tup h1 h2 h3 a, b⟩
theorem reads_keys {h : Heap} : ∀ (ds : List D) (ks : List NestedKey) (vs : List Value) (as : List Addr), keysN ds = some ks → ReadsAll h vs ds as → NestedAll h ks vs ∧ as = []
  | [], _, _, _, e, r => by cases e; cases r; exact ⟨.nil, rfl⟩
  | d :: ds, _, _, _, e, r => by
    obtain ⟨k, q, e1, e2, rfl⟩ := keysN_cons e
    cases r with
    | cons r1 r2 =>
      obtain ⟨a1, b1⟩ := reads_key d k _ _ e1 r1
      obtain ⟨a2, b2⟩ := reads_keys ds q _ _ e2 r2
      subst b1 b2
      exact ⟨.cons a1 a2, rfl⟩
end
/-! ### each once -/
def dd : List NestedKey → List NestedKey
  | [] => []
  | k :: r => if k ∈ r then dd r else k :: dd r
theorem mem_dd {x : NestedKey} : ∀ {l : List NestedKey}, x ∈ dd l ↔ x ∈ l
  | [] => Iff.rfl
  | k :: r => by
    unfold dd
    by_cases h : k ∈ r
    · rw [if_pos h, mem_dd, List.mem_cons]
      exact ⟨.inr, fun z => z.elim (fun z => z ▸ h) id⟩
    · rw [if_neg h, List.mem_cons, List.mem_cons, mem_dd]
theorem dd_nodup : ∀ l : List NestedKey, (dd l).Nodup
  | [] => List.nodup_nil
  | k :: r => by
    unfold dd
    by_cases h : k ∈ r
    · rw [if_pos h]
      exact dd_nodup r
    · rw [if_neg h]
      exact List.nodup_cons.mpr ⟨fun z => h (mem_dd.mp z), dd_nodup r⟩
theorem few_of {α : Type} : ∀ {l m : List α}, l.Nodup → (∀ x ∈ l, x ∈ m) → l.length ≤ m.length
  | [], _, _, _ => Nat.zero_le _
  | x :: l, m, n, h => by
    obtain ⟨n1, n2⟩ := List.nodup_cons.mp n
    obtain ⟨a, b, e⟩ := List.append_of_mem (h x List.mem_cons_self)
    subst e
    have ih := few_of (m := a ++ b) n2 fun y hy => by
      have hne : y ≠ x := fun z => n1 (z ▸ hy)
      have q := h y (List.mem_cons_of_mem _ hy)
      rw [List.mem_append, List.mem_cons] at q
      rw [List.mem_append]
      exact q.elim .inl fun q => q.elim (fun z => absurd z hne) .inr
    simp only [List.length_append, List.length_cons] at ih ⊢
    omega
/-! ### the order tells them apart -/
mutual
theorem eqv_key : ∀ a b : NestedKey, PyData.eqv a.data b.data = true → a = b
  | .none, b, h => by cases b <;> first | rfl | (exact absurd h (by simp [NestedKey.data, PyData.eqv]))
  | .num i, b, h => by
    cases b with
    | num j =>
      have h : (i == j) = true := h
      rw [eq_of_beq h]
    | _ => exact absurd h (by simp [NestedKey.data, PyData.eqv])
  | .text x, b, h => by
    cases b with
    | text y =>
      have h : (x == y) = true := h
      rw [eq_of_beq h]
    | _ => exact absurd h (by simp [NestedKey.data, PyData.eqv])
  | .tup ks, b, h => by
    cases b with
    | tup js =>
      have h : PyData.eqvAll (NestedKey.datas ks) (NestedKey.datas js) = true := h
      rw [eqv_keys ks js h]
    | _ => exact absurd h (by simp [NestedKey.data, PyData.eqv])
theorem eqv_keys : ∀ a b : List NestedKey, PyData.eqvAll (NestedKey.datas a) (NestedKey.datas b) = true → a = b
  | [], [], _ => rfl
  | [], _ :: _, h => by cases h
  | _ :: _, [], h => by cases h
  | x :: a, y :: b, h => by
    have h : (PyData.eqv x.data y.data && PyData.eqvAll (NestedKey.datas a) (NestedKey.datas b)) = true := h
    rw [Bool.and_eq_true] at h
    rw [eqv_key x y h.1, eqv_keys a b h.2]
end
theorem toks_inj {a b : NestedKey} (h : PySem.W.alike a.data b.data = true) (e : PySem.W.keyToks a.data = PySem.W.keyToks b.data) : a = b := by
  refine eqv_key a b ?_
  cases q : PyData.eqv a.data b.data with
  | true => rfl
  | false =>
    exfalso
    have g := (PySem.W.toks_eqv a.data b.data h).2 q [] [Sum.inl 0]
    rw [e, PySem.W.lex_pre, lex_irrefl] at g
    exact absurd g (by decide)
abbrev leK : NestedKey → NestedKey → Bool := PySem.W.dataLe false NestedKey.data
theorem leK_total : PySem.W.TotalLe leK := PySem.W.sortLe_total _ false _
theorem leK_anti {a b : NestedKey} (h : PySem.W.alike a.data b.data = true) (h1 : leK a b = true) (h2 : leK b a = true) : a = b := by
  refine toks_inj h (PyProof.Rows.lex_total (O := itemOrd) _ _ ?_ ?_)
  · have : (!PyProof.Rows.lexLt itemOrd (PySem.W.keyToks a.data) (PySem.W.keyToks b.data)) = true := h2
    simpa using this
  · have : (!PyProof.Rows.lexLt itemOrd (PySem.W.keyToks b.data) (PySem.W.keyToks a.data)) = true := h1
    simpa using this
/-- two rising lists of the same members -/
theorem rise_one : ∀ {l m : List NestedKey}, l.Pairwise (fun a b => leK a b = true) → m.Pairwise (fun a b => leK a b = true) → (∀ a ∈ l, ∀ b ∈ l, PySem.W.alike a.data b.data = true) → l.Perm m → l = m := by
  intro l m h1 h2 ha hp
  exact hp.eq_of_pairwise (le := fun a b => leK a b = true) (fun a b hx hy q1 q2 => leK_anti (ha a hx b (hp.mem_iff.mpr hy)) q1 q2) h1 h2
def sortedK (ks : List NestedKey) : List NestedKey := (dd ks).mergeSort leK
theorem mem_sortedK {ks : List NestedKey} {k : NestedKey} : k ∈ sortedK ks ↔ k ∈ ks := (List.mergeSort_perm _ _).mem_iff.trans mem_dd
theorem sortedK_nodup (ks : List NestedKey) : (sortedK ks).Nodup := (List.mergeSort_perm _ _).nodup_iff.mpr (dd_nodup ks)
theorem sortedK_rises (ks : List NestedKey) : (sortedK ks).Pairwise (fun a b => leK a b = true) := PySem.W.sort_pairwise leK_total _
def tupK : NestedKey → Bool
  | .tup _ => true
  | _ => false
def neK : NestedKey → Bool
  | .tup (_ :: _) => true
  | _ => false
def okK (ks : List NestedKey) : Bool := ks.all (fun k => tupK k && decide (k.depth ≤ 8) && low k.data) && decide ((dd ks).length ≤ 4000) && (decide ((dd ks).length ≤ 1) || (ks.all (fun a => ks.all fun b => PySem.W.alike a.data b.data) && ks.all neK))
def setND (ds : List D) : Res D := match keysN ds with
  | some ks => if okK ks then .ok (.list ((sortedK ks).map NestedKey.data)) else .bad
  | none => .bad
/-- sorted(set(xs)): ints, or tuples -/
def sortSetA : D → Res D := fun d => match d with
  | .list ds => (match intsOf ds with
    | some _ => sortSetD (.list ds)
    | none => setND ds)
  | d => sortSetD d
section
variable {X : Cx} {F : FR} {own : List Nat}
theorem CallR.or' {f : Value} {r q : List V → Hp → VK → Prop} (h : CallR X f r) (k : CallR X f q) : CallR X f fun xs H Q => r xs H Q ∨ q xs H Q := fun pins s σ H xs us Q I rv z => z.elim (h pins s σ H xs us Q I rv) (k pins s σ H xs us Q I rv)
/-! ### the set as an object -/
structure SetN0 (w : World) (h : Heap) (a : Addr) (L : List DLT.Row) : Prop where
  ex : ∃ (es : Array (Int × Value)) (ep : Nat) (t : SetTable), (∃ o, h.get? a = some o ∧ o.ExactSet ∧ o.data = .set es ep t) ∧ es.toList = L.map (rowV w) ∧ Tab t (L.map fun p => p.2.hash w) ∧ (L.map (·.2)).Nodup ∧ (w.params.followText "set-order" = true ∨ t.led = true) ∧ L.length * 5 < t.mask * 3 ∧ L.length ≤ 4000
def SetNO (w : World) (a : Addr) (L : List DLT.Row) : HO := .ext fun h => SetN0 w h a L
theorem SetN0.of {w : World} {h : Heap} {a : Addr} {L : List DLT.Row} {es : Array (Int × Value)} {ep : Nat} {t : SetTable} (R : SetN w h a L es ep t) : SetN0 w h a L := ⟨es, ep, t, R.ob, R.rows, R.tab, R.nd, R.led, R.room, R.few⟩
theorem setNO_new {P : Program} {w : World} {H : Hp} {h : Heap} {a : Addr} {L : List DLT.Row} (R : SetN0 w h a L) : ObjOk P w H h a (SetNO w a L) := by
  have ⟨es, ep, t, ⟨o, ho, r⟩, q⟩ := R.ex
  refine ⟨R, ⟨o, ho⟩, fun h1 h2 p k => ?_⟩
  have ⟨es', ep', t', ⟨o', ho', r'⟩, q'⟩ := SetN0.ex p
  exact ⟨es', ep', t', ⟨o', k o' ho', r'⟩, q'⟩
theorem row_refs : ∀ {ks : List DLT.Row} {us : List Value}, Vals (ks.map fun p => V.ref p.1) us → us = ks.map fun p => Value.ref p.1
  | [], _, .nil => rfl
  | p :: ks, _, .cons r t => by
    cases r
    rw [row_refs t]
    rfl
theorem refs_row : ∀ (ks : List DLT.Row), Vals (ks.map fun p => V.ref p.1) (ks.map fun p => Value.ref p.1)
  | [] => .nil
  | p :: ks => .cons rfl (refs_row ks)
def RowOk (K : PySem.W.Frag) (H : Hp) (p : DLT.Row) : Prop := Dp K H (.ref p.1) p.2.data ∧ p.2.depth ≤ 8 ∧ p.2.data.depth ≤ 60
theorem RowOk.reads {pins : List (Addr × Obj)} {σ : L2.St} {H : Hp} {s : Shared} {p : DLT.Row} (I : Inv X pins σ H s) (h : RowOk X.K H p) : Reads s.heap (.ref p.1) p.2.data [] ∧ IsN s.heap p.2 p.1 := by
  obtain ⟨as, r⟩ := Dp.reads I _ (.ref p.1) (.ref p.1) h.1 rfl
  obtain ⟨a, b⟩ := reads_key _ _ _ _ (key_of_data p.2) r
  subst b
  exact ⟨r, a, h.2.1⟩
def rSetN (K : PySem.W.Frag) (w : World) : List V → Hp → VK → Prop := fun vs H Q => ∃ (l : Addr) (ks : List DLT.Row), vs = [V.ref l] ∧ SqL K H l (ks.map fun p => V.ref p.1) ∧ (∀ p ∈ ks, RowOk K H p) ∧ (∀ L : List DLT.Row, (L.map (·.2)).Nodup → (∀ p ∈ L, p ∈ ks) → L.length ≤ 4000) ∧
  ∀ a (L : List DLT.Row), H a = none → (∀ p ∈ L, p ∈ ks) → (∀ p ∈ ks, p.2 ∈ L.map (·.2)) → (L.map (·.2)).Nodup → Q (.ref a) (upd H a (SetNO w a L))
theorem cr_setN (hc : X.calm = true) (hu : X.A.units + 64 < cLine) : CallR X (.type "set") (rSetN X.K X.w) := by
  intro pins s σ H vs us Q I r h
  obtain ⟨l, ks, rfl, hs, hk, few, q⟩ := h
  rw [Vals.ref1 r]
  obtain ⟨its, rv, pl, hz⟩ := I.list hs
  have hn : H s.heap.objs.size = none := I.hok.fresh (Nat.le_refl _)
  exact set_keys (P := X.prog) (w := X.w) ks (I.ok.hd hc) (.inl pl.isList) (by simpa using row_refs rv) (fun p hp => (RowOk.reads I (hk p hp)).2) few (by omega) fun h' tk L es ep t R sub all old =>
    ⟨.ref s.heap.objs.size, upd H s.heap.objs.size (SetNO X.w s.heap.objs.size L), I.laid (t' := tk) old (Nat.le_refl _) (setNO_new (.of R)), rfl, q _ L hn sub all R.nd⟩
def rSortN (K : PySem.W.Frag) (w : World) : List V → Hp → VK → Prop := fun vs H Q => ∃ (a : Addr) (L : List DLT.Row), vs = [V.ref a] ∧ H a = some (SetNO w a L) ∧ (∀ p ∈ L, RowOk K H p) ∧ (L.length ≤ 1 ∨ PySem.W.AllAlike (L.map fun p => p.2.data) ∧ PySem.W.Sortable (L.map fun p => p.2.data)) ∧
  ∀ (L1 L2 : List DLT.Row) (q : Addr), L1.Perm L → L2 = L1.mergeSort leN → H q = none → Q (.ref q) (upd H q (.lst (L2.map fun p => V.ref p.1)))
theorem cr_sortN (hc : X.calm = true) (hu : X.A.units + 66 < cLine) : CallR X (.builtin "sorted") (rSortN X.K X.w) := by
  intro pins s σ H vs us Q I r h
  obtain ⟨a, L, rfl, ha, hk, guard, q⟩ := h
  have R0 : SetN0 X.w s.heap a L := (I.hok a _ ha).1
  obtain ⟨es, ep, t, h1, h2, h3, h4, h5, h6, h7⟩ := R0.ex
  rw [Vals.ref1 r]
  refine sorted_keys (P := X.prog) (w := X.w) ⟨h1, h2, h3, h4, fun p hp => (RowOk.reads I (hk p hp)).2, h5, h6, h7⟩ (I.ok.hd hc) hu (fun p hp => (RowOk.reads I (hk p hp)).1) (fun p hp => (hk p hp).2.2) guard fun s' p out c L1 L2 old g o hp hg hout pm e2 => ?_
  have hn : H p = none := I.hok.fresh hp
  have hl : (L2.map fun q => V.ref q.1).length ≤ sizeLine := by rw [List.length_map, e2, List.length_mergeSort, pm.length_eq, sizeLine_eq]; omega
  have J : Inv X pins σ (upd H p (.lst (L2.map fun q => V.ref q.1))) { s with heap := s'.heap, gens := s'.gens, drawn := s'.drawn, toks := s'.toks } :=
    I.call (ch := []) (Un.laid old hp hn) (I.hok.laid old hp ⟨hl, out.toList, c, by rw [hout]; exact refs_row L2, hg⟩) (by rw [g]; exact I.bare) (fun _ z => nomatch z)
  have e : s' = { s with heap := s'.heap, gens := s'.gens, drawn := s'.drawn, toks := s'.toks } := by
    cases s'
    cases s
    cases o
    rfl
  rw [e]
  exact ⟨.ref p, _, J, rfl, q L1 L2 p pm e2 hn⟩
theorem rows_of {K : PySem.W.Frag} {B : Hp} : ∀ {ds : List D} {ks : List NestedKey} {vs : List V}, keysN ds = some ks → ks.all tupK = true → Reps K B vs ds → ∃ L : List DLT.Row, vs = (L.map fun p => V.ref p.1) ∧ L.map (·.2) = ks ∧ ∀ p ∈ L, Rep K B (.ref p.1) p.2.data
  | [], ks, _, e, _, r => by
    cases e
    cases r
    exact ⟨[], rfl, rfl, fun p hp => (by cases hp)⟩
  | d :: ds, _, _, e, ht, r => by
    obtain ⟨k, q, e1, e2, rfl⟩ := keysN_cons e
    rw [List.all_cons, Bool.and_eq_true] at ht
    cases r with
    | @cons v vs _ _ r1 r2 =>
      obtain ⟨L, l1, l2, l3⟩ := rows_of e2 ht.2 r2
      have ed := keyN_data d k e1
      cases k with
      | tup js =>
        subst ed
        cases r1 with
        | @tup a xs _ h1 h2 =>
          refine ⟨(a, .tup js) :: L, by rw [List.map_cons, ← l1], by rw [List.map_cons, l2], fun p hp => ?_⟩
          rcases List.mem_cons.mp hp with rfl | hp
          · exact .tup h1 h2
          · exact l3 p hp
      | _ => exact absurd ht.1 Bool.false_ne_true
theorem okK_of {ks : List NestedKey} (h : okK ks = true) : (∀ k ∈ ks, tupK k = true ∧ k.depth ≤ 8 ∧ k.data.depth ≤ 60) ∧ (dd ks).length ≤ 4000 ∧ ((dd ks).length ≤ 1 ∨ (∀ a ∈ ks, ∀ b ∈ ks, PySem.W.alike a.data b.data = true) ∧ ∀ k ∈ ks, neK k = true) := by
  unfold okK at h
  simp only [Bool.and_eq_true, Bool.or_eq_true, List.all_eq_true, decide_eq_true_eq] at h
  exact ⟨fun k hk => ⟨(h.1.1 k hk).1.1, (h.1.1 k hk).1.2, of_decide_eq_true (h.1.1 k hk).2⟩, h.1.2, h.2⟩
mutual
theorem plain_key : ∀ k : NestedKey, k.data.plain = true
  | .none => rfl
  | .num _ => rfl
  | .text _ => rfl
  | .tup ks => plain_keys ks
theorem plain_keys : ∀ ks : List NestedKey, PyData.plainAll (NestedKey.datas ks) = true
  | [] => rfl
  | k :: ks => by
    show (k.data.plain && PyData.plainAll (NestedKey.datas ks)) = true
    rw [plain_key k, plain_keys ks]
    rfl
end
theorem neK_tuple {k : NestedKey} (h : neK k = true) : ∃ x r, k.data = .tuple (x :: r) := by
  match k, h with
  | .tup (j :: js), _ => exact ⟨j.data, NestedKey.datas js, rfl⟩
theorem setN_step {Γ : DEnv} {σ : L2.St} {H B : Hp} {v : V} {ds : List D} {Q : VK} (s : SR X.K F own B Γ σ H) (r : Bor X.K F B H v (.list ds)) (p : Post X.K F own (RV X.K F own Γ σ .fresh) (setND ds) Γ σ H B Q) : rSetN X.K X.w [v] H fun q H2 => rSortN X.K X.w [q] H2 Q := by
  unfold setND at p
  cases e : keysN ds with
  | none => rw [e] at p; exact p.elim
  | some ks =>
    rw [e] at p
    have p : Post X.K F own (RV X.K F own Γ σ .fresh) (if okK ks then .ok (.list ((sortedK ks).map NestedKey.data)) else .bad) Γ σ H B Q := p
    by_cases h : okK ks = true
    · rw [if_pos h] at p
      obtain ⟨h1, h2, h3⟩ := okK_of h
      obtain ⟨a, xs, rfl, hx, rr⟩ := r.list s.sub
      obtain ⟨rows, q1, q2, q3⟩ := rows_of e (List.all_eq_true.mpr fun k hk => (h1 k hk).1) rr
      subst q1
      have mem : ∀ p ∈ rows, p.2 ∈ ks := fun p hp => q2 ▸ List.mem_map.mpr ⟨p, hp, rfl⟩
      have ok : ∀ p ∈ rows, RowOk X.K H p := fun p hp => ⟨Rep.dp s.sub _ _ (plain_key _) (q3 p hp), (h1 _ (mem p hp)).2⟩
      refine ⟨a, rows, rfl, hx, ok, fun L n sub => ?_, fun b L hb sub all nd => ?_⟩
      · have := few_of n fun k hk => by
          obtain ⟨p, hp, rfl⟩ := List.mem_map.mp hk
          exact mem_dd.mpr (mem p (sub p hp))
        rw [List.length_map] at this
        omega
      · have pd : (L.map (·.2)).Perm (dd ks) := (List.perm_ext_iff_of_nodup nd (dd_nodup ks)).mpr fun k => by
          rw [mem_dd, ← q2]
          exact ⟨fun z => by
            obtain ⟨p, hp, rfl⟩ := List.mem_map.mp z
            exact List.mem_map.mpr ⟨p, sub p hp, rfl⟩, fun z => by
            obtain ⟨p, hp, rfl⟩ := List.mem_map.mp z
            exact all p hp⟩
        have sm : Same H (upd H b (SetNO X.w b L)) := same_upd hb
        have s2 : SR X.K F own B Γ σ (upd H b (SetNO X.w b L)) := s.grown hb
        refine ⟨b, L, rfl, upd_same, fun p hp => ⟨Rep.dp s2.sub _ _ (plain_key _) (q3 p (sub p hp)), (h1 _ (mem p (sub p hp))).2⟩, ?_, fun L1 L2 q pm e2 hq => ?_⟩
        · rcases h3 with h3 | ⟨h3, h4⟩
          · exact .inl (by have := pd.length_eq; rw [List.length_map] at this; omega)
          · refine .inr ⟨fun d hd d' hd' => ?_, .inl fun d hd => ?_⟩
            · obtain ⟨p, hp, rfl⟩ := List.mem_map.mp hd
              obtain ⟨p', hp', rfl⟩ := List.mem_map.mp hd'
              exact h3 _ (mem p (sub p hp)) _ (mem p' (sub p' hp'))
            · obtain ⟨p, hp, rfl⟩ := List.mem_map.mp hd
              exact neK_tuple (h4 _ (mem p (sub p hp)))
        · have em : L2.map (·.2) = sortedK ks := by
            subst e2
            have q := PySem.W.sort_maps (r := leN) (s := leK) (fun p : DLT.Row => p.2) (l := L1) fun a _ b _ => rfl
            rw [q]
            have pm2 : (L1.map (·.2)).Perm (dd ks) := (pm.map (·.2)).trans pd
            rcases h3 with h3 | ⟨h3, h4⟩
            · unfold sortedK
              have e1 : L1.map (·.2) = dd ks := by
                match hh : dd ks, h3, pm2 with
                | [], _, z => exact List.perm_nil.mp z
                | [k], _, z => exact List.perm_singleton.mp z
              rw [e1]
            · refine rise_one (PySem.W.sort_pairwise leK_total _) (sortedK_rises ks) (fun x hx y hy => h3 x (mem_dd.mp (pm2.mem_iff.mp ((List.mergeSort_perm _ _).mem_iff.mp hx))) y (mem_dd.mp (pm2.mem_iff.mp ((List.mergeSort_perm _ _).mem_iff.mp hy)))) ?_
              exact ((List.mergeSort_perm _ _).trans pm2).trans (List.mergeSort_perm _ _).symm
          have sub2 : ∀ p ∈ L2, p ∈ rows := fun p hp => by
            subst e2
            exact sub p (pm.mem_iff.mp ((List.mergeSort_perm _ _).mem_iff.mp hp))
          have rr2 : Reps X.K B (L2.map fun p => V.ref p.1) ((sortedK ks).map NestedKey.data) := by
            rw [← em]
            clear em e2
            induction L2 with
            | nil => exact .nil
            | cons p L2 ih => exact .cons (q3 p (sub2 p List.mem_cons_self)) (ih fun r hr => sub2 r (List.mem_cons_of_mem _ hr))
          exact Post.newObj (Post.mono early_RV p (grow_new hb)) s2 (show ORep X.K B _ (.lst _) (.list _) from rr2) hq
    · rw [if_neg h] at p
      exact p.elim
/-- the ints -/
theorem setI_step {Γ : DEnv} {σ : L2.St} {H B : Hp} {v : V} {d : D} {Q : VK} (s : SR X.K F own B Γ σ H) (r : Bor X.K F B H v d) (p : Post X.K F own (RV X.K F own Γ σ .fresh) (sortSetD d) Γ σ H B Q) : rSetI X.K X.w [v] H fun q H2 => rSortedSet X.w [q] H2 Q := by
  have core : ∀ (l : Addr) (ns : List Int), v = .ref l → (SqL X.K H l (ns.map V.int) ∨ SqT X.K H l (ns.map V.int)) → ns.length < 64 → Post X.K F own (RV X.K F own Γ σ .fresh) (.ok (.list ((sortU ns).map .int))) Γ σ H B Q → rSetI X.K X.w [v] H fun p H2 => rSortedSet X.w [p] H2 Q := by
    intro l ns ev hs h64 p1
    subst ev
    refine ⟨l, ns, rfl, hs, by unfold scanBound; omega, fun p c hp hle => ⟨p, _, c, rfl, upd_same, by omega, fun ns' q h1 h2 h3 hq => ?_⟩⟩
    have e : ns' = sortU ns := sortU_eq h1 fun k => (h2 k).trans decide_eq_true_iff
    subst e
    exact Post.newObj (Post.mono early_RV p1 (grow_new hp)) (s.grown hp) (show ORep X.K B _ (.lst _) (.list _) from Reps.ints _) hq
  have seq : ∀ (ds : List D) (l : Addr) (xs : List V), v = .ref l → (SqL X.K H l xs ∨ SqT X.K H l xs) → Reps X.K B xs ds → Post X.K F own (RV X.K F own Γ σ .fresh) (match intsOf ds with | some ns => if ns.length < 64 then .ok (.list ((sortU ns).map .int)) else .bad | none => .bad) Γ σ H B Q → rSetI X.K X.w [v] H fun p H2 => rSortedSet X.w [p] H2 Q := by
    intro ds l xs ev hs rr p1
    cases e : intsOf ds with
    | none => rw [e] at p1; exact p1.elim
    | some ns =>
      rw [e] at p1
      have p1 : Post X.K F own (RV X.K F own Γ σ .fresh) (if ns.length < 64 then .ok (.list ((sortU ns).map .int)) else .bad) Γ σ H B Q := p1
      by_cases h : ns.length < 64
      · rw [if_pos h] at p1
        rw [intsOf_eq e] at rr
        have ex := reps_ints rr
        subst ex
        exact core l ns ev hs h p1
      · rw [if_neg h] at p1
        exact p1.elim
  cases d with
  | list ds =>
    obtain ⟨a, xs, e, h, rr⟩ := r.list s.sub
    exact seq ds a xs e (.inl h) rr p
  | tuple ds =>
    obtain ⟨a, xs, e, h, _, rr⟩ := r.tuple s.sub
    exact seq ds a xs e (.inr h) rr p
  | _ => exact p.elim
theorem de_sortSetA {e : Expr} {t : DEnv → Res D} {p p2 pos pos2 : Pos} (hc : X.calm = true) (hu : X.A.units + 66 < cLine) (h : DE X F own .bor e t) (hm : X.mg "sorted" = none) (hm2 : X.mg "set" = none) (hg : Gl X "sorted" := by rfl) (hg2 : Gl X "set" := by rfl) (hs : starEach [e] X.env = (false, eval e X.env) :: starEach [] X.env := by rfl)
    (hs2 : starEach [.Call (.Name "set" p2) [e] [] pos2] X.env = (false, eval (.Call (.Name "set" p2) [e] [] pos2) X.env) :: starEach [] X.env := by rfl) :
    DE X F own .fresh (.Call (.Name "sorted" p) [.Call (.Name "set" p2) [e] [] pos2] [] pos) (x1 sortSetA t) :=
  PE.mono (pe_callB (CallR.or' (cr_sortedSet hc) (cr_sortN hc hu)) hg hm (by decide +kernel) (pa_cons (pe_callTy (CallR.or' (cr_setI hc) (cr_setN hc (by omega))) hg2 hm2 (by decide +kernel) (pa_cons h pa_nil hs) (he := hs)) pa_nil hs2) (he := hs2)) fun σ H Q ⟨B, Γ, s, pp⟩ => by
    unfold tCB tCons tNil
    refine tD_first early_RV s pp fun d v H1 B1 s1 g1 r1 p1 => ?_
    have r1 : Bor X.K F B1 H1 v d := r1
    have fromI : Post X.K F own (RV X.K F own Γ σ .fresh) (sortSetD d) Γ σ H1 B1 Q → (rSetI X.K X.w [v] H1 fun q H2 => rSortedSet X.w [q] H2 Q ∨ rSortN X.K X.w [q] H2 Q) := fun p1 => by
      obtain ⟨l, ns, a1, a2, a3, a4⟩ := setI_step s1 r1 p1
      exact ⟨l, ns, a1, a2, a3, fun p c h1 h2 => .inl (a4 p c h1 h2)⟩
    have p1 : Post X.K F own (RV X.K F own Γ σ .fresh) (sortSetA d) Γ σ H1 B1 Q := p1
    unfold sortSetA at p1
    cases d with
    | list ds =>
      have p1 : Post X.K F own (RV X.K F own Γ σ .fresh) (match intsOf ds with | some _ => sortSetD (.list ds) | none => setND ds) Γ σ H1 B1 Q := p1
      cases e : intsOf ds with
      | some ns => rw [e] at p1; exact .inl (fromI p1)
      | none =>
        rw [e] at p1
        obtain ⟨l, ks, a1, a2, a3, a4, a5⟩ := setN_step s1 r1 p1
        exact .inr ⟨l, ks, a1, a2, a3, a4, fun p L h1 h2 h3 h4 => .inr (a5 p L h1 h2 h3 h4)⟩
    | _ => exact .inl (fromI p1)
end
end DL

/-! DL: zip of a tuple with a list. -/
namespace DL
open PySem PySem.Spec PyProof.Rows L2
variable [TabCx] [WCx]
/-- a tuple at a, a list at b -/
def ItzM (K : PySem.W.Frag) (a b : Addr) : It :=
  ⟨fun i H => ∃ (xs ys : List V) (x y : V), (SqT K H a xs ∧ SqL K H b ys) ∧ xs[i]? = some x ∧ ys[i]? = some y,
    fun i H v H' => ∃ T x y, v = .ref T ∧ H T = none ∧ H' = upd H T (.tup [x, y]) ∧ (∀ zs, SqT K H a zs → zs[i]? = some x) ∧ ∀ zs, SqL K H b zs → zs[i]? = some y,
    fun i H => ∃ xs ys : List V, (SqT K H a xs ∧ SqL K H b ys) ∧ (xs.length ≤ i ∨ ys.length ≤ i)⟩
theorem sep_of {a b z TI TO i1 i2 : Addr} (D : ZipApart z TI TO i1 i2 a b) : ZipSep2 z TI TO i1 i2 [i1, a] [i2, b] := by
  obtain ⟨c1, c2, c3, c4, c5, c6, c7, c8, c9, c10, c11, c12, c13, c14, c15, c16, c17, c18⟩ := D
  refine ⟨c1, c2, c5, c6, by simp, ?_, ?_, c7, by simp, ?_, ?_, ?_, ?_⟩
  · simp; exact ⟨fun z => c3 z.symm, fun z => c11 z.symm⟩
  · simp; exact ⟨c8, fun z => c12 z.symm⟩
  · simp; exact ⟨fun z => c4 z.symm, fun z => c15 z.symm⟩
  · simp; exact ⟨c9, fun z => c16 z.symm⟩
  · simp; exact ⟨c10, fun z => c17 z.symm⟩
  · simp; exact ⟨fun z => c10 z.symm, fun z => c14 z.symm⟩
def zSt (a b z TI TO i1 i2 : Addr) (i : Nat) (h : Heap) : Prop := IsZip h z TI TO .none ∧ IsTupOf2 h TI (.ref i1) (.ref i2) ∧ (∃ x y, IsTupOf2 h TO x y) ∧ h.IsTupleIter i1 a i ∧ h.IsListIter i2 b i
theorem zSt_lt {a b z TI TO i1 i2 : Addr} {i : Nat} {h : Heap} (st : zSt a b z TI TO i1 i2 i h) : ∀ c ∈ [z, TI, TO, i1, i2], ∃ o, h.get? c = some o ∧ ∀ v, o.data ≠ .cell v := fun c hc => by
  obtain ⟨q1, q2, ⟨x, y, q3⟩, ⟨o1, e1, _, d1⟩, ⟨o2, e2, _, d2⟩⟩ := st
  simp at hc
  rcases hc with e | e | e | e | e <;> subst e
  · exact ⟨_, q1, fun v q => nomatch q⟩
  · exact ⟨_, q2, fun v q => nomatch q⟩
  · exact ⟨_, q3, fun v q => nomatch q⟩
  · exact ⟨o1, e1, fun v q => by rw [d1] at q; cases q⟩
  · exact ⟨o2, e2, fun v q => by rw [d2] at q; cases q⟩
theorem endT {prog : Program} {w : World} {A : Around} (hh : A.handled = none) (it t : Addr) {items : Array Value} {i : Nat} (h : items[i]? = none) :
    Draws prog w A it [it, t] i (fun _ _ => True) (fun j h => j = i ∧ h.IsTupleIter it t i ∧ h.IsTuple t items) where
  live := fun _ _ ⟨_, st, _⟩ => let ⟨o, ho, _⟩ := st; ⟨o, ho⟩
  frame := fun _ _ _ ⟨e, s1, s2⟩ k => ⟨e, s1.at fun o q => k it (by simp) o q, s2.at fun o q => k t (by simp) o q⟩
  item := fun j _ _ _ hj st _ => absurd st.1 (by omega)
  done := fun s Q E st q => wpAny_nextOf_tuple_end hh st.2.1 st.2.2 h q
theorem endL {prog : Program} {w : World} {A : Around} (hh : A.handled = none) (it t : Addr) {items : Array Value} {i : Nat} (h : items[i]? = none) :
    Draws prog w A it [it, t] i (fun _ _ => True) (fun j h => j = i ∧ h.IsListIter it t i ∧ h.IsList t items) where
  live := fun _ _ ⟨_, st, _⟩ => let ⟨o, ho, _⟩ := st; ⟨o, ho⟩
  frame := fun _ _ _ ⟨e, s1, s2⟩ k => ⟨e, s1.at fun o q => k it (by simp) o q, s2.at fun o q => k t (by simp) o q⟩
  item := fun j _ _ _ hj st _ => absurd st.1 (by omega)
  done := fun s Q E st q => wpAny_nextOf_list_end hh st.2.1 st.2.2 h q
theorem turn_zipM {P : Program} {w : World} {K : PySem.W.Frag} {elts : List Expr} {kk : Nat} {tpos : Pos} {a b z TI TO i1 i2 : Addr} (D : ZipApart z TI TO i1 i2 a b) :
    Turn P w K (.Tuple elts kk tpos) (ItzM K a b) [z, TI, TO, i1, i2] z (zSt a b z TI TO i1 i2) where
  mem := List.mem_cons_self
  obj := fun i h st => zSt_lt st
  keep := fun i h h' ⟨q1, q2, ⟨x, y, q3⟩, q4, q5⟩ k => ⟨k z (by simp) _ q1, k TI (by simp) _ q2, ⟨x, y, k TO (by simp) _ q3⟩, q4.at fun o e => k i1 (by simp) o e, q5.at fun o e => k i2 (by simp) o e⟩
  item := by
    intro X eP ew eK hc i pins s σ H E I hf st go
    subst eP ew eK
    have old : ∀ c ∈ [z, TI, TO, i1, i2], c < s.heap.objs.size := fun c m => by
      obtain ⟨o, e, _⟩ := zSt_lt st c m
      exact Heap.lt_size e
    obtain ⟨q1, q2, ⟨x0, y0, q3⟩, q4, q5⟩ := st
    obtain ⟨xs, ys, x, y, ⟨sx, sy⟩, hx, hy⟩ := go
    obtain ⟨us, ru, pu, _⟩ := I.tuple sx
    obtain ⟨vs, rv, pv, _⟩ := I.list sy
    obtain ⟨u, eu, r1⟩ := ru.get hx
    obtain ⟨v, ev, r2⟩ := rv.get hy
    have hh : X.A.in1.handled = none := I.ok.hd hc
    have D1 := Draws.tuple (prog := X.prog) (w := X.w) (A := X.A.in1) hh i1 a D.l1i1 us.toArray
    have D2 := Draws.list (prog := X.prog) (w := X.w) (A := X.A.in1) hh i2 b D.l2i2 vs.toArray
    have zl := old z (by simp)
    refine wpAny_pyNext_zipD2_item (sep_of D) D1 D2 q1 q2 q3 ⟨q4, pu⟩ ⟨q5, pv.isList⟩ (by simpa using (List.getElem?_eq_some_iff.mp eu).1) (by simpa using (List.getElem?_eq_some_iff.mp ev).1) fun x1 x2 h1 tk p1 p2 z1 t1 d1 d2 n1 _ k1 => ?_
    have p1 : us.toArray[i]? = some x1 := p1
    have p2 : vs.toArray[i]? = some x2 := p2
    have e1 : u = x1 := by
      have : us[i]? = some x1 := by simpa using p1
      rw [eu] at this
      exact Option.some.inj this
    have e2 : v = x2 := by
      have : vs[i]? = some x2 := by simpa using p2
      rw [ev] at this
      exact Option.some.inj this
    subst e1 e2
    refine ⟨_, rfl, wpAny_letOwnedTupleGo_zip (s := { s with heap := h1, toks := tk }) z1 fun h2 z2 sb => ?_⟩
    have gT : h2.get? s.heap.objs.size = some { cls := .type "tuple", data := .seq #[u, v] } := (sb.2 _ (Nat.ne_of_gt zl)).trans n1
    have made : ObjOk X.prog X.w (upd H s.heap.objs.size (.tup [x, y])) h2 s.heap.objs.size (.tup [x, y]) := ⟨by show 2 ≤ sizeLine; decide, [u, v], .cons r1 (.cons r2 .nil), ⟨_, gT, rfl, _, rfl⟩⟩
    have kept : ∀ c o, c ∉ [z, TI, TO, i1, i2] → s.heap.get? c = some o → h2.get? c = some o := fun c o hb q => by
      simp at hb
      exact (sb.2 c hb.1).trans (k1 c o hb.1 hb.2.2.1 hb.2.2.2.1 hb.2.2.2.2 q)
    have J : Inv X pins σ (upd H s.heap.objs.size (.tup [x, y])) { s with heap := h2, toks := tk } := I.turnedNew (t' := tk) (ch := [z, TI, TO, i1, i2]) kept hf (Nat.le_refl _) made
    refine ⟨.ref s.heap.objs.size, _, J, rfl, ⟨_, x, y, rfl, I.hok.fresh (Nat.le_refl _), rfl, fun l hl => by rw [I.tuple_inj hl sx]; exact hx, fun l hl => by rw [I.list_inj hl sy]; exact hy⟩, ⟨z2, ?_, ⟨u, v, ?_⟩, ?_, ?_⟩, fun c hcm => ?_⟩
    · exact (sb.2 _ D.TIz).trans (k1 _ _ D.TIz D.TITO D.TIi1 D.TIi2 q2)
    · exact (sb.2 _ D.TOz).trans t1
    · exact d1.1.at fun o q => (sb.2 _ D.i1z).trans q
    · exact d2.1.at fun o q => (sb.2 _ D.i2z).trans q
    · rw [upd_ne (Nat.ne_of_lt (old c hcm))]
      exact (hf c hcm).1
  done := by
    intro X eP ew eK hc i pins s σ H E I hf st go
    subst eP ew eK
    obtain ⟨q1, q2, ⟨x0, y0, q3⟩, q4, q5⟩ := st
    obtain ⟨xs, ys, ⟨sx, sy⟩, b1⟩ := go
    obtain ⟨us, ru, pu, _⟩ := I.tuple sx
    obtain ⟨vs, rv, pv, _⟩ := I.list sy
    have l1 := ru.length
    have l2 := rv.length
    have hh : X.A.in1.handled = none := I.ok.hd hc
    have fin : ∀ (h1 : Heap) (tk : Nat), (∀ c o, c ≠ z → c ≠ TO → c ≠ i1 → c ≠ i2 → s.heap.get? c = some o → h1.get? c = some o) → Inv X pins σ H { s with heap := h1, toks := tk } := fun h1 tk k1 => I.turnedL (t' := tk) (ch := [z, TI, TO, i1, i2]) (fun c o hb q => by
      simp at hb
      exact k1 c o hb.1 hb.2.2.1 hb.2.2.2.1 hb.2.2.2.2 q) hf
    have D1 := Draws.tuple (prog := X.prog) (w := X.w) (A := X.A.in1) hh i1 a D.l1i1 us.toArray
    have D2 := Draws.list (prog := X.prog) (w := X.w) (A := X.A.in1) hh i2 b D.l2i2 vs.toArray
    by_cases g1 : us.length ≤ i
    · have F1 := endT (prog := X.prog) (w := X.w) (A := X.A.in1) hh i1 a (items := us.toArray) (i := i) (by simp; exact g1)
      by_cases g2 : vs.length ≤ i
      · have F2 := endL (prog := X.prog) (w := X.w) (A := X.A.in1) hh i2 b (items := vs.toArray) (i := i) (by simp; exact g2)
        exact wpAny_pyNext_zipD2_end (sep_of D) F1 F2 q1 q2 q3 ⟨rfl, q4, pu⟩ ⟨rfl, q5, pv.isList⟩ (Nat.le_refl i) (Nat.le_refl i) (.inl rfl) fun h1 tk k1 => ⟨rfl, fin h1 tk k1⟩
      · exact wpAny_pyNext_zipD2_end (sep_of D) F1 D2 q1 q2 q3 ⟨rfl, q4, pu⟩ ⟨q5, pv.isList⟩ (Nat.le_refl i) (by simp; omega) (.inl rfl) fun h1 tk k1 => ⟨rfl, fin h1 tk k1⟩
    · have g2 : vs.length ≤ i := by omega
      have F2 := endL (prog := X.prog) (w := X.w) (A := X.A.in1) hh i2 b (items := vs.toArray) (i := i) (by simp; exact g2)
      exact wpAny_pyNext_zipD2_end (sep_of D) D1 F2 q1 q2 q3 ⟨q4, pu⟩ ⟨rfl, q5, pv.isList⟩ (by simp; omega) (Nat.le_refl i) (.inr rfl) fun h1 tk k1 => ⟨rfl, fin h1 tk k1⟩
  self := fun A i s Q E st q => wpAny_pyIter_zip st.1 q
def iZipM (K : PySem.W.Frag) (ta : TA) : TI := fun σ H R => ta σ H fun vs H1 => ∃ a b xs ys, vs = [.ref a, .ref b] ∧ ((SqL K H1 a xs ∧ SqL K H1 b ys ∧ R (Itz K a b) H1) ∨ (SqT K H1 a xs ∧ SqT K H1 b ys ∧ R (RZ.ItzT K a b) H1) ∨ (SqT K H1 a xs ∧ SqL K H1 b ys ∧ R (ItzM K a b) H1))
theorem pi_zipM {X : Cx} {e e2 : Expr} {ta : TA} {p pos tpos : Pos} {elts : List Expr} {kk : Nat} (hg : Gl X "zip") (hm : X.mg "zip" = none) (ha : PA X [e, e2] ta)
    (hs : starEach [e, e2] X.env = (false, eval e X.env) :: starEach [e2] X.env := by rfl) (hpl : (backTo pos (starEach [e2] X.env)).any (·.1) = false := by rfl) :
    PI X (.Tuple elts kk tpos) (.Call (.Name "zip" p) [e, e2] [] pos) (iZipM X.K ta) := by
  refine ⟨fun pins s σ H R I h => Call_ (ld_blt I hg hm PyProof.Rows.boot_zip (PyProof.Rows.callWith_type1 (thn (ha.run pos pins s σ H _ I h) fun us s1 got => ?_) hs hpl))⟩
  obtain ⟨vs, H1, J, rr, a, b, xs, ys, ex, q⟩ := got
  subst ex
  have ea : us = [.ref a, .ref b] := by
    cases rr with
    | cons r r' =>
      cases r' with
      | cons r2 r' =>
        cases r'
        cases r
        cases r2
        rfl
  subst ea
  have new : ∀ c ∈ [s1.heap.objs.size + 4, s1.heap.objs.size + 2, s1.heap.objs.size + 3, s1.heap.objs.size, s1.heap.objs.size + 1], FpOk X pins H1 c := fun c m => by
    have le : s1.heap.objs.size ≤ c := by
      simp only [List.mem_cons, List.not_mem_nil, or_false] at m
      rcases m with z | z | z | z | z <;> (subst z; first | exact Nat.le_add_right _ _ | exact Nat.le_refl _)
    exact J.fpOk le (J.hok.fresh le)
  rcases q with ⟨sx, sy, q⟩ | ⟨sx, sy, q⟩ | ⟨sx, sy, q⟩
  · obtain ⟨us, _, pu, _⟩ := J.list sx
    obtain ⟨ws, _, pw, _⟩ := J.list sy
    refine call_zip_2 pu.isList pw.isList fun h' z1 z2 z3 z4 z5 _ kk => wpAny_pyIter_zip z1 ?_
    exact ⟨_, _, _, _, H1, rfl, J.kept (t' := s1.toks) kk, turn_zip (PySem.W.ktu_apart s1.heap.objs.size a b pu.lt pw.lt), ⟨z1, z2, ⟨_, _, z3⟩, z4, z5⟩, new, q⟩
  · obtain ⟨us, _, pu, _⟩ := J.tuple sx
    obtain ⟨ws, _, pw, _⟩ := J.tuple sy
    have la : a < s1.heap.objs.size := by obtain ⟨o, e, _⟩ := id pu; exact Heap.lt_size e
    have lb : b < s1.heap.objs.size := by obtain ⟨o, e, _⟩ := id pw; exact Heap.lt_size e
    refine RZ.call_zipT (show s1.heap.IsTuple a us.toArray from pu) (show s1.heap.IsTuple b ws.toArray from pw) fun h' z1 z2 z3 z4 z5 _ kk => wpAny_pyIter_zip z1 ?_
    exact ⟨_, _, _, _, H1, rfl, J.kept (t' := s1.toks) kk, RZ.turn_zipT (PySem.W.ktu_apart s1.heap.objs.size a b la lb), ⟨z1, z2, ⟨_, _, z3⟩, z4, z5⟩, new, q⟩
  · obtain ⟨us, _, pu, _⟩ := J.tuple sx
    obtain ⟨ws, _, pw, _⟩ := J.list sy
    have la : a < s1.heap.objs.size := by obtain ⟨o, e, _⟩ := id pu; exact Heap.lt_size e
    refine zip_begins2 (begins_tuple a us.toArray) (begins_list b ws.toArray) (show s1.heap.IsTuple a us.toArray from pu) pw.isList fun h' z1 z2 z3 z4 z5 _ kk => wpAny_pyIter_zip z1 ?_
    exact ⟨_, _, _, _, H1, rfl, J.kept (t' := s1.toks) kk, turn_zipM (PySem.W.ktu_apart s1.heap.objs.size a b la pw.lt), ⟨z1, z2, ⟨_, _, z3⟩, ⟨_, z4, rfl, rfl⟩, ⟨_, z5, rfl, rfl⟩⟩, new, q⟩
end DL

/-! DL: dict(d), d.get, zip, reversed, min, max, abs, list.index, xs[k] = v, sorted of short lists. -/
namespace DL
open PySem PySem.Spec PyProof.Rows L2
variable [TabCx] [WCx]
section
variable {X : Cx} {F : FR} {own : List Nat} {tg : Expr}
theorem units66 {k : Nat} {A : Around} (r : Room k A) : A.units + 66 < cLine := by have := r.un; omega
/-! ### dict(d) -/
def dictOfD : D → Res D
  | .dict es => if guardK es then .ok (.dict es) else .bad
  | _ => .bad
theorem cr_dictOf : CallR X (.type "dict") (fun vs H Q => ∃ (a : Addr) (kvs : List (Key × V)), vs = [.ref a] ∧ Rd H a (.dK kvs) ∧ ∀ p, H p = none → Q (.ref p) (upd H p (.dK kvs))) := by
  intro pins s σ H vs us Q I r h
  obtain ⟨a, kvs, rfl, e, q⟩ := h
  rw [Vals.ref1 r]
  exact d_copyOf I e fun p s' hp I' => ⟨.ref p, _, I', rfl, q p hp⟩
theorem de_dictOf {e : Expr} {t : DEnv → Res D} {p pos : Pos} (h : DE X F own .bor e t) (hm : X.mg "dict" = none) (hg : Gl X "dict" := by rfl) (hs : starEach [e] X.env = (false, eval e X.env) :: starEach [] X.env := by rfl) :
    DE X F own .fresh (.Call (.Name "dict" p) [e] [] pos) (xCall (on1 dictOfD) (xCons t xNil)) := de_bty cr_dictOf (ca1 fun Γ σ H B v d Q s r p => by
      cases d with
      | dict es =>
        have p : Post X.K F own (RV X.K F own Γ σ .fresh) (if guardK es then .ok (.dict es) else .bad) Γ σ H B Q := p
        cases g : guardK es with
        | false => rw [g] at p; exact p.elim
        | true =>
          rw [g] at p
          obtain ⟨a, rfl, hd⟩ := r.dict s.sub
          rcases hd with ⟨kvs, h1, rk⟩ | ⟨kvs, h1, rk, n⟩ | ⟨ps, h1, rk, n⟩
          · exact ⟨a, kvs, rfl, h1, fun q hq => Post.newObj p s (show ORep X.K B _ (.dK kvs) (.dict es) from rk) hq⟩
          · exact (guardK_T rk n g).elim
          · exact (guardK_N rk n g).elim
      | _ => exact p.elim) hm (by decide +kernel) (da_cons h da_nil (hs := hs)) hg (he := hs)
/-! ### d.get(k, x) -/
def dictD : D → Res (List (D × D))
  | .dict es => .ok es
  | _ => .bad
def getD2 (es : List (D × D)) (k z : D) : Res D := if kIn es k then (match dGet es k with | some v => .ok v | none => .ok z) else .bad
def xGet2 (td tk tz : DEnv → Res D) : DEnv → Res D := fun Γ => (td Γ).bind fun d => (dictD d).bind fun es => (tk Γ).bind fun k => (tz Γ).bind fun z => getD2 es k z
def tDGet2A (td ty tx : TE) : TE := fun σ H Q => td σ H fun x H1 => ∃ a, x = .ref a ∧ IsDA H1 a ∧ ty σ H1 fun y H2 => tx σ H2 fun z H3 => ∃ o, DGet H3 a y o ∧ Q (o.getD z) H3
theorem pe_dget2A {o e f : Expr} {apos cpos : Pos} {td ty tx : TE} (hu : X.A.units + 1 < cLine) (ho : PE X o td) (he : PE X e ty) (hf : PE X f tx) (m : M2 X o "get" apos e f cpos) : PE X (.Call (.Attribute o "get" apos) [e, f] [] cpos) (tDGet2A td ty tx) := by
  refine ⟨fun pins s σ H Q I h => ?_⟩
  refine wpAny_Call_method m.base m.few m.line PySem.F.plainAttrs_dict PySem.F.slot_dict_get PySem.F.type_dict_get (thn (ho.run pins s σ H _ I h) fun u s1 ⟨x, H1, I1, rx, a, ex, d, q1⟩ => ?_)
  subst ex
  obtain rfl : u = Value.ref a := rx
  obtain ⟨t1, t2, _⟩ := isDA_at I1 d
  refine ⟨t1, t2, ?_⟩
  rw [m.trees]
  refine Calls.callWith_builtin rfl (Calls.evalArgs_plain (Calls.spliced_cons (thn (he.run pins s1 σ H1 _ I1 q1) fun iv s2 ⟨y, H2, I2, ry, q2⟩ =>
    Calls.spliced_cons (thn (hf.run pins s2 σ H2 _ I2 q2) fun fv s3 ⟨z, H3, I3, rz, ov, g, q3⟩ => Calls.spliced_nil ?_))))
  exact d_get2 hu I3 g ry rz fun w' s4 I4 rw' => ⟨_, H3, I4, rw', q3⟩
theorem de_get2 {o i f : Expr} {td tk tz : DEnv → Res D} {apos cpos : Pos} (hu : X.A.units + 64 < cLine) (ho : DE X F own .bor o td) (hi : DE X F own .val i tk) (hf : DE X F own .val f tz) (m : M2 X o "get" apos i f cpos := by exact ⟨rfl, rfl, rfl, rfl⟩) :
    DE X F own .val (.Call (.Attribute o "get" apos) [i, f] [] cpos) (xGet2 td tk tz) := PE.mono (pe_dget2A (by omega) ho hi hf m) fun σ H Q ⟨B, Γ, s, p⟩ => by
  unfold tDGet2A
  unfold xGet2 at p
  refine tD_first early_RV s p fun d v H1 B1 s1 g1 r1 p1 => ?_
  have r1 : Bor X.K F B1 H1 v d := r1
  cases d with
  | dict es =>
    have p1 : Post X.K F own (RV X.K F own Γ σ .val) ((tk Γ).bind fun k => (tz Γ).bind fun z => getD2 es k z) Γ σ H1 B1 Q := p1
    obtain ⟨a, ev, hd⟩ := r1.dict s1.sub
    subst ev
    refine ⟨a, rfl, ?_, ?_⟩
    · rcases hd with ⟨kvs, h, _⟩ | ⟨kvs, h, _⟩ | ⟨ps, h, _⟩
      · exact .inl (.inl ⟨kvs, h⟩)
      · exact .inl (.inr ⟨kvs, .inl h⟩)
      · exact .inr ⟨ps, h⟩
    refine tD_first early_RV s1 p1 fun k y H2 B2 s2 g2 r2 p2 => ?_
    refine tD_first early_RV s2 p2 fun z w H3 B3 s3 g3 r3 p3 => ?_
    have r2 : Rep X.K B2 y k := r2
    have r3 : Rep X.K B3 w z := r3
    unfold getD2 at p3
    by_cases h : kIn es k = true
    · rw [if_pos h] at p3
      obtain ⟨a', o, e, g, c⟩ := dget_of s3.sub (Bor.later (Bor.later r1 g2 s1.sub s2.sub) g3 s2.sub s3.sub) (.inl (r2.mono (g3.same s2.sub))) h
      cases e
      refine ⟨o, g, ?_⟩
      rcases c with ⟨x, d, e1, e2, r⟩ | ⟨e1, e2⟩
      · rw [e2] at p3
        subst e1
        exact Post.here p3 s3 r
      · rw [e2] at p3
        subst e1
        exact Post.here p3 s3 r3
    · rw [if_neg h] at p3
      exact p3.elim
  | _ => exact p1.elim
/-! ### zip of two lists, of two tuples -/
def pairs (xs ys : List D) : List D := List.zipWith (fun x y => .tuple [x, y]) xs ys
def zipD (x y : D) : Res (List D) := match x, y with
  | .list xs, .list ys => .ok (pairs xs ys)
  | .tuple xs, .tuple ys => .ok (pairs xs ys)
  | .tuple xs, .list ys => .ok (pairs xs ys)
  | _, _ => .bad
def xZip (t u : DEnv → Res D) : DEnv → Res (List D) := fun Γ => (t Γ).bind fun x => (u Γ).bind fun y => zipD x y
theorem pairs_len (xs ys : List D) : (pairs xs ys).length = min xs.length ys.length := List.length_zipWith
theorem pair_yld {K : PySem.W.Frag} {F : FR} {own : List Nat} {B H : Hp} {Γ : DEnv} {σ : L2.St} {T : Addr} {x y : V} {d e : D} (s : SR K F own B Γ σ H) (hT : H T = none) (rx : Rep K B x d) (ry : Rep K B y e) : ∃ B', SR K F own B' Γ σ (upd H T (.tup [x, y])) ∧ Grow B H B' (upd H T (.tup [x, y])) ∧ Rep K B' (.ref T) (.tuple [d, e]) :=
  ⟨_, (s.grown hT).freeze upd_same (s.noB hT) (s.no0 hT) (s.noS hT), grow_frz hT, .tup upd_same (Reps.mono (same_upd (s.noB hT)) (.cons rx (.cons ry .nil)))⟩
theorem pairs_get {xs ys : List D} {i : Nat} {d : D} (h : (pairs xs ys)[i]? = some d) : ∃ x y, xs[i]? = some x ∧ ys[i]? = some y ∧ d = .tuple [x, y] := by
  unfold pairs at h
  rw [List.getElem?_zipWith] at h
  cases e1 : xs[i]? with
  | none => rw [e1] at h; cases h
  | some x =>
    cases e2 : ys[i]? with
    | none => rw [e1, e2] at h; cases h
    | some y => rw [e1, e2] at h; cases h; exact ⟨x, y, rfl, rfl, rfl⟩
theorem iter_zip {K : PySem.W.Frag} {B : Hp} {a b : Addr} {xs ys : List V} {ds es : List D} (h1 : SqL K B a xs) (h2 : SqL K B b ys) (r1 : Reps K B xs ds) (r2 : Reps K B ys es) : IterOk K (Itz K a b) B (pairs ds es) where
  go := fun i H sub hi => by
    rw [pairs_len, ← r1.length, ← r2.length] at hi
    exact ⟨xs, ys, xs[i]'(by omega), ys[i]'(by omega), sqL_mono sub h1, sqL_mono sub h2, List.getElem?_eq_getElem _, List.getElem?_eq_getElem _⟩
  stop := fun i H sub hi => by
    rw [pairs_len, ← r1.length, ← r2.length] at hi
    exact ⟨xs, ys, sqL_mono sub h1, sqL_mono sub h2, by omega⟩
  yld := fun i H v H' d sub e y F own B1 Γ σ s b => by
    obtain ⟨T, x, z, rfl, hT, rfl, q1, q2⟩ := y
    obtain ⟨d1, d2, e1, e2, rfl⟩ := pairs_get e
    obtain ⟨x', e3, s1⟩ := r1.get e1
    obtain ⟨z', e4, s2⟩ := r2.get e2
    have f1 := q1 xs (sqL_mono sub h1)
    have f2 := q2 ys (sqL_mono sub h2)
    rw [e3] at f1; cases f1
    rw [e4] at f2; cases f2
    exact pair_yld s hT (s1.mono b) (s2.mono b)
theorem iter_zipT {K : PySem.W.Frag} {B : Hp} {a b : Addr} {xs ys : List V} {ds es : List D} (h1 : SqT K B a xs) (h2 : SqT K B b ys) (r1 : Reps K B xs ds) (r2 : Reps K B ys es) : IterOk K (RZ.ItzT K a b) B (pairs ds es) where
  go := fun i H sub hi => by
    rw [pairs_len, ← r1.length, ← r2.length] at hi
    exact ⟨xs, ys, xs[i]'(by omega), ys[i]'(by omega), sqT_mono sub h1, sqT_mono sub h2, List.getElem?_eq_getElem _, List.getElem?_eq_getElem _⟩
  stop := fun i H sub hi => by
    rw [pairs_len, ← r1.length, ← r2.length] at hi
    exact ⟨xs, ys, sqT_mono sub h1, sqT_mono sub h2, by omega⟩
  yld := fun i H v H' d sub e y F own B1 Γ σ s b => by
    obtain ⟨T, x, z, rfl, hT, rfl, q1, q2⟩ := y
    obtain ⟨d1, d2, e1, e2, rfl⟩ := pairs_get e
    obtain ⟨x', e3, s1⟩ := r1.get e1
    obtain ⟨z', e4, s2⟩ := r2.get e2
    have f1 := q1 xs (sqT_mono sub h1)
    have f2 := q2 ys (sqT_mono sub h2)
    rw [e3] at f1; cases f1
    rw [e4] at f2; cases f2
    exact pair_yld s hT (s1.mono b) (s2.mono b)
theorem iter_zipM {K : PySem.W.Frag} {B : Hp} {a b : Addr} {xs ys : List V} {ds es : List D} (h1 : SqT K B a xs) (h2 : SqL K B b ys) (r1 : Reps K B xs ds) (r2 : Reps K B ys es) : IterOk K (ItzM K a b) B (pairs ds es) where
  go := fun i H sub hi => by
    rw [pairs_len, ← r1.length, ← r2.length] at hi
    exact ⟨xs, ys, xs[i]'(by omega), ys[i]'(by omega), ⟨sqT_mono sub h1, sqL_mono sub h2⟩, List.getElem?_eq_getElem _, List.getElem?_eq_getElem _⟩
  stop := fun i H sub hi => by
    rw [pairs_len, ← r1.length, ← r2.length] at hi
    exact ⟨xs, ys, ⟨sqT_mono sub h1, sqL_mono sub h2⟩, by omega⟩
  yld := fun i H v H' d sub e y F own B1 Γ σ s b => by
    obtain ⟨T, x, z, rfl, hT, rfl, q1, q2⟩ := y
    obtain ⟨d1, d2, e1, e2, rfl⟩ := pairs_get e
    obtain ⟨x', e3, s1⟩ := r1.get e1
    obtain ⟨z', e4, s2⟩ := r2.get e2
    have f1 := q1 xs (sqT_mono sub h1)
    have f2 := q2 ys (sqL_mono sub h2)
    rw [e3] at f1; cases f1
    rw [e4] at f2; cases f2
    exact pair_yld s hT (s1.mono b) (s2.mono b)
def zipL : List D → Res (List D)
  | [x, y] => zipD x y
  | _ => .bad
theorem zip_args (t u : DEnv → Res D) (Γ : DEnv) : (xCons t (xCons u xNil) Γ).bind zipL = xZip t u Γ := by
  unfold xCons xZip
  cases t Γ with
  | ok x =>
    cases u Γ with
    | ok y => rfl
    | _ => rfl
  | _ => rfl
theorem di_zip {elts : List Expr} {kk : Nat} {tpos : Pos} {e e2 : Expr} {t u : DEnv → Res D} {p pos : Pos} (h : DE X F own .val e t) (k : DE X F own .val e2 u) (hm : X.mg "zip" = none) (hg : Gl X "zip" := by rfl) (hs : starEach [e, e2] X.env = (false, eval e X.env) :: starEach [e2] X.env := by rfl) (hs2 : starEach [e2] X.env = (false, eval e2 X.env) :: starEach [] X.env := by rfl) (hpl : (backTo pos (starEach [e2] X.env)).any (·.1) = false := by rfl) :
    DI X F own (.Tuple elts kk tpos) (.Call (.Name "zip" p) [e, e2] [] pos) (xZip t u) :=
  PI.mono (pi_zipM hg hm (da_cons h (da_cons k da_nil (hs := hs2)) (hs := hs)) hs hpl) fun σ H R ⟨B, Γ, s, p⟩ => by
    unfold iZipM
    rw [← zip_args] at p
    refine tA_firstI s p fun ds vs H1 B1 s1 r q => ?_
    cases r with
    | nil => exact q.elim
    | cons r1 r2 =>
      cases r2 with
      | nil => exact q.elim
      | cons r2 r3 =>
        cases r3 with
        | cons r3 r4 => exact q.elim
        | nil =>
          cases r1 with
          | lst h1 q1 =>
            cases r2 with
            | lst h2 q2 => exact ⟨_, _, _, _, rfl, .inl ⟨sqL_mono s1.sub h1, sqL_mono s1.sub h2, q _ H1 B1 s1 Grow.refl (iter_zip h1 h2 q1 q2)⟩⟩
            | _ => exact q.elim
          | tup h1 q1 =>
            cases r2 with
            | tup h2 q2 => exact ⟨_, _, _, _, rfl, .inr (.inl ⟨SqT.of (s1.sub _ _ h1), SqT.of (s1.sub _ _ h2), q _ H1 B1 s1 Grow.refl (iter_zipT (SqT.of h1) (SqT.of h2) q1 q2)⟩)⟩
            | lst h2 q2 => exact ⟨_, _, _, _, rfl, .inr (.inr ⟨SqT.of (s1.sub _ _ h1), sqL_mono s1.sub h2, q _ H1 B1 s1 Grow.refl (iter_zipM (SqT.of h1) h2 q1 q2)⟩)⟩
            | _ => exact q.elim
          | _ => cases r2 <;> exact q.elim
/-! ### two ints -/
def on2 (g : D → D → Res D) : List D → Res D
  | [x, y] => g x y
  | _ => .bad
theorem ca2 {K : PySem.W.Frag} {m : Mode} {r : List V → Hp → VK → Prop} {g : D → D → Res D} (h : ∀ Γ σ H B v u d e Q, SR K F own B Γ σ H → Bor K F B H v d → Bor K F B H u e → Post K F own (RV K F own Γ σ m) (g d e) Γ σ H B Q → r [v, u] H Q) : CaD K F own .bor m r (on2 g) := fun Γ σ H B s0 vs ds Q s rv p => by
  match ds, rv, p with
  | [d, e], rv, p =>
    obtain ⟨v, u, rfl, r1, r2⟩ := rvs2 rv
    exact h Γ σ H B v u d e Q s r1 r2 p
  | [], _, p => exact p.elim
  | [_], _, p => exact p.elim
  | _ :: _ :: _ :: _, _, p => exact p.elim
def max2D (x y : D) : Res D := match x, y with
  | .int i, .int j => .ok (.int (if j > i then j else i))
  | _, _ => .bad
def min2D (x y : D) : Res D := match x, y with
  | .int i, .int j => .ok (.int (if j < i then j else i))
  | _, _ => .bad
theorem de_max2 {e f : Expr} {t u : DEnv → Res D} {p pos : Pos} (hc : X.calm = true) (h : DE X F own .bor e t) (k : DE X F own .bor f u) (hm : X.mg "max" = none) (hg : Gl X "max" := by rfl) (hs : starEach [e, f] X.env = (false, eval e X.env) :: starEach [f] X.env := by rfl) (hs2 : starEach [f] X.env = (false, eval f X.env) :: starEach [] X.env := by rfl)
    (hpl : (backTo pos (starEach [f] X.env)).any (·.1) = false := by rfl) : DE X F own .val (.Call (.Name "max" p) [e, f] [] pos) (xCall (on2 max2D) (xCons t (xCons u xNil))) := de_blt (call_max2 hc) (ca2 fun Γ σ H B v u d e Q s r1 r2 p => by
      cases d with
      | int i => cases e with
        | int j => exact ⟨i, j, by rw [r1.int, r2.int], Post.here p s (.int _)⟩
        | _ => exact p.elim
      | _ => cases e <;> exact p.elim) hm (by decide +kernel) (da_cons h (da_cons k da_nil (hs := hs2)) (hs := hs)) hg (he := hs) (hpl := hpl)
theorem de_min2 {e f : Expr} {t u : DEnv → Res D} {p pos : Pos} (hc : X.calm = true) (h : DE X F own .bor e t) (k : DE X F own .bor f u) (hm : X.mg "min" = none) (hg : Gl X "min" := by rfl) (hs : starEach [e, f] X.env = (false, eval e X.env) :: starEach [f] X.env := by rfl) (hs2 : starEach [f] X.env = (false, eval f X.env) :: starEach [] X.env := by rfl)
    (hpl : (backTo pos (starEach [f] X.env)).any (·.1) = false := by rfl) : DE X F own .val (.Call (.Name "min" p) [e, f] [] pos) (xCall (on2 min2D) (xCons t (xCons u xNil))) := de_blt (call_min2 hc) (ca2 fun Γ σ H B v u d e Q s r1 r2 p => by
      cases d with
      | int i => cases e with
        | int j => exact ⟨i, j, by rw [r1.int, r2.int], Post.here p s (.int _)⟩
        | _ => exact p.elim
      | _ => cases e <;> exact p.elim) hm (by decide +kernel) (da_cons h (da_cons k da_nil (hs := hs2)) (hs := hs)) hg (he := hs) (hpl := hpl)
def absD : D → Res D
  | .int i => .ok (.int (if i < 0 then -i else i))
  | _ => .bad
theorem de_abs {e : Expr} {t : DEnv → Res D} {p pos : Pos} (h : DE X F own .bor e t) (hm : X.mg "abs" = none) (hg : Gl X "abs" := by rfl) (hs : starEach [e] X.env = (false, eval e X.env) :: starEach [] X.env := by rfl) :
    DE X F own .val (.Call (.Name "abs" p) [e] [] pos) (xCall (on1 absD) (xCons t xNil)) := de_blt call_abs (ca1 fun Γ σ H B v d Q s r p => by
      cases d with
      | int i => exact ⟨i, by rw [r.int], Post.here p s (.int _)⟩
      | _ => exact p.elim) hm (by decide +kernel) (da_cons h da_nil (hs := hs)) hg (he := hs)
/-- the greatest of n and ns -/
def maxI (n : Int) : List Int → Int
  | [] => n
  | m :: r => maxI (if n < m then m else n) r
theorem maxI_mem : ∀ (n : Int) (ns : List Int), maxI n ns ∈ n :: ns
  | n, [] => List.mem_cons_self
  | n, m :: r => by
    unfold maxI
    have := maxI_mem (if n < m then m else n) r
    split at this
    · rw [if_pos (by assumption)]
      exact List.mem_cons_of_mem _ this
    · rw [if_neg (by assumption)]
      rcases List.mem_cons.mp this with h | h
      · rw [h]; exact List.mem_cons_self
      · exact List.mem_cons_of_mem _ (List.mem_cons_of_mem _ h)
theorem maxI_ge : ∀ (n : Int) (ns : List Int), ∀ k ∈ n :: ns, k ≤ maxI n ns
  | n, [], k, h => by rw [List.mem_singleton.mp h]; exact Int.le_refl _
  | n, m :: r, k, h => by
    unfold maxI
    have ih := maxI_ge (if n < m then m else n) r
    have h0 := ih _ List.mem_cons_self
    rcases List.mem_cons.mp h with rfl | h
    · refine Int.le_trans ?_ h0
      split <;> omega
    · rcases List.mem_cons.mp h with rfl | h
      · refine Int.le_trans ?_ h0
        split <;> omega
      · exact ih k (List.mem_cons_of_mem _ h)
def maxLD : D → Res D
  | .list ds => (match intsOf ds with | some (n :: ns) => .ok (.int (maxI n ns)) | _ => .bad)
  | _ => .bad
theorem de_maxL {e : Expr} {t : DEnv → Res D} {p pos : Pos} (hc : X.calm = true) (h : DE X F own .bor e t) (hm : X.mg "max" = none) (hg : Gl X "max" := by rfl) (hs : starEach [e] X.env = (false, eval e X.env) :: starEach [] X.env := by rfl) :
    DE X F own .val (.Call (.Name "max" p) [e] [] pos) (xCall (on1 maxLD) (xCons t xNil)) := de_blt (cr_max hc) (ca1 fun Γ σ H B v d Q s r p => by
      cases d with
      | list ds =>
        have p : Post X.K F own (RV X.K F own Γ σ .val) (match intsOf ds with | some (n :: ns) => .ok (.int (maxI n ns)) | _ => .bad) Γ σ H B Q := p
        cases e : intsOf ds with
        | none => rw [e] at p; exact p.elim
        | some l =>
          cases l with
          | nil => rw [e] at p; exact p.elim
          | cons n ns =>
            rw [e] at p
            obtain ⟨a, xs, rfl, hx, rr⟩ := r.list s.sub
            rw [intsOf_eq e] at rr
            have ex := reps_ints rr
            subst ex
            refine ⟨a, n :: ns, rfl, hx, by simp, fun m hm hge => ?_⟩
            have em : m = maxI n ns := Int.le_antisymm (maxI_ge n ns m hm) (hge _ (maxI_mem n ns))
            rw [em]
            exact Post.here p s (.int _)
      | _ => exact p.elim) hm (by decide +kernel) (da_cons h da_nil (hs := hs)) hg (he := hs)
/-! ### sorted of a list of one item at most -/
def rSort1 (K : PySem.W.Frag) : List V → Hp → VK → Prop := fun vs H Q => ∃ (a : Addr) (xs : List V), vs = [V.ref a] ∧ SqL K H a xs ∧ xs.length ≤ 1 ∧ ∀ q, H q = none → Q (.ref q) (upd H q (.lst xs))
theorem vals_perm1 : ∀ {xs : List V} {us out : List Value}, Vals xs us → xs.length ≤ 1 → out.Perm us → out = us
  | [], _, _, .nil, _, h => List.perm_nil.mp h
  | [x], _, _, .cons r .nil, _, h => List.perm_singleton.mp h
  | _ :: _ :: _, _, _, _, h, _ => absurd h (by simp)
theorem cr_sort1 : CallR X (.builtin "sorted") (rSort1 X.K) := by
  intro pins s σ H vs us Q I r h
  obtain ⟨a, xs, rfl, hs, hl, q⟩ := h
  obtain ⟨its, rv, hL, hz⟩ := I.list hs
  rw [Vals.ref1 r]
  have el := rv.length
  refine SrtO.sorted_ord (ltv := fun _ _ => false) ⟨fun _ _ _ => rfl, fun _ _ _ _ _ => rfl⟩ hL.isList (by omega) (fun z => absurd z (by omega)) fun out _ st => ?_
  have eo := vals_perm1 rv hl st.perm
  subst eo
  obtain ⟨ep, he'⟩ := PyProof.Rows.sortedAll_at s.heap out out.toArray
  exact ⟨.ref _, upd H (s.heap.objs.size + 1) (.lst xs), I.laid (t' := s.toks) (fun _ _ => PyProof.Rows.sortedAll_old) (Nat.le_succ _) ⟨hz, out, ep, rv, he'⟩, rfl, q _ (I.hok.fresh (Nat.le_succ _))⟩
def sortAD : D → Res D
  | .list ds => if ds.length ≤ 1 then .ok (.list ds) else sortD (.list ds)
  | _ => .bad
theorem de_sortA {e : Expr} {t : DEnv → Res D} {p pos : Pos} (hu : X.A.units + 64 < cLine) (h : DE X F own .bor e t) (hm : X.mg "sorted" = none) (hg : Gl X "sorted" := by rfl) (hs : starEach [e] X.env = (false, eval e X.env) :: starEach [] X.env := by rfl) :
    DE X F own .fresh (.Call (.Name "sorted" p) [e] [] pos) (xCall (on1 sortAD) (xCons t xNil)) := de_blt (CallR.or' cr_sort1 (cr_sortDat hu)) (fun Γ σ H B s0 vs ds Q s rv p => by
      match ds, rv, p with
      | [.list ds], rv, p =>
        obtain ⟨v, rfl, r⟩ := rvs1 rv
        have r : Bor X.K F B H v (.list ds) := r
        have p : Post X.K F own (RV X.K F own Γ σ .fresh) (if ds.length ≤ 1 then .ok (.list ds) else sortD (.list ds)) Γ σ H B Q := p
        by_cases hl : ds.length ≤ 1
        · rw [if_pos hl] at p
          obtain ⟨a, xs, rfl, hx, rr⟩ := r.list s.sub
          exact .inl ⟨a, xs, rfl, hx, by rw [rr.length]; exact hl, fun q hq => Post.newObj p s (show ORep X.K B _ (.lst xs) (.list ds) from rr) hq⟩
        · rw [if_neg hl] at p
          exact .inr (ca_sort Γ σ H B s0 [v] [.list ds] Q s (show RVs X.K F own Γ σ .bor s0 B H [v] [.list ds] from .cons r .nil) p)
      | [], _, p => exact p.elim
      | _ :: _ :: _, _, p => exact p.elim
      | [.none], _, p => exact p.elim
      | [.bool _], _, p => exact p.elim
      | [.int _], _, p => exact p.elim
      | [.str _], _, p => exact p.elim
      | [.tuple _], _, p => exact p.elim
      | [.dict _], _, p => exact p.elim) hm (by decide +kernel) (da_cons h da_nil (hs := hs)) hg (he := hs)
/-! ### len of a dict -/
def lenAD : D → Res D
  | .dict es => .ok (.int es.length)
  | d => lenD d
theorem call_lenDR : CallR X (.builtin "len") (fun xs H Q => ∃ a kvs, xs = [V.ref a] ∧ Rd H a (.dK kvs) ∧ Q (.int kvs.length) H) := by
  intro pins s σ H xs us Q I r h
  obtain ⟨a, kvs, rfl, ha, q⟩ := h
  obtain ⟨u, rfl, ru⟩ := vals1 r
  cases ru
  exact d_len I ha fun t s' I' => ⟨.int kvs.length, H, I', ⟨t, rfl⟩, q⟩
section
variable {P : Program} {w : World} {A : Around} {E : Value → Shared → Prop} {s : Shared} {d : Addr} {o : Obj} {es : Array DictEntry} {ep : Nat}
theorem meets_len_dictO (d : Addr) (hd : (d == sysModules) = false) :
    MeetsIn P w (Builtin.«dict.__len__» ⟨[.ref d], []⟩) (fun _ R s => ∃ o es ep, s.heap.get? d = some o ∧ o.ExactDict ∧ o.data = .dict es ep ∧ R (.ok (.ret (.int es.size s.toks))) { s with toks := s.toks + 1 }) :=
  .of_wp fun A R s ⟨o, es, ep, ho, hc, hdat, h⟩ => by
    show wpAny _ _ (dictSize d >>= _) _ _ s
    unfold dictSize
    refine wpAny_bind (wpAny_bind (wpAny_dictEntries ho hdat (wpAny_pure ?_)))
    show wpAny _ _ (Builtin.Dict.pendingCount d >>= _) _ _ s
    refine wpAny_bind (wpAny_pendingCount_other hd ?_)
    refine wpAny_ret_mkInt ?_
    rw [Nat.add_zero]
    exact h
theorem call_len_dictO {Q : Value → Shared → Prop} (hd : (d == sysModules) = false) (ho : s.heap.get? d = some o) (hc : o.ExactDict) (hdat : o.data = .dict es ep) (hfit : (es.size : Int) < 2 ^ 63)
    (h : Q (.int es.size (s.toks + 1)) { s with toks := s.toks + 1 + 1 }) : wpAny (model P w) A (call (.builtin "len") [.ref d]) Q E s := by
  have hT : s.TypeIs (.ref d) "dict" := ⟨o, ho, hc.1⟩
  refine Calls.call_function_entry kind_len plain_len entry_len (args_len1 _) ?_
  unfold Builtin.«len»
  refine wpAny_bind (m := oneArg "len" _) (wpAny_pure ?_)
  refine wpAny_bind (m := callSpecial? (.ref d) (Str.ofString "__len__")) (wpAny_callSpecial?_slot (name := Str.ofString "__len__") hT F.slot_dict_len
    (call_meetsIn F.slot_dict_len hT F.entry_dict_len (F.args_dict_len_1 _) (meets_len_dictO d hd) ⟨o, es, ep, ho, hc, hdat, ?_⟩))
  show wpAny _ _ _ _ _ { s with toks := s.toks + 1 }
  refine wpAny_bind (wpAny_holding (wpAny_pure ?_))
  refine wpAny_bind (wpAny_letGo ?_)
  show wpAny _ _ (if ((es.size : Nat) : Int) < 0 then _ else _) _ _ _
  rw [if_neg (by omega)]
  show wpAny _ _ (if ((es.size : Nat) : Int) ≥ 2 ^ 63 then _ else _) _ _ _
  rw [if_neg (by omega)]
  exact wpAny_bind (wpAny_mkInt (wpAny_pure ⟨_, rfl, h⟩))
end
theorem nRel_len {ps : List NRow} {xs : List (NestedKey × Addr × Value)} (r : Paired nRel ps xs) : ps.length = xs.length := Paired.length r
theorem call_lenN : CallR X (.builtin "len") (fun xs H Q => ∃ a ps, xs = [V.ref a] ∧ H a = some (.ext (dnφ a ps)) ∧ Q (.int ps.length) H) := by
  intro pins s σ H xs us Q I r h
  obtain ⟨a, ps, rfl, ha, q⟩ := h
  obtain ⟨u, rfl, rx⟩ := vals1 r
  obtain rfl : u = .ref a := rx
  obtain ⟨⟨z, hd, w, ys, _, rel, o, es, ep, h1, h2, h3, h4, _⟩, _⟩ := (show ObjOk X.prog X.w H s.heap a (.ext (dnφ a ps)) from I.hok a _ ha)
  have hl : es.size = ps.length := by
    rw [nRel_len rel, ← Array.length_toList, h4, List.length_map]
  refine call_len_dictO hd h1 h2 h3 (by rw [hl]; rw [sizeLine_eq] at z; omega) ?_
  rw [hl]
  exact ⟨.int ((ps.length : Nat) : Int), H, I.tok _, ⟨_, rfl⟩, q⟩
theorem de_lenA {e : Expr} {t : DEnv → Res D} {p pos : Pos} (h : DE X F own .bor e t) (hm : X.mg "len" = none) (hg : Gl X "len" := by rfl) (hs : starEach [e] X.env = (false, eval e X.env) :: starEach [] X.env := by rfl) :
    DE X F own .val (.Call (.Name "len" p) [e] [] pos) (xCall (on1 lenAD) (xCons t xNil)) := de_blt (CallR.or' call_len (CallR.or' call_lenDR (CallR.or' L2.call_len_dT call_lenN))) (fun Γ σ H B s0 vs ds Q s rv p => by
      match ds, rv, p with
      | [d], rv, p =>
        obtain ⟨v, rfl, r⟩ := rvs1 rv
        have r : Bor X.K F B H v d := r
        have p : Post X.K F own (RV X.K F own Γ σ .val) (lenAD d) Γ σ H B Q := p
        have rest : Post X.K F own (RV X.K F own Γ σ .val) (lenD d) Γ σ H B Q → ∃ x n, [v] = [x] ∧ LenV X.K x H n ∧ Q (.int n) H := fun p => ca_len Γ σ H B s0 [v] [d] Q s (show RVs X.K F own Γ σ .bor s0 B H [v] [d] from .cons r .nil) p
        cases d with
        | dict es =>
          obtain ⟨a, rfl, hd⟩ := r.dict s.sub
          have p : Post X.K F own (RV X.K F own Γ σ .val) (.ok (.int es.length)) Γ σ H B Q := p
          rcases hd with ⟨kvs, h1, rk⟩ | ⟨kvs, h1, rk, n⟩ | ⟨ps, h1, rk, n⟩
          · refine .inr (.inl ⟨a, kvs, rfl, h1, ?_⟩)
            rw [rk.length]
            exact Post.here p s (.int _)
          · refine .inr (.inr (.inl ⟨a, kvs, rfl, h1, ?_⟩))
            rw [rk.length]
            exact Post.here p s (.int _)
          · refine .inr (.inr (.inr ⟨a, ps, rfl, h1, ?_⟩))
            rw [rk.length]
            exact Post.here p s (.int _)
        | _ => exact .inl (rest p)
      | [], _, p => exact p.elim
      | _ :: _ :: _, _, p => exact p.elim) hm PySem.boot_len (da_cons h da_nil (hs := hs)) hg (he := hs)
end
end DL

/-! DL: sorted(xs, key=lambda row: (len(row), row)). -/
namespace DL
open PySem PySem.Spec PyProof.Rows L2
variable [TabCx] [WCx]
section
variable {P : Program} {w : World} {K : PySem.W.Frag} {mg : Str → Option Value} {base : Heap}
theorem readsAll_len {h : Heap} {vs : List Value} {ds : List D} {as : List Addr} (r : ReadsAll h vs ds as) : vs.length = ds.length := r.lenAny
theorem turn_len {A : Around} {s : Shared} {f c' : Addr} {x qual : Str} {params : Arguments} {scope : Scope} {p1 p2 p3 p4 p5 : Pos} {cx} {pm ctv : Value} {oc : Obj} {cs : Array Value} {t : Tok} {u : Value} {ds : List D} {cl : List (Str × Addr)}
    (hM : L2.Mod K mg base) (bk : ∀ b o, base.get? b = some o → s.heap.get? b = some o) (hm : mg "len" = none) (hroom : A.depth < recursionLimit)
    (hf : s.heap.get? f = some (PySem.W.kla_obj "<lambda>" qual params (.Tuple [.Call (.Name "len" p1) [.Name x p2] [] p3, .Name x p4] cx p5) scope cl pm c' ctv)) (hc : s.heap.get? c' = some oc) (hd : oc.data = .fields cs) (hv : cs[1]? = some (.str qual t))
    (hbind : ∀ (pm cv ctv v : Value), bindArgs (PySem.W.kla_fn "<lambda>" qual params (.Tuple [.Call (.Name "len" p1) [.Name x p2] [] p3, .Name x p4] cx p5) scope cl pm cv ctv) ⟨[v], []⟩ = pure [(x, v)])
    (hk : scope.kind = .function) (hco : scope.isCoroutine = false) (hgen : scope.isGenerator = false) (hx : scope.names.lookup x = some .local) (hl : scope.names.lookup (PySem.Str.ofString "len") = some .globalImplicit) (hcell : ∀ y ∈ scope.names, y.2 ≠ .cell)
    (hz : ds.length ≤ sizeLine) (hr : Reads s.heap u (.tuple ds) []) (hdx : (x == ("__debug__" : Str)) = false) : wpAny (model P w) A (call (.ref f) [u]) (PySem.W.KeyPure (.tuple [.int ds.length, .tuple ds]) s) (fun _ _ => False) s := by
  refine wpAny_call (PySem.W.kla_callFunE hroom hf rfl hco hgen rfl ⟨c', oc, cs, t, rfl, hc, hd, hv⟩ ?_)
  rw [hbind]
  refine wpAny_pure (wpAny_newFunctionEnv hcell (fun y hy => ?_) (fun h₁ hns hsb => ⟨(hM.nolimit.keeps bk).fresh _ hsb, ?_⟩) hk)
  · rw [List.mem_singleton.mp hy]
    exact hx
  have kp : ∀ b o, s.heap.get? b = some o → h₁.get? b = some o := fun b o e => hsb.extBut b o (Nat.ne_of_lt (Heap.lt_size e)) (Heap.get?_push_of_some _ e)
  have hnx : ([(x, u)].reverse.lookup x : Option Value) = some u := by simp [List.lookup]
  refine PySem.W.kla_codeExpr ?_
  refine wpAny_Tuple_spliced ?_
  obtain ⟨mb, hb1, hb2⟩ := hM.blt
  have tu := hr
  cases hr with
  | tuple ho hcl hda ra =>
  rename_i a o vs n
  have ht : PyProof.Rows.IsTup h₁ a vs := ⟨o, kp _ _ ho, hcl, n, hda⟩
  have hlen : vs.size = ds.length := by rw [← readsAll_len ra, Array.length_toList]
  show wpAny _ _ (spliced ((false, eval (.Call (.Name "len" p1) [.Name x p2] [] p3) _) :: (false, eval (.Name x p4) _) :: [])) _ _ _
  refine Calls.spliced_cons (wpAny_Call_Name_kw ?_)
  refine Calls.Name_function_global hk hl (Calls.loadGlobal_builtin ((hM.glob.keeps bk).keeps kp) hm (((hb1.keeps bk).keeps kp)) ((hb2 _ (by decide)).trans rfl) ?_) (by decide)
  refine PyProof.Rows.callWith_builtin1 (Calls.spliced_cons (wpAny_Name (wpAny_loadName_local hk hx hns hnx (Calls.spliced_nil ?_)) hdx)) rfl rfl
  refine PyProof.Rows.len_tuple ht (by rw [hlen]; rw [sizeLine_eq] at hz; omega) ?_
  refine Calls.spliced_cons (wpAny_Name (wpAny_loadName_local hk hx hns hnx (Calls.spliced_nil ⟨?_, ?_⟩)) hdx)
  · show 2 ≤ sizeLine
    rw [sizeLine_eq]
    omega
  · refine ⟨_, _, rfl, fun b o e => Heap.get?_push_of_some _ (kp b o e), ?_⟩
    rw [hlen]
    exact .tuple (Heap.get?_push_size _ rfl) rfl rfl (.cons (.int _ _) (.cons (as := []) (bs := []) (PyProof.Rows.Reads.keeps (fun b o e => Heap.get?_push_of_some _ (kp b o e)) tu) .nil))
end
/-! ### the lambda is made -/
theorem sm_table {H : Hp} {P c' : Addr} {ps : Array Value} {q : Str} {pos : Pos} (hP : H P = some (.tbl ps)) (ht : TriplesOk ps.toList) (ha : ∀ (pos : Pos) (cv : Value), codeAmong pos ps.toList = some cv → ∃ c, cv = .ref c ∧ H c = some (LamX.CodeO c q)) (nC : H c' = none) (hu : ∀ p ∈ TabCx.T, p.1 = P → p.2 = q) :
    Sm H (upd (upd H P (.tbl (ps ++ #[rawInt pos.line, rawInt pos.col, .ref c']))) c' (LamX.CodeO c' q)) := by
  have nP : c' ≠ P := fun z => by
    rw [z, hP] at nC
    cases nC
  have keep : ∀ b, b ≠ P → H b ≠ none → (upd (upd H P (.tbl (ps ++ #[rawInt pos.line, rawInt pos.col, .ref c']))) c' (LamX.CodeO c' q)) b = H b := fun b h1 h2 => by
    rw [upd_ne (show b ≠ c' from fun z => h2 (by rw [z]; exact nC)), upd_ne h1]
  have obj : ∀ b o, H b = some o → (∀ ps, o ≠ .tbl ps) → (upd (upd H P (.tbl (ps ++ #[rawInt pos.line, rawInt pos.col, .ref c']))) c' (LamX.CodeO c' q)) b = some o := fun b o e n => by
    rw [keep b (fun z => by
      rw [z, hP] at e
      exact n ps (Option.some.inj e).symm) (by rw [e]; exact fun z => nomatch z)]
    exact e
  refine ⟨obj, fun b e => ?_, fun t p hp => ?_⟩
  · by_cases hb : b = P
    · rw [hb, upd_ne nP.symm, upd_same]
      exact fun z => nomatch z
    · rw [keep b hb e]
      exact e
  · by_cases hb : p.1 = P
    · rw [hb, hu p hp hb]
      have eL : (ps ++ #[rawInt pos.line, rawInt pos.col, .ref c']).toList = ps.toList ++ [rawInt pos.line, rawInt pos.col, .ref c'] := by simp
      refine ⟨_, by rw [upd_ne nP.symm, upd_same], by rw [eL]; exact PySem.TriplesOk_snoc _ _ _ _ ht, fun p' cv hcv => ?_⟩
      rw [eL] at hcv
      rcases LamX.among_app _ ht hcv with z | z
      · obtain ⟨c0, e1, e2⟩ := ha p' cv z
        exact ⟨c0, e1, obj _ _ e2 LamX.codeO_ne⟩
      · exact ⟨c', z, upd_same⟩
    · obtain ⟨qs, a1, a2, a3⟩ := t p hp
      refine ⟨qs, by rw [keep p.1 hb (by rw [a1]; exact fun z => nomatch z)]; exact a1, a2, fun p' cv hcv => ?_⟩
      obtain ⟨c0, e1, e2⟩ := a3 p' cv hcv
      exact ⟨c0, e1, obj _ _ e2 LamX.codeO_ne⟩
/-- what a def whose code object stands at c, its table at P, needs for its lambdas -/
structure LamAt (X : Cx) (c P : Addr) : Prop where
  tb : LamX.TabB X.base X.mg c P
  code : X.env.code = .ref c
  mem : (P, X.env.qual ++ "<lambda>") ∈ TabCx.T
  one : ∀ p ∈ TabCx.T, p.1 = P → p.2 = X.env.qual ++ "<lambda>"
theorem lam_made {X : Cx} {pins : List (Addr × Obj)} {σ : L2.St} {H : Hp} {s : Shared} {c P : Addr} {params : Arguments} {body : Expr} {scope : Scope} {pos : Pos} {E : Value → Shared → Prop} {Q : Value → Shared → Prop} (I : Inv X pins σ H s) (L : LamAt X c P) (hT : LamX.Tabs TabCx.T H)
    (hdef : defaultsOf params X.env = ([], [])) (hfree : ∀ y ∈ scope.names, y.2 = .free → ∃ c, X.env.cells.lookup y.1 = some c)
    (h : ∀ (f c' : Addr) (pm ctv : Value) (H1 : Hp) (s' : Shared), Inv X pins σ H1 s' → Sm H H1 → (∀ b, b ≠ P → H b ≠ none → H1 b = H b) →
      s'.heap.get? f = some (PySem.W.kla_obj "<lambda>" (X.env.qual ++ "<lambda>") params body scope (cloFrom X.env.cells scope.names []) pm c' ctv) → H1 c' = some (LamX.CodeO c' (X.env.qual ++ "<lambda>")) → Q (.ref f) s') :
    wpAny (model X.prog X.w) X.A (eval (.Lambda params body scope pos) X.env) Q E s := by
  obtain ⟨TB, hcode, hm, hu⟩ := L
  obtain ⟨ps, hP, ht, ha⟩ := hT _ hm
  refine PySem.W.kla_eval hdef ?_
  have bP : s.heap.BuiltinsAt X.mg P := TB.bm.keeps I.bk
  have hP' : s.heap.get? P = some { cls := .none, data := .fields ps } := I.hok P _ hP
  cases hc : codeAmong pos ps.toList with
  | none =>
    refine PySem.W.kla_makeFunction (mg := X.mg) (c := c) (P := P) (ps := ps) (closure_ok hfree) I.ok.glob (I.mod.glob.keeps I.bk) hcode (TB.code.keeps I.bk) hP' ht hc TB.gP bP fun c' ctv h' tk hx hge hlt hrec htb => ?_
    obtain ⟨c2, oc, vs, t, e2, hoc, hd, hv⟩ := hrec
    cases e2
    have nC : H c' = none := I.hok.fresh hge
    have I1 := LamX.inv_table (t' := tk) (more := #[rawInt pos.line, rawInt pos.col, .ref c']) (h' := h'.push (PySem.W.kla_obj "<lambda>" (X.env.qual ++ "<lambda>") params body scope (cloFrom X.env.cells scope.names []) ((X.mg "__name__").getD .none) c' ctv)) I hP
      (fun b o hb e => Heap.get?_push_of_some _ (hx b o hb e)) (Heap.get?_push_of_some _ htb) hge ⟨oc, vs, t, Heap.get?_push_of_some _ hoc, hd, hv⟩
    exact h h'.objs.size c' ((X.mg "__name__").getD .none) ctv _ _ I1 (sm_table hP ht ha nC hu) (fun b h1 h2 => by rw [upd_ne (show b ≠ c' from fun z => h2 (by rw [z]; exact nC)), upd_ne h1]) (Heap.get?_push_size _ rfl) upd_same
  | some cv =>
    obtain ⟨c', e, hco⟩ := ha pos cv hc
    subst e
    refine PySem.W.kla_makeFunctionHit (mg := X.mg) (c := c) (P := P) (ps := ps) (closure_ok hfree) I.ok.glob (I.mod.glob.keeps I.bk) hcode (TB.code.keeps I.bk) hP' ht hc bP fun ctv h' tk hx hsz => ?_
    have I1 : Inv X pins σ H { s with heap := h'.push (PySem.W.kla_obj "<lambda>" (X.env.qual ++ "<lambda>") params body scope (cloFrom X.env.cells scope.names []) ((X.mg "__name__").getD .none) c' ctv), toks := tk } := I.kept fun b o e => Heap.get?_push_of_some _ (hx b o e)
    exact h h'.objs.size c' ((X.mg "__name__").getD .none) ctv H _ I1 (Sm.refl H) (fun _ _ _ => rfl) (Heap.get?_push_size _ rfl) hco
/-! ### sorted by length, then by the row -/
def intB : D → Bool
  | .int _ => true
  | _ => false
def lenRow : D → Bool
  | .tuple xs => xs.all intB && decide (xs.length ≤ sizeLine)
  | _ => false
def lenKey : D → D
  | .tuple xs => .tuple [.int xs.length, .tuple xs]
  | d => d
def sortLenD : D → Res D
  | .list ds => if ds.all lenRow then .ok (.list (ds.mergeSort (PySem.W.dataLe false lenKey))) else .bad
  | _ => .bad
theorem intB_map : ∀ {xs : List D}, xs.all intB = true → ∃ ns : List Int, xs = ns.map .int
  | [], _ => ⟨[], rfl⟩
  | x :: xs, h => by
    rw [List.all_cons, Bool.and_eq_true] at h
    obtain ⟨ns, e⟩ := intB_map h.2
    cases x with
    | int i => exact ⟨i :: ns, by rw [e]; rfl⟩
    | _ => cases h.1
theorem lenRow_of {d : D} (h : lenRow d = true) : ∃ ns : List Int, d = .tuple (ns.map .int) ∧ ns.length ≤ sizeLine := by
  cases d with
  | tuple xs =>
    have h : (xs.all intB && decide (xs.length ≤ sizeLine)) = true := h
    rw [Bool.and_eq_true] at h
    obtain ⟨ns, e⟩ := intB_map h.1
    subst e
    have := of_decide_eq_true h.2
    rw [List.length_map] at this
    exact ⟨ns, rfl, this⟩
  | _ => cases h
theorem readsAll_ints {h : Heap} : ∀ {ns : List Int} {vs : List Value} {as : List Addr}, ReadsAll h vs (ns.map .int) as → as = []
  | [], _, _, .nil => rfl
  | _ :: _, _, _, .cons r t => by
    cases r
    rw [readsAll_ints t]
    rfl
theorem reads_row {h : Heap} {u : Value} {ns : List Int} {as : List Addr} (r : Reads h u (.tuple (ns.map .int)) as) : Reads h u (.tuple (ns.map .int)) [] := by
  have r' := r
  cases r with
  | tuple a b c d =>
    rw [readsAll_ints d] at r'
    exact r'
theorem lenKey_row (ns : List Int) : lenKey (.tuple (ns.map .int)) = .tuple [.int ns.length, .tuple (ns.map .int)] := by
  show PyData.tuple [.int (ns.map PyData.int).length, _] = _
  rw [List.length_map]
theorem lenKey_alike (a b : List Int) : PySem.W.alike (lenKey (.tuple (a.map .int))) (lenKey (.tuple (b.map .int))) = true := by
  rw [lenKey_row, lenKey_row]
  have := PySem.W.alike_ints a b
  simp [PySem.W.alike, PySem.W.alikeAll, this]
set_option maxHeartbeats 1000000
section
variable {X : Cx} {F : FR} {own : List Nat}
theorem de_sortLen {c P : Addr} {x : Str} {e : Expr} {t : DEnv → Res D} {params : Arguments} {scope : Scope} {cx : Nat} {p p1 p2 p3 p4 p5 pos lpos kpos : Pos} (hu : X.A.units + 64 < cLine) (hroom : X.A.depth < recursionLimit) (L : LamAt X c P) (h : DE X F own .bor e t) (hm : X.mg "sorted" = none) (hml : X.mg "len" = none)
    (hg : Gl X "sorted" := by rfl) (hdef : defaultsOf params X.env = ([], []) := by rfl) (hfree : ∀ y ∈ scope.names, y.2 ≠ .free := by decide)
    (hbind : ∀ (q : Str) (cl : List (Str × Addr)) (pm cv ctv v : Value), bindArgs (PySem.W.kla_fn "<lambda>" q params (.Tuple [.Call (.Name "len" p1) [.Name x p2] [] p3, .Name x p4] cx p5) scope cl pm cv ctv) ⟨[v], []⟩ = pure [(x, v)] := by intros; rfl)
    (hk : scope.kind = .function := by rfl) (hco : scope.isCoroutine = false := by rfl) (hgen : scope.isGenerator = false := by rfl) (hx : scope.names.lookup x = some .local := by rfl) (hl : scope.names.lookup (PySem.Str.ofString "len") = some .globalImplicit := by rfl) (hcell : ∀ y ∈ scope.names, y.2 ≠ .cell := by decide) (hdx : (x == ("__debug__" : Str)) = false := by decide)
    (he : backTo pos (starEach [e] X.env) = (false, eval e X.env) :: backTo pos (starEach [] X.env) := by rfl) (hs : starEach [e] X.env = (false, eval e X.env) :: starEach [] X.env := by rfl) (hpl : (backTo pos (starEach [e] X.env)).any (·.1) = false := by rfl) :
    DE X F own .fresh (.Call (.Name "sorted" p) [e] [⟨some "key", .Lambda params (.Tuple [.Call (.Name "len" p1) [.Name x p2] [] p3, .Name x p4] cx p5) scope lpos, kpos⟩] pos) (xCall (on1 sortLenD) (xCons t xNil)) := by
  refine ⟨fun pins s σ H Q I ⟨B, Γ, sr, post⟩ => ?_⟩
  have ha : DA X F own .bor [e] (xCons t xNil) := da_cons h da_nil (hs := hs)
  refine wpAny_Call_Name_kw (ld_blt I hg hm rfl ?_ (by decide +kernel) (by decide))
  have hA := ha.run pos pins s σ H (fun vs H1 => ∃ B1 ds s0, SR X.K F own B1 Γ σ H1 ∧ RVs X.K F own Γ σ .bor s0 B1 H1 vs ds ∧ Post X.K F own (RV X.K F own Γ σ .fresh) (on1 sortLenD ds) Γ σ H1 B1 Q) I ⟨B, Γ, sr, by
    have post' : Post X.K F own (RV X.K F own Γ σ .fresh) ((xCons t xNil Γ).bind (on1 sortLenD)) Γ σ H B Q := post
    cases e1 : xCons t xNil Γ with
    | ok ds =>
      rw [e1] at post'
      exact fun vs H1 B1 s1 g r => ⟨B1, ds, H, s1, r, Post.mono early_RV post' g⟩
    | raise c =>
      rw [e1] at post'
      exact post'
    | bad =>
      rw [e1] at post'
      exact post'.elim⟩
  refine PyProof.Rows.callWith_kw (thn hA fun us s1 ⟨vs, H1, I1, rv1, B1, ds, s0, sr1, r1, po⟩ => ?_) he hpl rfl rfl
  show wpAny _ _ (evalAll ((do let v ← eval (.Lambda params (.Tuple [.Call (.Name "len" p1) [.Name x p2] [] p3, .Name x p4] cx p5) scope lpos) X.env; standAt pos; pure v) :: [])) _ _ s1
  refine wpAny_evalAll_cons (wpAny_bind (lam_made I1 L sr1.tab hdef (fun y hy z => absurd z (hfree y hy)) fun f c' pm ctv H2 s2 I2 sm keepB hf hco' => wpAny_bind (wpAny_standAt (wpAny_pure (wpAny_evalAll_nil ?_)))))
  -- one argument
  match ds, r1, po with
  | [d], r1, po =>
    cases r1 with
    | cons r0 t0 =>
    cases t0
    rename_i v
    obtain ⟨u, rfl, rvu⟩ := vals1 rv1
    cases d with
    | list ds =>
      have po : Post X.K F own (RV X.K F own Γ σ .fresh) (if ds.all lenRow then .ok (.list (ds.mergeSort (PySem.W.dataLe false lenKey))) else .bad) Γ σ H1 B1 Q := po
      by_cases hok : ds.all lenRow = true
      · rw [if_pos hok] at po
        obtain ⟨a, xs, rfl, hsq, rr⟩ := Bor.list (RV.bor r0) sr1.sub
        obtain rfl : u = Value.ref a := rvu
        have sub2 : Same B1 H2 := fun b o e => by
          have e1 := sr1.sub b o e
          rw [keepB b (fun z => by
            have := sr1.nbT _ L.mem
            rw [z] at e
            rw [e] at this
            cases this) (by rw [e1]; exact fun z => nomatch z)]
          exact e1
        have g2 : Grow B1 H1 B1 H2 := ⟨sm, fun _ _ => rfl⟩
        have sr2 := sr1.after g2 sub2 sr1.nt
        have po2 := Post.mono early_RV po g2
        obtain ⟨its, rv, hl2, hz⟩ := I2.list (sqL_sm sm hsq)
        have hlen := rr.length
        have rz := reps_zip rr
        have hzd : ∀ q ∈ xs.zip ds, q.2 ∈ ds := fun q hq => by
          have : q.2 ∈ (xs.zip ds).map (·.2) := List.mem_map.mpr ⟨q, hq, rfl⟩
          rwa [zip_snd hlen] at this
        have row : ∀ q ∈ xs.zip ds, ∃ ns : List Int, q.2 = .tuple (ns.map .int) ∧ ns.length ≤ sizeLine := fun q hq => lenRow_of (List.all_eq_true.mp hok _ (hzd q hq))
        obtain ⟨⟨oc, cs, tk0, hoc, hdc, hvc⟩, _, _⟩ := I2.hok c' _ hco'
        have ee := each_vals (ps := xs.zip ds) (us := its) (by rw [zip_fst hlen]; exact rv)
        show wpAny _ _ (call (.builtin "sorted") [.ref a] [(PySem.Str.ofString "key", .ref f)]) _ _ s2
        refine PySem.W.sorted_key_data (b := false) (R := fun (u : Value) (p : V × D) => RelV p.1 u) (k := fun p : V × D => lenKey p.2) hl2.isList ee ?_ ?_ ?_ ?_ (PyProof.Rows.ksk_s1 _ _) (fun _ => PyProof.Rows.ksk_l1 _ _) (fun _ => PyProof.Rows.ksk_t1 _ _) ?_ ?_
        · intro d hd e he
          obtain ⟨q, hq, rfl⟩ := List.mem_map.mp hd
          obtain ⟨q2, hq2, rfl⟩ := List.mem_map.mp he
          obtain ⟨ns, e1, _⟩ := row q hq
          obtain ⟨ms, e2, _⟩ := row q2 hq2
          rw [e1, e2]
          exact lenKey_alike ns ms
        · refine .inl fun d hd => ?_
          obtain ⟨q, hq, rfl⟩ := List.mem_map.mp hd
          obtain ⟨ns, e1, _⟩ := row q hq
          rw [e1, lenKey_row]
          exact ⟨_, _, rfl⟩
        · rw [List.length_zip, ← hlen, Nat.min_self]
          exact hz
        · intro q hq
          obtain ⟨ns, e1, _⟩ := row q hq
          have : (lenKey q.2).depth ≤ 2 := by
            rw [e1, lenKey_row, PyData.depth, PyData.depthAll, PyData.depthAll, PyData.depthAll, PyData.depth, PyData.depth]
            have := PySem.W.depth_ints ns
            omega
          omega
        · intro v q hR hq h tk kp
          obtain ⟨ns, e1, e2⟩ := row q hq
          have hd := Rep.dp sr2.sub q.2 q.1 (by rw [e1]; exact plainAll_map _ _ fun _ _ => rfl) ((rz q hq).mono (g2.same sr1.sub))
          obtain ⟨as, hr⟩ := Dp.reads I2 _ _ _ hd hR
          rw [e1] at hr
          rw [e1, lenKey_row]
          have hr2 := reads_row hr
          have := turn_len (P := X.prog) (w := X.w) (A := X.A.in1.in1) (s := { s2 with heap := h, toks := tk }) (u := v) I2.mod (fun b o e => kp b o (I2.bk b o e)) hml hroom (kp _ _ hf) (kp _ _ hoc) hdc hvc (fun pm cv ctv v => hbind _ _ pm cv ctv v) hk hco hgen hx hl hcell (ds := ns.map .int) (by rw [List.length_map]; exact e2) (PyProof.Rows.Reads.keeps kp hr2) hdx
          rw [List.length_map] at this
          exact this
        · intro out c0 h' tk kp hn hD ho eo
          have hv := vals_each eo
          have hlen2 : (((xs.zip ds).mergeSort (PySem.W.dataLe false fun p : V × D => lenKey p.2)).map (·.1)).length ≤ sizeLine := by
            rw [List.length_map, List.length_mergeSort, List.length_zip, ← hlen, Nat.min_self]
            exact hz
          have nf : H2 (s2.heap.objs.size + 1) = none := I2.hok.fresh (Nat.le_succ _)
          refine ⟨.ref _, upd H2 (s2.heap.objs.size + 1) (.lst (((xs.zip ds).mergeSort (PySem.W.dataLe false fun p : V × D => lenKey p.2)).map (·.1))), I2.laid (t' := tk) kp (Nat.le_succ _) ⟨hlen2, out, c0, hv, hD⟩, rfl, ?_⟩
          have em : ((xs.zip ds).mergeSort (PySem.W.dataLe false fun p : V × D => lenKey p.2)).map (·.2) = ds.mergeSort (PySem.W.dataLe false lenKey) := by
            have q := List.map_mergeSort (r := PySem.W.dataLe false fun p : V × D => lenKey p.2) (s := PySem.W.dataLe false lenKey) (f := fun p : V × D => p.2) (l := xs.zip ds) (fun a _ b _ => rfl)
            rw [zip_snd hlen] at q
            exact q
          have rr2 : Reps X.K B1 (((xs.zip ds).mergeSort (PySem.W.dataLe false fun p : V × D => lenKey p.2)).map (·.1)) (ds.mergeSort (PySem.W.dataLe false lenKey)) := by
            rw [← em]
            exact reps_of fun p hp => rz p ((List.mergeSort_perm _ _).mem_iff.mp hp)
          exact Post.newObj po2 sr2 (show ORep X.K B1 _ (.lst _) (.list _) from rr2) nf
      · rw [if_neg hok] at po
        exact po.elim
    | _ => exact po.elim
  | [], _, po => exact po.elim
  | _ :: _ :: _, _, po => exact po.elim
end
theorem room_depth {k : Nat} {A : Around} (r : Room k A) : A.depth < recursionLimit := by have := r.dp; omega
/-! ### the law's end, with tables -/
theorem tabIn_code {K : PySem.W.Frag} {x : Str} {f c P : Addr} {oc : Value} {od : Option Addr} {fd : FuncData} {osl : Array (Option Value)} (h1 : PySem.W.nsIn K mainGlobals x = some (some (.ref f))) (h2 : K.lookup f = some ⟨oc, od, .func fd, osl⟩) (h3 : PySem.W.tabIn K x = some (c, P)) : fd.code = .ref c := by
  unfold PySem.W.tabIn at h3
  rw [h1] at h3
  dsimp only at h3
  rw [h2] at h3
  dsimp only at h3
  split at h3
  · rename_i c' e
    split at h3
    · split at h3
      · cases h3
        exact e
      · cases h3
    · cases h3
  · cases h3
theorem tabIn_mk {K : PySem.W.Frag} {x : Str} {f c P : Addr} {oc : Value} {od : Option Addr} {fd : FuncData} {osl : Array (Option Value)} {ce : Value} {cd : Option Addr} {vs : Array Value} {sl : Array (Option Value)} (h1 : PySem.W.nsIn K mainGlobals x = some (some (.ref f))) (h2 : K.lookup f = some ⟨oc, od, .func fd, osl⟩) (h3 : fd.code = .ref c) (h4 : K.lookup c = some ⟨ce, cd, .fields vs, sl⟩) (h5 : vs[11]? = some (.ref P)) : PySem.W.tabIn K x = some (c, P) := by
  unfold PySem.W.tabIn
  rw [h1]
  dsimp only
  rw [h2]
  dsimp only
  rw [h3]
  dsimp only
  rw [h4]
  dsimp only
  rw [h5]
theorem walk_tab {l : PySem.W.OpenLaw} {n k : Nat} {q : Program} {loose : List Str} {XP : (Str → Option Value) → Heap → Prop} {YP : World → Heap → Prop} {d : DefRec} {K : Params → PySem.W.Frag} {CX : World → CXT} {x : Str} (xs : List Str)
    (hn : l.most = some n) (hn2 : n ≤ sizeLine) (hdf : d.params.defaults = []) (hr : Room k callerA) (hrec : (xs.all fun x => ((PyProof.Rows.recsOf q).find? fun e => e.name == x).isSome) = true) (hY : ∀ (w : World) (h : Heap), YP w h → (K w.params).In h)
    (F : ∀ (w : World) (mg : Str → Option Value) (fa : Addr) (h : Heap), YP w h → (K w.params).In h → h.Ns mainGlobals mg → mg d.name = some (.ref fa) → (∀ x ∈ xs, ∀ c P, PySem.W.tabIn (K w.params) x = some (c, P) → PySem.W.CodeHd h c P ∧ h.get? P = some { cls := .none, data := .fields #[] }) → LamX.LawAtS l w (K w.params) (CX w) k n x mg fa h)
    (hCX : ∀ (w : World) (H : Hp) (s : Shared) (e : Value) (s' : Shared), CX w [] H s (fun _ _ _ => False) e s' → False) :
    PySem.W.WalkO q loose XP YP l.row.toRowW d [] (fun f vs => PySem.call f vs) := by
  refine Att.attach_callB hn hdf fun w s₀ s₁ mg mb fa o pm cd doc a vs ns G Y ho hd hcd hmg hobj hints hlen hbits hg => ?_
  have KX := hY w _ Y
  obtain ⟨fd, cs, sp, hT, nT, C, hb, hsp, hF⟩ := F w mg fa _ Y KX G.T.g hmg fun x hx c P ht => by
    have := List.all_eq_true.mp hrec x hx
    obtain ⟨d', hd'⟩ := Option.isSome_iff_exists.mp this
    exact PySem.W.tab_of G.T KX hd' ht
  exact LamX.law_callTs KX G.T.g G.T.b G.T.builtins G.T.nolimit hg hT nT C G.T.bmain hobj hints (Nat.le_trans hlen hn2) hr hF hb (fun H hH hS => hsp H a ns hlen hbits hH hS) fun H e s' => hCX w H s₁ e s'
theorem law_at {l : PySem.W.OpenLaw} {w : World} {K : PySem.W.Frag} {mg : Str → Option Value} {fa : Addr} {h : Heap} {k : Nat} {x : Str} {fd : FuncData} (nms : List (Addr × Addr × Str)) (hT : TabCx.T = nms.map fun p => (p.2.1, p.2.2)) (tabs : ∀ p ∈ nms, PySem.W.CodeHd h p.1 p.2.1 ∧ h.get? p.2.1 = some { cls := .none, data := .fields #[] }) (nT : ∀ p ∈ nms, K.lookup p.2.1 = none)
    (hb : ∀ (s : Shared) (u : Value), BindsTo s fd ⟨[u], []⟩ [(x, u)]) (F : ∀ base : Heap, K.In base → base.Ns mainGlobals mg → (∀ p ∈ nms, LamX.TabB base mg p.1 p.2.1) → FnOk l.prog w K mg base (L2.CX l.prog w) k fa fd [x] (spLaw K 63)) : LamX.LawAtS l w K (L2.CX l.prog w) k 63 x mg fa h := by
  refine ⟨fd, nms.map fun p => (p.1, p.2.1), spLaw K 63, fun p hp => ?_, fun p hp => ?_, fun p hp => ?_, hb, fun H a ns hl _ hH hS => ⟨a, ns, rfl, hS, hl, fun p hp => ?_, fun _ => rfl⟩, fun base K1 n1 tb => F base K1 n1 fun p hp => tb _ (List.mem_map.mpr ⟨p, hp, rfl⟩)⟩
  · obtain ⟨q, hq, rfl⟩ := List.mem_map.mp hp
    exact (tabs q hq).2
  · obtain ⟨q, hq, rfl⟩ := List.mem_map.mp hp
    exact nT q hq
  · obtain ⟨q, hq, rfl⟩ := List.mem_map.mp hp
    exact (tabs q hq).1
  · rw [hT] at hp
    obtain ⟨q, hq, rfl⟩ := List.mem_map.mp hp
    exact LamX.TabS.nil (hH _ (List.mem_map.mpr ⟨q, hq, rfl⟩))
end DL

/-! DL: x = xs.pop() of an owned list. -/
namespace DL
open PySem PySem.Spec PyProof.Rows L2
variable [TabCx] [WCx]
def sPop (i j : Nat) : DEnv → Out := fun Γ => oList Γ[j]? fun ds => match ds.getLast? with
  | some d => .next ((Γ.set j (some (.list ds.dropLast))).set i (some d))
  | none => .bad
theorem Reps.dropLast {K : PySem.W.Frag} {B : Hp} {vs : List V} {ds : List D} (r : Reps K B vs ds) : Reps K B vs.dropLast ds.dropLast := by
  rw [List.dropLast_eq_take, List.dropLast_eq_take, r.length]
  exact r.take _
section
variable {X : Cx} {F : FR} {own : List Nat}
theorem ds_pop (i j : Nat) {x y : Str} {p1 p2 p3 pos pos' : Pos} (hN : X.N.Nodup) (hj : j ∈ own := by decide) (ho : i ∉ own := by decide) (hi : X.N[i]? = some x := by rfl) (hx : Loc X.env.scope x := by first | exact .inl rfl | exact .inr rfl)
    (hNj : X.N[j]? = some y := by rfl) (hv : Vis X.env.scope y := by first | exact Or.inl rfl | exact Or.inr (Or.inl rfl) | exact Or.inr (Or.inr rfl)) (hd : (y == ("__debug__" : Str)) = false := by decide) (hcd : (y == ("__classdict__" : Str)) = false := by decide)
    (hbase : attributeBase (.Name y p1) "pop" X.env (eval (.Name y p1) X.env) = eval (.Name y p1) X.env := by rfl) (hline : (p2.endLine == p3.line) = true := by rfl)
    (hs : swapsWith (.Call (.Attribute (.Name y p1) "pop" p2) [] [] p3) (some (.Name x pos')) pos.line X.env = pure false := by rfl) (hf : X.fn x = true ∨ X.env.scope.names.lookup x = some .local := by first | exact .inl rfl | exact .inr rfl) :
    DS X F own own (.Assign [.Name x pos'] (.Call (.Attribute (.Name y p1) "pop" p2) [] [] p3) pos) (sPop i j) :=
  PS.mono (ps_set hN hi hx (pe_bm0 PySem.F.plainAttrs_list PySem.F.slot_list_pop PySem.F.type_list_pop mt_pop (pe_var hNj hv hd hcd) hbase hline) hs hf) fun Dn σ H ⟨B, Γ, s, p⟩ => by
    unfold tAsg tBM0 tVar
    unfold sPop at p
    obtain ⟨ds, ei⟩ := oList_of p
    rw [ei] at p
    obtain ⟨a, xs, ev, hL, rL⟩ := own_slot s hj ei
    have p : OPost X.K F own Dn (match ds.getLast? with | some d => .next ((Γ.set j (some (.list ds.dropLast))).set i (some d)) | none => .bad) B := p
    refine ⟨.ref a, ev, .inl ⟨rfl, xs, SqL.of hL⟩, ?_⟩
    cases el : ds.getLast? with
    | none =>
      rw [el] at p
      exact p.elim
    | some d =>
      rw [el] at p
      rw [List.getLast?_eq_getElem?, ← rL.length] at el
      obtain ⟨v, e1, r1⟩ := rL.get el
      refine ⟨a, xs, v, rfl, rfl, hL, e1, ?_⟩
      have s1 := s.mutate hj ei ev (show ORep X.K B _ (.lst xs.dropLast) (.list ds.dropLast) from rL.dropLast)
      exact p _ _ B (s1.set ho r1) (Same.refl _)
end
/-- a def that promises nothing -/
theorem fn_bad {P : Program} {w : World} {K : PySem.W.Frag} {mg : Str → Option Value} {base : Heap} {CX : CXT} {k m : Nat} {f : Addr} {fd : FuncData} {ps : List Str} {cv : Str → Value} (h : m = ps.length) : FnOk P w K mg base CX k f fd ps (spD K cv m fun _ => .bad) where
  len := fun vs H Q E ⟨_, _, _, _, _, _, e, _⟩ => e.trans h
  run := fun A outer s H args us vs Q E _ _ _ _ ⟨_, _, _, _, _, _, _, p⟩ => p.elim
end DL

/-! DL: try: f(..) except C: .. (several clauses, without a name). -/
namespace DL
open PySem PySem.Spec PyProof.Rows L2
variable [TabCx] [WCx]
section
variable {K : PySem.W.Frag} {F : FR} {own : List Nat} {Γ : DEnv} {σ : L2.St} {H H' B : Hp}
/-- the same slots over a later heap -/
theorem SR.late (s : SR K F own B Γ σ H) (h : Sm H H') : SR K F own B Γ σ H' :=
  ⟨fun a o e => h.obj a o (s.sub a o e) fun ps z => s.nt a ps (z ▸ e), s.same.trans h, s.old, s.len, s.dat, fun i d hi e => by
    obtain ⟨v, e1, a, o, rfl, n1, h1, r, n0⟩ := s.owd i d hi e
    exact ⟨_, e1, a, o, rfl, n1, h.get h1 r.nt, r, n0⟩, s.apart, s.nt⟩
def FR.wish (F : FR) (W : WX) : FR := { F with W := W }
theorem SR.wish (W : WX) (s : SR K F own B Γ σ H) : SR K (F.wish W) own B Γ σ H := ⟨s.sub, s.same, s.old, s.len, s.dat, s.owd, s.apart, s.nt⟩
theorem SR.unwish {W : WX} (s : SR K (F.wish W) own B Γ σ H) : SR K F own B Γ σ H := ⟨s.sub, s.same, s.old, s.len, s.dat, s.owd, s.apart, s.nt⟩
end
/-- the first clause that takes the class -/
def pick : List ((Str → Bool) × (DEnv → Out)) → Str → DEnv → Out
  | [], c, _ => .raise c
  | (p, u) :: r, c, Γ => if p c then u Γ else pick r c Γ
def sTry (te : DEnv → Res D) (known : List Str) (hs : List ((Str → Bool) × (DEnv → Out))) : DEnv → Out := fun Γ => match te Γ with
  | .ok _ => .next Γ
  | .raise c => if c ∈ known then pick hs c Γ else .bad
  | .bad => .bad
def LOk (K : PySem.W.Frag) (F : FR) (own : List Nat) (known : List Str) : List (Value × (Addr → Value → Option Addr → TS)) → List ((Str → Bool) × (DEnv → Out)) → Prop
  | [], [] => True
  | (c, ts) :: l, (p, u) :: hs => (∀ x ∈ known, PySem.W.exmOne K (F.cv x) c = some (p x)) ∧ (∀ a cls d Dn σ H, tS K F own own u Dn σ H → ts a cls d Dn σ H) ∧ LOk K F own known l hs
  | _, _ => False
theorem many_of {K : PySem.W.Frag} {F : FR} {own : List Nat} {known : List Str} {c : Str} (hc : c ∈ known) {Dn : Ends} {B : Hp} {Γ : DEnv} {σ : L2.St} {H : Hp} (s : SR K F own B Γ σ H) : ∀ {l : List (Value × (Addr → Value → Option Addr → TS))} {hs : List ((Str → Bool) × (DEnv → Out))}, LOk K F own known l hs → OPost K F own Dn (pick hs c Γ) B → wMany K F.W Dn l (F.cv c) none σ H
  | [], [], _, p => p σ H s.same
  | (C, ts) :: l, (q, u) :: hs, h, p => by
    obtain ⟨h1, h2, h3⟩ := h
    refine ⟨q c, h1 c hc, fun e a na => h2 _ _ _ _ _ _ ⟨B, Γ, s, ?_⟩, fun e => many_of hc s h3 ?_⟩
    · unfold pick at p
      rwa [if_pos e] at p
    · unfold pick at p
      rwa [if_neg (by rw [e]; exact Bool.false_ne_true)] at p
  | [], _ :: _, h, _ => h.elim
  | _ :: _, [], h, _ => h.elim
section
variable {X : Cx} {F : FR} {own : List Nat}
theorem ds_try {e : Expr} {te : DEnv → Res D} {known : List Str} {h₀ : ExceptHandler} {hds : List ExceptHandler} {l : List (Value × (Addr → Value → Option Addr → TS))} {hs : List ((Str → Bool) × (DEnv → Out))} {p pos : Pos}
    (hX : X.stack = X.env :: X.outer) (hf : X.env.frame = some X.env.locals) (tk : Takes X F.W)
    (hb : ∀ (W : WX) (pn : List (Addr × Obj)) (xe : Value → Shared → Prop), Takes (X.tr pn xe) W → DE (X.tr pn xe) (F.wish W) own .val e te)
    (hh : HdsOk X (h₀ :: hds) l) (hl : LOk X.K F own known l hs) (hsw : ∀ (pn : List (Addr × Obj)) (xe : Value → Shared → Prop), swapsWith e none p.line (X.tr pn xe).env = pure false := by intros; rfl) :
    DS X F own own (.Try [.Expr e p] (h₀ :: hds) [] [] pos) (sTry te known hs) := by
  refine PS.mono (ps_try_many (tb := fun W => tDrop (tD X.K (F.wish W) own .val te)) hX hf tk (fun W pn xe tk' _ => pss_one (ps_expr (hb W pn xe tk') (hsw pn xe))) hh) fun Dn σ H ⟨B, Γ, s, q⟩ => ?_
  unfold tDrop
  refine ⟨B, Γ, s.wish _, ?_⟩
  unfold sTry at q
  cases et : te Γ with
  | bad =>
    rw [et] at q
    exact q.elim
  | ok d =>
    rw [et] at q
    exact fun v H1 B1 s1 g r => q σ H1 B1 s1.unwish (g.same s.sub)
  | raise c =>
    rw [et] at q
    have q : OPost X.K F own Dn (if c ∈ known then pick hs c Γ else .bad) B := q
    by_cases hc : c ∈ known
    · rw [if_pos hc] at q
      exact fun H' h => many_of hc (s.late h) hl q
    · rw [if_neg hc] at q
      exact q.elim
/-- the clauses, each with its suite -/
inductive DHds (X : Cx) (F : FR) (own : List Nat) (known : List Str) : List ExceptHandler → List ((Str → Bool) × (DEnv → Out)) → Prop
  | nil : DHds X F own known [] []
  | cons {x : Str} {c : Value} {b₀ : Stmt} {suite : List Stmt} {np pos' : Pos} {hds : List ExceptHandler} {p : Str → Bool} {u : DEnv → Out} {hs : List ((Str → Bool) × (DEnv → Out))} (hc : Names X x c) (hx : ∀ y ∈ known, PySem.W.exmOne X.K (F.cv y) c = some (p y))
      (hsu : ∀ (a : Addr) (oe : Obj) (pn : List (Addr × Obj)), DSs (X.suite a ((a, oe) :: pn)) F own own (b₀ :: suite) u) (r : DHds X F own known hds hs) : DHds X F own known (.ExceptHandler (some (.Name x np)) none (b₀ :: suite) pos' :: hds) ((p, u) :: hs)
theorem DHds.list {known : List Str} {hds : List ExceptHandler} {hs : List ((Str → Bool) × (DEnv → Out))} (h : DHds X F own known hds hs) : ∃ l, HdsOk X hds l ∧ LOk X.K F own known l hs := by
  induction h with
  | nil => exact ⟨[], .nil, trivial⟩
  | @cons x c b₀ suite np pos' hds p u hs hc hx hsu r ih =>
    obtain ⟨l, h1, h2⟩ := ih
    exact ⟨(c, fun _ _ _ => tS X.K F own own u) :: l, .cons hc (fun a oe cls d pn _ _ => hsu a oe pn) h1, hx, fun _ _ _ _ _ _ z => z, h2⟩
theorem ds_tryC {e : Expr} {te : DEnv → Res D} (known : List Str) {h₀ : ExceptHandler} {hds : List ExceptHandler} {hs : List ((Str → Bool) × (DEnv → Out))} {p pos : Pos} (hX : X.stack = X.env :: X.outer) (hf : X.env.frame = some X.env.locals) (tk : Takes X F.W)
    (hb : ∀ (W : WX) (pn : List (Addr × Obj)) (xe : Value → Shared → Prop), Takes (X.tr pn xe) W → DE (X.tr pn xe) (F.wish W) own .val e te) (hh : DHds X F own known (h₀ :: hds) hs)
    (hsw : ∀ (pn : List (Addr × Obj)) (xe : Value → Shared → Prop), swapsWith e none p.line (X.tr pn xe).env = pure false := by intros; rfl) : DS X F own own (.Try [.Expr e p] (h₀ :: hds) [] [] pos) (sTry te known hs) := by
  obtain ⟨l, h1, h2⟩ := hh.list
  exact ds_try hX hf tk hb h1 h2 hsw
theorem exm_of {K : PySem.W.Frag} {v w C : Value} {b b' : Bool} (e : v = w) (h : PySem.W.exmOne K w C = some b) (hb : b = b') : PySem.W.exmOne K v C = some b' := by
  rw [e, h, hb]
end
end DL

/-! DL: a new list times an int. -/
namespace DL
open PySem PySem.Spec PyProof.Rows L2
variable [TabCx] [WCx]
def repD : D → D → Res D := fun x y => match x, y with
  | .list ds, .int k => if -(2 ^ 63) ≤ k ∧ k < 2 ^ 63 ∧ ds.length * k.toNat ≤ sizeLine then .ok (.list (List.replicate k.toNat ds).flatten) else .bad
  | _, _ => .bad
theorem Reps.rep {K : PySem.W.Frag} {B : Hp} {vs : List V} {ds : List D} (r : Reps K B vs ds) : ∀ n : Nat, Reps K B (List.replicate n vs).flatten (List.replicate n ds).flatten
  | 0 => .nil
  | n + 1 => by
    rw [List.replicate_succ, List.replicate_succ, List.flatten_cons, List.flatten_cons]
    exact r.append (Reps.rep r n)
section
variable {X : Cx} {F : FR} {own : List Nat}
theorem de_rep {a b : Expr} {ta tb : DEnv → Res D} {pos : Pos} (ha : DE X F own .fresh a ta) (hb : DE X F own .val b tb) : DE X F own .fresh (.BinOp a .Mult b pos) (x2 repD ta tb) := PE.mono (pe_op op_rep ha hb) fun σ H Q ⟨B, Γ, s, p⟩ => by
  unfold tOp
  have p : Post X.K F own (RV X.K F own Γ σ .fresh) ((ta Γ).bind fun x => (tb Γ).bind fun y => repD x y) Γ σ H B Q := p
  refine tD_first early_RV s p fun x v H1 B1 s1 g1 r1 p1 => tD_first early_RV s1 p1 fun y w H2 B2 s2 g2 r2 p2 => ?_
  cases x with
  | list ds =>
    cases y with
    | int k =>
      have p2 : Post X.K F own (RV X.K F own Γ σ .fresh) (if -(2 ^ 63) ≤ k ∧ k < 2 ^ 63 ∧ ds.length * k.toNat ≤ sizeLine then .ok (.list (List.replicate k.toNat ds).flatten) else .bad) Γ σ H2 B2 Q := p2
      by_cases h : -(2 ^ 63) ≤ k ∧ k < 2 ^ 63 ∧ ds.length * k.toNat ≤ sizeLine
      · rw [if_pos h] at p2
        obtain ⟨c, o, rfl, n1, h1, r, n0⟩ := r1.1
        cases o with
        | lst xs =>
          have r : Reps X.K B1 xs ds := r
          have r3 : Rep X.K B2 w (.int k) := r2
          cases r3
          have h2 := g2.hp.get h1
          exact ⟨c, k, xs, rfl, rfl, h2, h.1, h.2.1, by rw [r.length]; exact h.2.2, fun q hq => Post.newObj p2 s2 (show ORep X.K B2 _ (.lst _) (.list _) from (r.mono (g2.same s1.sub)).rep _) hq⟩
        | _ => exact r.elim
      · rw [if_neg h] at p2
        exact p2.elim
    | _ => exact p2.elim
  | _ => exact p2.elim
/-- a slice of a list, a new list -/
def slFD (d : D) (l h : Option Int) : Res D := match d with
  | .list ds => .ok (.list (cutD ds l h))
  | _ => .bad
def xSlF (t : DEnv → Res D) (tl th : DEnv → Res (Option Int)) : DEnv → Res D := fun Γ => (t Γ).bind fun d => (tl Γ).bind fun l => (th Γ).bind fun h => slFD d l h
theorem de_slF {e : Expr} {lo hi : Option Expr} {t : DEnv → Res D} {tl th : DEnv → Res (Option Int)} {p2 pos : Pos} (he : DE X F own .bor e t) (hl : DO X F own lo tl) (hh : DO X F own hi th) :
    DE X F own .fresh (.Subscript e (.Slice lo hi none p2) pos) (xSlF t tl th) :=
  PE.mono (pe_slice (sl_list.or (sl_tupA.or sl_str)) he hl hh) fun σ H Q ⟨B, Γ, s, p⟩ => by
    unfold tSl
    refine tD_first early_RV s p fun d v H1 B1 s1 g1 r1 p1 => ?_
    refine tX_first early_RV s1 p1 fun l lv H2 B2 _ s2 g2 el p2 => ?_
    refine tX_first early_RV s2 p2 fun h hv H3 B3 _ s3 g3 eh p3 => ?_
    have el : lv = l := el
    have eh : hv = h := eh
    subst el eh
    have r1 : Bor X.K F B3 H3 v d := Bor.later (Bor.later r1 g2 s1.sub s2.sub) g3 s2.sub s3.sub
    cases d with
    | list ds =>
      obtain ⟨a, xs, rfl, hx, r⟩ := r1.list s3.sub
      exact .inl ⟨a, xs, rfl, hx, fun q hq => Post.newObj p3 s3 (show ORep X.K B3 _ (.lst _) (.list _) from reps_cut r lv hv) hq⟩
    | _ => exact p3.elim
end
end DL

/-! DL: try: f(..) except C as e: return isinstance(e, T). -/
namespace DL
open PySem PySem.Spec PyProof.Rows L2
variable [TabCx] [WCx]
def sTryAs (i : Nat) (te : DEnv → Res D) (known : List Str) (p v : Str → Bool) : DEnv → Out := fun Γ => match te Γ with
  | .ok _ => .next Γ
  | .raise c => if c ∈ known ∧ i < Γ.length then (if p c then .ret (.bool (v c)) else .raise c) else .bad
  | .bad => .bad
section
variable {X : Cx} {F : FR} {own : List Nat}
/-- what the suite wants -/
def tsIs (K : PySem.W.Frag) (i : Nat) (T : String) : Addr → Value → Option Addr → TS := fun a cls d Dn σ H => σ[i]? = some (some (.ref a)) ∧ ∃ (D : Addr) (b : Bool), cls = .ref D ∧ d = none ∧ ExcC K D ∧ PySem.W.kitOne K (.ref D) (.type T) = some b ∧ Dn.rt (.bl b) H
theorem suite_is {i : Nat} {n : Str} {T : String} {q1 q2 q3 q4 q5 : Pos} {a : Addr} {oe : Obj} {cls : Value} {d : Option Addr} {pn : List (Addr × Obj)} (hz : Zc cls d oe) (hf : ∃ vs, oe.data = .fields vs) (hi : X.N[i]? = some n) (hv : Vis X.env.scope n) (hd : (n == ("__debug__" : Str)) = false) (hcd : (n == ("__classdict__" : Str)) = false)
    (hmi : X.mg "isinstance" = none) (hgi : Gl X "isinstance") (hmT : X.mg (PySem.Str.ofString T) = none) (hgT : Gl X (PySem.Str.ofString T)) (hvT : bootBuiltins (PySem.Str.ofString T) = some (.type T)) (hnT : PySem.Str.ofString T ≠ "__name__") (hdT : (PySem.Str.ofString T == ("__debug__" : Str)) = false)
    (he : starEach [.Name n q2, .Name (PySem.Str.ofString T) q3] (X.suite a ((a, oe) :: pn)).env = (false, eval (.Name n q2) (X.suite a ((a, oe) :: pn)).env) :: starEach [.Name (PySem.Str.ofString T) q3] (X.suite a ((a, oe) :: pn)).env := by rfl)
    (he2 : starEach [.Name (PySem.Str.ofString T) q3] (X.suite a ((a, oe) :: pn)).env = (false, eval (.Name (PySem.Str.ofString T) q3) (X.suite a ((a, oe) :: pn)).env) :: starEach [] (X.suite a ((a, oe) :: pn)).env := by rfl)
    (hpl : (backTo q4 (starEach [.Name (PySem.Str.ofString T) q3] (X.suite a ((a, oe) :: pn)).env)).any (·.1) = false := by rfl) :
    PSs (X.suite a ((a, oe) :: pn)) [.Return (some (.Call (.Name "isinstance" q1) [.Name n q2, .Name (PySem.Str.ofString T) q3] [] q4)) q5] (tsIs X.K i T a cls d) := by
  refine ⟨fun pins s σ H Dn I h => ?_⟩
  obtain ⟨h1, D, b, rfl, rfl, hE, hk, h2⟩ := h
  have pe : PE (X.suite a ((a, oe) :: pn)) (.Call (.Name "isinstance" q1) [.Name n q2, .Name (PySem.Str.ofString T) q3] [] q4) _ := pe_callB (call_isE (X := X) (pn := pn) hE hz hf) hgi hmi rfl (pa_cons (pe_var (i := i) hi hv hd hcd) (pa_cons (pe_bltn (v := .ty T) hgT hmT hvT rfl hnT hdT) pa_nil he2) he) (by decide +kernel) (by decide) he hpl
  refine (pss_one (ps_ret (pos := q5) pe)).run pins s σ H Dn I ?_
  exact ⟨.ref a, h1, .ty T, .type T, b, rfl, fun u r => r, hk, h2⟩
theorem ds_tryAs (i : Nat) {e : Expr} {te : DEnv → Res D} (known : List Str) {x n : Str} {T : String} {C : Value} {p v : Str → Bool} {pp np pos' pos q1 q2 q3 q4 q5 : Pos} (hX : X.stack = X.env :: X.outer) (hf : X.env.frame = some X.env.locals) (tk : Takes X F.W) (hN : X.N.Nodup)
    (hb : ∀ (W : WX) (pn : List (Addr × Obj)) (xe : Value → Shared → Prop), Takes (X.tr pn xe) W → DE (X.tr pn xe) (F.wish W) own .val e te) (hc : Names X x C) (hx : ∀ y ∈ known, PySem.W.exmOne X.K (F.cv y) C = some (p y))
    (hk : ∀ y ∈ known, p y = true → ∃ D, F.cv y = .ref D ∧ ExcC X.K D ∧ PySem.W.kitOne X.K (.ref D) (.type T) = some (v y)) (hmi : X.mg "isinstance" = none) (hmT : X.mg (PySem.Str.ofString T) = none) (hvT : bootBuiltins (PySem.Str.ofString T) = some (.type T))
    (hi : X.N[i]? = some n := by rfl) (hln : X.env.kindOf n = some .local := by rfl) (hv : Vis X.env.scope n := by first | exact Or.inl rfl | exact Or.inr (Or.inl rfl) | exact Or.inr (Or.inr rfl)) (hd : (n == ("__debug__" : Str)) = false := by decide) (hcd : (n == ("__classdict__" : Str)) = false := by decide)
    (hgi : Gl X "isinstance" := by rfl) (hgT : Gl X (PySem.Str.ofString T) := by rfl) (hnT : PySem.Str.ofString T ≠ "__name__" := by decide) (hdT : (PySem.Str.ofString T == ("__debug__" : Str)) = false := by decide)
    (hsw : ∀ (pn : List (Addr × Obj)) (xe : Value → Shared → Prop), swapsWith e none pp.line (X.tr pn xe).env = pure false := by intros; rfl) :
    DS X F own own (.Try [.Expr e pp] [.ExceptHandler (some (.Name x np)) (some n) [.Return (some (.Call (.Name "isinstance" q1) [.Name n q2, .Name (PySem.Str.ofString T) q3] [] q4)) q5] pos'] [] [] pos) (sTryAs i te known p v) := by
  refine PS.mono (ps_try_as (i := i) (ts := tsIs X.K i T) (tb := fun W => tDrop (tD X.K (F.wish W) own .val te)) hX hf hN hi hln hc tk (fun W pn xe tk' _ => pss_one (ps_expr (hb W pn xe tk') (hsw pn xe))) fun a oe cls d pn hz hff => suite_is hz hff hi hv hd hcd hmi hgi hmT hgT hvT hnT hdT) fun Dn σ H ⟨B, Γ, s, q⟩ => ?_
  unfold tDrop
  refine ⟨B, Γ, s.wish _, ?_⟩
  unfold sTryAs at q
  cases et : te Γ with
  | bad =>
    rw [et] at q
    exact q.elim
  | ok d =>
    rw [et] at q
    exact fun v H1 B1 s1 g r => q σ H1 B1 s1.unwish (g.same s.sub)
  | raise c =>
    rw [et] at q
    have q : OPost X.K F own Dn (if c ∈ known ∧ i < Γ.length then (if p c then .ret (.bool (v c)) else .raise c) else .bad) B := q
    by_cases hc2 : c ∈ known ∧ i < Γ.length
    · rw [if_pos hc2] at q
      intro H' h
      have s2 := s.late h
      refine ⟨p c, hx c hc2.1, fun e1 a na => ?_, fun e1 => ?_⟩
      · obtain ⟨D, d1, d2, d3⟩ := hk c hc2.1 e1
        rw [if_pos e1] at q
        have hl : i < σ.length := by rw [← s.len]; exact hc2.2
        exact ⟨List.getElem?_set_self hl, D, v c, d1, rfl, d2, d3, q _ H' B s2.fin (.bl _)⟩
      · rw [if_neg (by rw [e1]; exact Bool.false_ne_true)] at q
        exact q σ H' s2.same
    · rw [if_neg hc2] at q
      exact q.elim
end
end DL

/-! DL: xs[k] = v, xs an owned list. -/
namespace DL
open PySem PySem.Spec PyProof.Rows L2
variable [TabCx] [WCx]
def setIx (ds : List D) (v : D) : D → Out → (List D → Out) → Out := fun k no f => match k with
  | .int i => (match ixN ds.length i with | some j => f (ds.set j v) | none => no)
  | _ => no
def sLput (i : Nat) (tk tv : DEnv → Res D) : DEnv → Out := fun Γ => oList Γ[i]? fun ds => oBind (tv Γ) fun v => oBind (tk Γ) fun k => setIx ds v k .bad fun ds' => .next (Γ.set i (some (.list ds')))
theorem Reps.set {K : PySem.W.Frag} {B : Hp} : ∀ {vs : List V} {ds : List D} (j : Nat) {v : V} {d : D}, Reps K B vs ds → Rep K B v d → Reps K B (vs.set j v) (ds.set j d)
  | _, _, _, _, _, .nil, _ => .nil
  | _, _, 0, _, _, .cons _ t, h => .cons h t
  | _, _, j + 1, _, _, .cons r t, h => .cons r (Reps.set j t h)
section
variable {X : Cx} {F : FR} {own : List Nat}
theorem ds_lput (i : Nat) {x : Str} {ek ev : Expr} {tk tv : DEnv → Res D} {p1 p2 pos : Pos} (hv : DE X F own .val ev tv) (hk : DE X F own .val ek tk) (hi : i ∈ own := by decide) (hN : X.N[i]? = some x := by rfl) (hvis : Vis X.env.scope x := by first | exact Or.inl rfl | exact Or.inr (Or.inl rfl) | exact Or.inr (Or.inr rfl)) (hd : (x == ("__debug__" : Str)) = false := by decide) (hcd : (x == ("__classdict__" : Str)) = false := by decide)
    (ha : ∀ v, assign (.Subscript (.Name x p1) ek p2) X.env v = (do
      let ov ← holding [v] (eval (.Name x p1) X.env)
      let iv ← holding [v, ov] (eval ek X.env)
      standAt p2
      holding [v, ov, iv] (setItem ov iv v)
      release [v, ov, iv] []) := by intro _; rfl)
    (hs : swapsWithSole [.Subscript (.Name x p1) ek p2] ev pos.line X.env = pure false := by rfl) (hw : swappedStores [.Subscript (.Name x p1) ek p2] ev X.env = pure none := by rfl) (h1 : (assignEach [.Subscript (.Name x p1) ek p2] X.env).map (·.2) = [assign (.Subscript (.Name x p1) ek p2) X.env] := by rfl) :
    DS X F own own (.Assign [.Subscript (.Name x p1) ek p2] ev pos) (sLput i tk tv) := PS.mono (ps_asg hv (pg_sub (pe_var hN hvis hd hcd) hk set_list ha) hs hw h1) fun Dn σ H ⟨B, Γ, s, p⟩ => by
  unfold tAsg gSub tVar
  unfold sLput at p
  obtain ⟨ds, ei⟩ := oList_of p
  rw [ei] at p
  refine tD_firstO s p fun v z H1 B1 _ s1 g1 sb1 r1 p1 => ?_
  obtain ⟨a, xs, e0, hL, rL⟩ := own_slot s1 hi ei
  refine ⟨.ref a, e0, ?_⟩
  refine tD_firstO s1 p1 fun k y H2 B2 _ s2 g2 sb2 r2 p2 => ?_
  have p2 : OPost X.K F own Dn (setIx ds v k .bad fun ds' => .next (Γ.set i (some (.list ds')))) B2 := p2
  cases k with
  | int n =>
    have r2 : Rep X.K B2 y (.int n) := r2
    cases r2
    have p2 : OPost X.K F own Dn (match ixN ds.length n with | some j => .next (Γ.set i (some (.list (ds.set j v)))) | none => .bad) B2 := p2
    cases hj : ixN ds.length n with
    | none =>
      rw [hj] at p2
      exact p2.elim
    | some j =>
      rw [hj] at p2
      have r1 : Rep X.K B1 z v := r1
      refine ⟨a, xs, n, j, rfl, rfl, g2.hp.get hL, by rw [rL.length]; exact hj, ?_⟩
      exact p2 _ _ B2 (s2.mutate hi ei e0 (show ORep X.K B2 _ (.lst (xs.set j z)) (.list (ds.set j v)) from (rL.mono sb2).set j (r1.mono sb2))) (Same.refl _)
  | _ => exact p2.elim
end
end DL

/-! DL: words over texts. -/
namespace DL
open PySem PySem.Spec PyProof.Rows L2
variable [TabCx] [WCx]
/-- a text times an int -/
def repS (z : Str) (k : Int) : Str := if k < 1 then Str.empty else if (k == 1 || z.length == 0) = true then z else ⟨(List.replicate k.toNat z.cps).foldl (· ++ ·) #[]⟩
def repSC (z : Str) (k : Int) : Bool := decide (-1000 ≤ k ∧ k ≤ 1000 ∧ z.length ≤ 1000 ∧ (repS z k).length ≤ 1000000)
theorem op_repS {X : Cx} : OpR X (binaryOp .Mult) (fun x y H Q => ∃ z k, x = .str z ∧ y = .int k ∧ repSC z k = true ∧ Q (.str (repS z k)) H) := by
  intro pins s σ H x y v u Q I rx ry h
  obtain ⟨z, k, rfl, rfl, hc, q⟩ := h
  obtain ⟨t, rfl⟩ := rx
  obtain ⟨t', rfl⟩ := ry
  obtain ⟨h1, h2, h3, h4⟩ := of_decide_eq_true hc
  have sz2 := sizeLine_eq
  refine PySem.P.mul_str (by rw [decide_eq_false (by omega), decide_eq_false (by omega)]; rfl) (fun g1 g2 => ?_) (fun g1 g2 => ?_) ?_
  · have : (z.length : Int) ≤ 1000 := by omega
    have q1 : 1 ≤ k := by omega
    have q2 : (1000 : Int) ≤ (2 ^ 63 - 1) / k := by
      rw [Int.le_ediv_iff_mul_le (by omega)]
      omega
    omega
  · have : z.length * k.toNat ≤ 1000 * 1000 := Nat.mul_le_mul h3 (by omega)
    exact decide_eq_false (by omega)
  · unfold repS at q h4
    by_cases c1 : k < 1
    · rw [if_pos c1] at q ⊢
      exact ⟨by decide, .str Str.empty, H, I.tok _, ⟨_, rfl⟩, q⟩
    · rw [if_neg c1] at q h4 ⊢
      by_cases c2 : (k == 1 || z.length == 0) = true
      · rw [if_pos c2] at q ⊢
        exact ⟨.str z, H, I, ⟨_, rfl⟩, q⟩
      · rw [if_neg c2] at q h4 ⊢
        exact ⟨by rw [sz2]; omega, .str _, H, I.tok _, ⟨_, rfl⟩, q⟩
end DL

/-! DL: xs.index(x). -/
namespace DL
open PySem PySem.Spec PyProof.Rows L2
variable [TabCx] [WCx]
def indexD : D → D → Res D := fun x y => match x with
  | .list ds => if (PyData.list ds).plain && y.plain && SeqAt.shaped (.list ds) && SeqAt.shaped y then (match ds.findIdx? fun z => PyData.eqv z y with | some j => .ok (.int (j : Nat)) | none => .bad) else .bad
  | _ => .bad
def isL : D → Res D
  | .list ds => .ok (.list ds)
  | _ => .bad
def xIndex (to te : DEnv → Res D) : DEnv → Res D := fun Γ => (to Γ).bind fun x => (isL x).bind fun x => (te Γ).bind fun y => indexD x y
section
variable {X : Cx} {F : FR} {own : List Nat}
theorem de_index {o e : Expr} {to te : DEnv → Res D} {apos cpos : Pos} (hu : X.A.units + 65 < cLine) (ho : DE X F own .bor o to) (he : DE X F own .bor e te)
    (hbase : attributeBase o "index" X.env (eval o X.env) = eval o X.env := by rfl) (hfew : ((backTo cpos (starEach [e] X.env)).all (fun x => !x.1) && (backToKw cpos (keywordEach [] X.env)).all (fun x => x.1.isSome) && decide (([e] : List Expr).length + ([] : List Keyword).length + (if ([] : List Keyword).isEmpty then 0 else 1) < 30)) = true := by rfl)
    (hline : (apos.endLine == cpos.line) = true := by rfl) (hs : starEach [e] X.env = (false, eval e X.env) :: starEach [] X.env := by rfl) (hplain : (backTo cpos (starEach [] X.env)).any (·.1) = false := by rfl) :
    DE X F own .val (.Call (.Attribute o "index" apos) [e] [] cpos) (xIndex to te) := PE.mono (pe_bm PySem.F.plainAttrs_list PySem.F.slot_list_index PySem.F.type_list_index (mt_indexD hu) ho (pa_cons he pa_nil hs) hbase hfew hline hs hplain) fun σ H Q ⟨B, Γ, s, p⟩ => by
  unfold tBM tCons
  refine tD_first early_RV s p fun d v H1 B1 s1 g1 r1 p1 => ?_
  cases d with
  | list ds =>
    obtain ⟨a, xs, rfl, hx, rr⟩ := Bor.list (RV.bor r1) s1.sub
    refine ⟨.inl ⟨rfl, xs, hx⟩, ?_⟩
    refine tD_first early_RV s1 p1 fun y w H2 B2 s2 g2 r2 p2 => ?_
    have p2 : Post X.K F own (RV X.K F own Γ σ .val) (if (PyData.list ds).plain && y.plain && SeqAt.shaped (.list ds) && SeqAt.shaped y then (match ds.findIdx? fun z => PyData.eqv z y with | some j => .ok (.int (j : Nat)) | none => .bad) else .bad) Γ σ H2 B2 Q := p2
    cases hc : ((PyData.list ds).plain && y.plain && SeqAt.shaped (.list ds) && SeqAt.shaped y) with
    | false => rw [hc] at p2; exact p2.elim
    | true =>
      rw [hc] at p2
      simp only [Bool.and_eq_true] at hc
      obtain ⟨⟨⟨c1, c2⟩, c3⟩, c4⟩ := hc
      have rl : Bor X.K F B2 H2 (.ref a) (.list ds) := Bor.later (RV.bor r1) g2 s1.sub s2.sub
      cases hj : ds.findIdx? fun z => PyData.eqv z y with
      | none => rw [hj] at p2; exact p2.elim
      | some j =>
        rw [hj] at p2
        obtain ⟨hlt, h1, h2⟩ := List.findIdx?_eq_some_iff_getElem.mp hj
        refine ⟨a, w, y, ds, j, ds[j], rfl, rfl, Bor.dp s2.sub c1 rl, Bor.dp s2.sub c2 (RV.bor r2), c3, c4, List.getElem?_eq_getElem hlt, h1, fun m z' hm hz => ?_, Post.here p2 s2 (.int _)⟩
        obtain ⟨hml, rfl⟩ := List.getElem?_eq_some_iff.mp hz
        exact Bool.eq_false_iff.mpr (h2 m hm)
  | _ => exact p1.elim
end
end DL

/-! DL: a text times an int; x in a text; the list of a dict's keys. -/
namespace DL
open PySem PySem.Spec PyProof.Rows L2
variable [TabCx] [WCx]
section
variable {X : Cx} {F : FR} {own : List Nat}
theorem units65 {k : Nat} {A : Around} (r : Room k A) : A.units + 65 < cLine := by have := r.un; omega
def repSD : D → D → Res D := fun x y => match x, y with
  | .str z, .int k => if repSC z k then .ok (.str (repS z k)) else .bad
  | _, _ => .bad
theorem opd_repS {K : PySem.W.Frag} : OpD K F own .val (fun x y H Q => ∃ z k, x = .str z ∧ y = .int k ∧ repSC z k = true ∧ Q (.str (repS z k)) H) repSD := fun Γ σ H B x y u v Q s rx ry p => by
  cases x with
  | str z =>
    cases y with
    | int k =>
      have p : Post K F own (RV K F own Γ σ .val) (if repSC z k then Res.ok (PyData.str (repS z k)) else .bad) Γ σ H B Q := p
      cases hc : repSC z k with
      | true => rw [hc] at p; exact ⟨z, k, rx.str, ry.int, hc, Post.here p s (.str _)⟩
      | false => rw [hc] at p; exact p.elim
    | _ => exact p.elim
  | _ => exact p.elim
theorem de_repS {a b : Expr} {ta tb : DEnv → Res D} {pos : Pos} (ha : DE X F own .bor a ta) (hb : DE X F own .bor b tb) : DE X F own .val (.BinOp a .Mult b pos) (x2 repSD ta tb) := de_op2 (pe_op op_repS ha hb) opd_repS
/-! ### x in a text -/
def hasS (z x : Str) : Bool := !(Builtin.Str.occurrences z x 0 z.length 1).isEmpty
def rTin (n : Bool) : R2 := fun x y H Q => ∃ i j, x = .str i ∧ y = .str j ∧ Q (.bl (n != hasS j i)) H
def tinD : D → D → Res D := fun x y => match x, y with
  | .str i, .str j => .ok (.bool (hasS j i))
  | _, _ => .bad
def tninD : D → D → Res D := fun x y => match x, y with
  | .str i, .str j => .ok (.bool (!hasS j i))
  | _, _ => .bad
theorem op_tin : OpR X (compareOp .In) (rTin false) := fun pins s σ H x y v u Q I rx ry ⟨i, j, e1, e2, q⟩ => op_in_str pins s σ H x y v u Q I rx ry ⟨i, j, e1, e2, by
  rw [Bool.false_bne] at q
  exact q⟩
theorem op_tnin : OpR X (compareOp .NotIn) (rTin true) := fun pins s σ H x y v u Q I rx ry ⟨i, j, e1, e2, q⟩ => op_notIn_str pins s σ H x y v u Q I rx ry ⟨i, j, e1, e2, by
  rw [Bool.true_bne] at q
  exact q⟩
theorem opd_tin {K : PySem.W.Frag} : OpD K F own .val (rTin false) tinD := fun Γ σ H B x y u v Q s rx ry p => by
  cases x with
  | str i =>
    cases y with
    | str j => exact ⟨i, j, rx.str, ry.str, by rw [Bool.false_bne]; exact Post.here p s (.bl _)⟩
    | _ => exact p.elim
  | _ => exact p.elim
theorem opd_tnin {K : PySem.W.Frag} : OpD K F own .val (rTin true) tninD := fun Γ σ H B x y u v Q s rx ry p => by
  cases x with
  | str i =>
    cases y with
    | str j => exact ⟨i, j, rx.str, ry.str, by rw [Bool.true_bne]; exact Post.here p s (.bl _)⟩
    | _ => exact p.elim
  | _ => exact p.elim
/-! ### list(d) -/
def lstKD : D → Res D
  | .dict es => if guardK es then .ok (.list (es.map (·.1))) else .bad
  | _ => .bad
theorem repK_list {K : PySem.W.Frag} {B : Hp} : ∀ {kvs : List (Key × V)} {es : List (D × D)}, RepK K B kvs es → Reps K B (kvs.map fun kv => kV kv.1) (es.map (·.1))
  | _, _, .nil => .nil
  | (k, _) :: _, _, .cons r t => .cons (match k with | .inl i => Rep.int i | .inr x => Rep.str x) (repK_list t)
theorem de_lstK {e : Expr} {t : DEnv → Res D} {p pos : Pos} (hc : X.calm = true) (h : DE X F own .bor e t) (hm : X.mg "list" = none) (hg : Gl X "list" := by rfl) (hs : starEach [e] X.env = (false, eval e X.env) :: starEach [] X.env := by rfl) :
    DE X F own .fresh (.Call (.Name "list" p) [e] [] pos) (xCall (on1 lstKD) (xCons t xNil)) := de_bty (call_listD hc) (ca1 fun Γ σ H B v d Q s r p => by
      cases d with
      | dict es =>
        have p : Post X.K F own (RV X.K F own Γ σ .fresh) (if guardK es then .ok (.list (es.map (·.1))) else .bad) Γ σ H B Q := p
        cases g : guardK es with
        | false => rw [g] at p; exact p.elim
        | true =>
          rw [g] at p
          obtain ⟨a, rfl, hd⟩ := r.dict s.sub
          rcases hd with ⟨kvs, h1, rk⟩ | ⟨kvs, h1, rk, n⟩ | ⟨ps, h1, rk, n⟩
          · exact ⟨a, kvs, rfl, h1, fun q hq => Post.newObj p s (show ORep X.K B _ (.lst _) (.list _) from repK_list rk) hq⟩
          · exact (guardK_T rk n g).elim
          · exact (guardK_N rk n g).elim
      | _ => exact p.elim) hm (by decide +kernel) (da_cons h da_nil (hs := hs)) hg (he := hs)
end
end DL

/-! DL: try: f(..) except C as e: x = x + int(isinstance(e, T)). -/
namespace DL
open PySem PySem.Spec PyProof.Rows L2
variable [TabCx] [WCx]
def addSlot (Γ : DEnv) (i j : Nat) (b : Bool) : Out := match Γ[j]? with
  | some (some (.int n)) => .next ((Γ.set j (some (.int (n + if b then 1 else 0)))).set i none)
  | _ => .bad
def sTryAdd (i j : Nat) (te : DEnv → Res D) (known : List Str) (p v : Str → Bool) : DEnv → Out := fun Γ => match te Γ with
  | .ok _ => .next Γ
  | .raise c => if c ∈ known ∧ i < Γ.length then (if p c then addSlot Γ i j (v c) else .raise c) else .bad
  | .bad => .bad
section
variable {X : Cx} {F : FR} {own : List Nat}
/-- what the suite wants -/
def tsAdd (K : PySem.W.Frag) (i j : Nat) (T : String) : Addr → Value → Option Addr → TS := fun a cls d Dn σ H => σ[i]? = some (some (.ref a)) ∧ ∃ (D : Addr) (b : Bool) (n : Int), cls = .ref D ∧ d = none ∧ ExcC K D ∧ PySem.W.kitOne K (.ref D) (.type T) = some b ∧ σ[j]? = some (some (.int n)) ∧ Dn.nx (σ.set j (some (.int (n + if b then 1 else 0)))) H
theorem suite_add {i j : Nat} {n x : Str} {T : String} {q1 q2 q3 q4 q5 q6 q7 q8 q9 q10 : Pos} {a : Addr} {oe : Obj} {cls : Value} {d : Option Addr} {pn : List (Addr × Obj)} (hz : Zc cls d oe) (hf : ∃ vs, oe.data = .fields vs) (hN : X.N.Nodup) (hi : X.N[i]? = some n) (hv : Vis X.env.scope n) (hd : (n == ("__debug__" : Str)) = false) (hcd : (n == ("__classdict__" : Str)) = false)
    (hj : X.N[j]? = some x) (hxv : Vis X.env.scope x) (hxd : (x == ("__debug__" : Str)) = false) (hxcd : (x == ("__classdict__" : Str)) = false) (hxl : Loc X.env.scope x) (hff : X.fn x = true ∨ X.env.scope.names.lookup x = some .local)
    (hmi : X.mg "isinstance" = none) (hgi : Gl X "isinstance") (hmI : X.mg "int" = none) (hgI : Gl X "int") (hmT : X.mg (PySem.Str.ofString T) = none) (hgT : Gl X (PySem.Str.ofString T)) (hvT : bootBuiltins (PySem.Str.ofString T) = some (.type T)) (hnT : PySem.Str.ofString T ≠ "__name__") (hdT : (PySem.Str.ofString T == ("__debug__" : Str)) = false)
    (he : starEach [.Name n q2, .Name (PySem.Str.ofString T) q3] (X.suite a ((a, oe) :: pn)).env = (false, eval (.Name n q2) (X.suite a ((a, oe) :: pn)).env) :: starEach [.Name (PySem.Str.ofString T) q3] (X.suite a ((a, oe) :: pn)).env := by rfl)
    (he2 : starEach [.Name (PySem.Str.ofString T) q3] (X.suite a ((a, oe) :: pn)).env = (false, eval (.Name (PySem.Str.ofString T) q3) (X.suite a ((a, oe) :: pn)).env) :: starEach [] (X.suite a ((a, oe) :: pn)).env := by rfl)
    (hpl : (backTo q4 (starEach [.Name (PySem.Str.ofString T) q3] (X.suite a ((a, oe) :: pn)).env)).any (·.1) = false := by rfl)
    (he3 : starEach [.Call (.Name "isinstance" q1) [.Name n q2, .Name (PySem.Str.ofString T) q3] [] q4] (X.suite a ((a, oe) :: pn)).env = (false, eval (.Call (.Name "isinstance" q1) [.Name n q2, .Name (PySem.Str.ofString T) q3] [] q4) (X.suite a ((a, oe) :: pn)).env) :: starEach [] (X.suite a ((a, oe) :: pn)).env := by rfl)
    (hsw : swapsWith (.BinOp (.Name x q5) .Add (.Call (.Name "int" q6) [.Call (.Name "isinstance" q1) [.Name n q2, .Name (PySem.Str.ofString T) q3] [] q4] [] q7) q8) (some (.Name x q9)) q10.line (X.suite a ((a, oe) :: pn)).env = pure false := by rfl) :
    PSs (X.suite a ((a, oe) :: pn)) [.Assign [.Name x q9] (.BinOp (.Name x q5) .Add (.Call (.Name "int" q6) [.Call (.Name "isinstance" q1) [.Name n q2, .Name (PySem.Str.ofString T) q3] [] q4] [] q7) q8) q10] (tsAdd X.K i j T a cls d) := by
  refine ⟨fun pins s σ H Dn I h => ?_⟩
  obtain ⟨h1, D, b, m, rfl, rfl, hE, hk, h2, h3⟩ := h
  have pe : PE (X.suite a ((a, oe) :: pn)) (.Call (.Name "isinstance" q1) [.Name n q2, .Name (PySem.Str.ofString T) q3] [] q4) _ := pe_callB (call_isE (X := X) (pn := pn) hE hz hf) hgi hmi rfl (pa_cons (pe_var (i := i) hi hv hd hcd) (pa_cons (pe_bltn (v := .ty T) hgT hmT hvT rfl hnT hdT) pa_nil he2) he) (by decide +kernel) (by decide) he hpl
  have pi : PE (X.suite a ((a, oe) :: pn)) (.Call (.Name "int" q6) [.Call (.Name "isinstance" q1) [.Name n q2, .Name (PySem.Str.ofString T) q3] [] q4] [] q7) _ := pe_callTy call_int1 hgI hmI (by decide +kernel) (pa_cons pe pa_nil he3) (he := he3)
  refine (pss_one (ps_set (X := X.suite a ((a, oe) :: pn)) (i := j) hN hj hxl (pe_op op_add (pe_var (i := j) hj hxv hxd hxcd) pi) hsw hff)).run pins s σ H Dn I ?_
  exact ⟨.int m, h2, .ref a, h1, .ty T, .type T, b, rfl, fun u r => r, hk, .inr ⟨b, rfl, m, if b then 1 else 0, rfl, rfl, h3⟩⟩
theorem ds_tryAdd (i j : Nat) {e : Expr} {te : DEnv → Res D} (known : List Str) {x n y : Str} {T : String} {C : Value} {p v : Str → Bool} {pp np pos' pos q1 q2 q3 q4 q5 q6 q7 q8 q9 q10 : Pos} (hX : X.stack = X.env :: X.outer) (hf : X.env.frame = some X.env.locals) (tk : Takes X F.W) (hN : X.N.Nodup)
    (hb : ∀ (W : WX) (pn : List (Addr × Obj)) (xe : Value → Shared → Prop), Takes (X.tr pn xe) W → DE (X.tr pn xe) (F.wish W) own .val e te) (hc : Names X x C) (hx : ∀ y ∈ known, PySem.W.exmOne X.K (F.cv y) C = some (p y))
    (hk : ∀ y ∈ known, p y = true → ∃ D, F.cv y = .ref D ∧ ExcC X.K D ∧ PySem.W.kitOne X.K (.ref D) (.type T) = some (v y)) (hmi : X.mg "isinstance" = none) (hmT : X.mg (PySem.Str.ofString T) = none) (hmI : X.mg "int" = none) (hvT : bootBuiltins (PySem.Str.ofString T) = some (.type T))
    (hio : i ∉ own := by decide) (hjo : j ∉ own := by decide) (hij : i ≠ j := by decide)
    (hi : X.N[i]? = some n := by rfl) (hln : X.env.kindOf n = some .local := by rfl) (hv : Vis X.env.scope n := by first | exact Or.inl rfl | exact Or.inr (Or.inl rfl) | exact Or.inr (Or.inr rfl)) (hd : (n == ("__debug__" : Str)) = false := by decide) (hcd : (n == ("__classdict__" : Str)) = false := by decide)
    (hj : X.N[j]? = some y := by rfl) (hyv : Vis X.env.scope y := by first | exact Or.inl rfl | exact Or.inr (Or.inl rfl) | exact Or.inr (Or.inr rfl)) (hyd : (y == ("__debug__" : Str)) = false := by decide) (hycd : (y == ("__classdict__" : Str)) = false := by decide) (hyl : Loc X.env.scope y := by first | exact .inl rfl | exact .inr rfl) (hff : X.fn y = true ∨ X.env.scope.names.lookup y = some .local := by first | exact .inl rfl | exact .inr rfl)
    (hgi : Gl X "isinstance" := by rfl) (hgI : Gl X "int" := by rfl) (hgT : Gl X (PySem.Str.ofString T) := by rfl) (hnT : PySem.Str.ofString T ≠ "__name__" := by decide) (hdT : (PySem.Str.ofString T == ("__debug__" : Str)) = false := by decide)
    (hsw : ∀ (pn : List (Addr × Obj)) (xe : Value → Shared → Prop), swapsWith e none pp.line (X.tr pn xe).env = pure false := by intros; rfl) :
    DS X F own own (.Try [.Expr e pp] [.ExceptHandler (some (.Name x np)) (some n) [.Assign [.Name y q9] (.BinOp (.Name y q5) .Add (.Call (.Name "int" q6) [.Call (.Name "isinstance" q1) [.Name n q2, .Name (PySem.Str.ofString T) q3] [] q4] [] q7) q8) q10] pos'] [] [] pos) (sTryAdd i j te known p v) := by
  refine PS.mono (ps_try_as (i := i) (ts := tsAdd X.K i j T) (tb := fun W => tDrop (tD X.K (F.wish W) own .val te)) hX hf hN hi hln hc tk (fun W pn xe tk' _ => pss_one (ps_expr (hb W pn xe tk') (hsw pn xe))) fun a oe cls d pn hz hff' => suite_add hz hff' hN hi hv hd hcd hj hyv hyd hycd hyl hff hmi hgi hmI hgI hmT hgT hvT hnT hdT) fun Dn σ H ⟨B, Γ, s, q⟩ => ?_
  unfold tDrop
  refine ⟨B, Γ, s.wish _, ?_⟩
  unfold sTryAdd at q
  cases et : te Γ with
  | bad =>
    rw [et] at q
    exact q.elim
  | ok d =>
    rw [et] at q
    exact fun v H1 B1 s1 g r => q σ H1 B1 s1.unwish (g.same s.sub)
  | raise c =>
    rw [et] at q
    have q : OPost X.K F own Dn (if c ∈ known ∧ i < Γ.length then (if p c then addSlot Γ i j (v c) else .raise c) else .bad) B := q
    by_cases hc2 : c ∈ known ∧ i < Γ.length
    · rw [if_pos hc2] at q
      intro H' h
      have s2 := s.late h
      refine ⟨p c, hx c hc2.1, fun e1 a na => ?_, fun e1 => ?_⟩
      · obtain ⟨D, d1, d2, d3⟩ := hk c hc2.1 e1
        rw [if_pos e1] at q
        have hl : i < σ.length := by rw [← s.len]; exact hc2.2
        unfold addSlot at q
        split at q
        · rename_i n ej
          obtain ⟨w, ew, rw⟩ := s2.dat j (.int n) hjo ej
          have ew' : w = .int n := by cases rw; rfl
          subst ew'
          have q : ∀ σ1 H1 B1, SR X.K F own B1 ((Γ.set j (some (.int (n + if v c then 1 else 0)))).set i none) σ1 H1 → Same B B1 → Dn.nx σ1 H1 := q
          have s3 := (s2.set (v := .int (n + if v c then 1 else 0)) (d := .int (n + if v c then 1 else 0)) hjo (.int _)).unset hio
          refine ⟨List.getElem?_set_self hl, D, v c, n, d1, rfl, d2, d3, by rw [List.getElem?_set_ne hij]; exact ew, ?_⟩
          show Dn.nx (((σ.set i (some (.ref a))).set j (some (.int (n + if v c then 1 else 0)))).set i none) H'
          rw [List.set_comm _ _ hij, List.set_set]
          exact q _ _ _ s3 (Same.refl _)
        · exact q.elim
      · rw [if_neg (by rw [e1]; exact Bool.false_ne_true)] at q
        exact q σ H' s2.same
    · rw [if_neg hc2] at q
      exact q.elim
end
end DL

/-! DL: defs that tell a new object; xs[::-1]. -/
namespace DL
open PySem PySem.Spec PyProof.Rows L2
variable [TabCx] [WCx]
/-- a new object in whole -/
def NewV (K : PySem.W.Frag) (H B' H' : Hp) (v : V) (d : D) : Prop := ∃ a o, v = .ref a ∧ B' a = none ∧ H' a = some o ∧ ORep K B' a o d ∧ H a = none
def spDF (K : PySem.W.Frag) (cv : Str → Value) (n : Nat) (f : List D → Res D) : Sp := fun vs H Q E => ∃ B ds, Same B H ∧ LamX.Tabs TabCx.T H ∧ (∀ a ps, B a ≠ some (.tbl ps)) ∧ Reps K B vs ds ∧ vs.length = n ∧ match f ds with
  | .ok d => ∀ v H' B', Sm H H' → Same B' H' → (∀ a, H a ≠ none → B' a = B a) → (∀ a ps, B' a ≠ some (.tbl ps)) → NewV K H B' H' v d → Q v H'
  | .raise c => ∀ H', Sm H H' → E (cv c) none H'
  | .bad => False
def OPostF (K : PySem.W.Frag) (F : FR) (own : List Nat) (Dn : Ends) (o : Out) (B : Hp) : Prop := match o with
  | .next _ => False
  | .ret d => ∀ v H' B', Fin F B' H' → NewV K F.H0 B' H' v d → Dn.rt v H'
  | .raise c => ∀ σ' H', Sm F.H0 H' → F.W (F.cv c) none σ' H'
  | .bad => False
def tSF (K : PySem.W.Frag) (F : FR) (own own' : List Nat) (t : DEnv → Out) : TS := fun Dn σ H => ∃ B Γ, SR K F own B Γ σ H ∧ OPostF K F own' Dn (t Γ) B
abbrev DSsF (X : Cx) (F : FR) (own own' : List Nat) (st : List Stmt) (t : DEnv → Out) : Prop := PSs X st (tSF X.K F own own' t)
/-- what never tells a value -/
def NoRet (t : DEnv → Out) : Prop := ∀ Γ d, t Γ ≠ .ret d
/-- what never comes to its end -/
def NoNext (t : DEnv → Out) : Prop := ∀ Γ Γ', t Γ ≠ .next Γ'
theorem nn_ret {te : DEnv → Res D} : NoNext (sRet te) := fun Γ Γ' z => by
  unfold sRet at z
  cases e : te Γ <;> rw [e] at z <;> exact nomatch z
theorem nn_seq {t u : DEnv → Out} (h : NoNext u) : NoNext (sSeq t u) := fun Γ Γ' z => by
  unfold sSeq at z
  cases e : t Γ with
  | next Γ1 => rw [e] at z; exact h _ _ z
  | ret d => rw [e] at z; exact nomatch z
  | raise c => rw [e] at z; exact nomatch z
  | bad => rw [e] at z; exact nomatch z
theorem nr_nil : NoRet sNil := fun _ _ z => nomatch z
theorem nr_raise {c : Str} : NoRet (sRaise c) := fun _ _ z => nomatch z
theorem nr_if {c : DEnv → Res Bool} {t u : DEnv → Out} (h : NoRet t) (k : NoRet u) : NoRet (sIf c t u) := fun Γ d z => by
  unfold sIf at z
  cases e : c Γ with
  | ok b =>
    rw [e] at z
    have z : (if b = true then t Γ else u Γ) = .ret d := z
    cases b with
    | true => exact h Γ d z
    | false => exact k Γ d z
  | raise c => rw [e] at z; exact nomatch z
  | bad => rw [e] at z; exact nomatch z
section
variable {X : Cx} {F : FR} {own o1 o2 o3 : List Nat}
theorem dssF_cons {st : Stmt} {rest : List Stmt} {t u : DEnv → Out} (h1 : DS X F o1 o2 st t) (h2 : DSsF X F o2 o3 rest u) (nr : NoRet t) : DSsF X F o1 o3 (st :: rest) (sSeq t u) := PSs.mono (pss_cons h1 h2) fun Dn σ H ⟨B, Γ, s, p⟩ => by
  refine ⟨B, Γ, s, ?_⟩
  unfold sSeq at p
  cases e : t Γ with
  | next Γ' =>
    rw [e] at p
    exact fun σ' H' B' s' b => ⟨B', Γ', s', p⟩
  | ret d => exact absurd e (nr Γ d)
  | raise c => rw [e] at p; exact p
  | bad => rw [e] at p; exact p
theorem dssF_ret {e : Expr} {te : DEnv → Res D} {pos : Pos} (he : DE X F own .fresh e te) : DSsF X F own o2 [.Return (some e) pos] (sRet te) := PSs.mono (pss_one (ps_ret he)) fun Dn σ H ⟨B, Γ, s, p⟩ => by
  unfold tRet
  refine ⟨B, Γ, s, ?_⟩
  unfold sRet at p
  cases e : te Γ with
  | ok d =>
    rw [e] at p
    intro v H1 B1 s1 g r
    obtain ⟨a, o, rfl, n1, h1, r1, n0⟩ := r.1
    exact p _ H1 B1 s1.fin ⟨a, o, rfl, n1, h1, r1, n0⟩
  | raise c =>
    rw [e] at p
    exact fun H1 h => p σ H1 (s.same.trans h)
  | bad =>
    rw [e] at p
    exact p.elim
theorem de_callF {k n : Nat} {f : Addr} {fd : FuncData} {ps : List Str} {x : Str} {g : List D → Res D} {e : Expr} {es : List Expr} {t : DEnv → Res (List D)} {p pos : Pos} (Fn : FnOk X.prog X.w X.K X.mg X.base (L2.CX X.prog X.w) k f fd ps (spDF X.K F.cv n g)) (hr : Room k X.A) (hm : X.mg x = some (.ref f))
    (hk : PySem.W.keepIn X.K (.ref f) = true) (hb : Binds X.K fd ps []) (tk : Takes X F.W) (ha : DA X F own .val (e :: es) t) (hl : ∀ Γ ds, t Γ = .ok ds → ds.length = n) (hg : Gl X x := by rfl) (hdb : (x == ("__debug__" : Str)) = false := by decide)
    (he : starEach (e :: es) X.env = (false, eval e X.env) :: starEach es X.env := by rfl) (hpl : (backTo pos (starEach es X.env)).any (·.1) = false := by rfl) : DE X F own .fresh (.Call (.Name x p) (e :: es) [] pos) (xCall g t) :=
  PE.mono (pe_callS Fn hr hg hm hk hb (fun σ => passAt tk σ) ha hdb he hpl) fun σ H Q ⟨B, Γ, s, p⟩ => by
    unfold tCallS
    refine tA_first early_RV s p fun x v H1 B1 e1 s1 g1 r1 p1 => ⟨B1, x, s1.sub, s1.tab, s1.nt, r1.reps, by rw [r1.length]; exact hl Γ x e1, ?_⟩
    cases eg : g x with
    | bad => rw [eg] at p1; exact p1
    | raise c => rw [eg] at p1; exact p1
    | ok d =>
      rw [eg] at p1
      intro v2 H2 B2 sm sub fz nt r2
      have gr : Grow B1 H1 B2 H2 := ⟨sm, fz⟩
      obtain ⟨a, o, rfl, n1, h1, r, n0⟩ := r2
      refine p1 _ H2 B2 (s1.after gr sub nt) gr ⟨⟨a, o, rfl, n1, h1, r, ?_⟩, fun i d' hi e' z => ?_, fun b eb => ?_⟩
      · cases q : F.H0 a with
        | none => rfl
        | some u => exact absurd n0 (s1.same.ne a (by rw [q]; exact fun z => nomatch z))
      · obtain ⟨w, e2, b, u, rfl, _, h2, _⟩ := s1.owd i d' hi e'
        rw [e2] at z
        cases z
        rw [h2] at n0
        cases n0
      · cases eb
        exact n0
/-! ### xs[::-1] -/
def revD : D → Res D
  | .list ds => .ok (.list ds.reverse)
  | _ => .bad
theorem Reps.rev {K : PySem.W.Frag} {B : Hp} : ∀ {vs : List V} {ds : List D}, Reps K B vs ds → Reps K B vs.reverse ds.reverse
  | _, _, .nil => .nil
  | _, _, .cons r t => by
    rw [List.reverse_cons, List.reverse_cons]
    exact Reps.append (Reps.rev t) (.cons r .nil)
theorem de_revL {e : Expr} {t : DEnv → Res D} {k : Nat} {p1 p2 p3 pos : Pos} (he : DE X F own .bor e t) : DE X F own .fresh (.Subscript e (.Slice none none (some (.UnaryOp .USub (.Constant (.int 1) k p1) p2)) p3) pos) (x1 revD t) :=
  PE.mono (pe_revL he) fun σ H Q ⟨B, Γ, s, p⟩ => by
    unfold tRevL
    refine tD_first early_RV s p fun d v H1 B1 s1 g1 r1 p1 => ?_
    have r1 : Bor X.K F B1 H1 v d := r1
    cases d with
    | list ds =>
      obtain ⟨a, xs, rfl, hx, r⟩ := r1.list s1.sub
      exact ⟨a, xs, rfl, hx, fun q hq => Post.newObj p1 s1 (show ORep X.K B1 _ (.lst _) (.list _) from Reps.rev r) hq⟩
    | _ => exact p1.elim
end
section
variable {P : Program} {w : World} {K : PySem.W.Frag} {mg : Str → Option Value} {base : Heap}
theorem fn_okF {x qual : Str} {st : Stmt} {f : Addr} {fd : FuncData} {N ps : List Str} {k : Nat} {cv : Str → Value} {t : DEnv → Out} {own : List Nat} {n m : Nat} (Fn : Fun K x qual st f fd) (S : FnScope N ps (defScope st))
    (hb : ∀ (cdv : Value) (A : Around) (outer : List PySem.Env) (s : Shared) (H B : Hp) (E : XK) (tab : LamX.Tabs TabCx.T H) (nb : ∀ a ps, B a ≠ some (.tbl ps)), fd.code = cdv → Room k (A.deeper (envOfC qual (defScope st) s.heap.objs.size f cdv)) →
      DSsF (cxOf (L2.CX P w) P w K mg base N qual (defScope st) f cdv A outer s H E) (frOf cv E H B tab) [] own (defBody st) t) (nn : NoNext t) (hn : N.length = n := by rfl) (hm : ps.length = m := by rfl) :
    FnOk P w K mg base (L2.CX P w) (k + 1) f fd ps (spDF K cv m (runF n t)) := by
  subst hn hm
  obtain ⟨oc, od, kV, doc, pm, an, cdv, ct, osl, rfl, lk, hcd⟩ := Fn.ex
  refine fn_of lk hcd S (fun vs H Q E ⟨_, _, _, _, _, _, h, _⟩ => h) fun A outer s H vs Q E hr ⟨B, ds, sub, tab, nb, r, hl, p⟩ => ⟨_, hb cdv A outer s H B E tab nb rfl hr, B, envOf N.length ds, sr_start sub r rfl rfl nb N rfl, ?_⟩
  unfold runF at p
  cases e : t (envOf N.length ds) with
  | next Γ =>
    exact absurd e (nn _ Γ)
  | ret d =>
    rw [e] at p
    exact fun v H' B' fi r' => p v H' B' fi.same fi.sub fi.old fi.nt r'
  | raise c =>
    rw [e] at p
    exact fun σ' H' h => p H' h
  | bad =>
    rw [e] at p
    exact p.elim
end
end DL

/-! DL: {k: v, ..}, enumerate(list), reversed(list), is True. -/
namespace DL
open PySem PySem.Spec PyProof.Rows L2
variable [TabCx] [WCx]
/-! ### displays of dicts -/
abbrev Prs := List ((DEnv → Res D) × (DEnv → Res D))
def xPairs : Prs → DEnv → Res (List (D × D))
  | [], _ => .ok []
  | p :: r, Γ => (p.1 Γ).bind fun k => (p.2 Γ).bind fun v => (xPairs r Γ).bind fun ps => .ok ((k, v) :: ps)
abbrev trP (K : PySem.W.Frag) (F : FR) (own : List Nat) (l : Prs) : List (TE × TE) := l.map fun p => (tD K F own .val p.1, tD K F own .val p.2)
abbrev DPP (X : Cx) (F : FR) (own : List Nat) (pos : Pos) (keys : List (Option Expr)) (values : List Expr) (l : Prs) : Prop := PPs X pos keys values (trP X.K F own l)
abbrev RPs (K : PySem.W.Frag) (B : Hp) : List (V × V) → List (D × D) → Prop := Paired fun p q => Rep K B p.1 q.1 ∧ Rep K B p.2 q.2
def dispD (ds : List (D × D)) : Res D := if ds.all (fun p => (keyOf p.1).isSome) && decide (ds.length ≤ 15) then .ok (.dict (ds.foldl (fun es p => dPut es p.1 p.2) [])) else .bad
def xDisp (l : Prs) : DEnv → Res D := fun Γ => (xPairs l Γ).bind dispD
section
variable {X : Cx} {F : FR} {own : List Nat}
theorem dpp_nil {pos : Pos} : DPP X F own pos [] [] [] := pps_nil
theorem dpp_cons {pos : Pos} {k v : Expr} {ks : List (Option Expr)} {vs : List Expr} {tk tv : DEnv → Res D} {l : Prs} (hk : DE X F own .val k tk) (hv : DE X F own .val v tv) (hr : DPP X F own pos ks vs l) : DPP X F own pos (some k :: ks) (v :: vs) ((tk, tv) :: l) := pps_cons hk hv hr
theorem pairs_first {K : PySem.W.Frag} {γ β' : Type} {rv' : Hp → Hp → Hp → β' → γ → Prop} (er : Early rv') {Γ : DEnv} {σ : L2.St} {Q : β' → Hp → Prop} : ∀ (l : Prs) (f : List (D × D) → Res γ) {B H : Hp} {R : List (V × V) → Hp → Prop}, SR K F own B Γ σ H → Post K F own rv' ((xPairs l Γ).bind f) Γ σ H B Q →
    (∀ ds vs H1 B1, xPairs l Γ = .ok ds → SR K F own B1 Γ σ H1 → Grow B H B1 H1 → RPs K B1 vs ds → R vs H1) → tPairs (trP K F own l) σ H R
  | [], f, B, H, R, s, p, k => k [] [] H B rfl s Grow.refl .nil
  | (tk, tv) :: l, f, B, H, R, s, p, k => by
    show tD K F own .val tk σ H fun x H1 => tD K F own .val tv σ H1 fun y H2 => tPairs (trP K F own l) σ H2 fun ps H3 => R ((x, y) :: ps) H3
    have e1 : ((xPairs ((tk, tv) :: l) Γ).bind f) = (tk Γ).bind fun a => (tv Γ).bind fun b => (xPairs l Γ).bind fun ps => f ((a, b) :: ps) := by
      show (((tk Γ).bind fun a => (tv Γ).bind fun b => (xPairs l Γ).bind fun ps => .ok ((a, b) :: ps)).bind f) = _
      cases tk Γ with
      | ok a =>
        cases tv Γ with
        | ok b =>
          cases xPairs l Γ <;> rfl
        | raise c => rfl
        | bad => rfl
      | raise c => rfl
      | bad => rfl
    rw [e1] at p
    refine tX_first er s p fun a x H1 B1 ea s1 g1 r1 p1 => ?_
    refine tX_first er s1 p1 fun b y H2 B2 eb s2 g2 r2 p2 => ?_
    have r1 : Rep K B1 x a := r1
    have r2 : Rep K B2 y b := r2
    refine pairs_first er l (fun ps => f ((a, b) :: ps)) s2 p2 fun ds vs H3 B3 el s3 g3 r3 => ?_
    exact k ((a, b) :: ds) ((x, y) :: vs) H3 B3 (by show ((tk Γ).bind fun a => (tv Γ).bind fun b => (xPairs l Γ).bind fun ps => Res.ok ((a, b) :: ps)) = _; rw [ea]; show ((tv Γ).bind fun b => (xPairs l Γ).bind fun ps => Res.ok ((a, b) :: ps)) = _; rw [eb]; show ((xPairs l Γ).bind fun ps => Res.ok ((a, b) :: ps)) = _; rw [el]; rfl) s3 ((g1.trans g2).trans g3) (.cons ⟨(r1.mono (g2.same s1.sub)).mono (g3.same s2.sub), r2.mono (g3.same s2.sub)⟩ r3)
theorem keys_of_pairs {K : PySem.W.Frag} {B : Hp} : ∀ {ds : List (D × D)} {vs : List (V × V)}, RPs K B vs ds → ds.all (fun p => (keyOf p.1).isSome) = true → ∃ kvs : List (Key × V), vs = kvs.map (fun kv => (kV kv.1, kv.2)) ∧ RepK K B kvs (kvs.map (fun kv => kD kv.1) |>.zip (ds.map (·.2))) ∧ kvs.length = ds.length ∧ ds = (kvs.map (fun kv => kD kv.1)).zip (ds.map (·.2))
  | [], _, .nil, _ => ⟨[], rfl, .nil, rfl, rfl⟩
  | d :: ds, _, .cons r t, h => by
    rw [List.all_cons, Bool.and_eq_true] at h
    obtain ⟨kvs, e1, e2, e3, e4⟩ := keys_of_pairs t h.2
    obtain ⟨k, ek⟩ := Option.isSome_iff_exists.mp h.1
    rename_i v vs
    obtain ⟨v1, v2⟩ := v
    obtain ⟨r1, r2⟩ := r
    have ed : d.1 = kD k := keyOf_eq ek
    have ev : v1 = kV k := rep_kD (by rw [← ed]; exact r1)
    refine ⟨(k, v2) :: kvs, by rw [List.map_cons, ← e1, ev], ?_, by rw [List.length_cons, List.length_cons, e3], ?_⟩
    · rw [List.map_cons, List.map_cons, List.zip_cons_cons]
      exact .cons r2 e2
    · rw [List.map_cons, List.map_cons, List.zip_cons_cons, ← e4, ← ed]
theorem merge_rep {K : PySem.W.Frag} {B : Hp} : ∀ {more : List (Key × V)} {ds : List (D × D)} {kvs : List (Key × V)} {es : List (D × D)}, RepK K B more ds → RepK K B kvs es → RepK K B (mergeK kvs more) (ds.foldl (fun es p => dPut es p.1 p.2) es)
  | _, _, _, _, .nil, h => h
  | (k, v) :: _, _, _, _, .cons r t, h => by
    have := merge_rep t (RepK.put k r h)
    exact this
/-- an own object that no slot holds is changed -/
theorem SR.side {K : PySem.W.Frag} {B H : Hp} {Γ : DEnv} {σ : L2.St} {a : Addr} {o o' : HO} (s : SR K F own B Γ σ H) (h : H a = some o) (n : B a = none) (h0 : F.H0 a = none) (na : ∀ i d, i ∈ own → Γ[i]? = some (some d) → σ[i]? ≠ some (some (.ref a))) (nt : ∀ ps, o ≠ .tbl ps) (nx : ∀ φ, o ≠ .ext φ) : SR K F own B Γ σ (upd H a o') :=
  ⟨fun b x e => by rw [upd_ne (ne_of_none e n)]; exact s.sub b x e, s.same.mut h0 h nt nx, s.old, s.len, s.dat, fun i d hi e => by
    obtain ⟨v, e1, b, u, rfl, n1, h1, r, n0⟩ := s.owd i d hi e
    have hb : b ≠ a := fun z => na i d hi e (z ▸ e1)
    exact ⟨_, e1, b, u, rfl, n1, by rw [upd_ne hb]; exact h1, r, n0⟩, s.apart, s.nt⟩
theorem de_disp {keys : List (Option Expr)} {values : List Expr} {l : Prs} {pos : Pos} (h : DPP X F own pos keys values l) (hall : keys.all (·.isSome) = true := by rfl) (hl : keys.length = values.length := by rfl) (h0 : keys ≠ [] := by exact fun z => nomatch z) (h15 : keys.length ≤ 15 := by decide) : DE X F own .fresh (.Dict keys values pos) (xDisp l) :=
  PE.mono (pe_disp h hall hl h0 h15) fun σ H Q ⟨B, Γ, s, p⟩ => by
    unfold tDisp
    intro q hq
    unfold xDisp at p
    have s0 := s.grown (o := .dK []) hq
    have g0 : Grow B H B (upd H q (.dK [])) := grow_new hq
    refine pairs_first early_RV l dispD s0 (Post.mono early_RV p g0) fun ds vs H1 B1 el s1 g1 r1 => ?_
    have hq1 : H1 q = some (.dK []) := g1.hp.obj _ _ upd_same (by intro ps z; cases z)
    have nB : B1 q = none := by
      rw [g1.fz q (by rw [upd_same]; exact fun z => nomatch z)]
      exact s.noB hq
    refine ⟨hq1, ?_⟩
    rw [el] at p
    have p : Post X.K F own (RV X.K F own Γ σ .fresh) (if ds.all (fun p => (keyOf p.1).isSome) && decide (ds.length ≤ 15) then .ok (.dict (ds.foldl (fun es p => dPut es p.1 p.2) [])) else .bad) Γ σ H B Q := p
    cases c : ds.all (fun p => (keyOf p.1).isSome) && decide (ds.length ≤ 15) with
    | false =>
      rw [c] at p
      exact p.elim
    | true =>
      rw [c] at p
      rw [Bool.and_eq_true, decide_eq_true_iff] at c
      obtain ⟨kvs, e1, e2, e3, e4⟩ := keys_of_pairs r1 c.1
      rw [← e4] at e2
      refine ⟨kvs, e1, by rw [e3]; exact c.2, ?_⟩
      have s2 : SR X.K F own B1 Γ σ (upd H1 q (.dK (mergeK [] kvs))) := s1.side hq1 nB (s.no0 hq) (s.noS hq) (by intro ps z; cases z) (by intro φ z; cases z)
      have gg := g0.trans g1
      have sm : Sm H (upd H1 q (.dK (mergeK [] kvs))) := gg.hp.mut hq hq1 (by intro ps z; cases z) (by intro φ z; cases z)
      exact p _ _ B1 s2 ⟨sm, gg.fz⟩ ⟨⟨q, _, rfl, nB, upd_same, show RepK X.K B1 _ _ from merge_rep e2 .nil, s.no0 hq⟩, s.noS hq, fun a e => by cases e; exact hq⟩
end
/-! ### enumerate, reversed -/
def enumD : D → Res (List D)
  | .list ds => .ok ((List.range ds.length).zipWith (fun (i : Nat) d => .tuple [.int i, d]) ds)
  | _ => .bad
def xEnum (t : DEnv → Res D) : DEnv → Res (List D) := fun Γ => (t Γ).bind enumD
theorem iter_enum {K : PySem.W.Frag} {B : Hp} {a : Addr} {xs : List V} {ds : List D} (h : SqL K B a xs) (r : Reps K B xs ds) : IterOk K (Ite K a) B ((List.range ds.length).zipWith (fun (i : Nat) d => .tuple [.int i, d]) ds) where
  go := fun i H sub hi => by
    rw [List.length_zipWith, List.length_range, Nat.min_self] at hi
    exact ⟨xs, xs[i]'(by rw [r.length]; exact hi), sqL_mono sub h, List.getElem?_eq_getElem _⟩
  stop := fun i H sub hi => by
    rw [List.length_zipWith, List.length_range, Nat.min_self] at hi
    exact ⟨xs, sqL_mono sub h, by rw [r.length]; exact hi⟩
  yld := fun i H v H' d sub e y F own B1 Γ σ s b => by
    obtain ⟨T, x, rfl, hT, rfl, q1⟩ := y
    rw [List.getElem?_zipWith] at e
    cases er : (List.range ds.length)[i]? with
    | none => rw [er] at e; cases e
    | some j =>
      have hj : j = i := by
        obtain ⟨h2, h3⟩ := List.getElem?_eq_some_iff.mp er
        rw [List.getElem_range] at h3
        exact h3.symm
      subst hj
      cases ed : ds[j]? with
      | none => rw [er, ed] at e; cases e
      | some d1 =>
        rw [er, ed] at e
        cases e
        obtain ⟨x', e3, s1⟩ := r.get ed
        have f1 := q1 xs (sqL_mono sub h)
        rw [e3] at f1
        cases f1
        exact pair_yld s hT (.int _) (s1.mono b)
def revItems : D → Res (List D)
  | .list ds => .ok ds.reverse
  | .tuple ds => .ok ds.reverse
  | _ => .bad
def xRev (t : DEnv → Res D) : DEnv → Res (List D) := fun Γ => (t Γ).bind revItems
theorem iter_rev {K : PySem.W.Frag} {B : Hp} {a : Addr} {xs : List V} {ds : List D} (h : SqL K B a xs) (r : Reps K B xs ds) : IterOk K (Itv K a xs.length) B ds.reverse where
  go := fun i H sub hi => by
    rw [List.length_reverse] at hi
    have hl := r.length
    exact ⟨by omega, xs, xs[xs.length - 1 - i]'(by omega), sqL_mono sub h, List.getElem?_eq_getElem _⟩
  stop := fun i H sub hi => by
    rw [List.length_reverse] at hi
    have hl := r.length
    show xs.length ≤ i
    omega
  yld := fun i H v H' d sub e y F own B1 Γ σ s b => by
    obtain ⟨rfl, y⟩ := y
    have hl := r.length
    have hi : i < ds.length := by
      have := (List.getElem?_eq_some_iff.mp e).1
      rwa [List.length_reverse] at this
    rw [List.getElem?_reverse hi, ← hl] at e
    obtain ⟨x', e3, s1⟩ := r.get e
    have f1 := y xs (sqL_mono sub h)
    rw [e3] at f1
    cases f1
    exact ⟨B1, s, Grow.refl, s1.mono b⟩
theorem iter_revT {K : PySem.W.Frag} {B : Hp} {a : Addr} {xs : List V} {ds : List D} (h : SqT K B a xs) (r : Reps K B xs ds) : IterOk K (RT.ItvT K a xs.length) B ds.reverse where
  go := fun i H sub hi => by
    rw [List.length_reverse] at hi
    have hl := r.length
    exact ⟨by omega, xs, xs[xs.length - 1 - i]'(by omega), sqT_mono sub h, List.getElem?_eq_getElem _⟩
  stop := fun i H sub hi => by
    rw [List.length_reverse] at hi
    have hl := r.length
    show xs.length ≤ i
    omega
  yld := fun i H v H' d sub e y F own B1 Γ σ s b => by
    obtain ⟨rfl, y⟩ := y
    have hl := r.length
    have hi : i < ds.length := by
      have := (List.getElem?_eq_some_iff.mp e).1
      rwa [List.length_reverse] at this
    rw [List.getElem?_reverse hi, ← hl] at e
    obtain ⟨x', e3, s1⟩ := r.get e
    have f1 := y xs (sqT_mono sub h)
    rw [e3] at f1
    cases f1
    exact ⟨B1, s, Grow.refl, s1.mono b⟩
section
variable {X : Cx} {F : FR} {own : List Nat} {tg : Expr}
theorem di_rev {e : Expr} {t : DEnv → Res D} {p pos : Pos} (h : DE X F own .val e t) (hm : X.mg "reversed" = none) (hg : Gl X "reversed" := by rfl) (hs : starEach [e] X.env = (false, eval e X.env) :: starEach [] X.env := by rfl) : DI X F own tg (.Call (.Name "reversed" p) [e] [] pos) (xRev t) :=
  PI.mono (RT.pi_revA hg hm h hs) fun σ H R ⟨B, Γ, s, p⟩ => by
    unfold RT.iRevA
    refine ⟨B, Γ, s, ?_⟩
    unfold xRev at p
    cases e : t Γ with
    | bad => rw [e] at p; exact p
    | raise c => rw [e] at p; exact p
    | ok d =>
      rw [e] at p
      intro v H' B' s' g r
      have r : Rep X.K B' v d := r
      cases r with
      | lst h r2 => exact ⟨_, _, rfl, .inl ⟨sqL_mono s'.sub h, p _ _ B' s' g (iter_rev h r2)⟩⟩
      | tup h r2 => exact ⟨_, _, rfl, .inr ⟨SqT.of (s'.sub _ _ h), p _ _ B' s' g (iter_revT (SqT.of h) r2)⟩⟩
      | _ => exact p.elim
theorem di_enum {elts : List Expr} {kk : Nat} {tpos : Pos} {e : Expr} {t : DEnv → Res D} {p pos : Pos} (h : DE X F own .val e t) (hm : X.mg "enumerate" = none) (hg : Gl X "enumerate" := by rfl) (hs : starEach [e] X.env = [(false, eval e X.env)] := by rfl) : DI X F own (.Tuple elts kk tpos) (.Call (.Name "enumerate" p) [e] [] pos) (xEnum t) :=
  PI.mono (pi_enum hg hm (da_cons h da_nil (hs := hs)) hs) fun σ H R ⟨B, Γ, s, p⟩ => by
    unfold iEnum
    have e1 : xEnum t Γ = (xCons t xNil Γ).bind fun ds => match ds with | [d] => enumD d | _ => .bad := by
      unfold xEnum xCons xNil
      cases t Γ <;> rfl
    rw [e1] at p
    refine tA_firstI s p fun ds vs H1 B1 s1 r q => ?_
    cases r with
    | nil => exact q.elim
    | cons r1 r2 =>
      cases r2 with
      | cons r2 r3 => exact q.elim
      | nil =>
        cases r1 with
        | lst h1 q1 => exact ⟨_, _, rfl, sqL_mono s1.sub h1, q _ H1 B1 s1 Grow.refl (iter_enum h1 q1)⟩
        | _ => exact q.elim
end
end DL

/-! DL: xs == [], xs != [], whatever xs holds; is True. -/
namespace DL
open PySem PySem.Spec PyProof.Rows L2
variable [TabCx] [WCx]
def nilEqD : D → D → Res D := fun x y => match x, y with
  | .list ds, .list [] => .ok (.bool ds.isEmpty)
  | _, _ => .bad
def nilNeD : D → D → Res D := fun x y => match x, y with
  | .list ds, .list [] => .ok (.bool (!ds.isEmpty))
  | _, _ => .bad
def rNil (K : PySem.W.Frag) (n : Bool) : R2 := fun x y H Q => ∃ a b xs, x = .ref a ∧ y = .ref b ∧ SqL K H a xs ∧ SqL K H b [] ∧ Q (.bl (n != xs.isEmpty)) H
section
variable {X : Cx} {F : FR} {own : List Nat}
theorem op_nilEq (hu : X.A.units + 64 < cLine) : OpR X (compareOp .Eq) (rNil X.K false) := by
  intro pins s σ H x y v u Q I rx ry h
  obtain ⟨a, b, xs, rfl, rfl, ha, hb, q⟩ := h
  cases rx
  cases ry
  obtain ⟨its, r1, p1, _⟩ := I.list ha
  obtain ⟨its2, r2, p2, _⟩ := I.list hb
  cases r2
  rw [Bool.false_bne] at q
  have fin : (Q (.bl xs.isEmpty) H) → ∃ y H', Inv X pins σ H' s ∧ RelV y (.bool xs.isEmpty) ∧ Q y H' := fun q => ⟨.bl _, H, I, rfl, q⟩
  cases xs with
  | nil =>
    cases r1
    exact SeqAt.RcAt.lists (e := fun _ => true) p1.isList p2.isList rfl (by omega) (fun j h1 _ => absurd h1 (by simp)) _ _ _ _ (fin q)
  | cons z zs =>
    have hs : (its.toArray.size != ([] : List Value).toArray.size) = true := by
      have := r1.length
      simp at this ⊢
      intro z
      rw [z] at this
      simp at this
    exact SeqAt.RcAt.lists_lengths p1.isList p2.isList hs (by omega) _ _ _ _ (fin q)
theorem op_nilNe (hu : X.A.units + 64 < cLine) : OpR X (compareOp .NotEq) (rNil X.K true) := by
  intro pins s σ H x y v u Q I rx ry h
  obtain ⟨a, b, xs, rfl, rfl, ha, hb, q⟩ := h
  cases rx
  cases ry
  obtain ⟨its, r1, p1, _⟩ := I.list ha
  obtain ⟨its2, r2, p2, _⟩ := I.list hb
  cases r2
  rw [Bool.true_bne] at q
  have fin : (Q (.bl (!xs.isEmpty)) H) → ∃ y H', Inv X pins σ H' s ∧ RelV y (.bool (!xs.isEmpty)) ∧ Q y H' := fun q => ⟨.bl _, H, I, rfl, q⟩
  cases xs with
  | nil =>
    cases r1
    exact SeqAt.RcNeAt.lists (e := fun _ => true) p1.isList p2.isList rfl (by omega) (fun j h1 _ => absurd h1 (by simp)) _ _ _ _ (fin q)
  | cons z zs =>
    have hs : (its.toArray.size != ([] : List Value).toArray.size) = true := by
      have := r1.length
      simp at this ⊢
      intro z
      rw [z] at this
      simp at this
    exact SeqAt.RcNeAt.lists_lengths p1.isList p2.isList hs (by omega) _ _ _ _ (fin q)
theorem empty_eq {K : PySem.W.Frag} {B : Hp} {xs : List V} {ds : List D} (r : Reps K B xs ds) : xs.isEmpty = ds.isEmpty := by cases r <;> rfl
theorem opd_nil {K : PySem.W.Frag} {n : Bool} {g : D → D → Res D} (hg : ∀ x y, g x y = match x, y with | .list ds, .list [] => .ok (.bool (n != ds.isEmpty)) | _, _ => .bad) : OpD K F own .val (rNil K n) g := fun Γ σ H B x y u v Q s rx ry p => by
  rw [hg] at p
  cases x with
  | list ds =>
    cases y with
    | list es =>
      cases es with
      | nil =>
        obtain ⟨a, xs, rfl, hx, r1⟩ := rx.list s.sub
        obtain ⟨b, ys, rfl, hy, r2⟩ := ry.list s.sub
        cases r2
        refine ⟨a, b, xs, rfl, rfl, hx, hy, ?_⟩
        rw [empty_eq r1]
        exact Post.here p s (.bl _)
      | cons e es => exact p.elim
    | _ => exact p.elim
  | _ => exact p.elim
theorem opd_nilEq {K : PySem.W.Frag} : OpD K F own .val (rNil K false) nilEqD := opd_nil fun x y => by
  unfold nilEqD
  cases x <;> cases y <;> try rfl
  rename_i ds es
  cases es with
  | nil =>
    show Res.ok (PyData.bool ds.isEmpty) = Res.ok (.bool (false != ds.isEmpty))
    rw [Bool.false_bne]
  | cons e es => rfl
theorem opd_nilNe {K : PySem.W.Frag} : OpD K F own .val (rNil K true) nilNeD := opd_nil fun x y => by
  unfold nilNeD
  cases x <;> cases y <;> try rfl
  rename_i ds es
  cases es with
  | nil =>
    show Res.ok (PyData.bool !ds.isEmpty) = Res.ok (.bool (true != ds.isEmpty))
    rw [Bool.true_bne]
  | cons e es => rfl
/-! ### is True, is False -/
def isBD : D → D → Res D := fun x y => match x, y with
  | .bool a, .bool b => .ok (.bool (decide (a = b)))
  | .none, .bool _ => .ok (.bool false)
  | _, _ => .bad
def notBD : D → D → Res D := fun x y => match x, y with
  | .bool a, .bool b => .ok (.bool (!decide (a = b)))
  | .none, .bool _ => .ok (.bool true)
  | _, _ => .bad
def rNB (n : Bool) : R2 := fun x y H Q => ∃ b : Bool, x = .non ∧ y = .bl b ∧ Q (.bl n) H
theorem op_isNB : OpR X (compareOp .Is) (rNB false) := by
  intro pins s σ H x y v u Q I rx ry h
  obtain ⟨b, rfl, rfl, q⟩ := h
  cases (show v = Value.none from rx)
  cases (show u = Value.bool b from ry)
  exact wpAny_is_other rfl (fun z => nomatch z) ⟨.bl false, H, I, rfl, q⟩
theorem op_notNB : OpR X (compareOp .IsNot) (rNB true) := by
  intro pins s σ H x y v u Q I rx ry h
  obtain ⟨b, rfl, rfl, q⟩ := h
  cases (show v = Value.none from rx)
  cases (show u = Value.bool b from ry)
  exact wpAny_isNot_other rfl (fun z => nomatch z) ⟨.bl true, H, I, rfl, q⟩
theorem op_isB : OpR X (compareOp .Is) fun x y H Q => rIsB x y H Q ∨ rNB false x y H Q := op_isBl.or op_isNB
theorem op_notB : OpR X (compareOp .IsNot) fun x y H Q => rNotB x y H Q ∨ rNB true x y H Q := op_notBl.or op_notNB
theorem opd_isB {K : PySem.W.Frag} : OpD K F own .val (fun x y H Q => rIsB x y H Q ∨ rNB false x y H Q) isBD := fun Γ σ H B x y u v Q s rx ry p => by
  cases y with
  | bool b =>
    cases x with
    | bool a => exact .inl ⟨a, b, rx.bool, ry.bool, Post.here p s (.bl _)⟩
    | none => exact .inr ⟨b, rx.none, ry.bool, Post.here p s (.bl _)⟩
    | _ => exact p.elim
  | _ => cases x <;> exact p.elim
theorem opd_notB {K : PySem.W.Frag} : OpD K F own .val (fun x y H Q => rNotB x y H Q ∨ rNB true x y H Q) notBD := fun Γ σ H B x y u v Q s rx ry p => by
  cases y with
  | bool b =>
    cases x with
    | bool a => exact .inl ⟨a, b, rx.bool, ry.bool, Post.here p s (.bl _)⟩
    | none => exact .inr ⟨b, rx.none, ry.bool, Post.here p s (.bl _)⟩
    | _ => exact p.elim
  | _ => cases x <;> exact p.elim
end
end DL

/-! DL: enumerate over a list or a tuple. -/
namespace DL
open PySem PySem.Spec PyProof.Rows L2
variable [TabCx] [WCx]
set_option maxHeartbeats 1000000 in
theorem meets_enumB {v : Value} {o : Obj} {P : Heap → Prop} (B : Begins v o P) :
    Meets (Builtin.«enumerate.__new__» ⟨[.type "enumerate", v], []⟩) (fun _ R s => P s.heap ∧
      R (.ok (.ret (.ref (s.heap.push o).objs.size))) { s with heap := (s.heap.push o).push { cls := .type "enumerate", data := .fields #[.none, .bool false, .ref s.heap.objs.size, rawInt 0, .none, .none] } }) :=
  .of_wp fun prog w A R s h => by
    obtain ⟨hp, g, d, tk, os⟩ := s; obtain ⟨h1, h⟩ := h
    have hsub := sub_enumerate
    have q1 : ∀ {A' : Around} {E : Value → Shared → Prop} {Q : Value → Shared → Prop}, Q (.ref hp.objs.size) ⟨hp.push o, g, d, tk, os⟩ → wpAny (model prog w) A' (pyIter v) Q E ⟨hp, g, d, tk, os⟩ :=
      fun q => B.iter prog w _ _ ⟨hp, g, d, tk, os⟩ _ h1 q
    wp_walk using q1
    refine wpAny_stack_any fun st => wpAny_pure ?_
    split
    · rename_i c _ _ _ _ _
      cases (c == Value.type "enumerate")
      · wp_walk using q1
        exact ⟨_, rfl, h⟩
      · wp_walk using q1
        exact ⟨_, rfl, h⟩
    · wp_walk using q1
      exact ⟨_, rfl, h⟩
section
variable {prog : Program} {w : World} {A : Around} {E : Value → Shared → Prop} {s : Shared}
theorem call_enumB {v : Value} {o : Obj} {P : Heap → Prop} {Q : Value → Shared → Prop} (B : Begins v o P) (h1 : P s.heap)
    (h : ∀ h', IsEnum h' (s.heap.objs.size + 1) s.heap.objs.size 0 .none → h'.get? s.heap.objs.size = some o → h'.objs.size = s.heap.objs.size + 2 →
      (∀ b o, s.heap.get? b = some o → h'.get? b = some o) → Q (.ref (s.heap.objs.size + 1)) { s with heap := h' }) :
    wpAny (model prog w) A (call (.type "enumerate") [v]) Q E s := by
  refine callType_new F.called_enumerate (by decide) (F.typeCall_enumerate_1 _) (F.newCall_enumerate_1 _) (fun obj => F.args_object_init_2 obj _) F.entry_enumerate_new
    (meets_enumB B) ⟨h1, ?_⟩
  have hz : (s.heap.push o).objs.size = s.heap.objs.size + 1 := Heap.size_push ..
  show _ ∧ _
  rw [hz]
  have he : IsEnum ((s.heap.push o).push { cls := .type "enumerate", data := .fields #[.none, .bool false, .ref s.heap.objs.size, rawInt 0, .none, .none] }) (s.heap.objs.size + 1) s.heap.objs.size 0 .none := by
    have := Heap.get?_push_size (s.heap.push o) (o := { cls := .type "enumerate", data := .fields #[.none, .bool false, .ref s.heap.objs.size, rawInt 0, .none, .none] }) rfl
    rw [hz] at this; exact this
  exact ⟨⟨_, he, rfl⟩, h _ he (Heap.get?_push_of_some _ (Heap.get?_push_size _ B.free)) (by rw [Heap.size_push, hz]) fun b o x => Heap.get?_push_of_some _ (Heap.get?_push_of_some _ x)⟩
end
section
variable {prog : Program} {w : World} {A : Around} {E : Value → Shared → Prop} {s : Shared}
theorem next_enumT_end {e it t : Addr} {i : Nat} {items : Array Value} {old : Value} {Q : Option Value → Shared → Prop} (hh : A.handled = none)
    (he : IsEnum s.heap e it i old) (hit : s.heap.IsTupleIter it t i) (ht : s.heap.IsTuple t items) (hx : items[i]? = none)
    (hQ : ∀ h', Heap.ExtBut it s.heap h' → Q none { s with heap := h' }) : wpAny (model prog w) A (pyNext (.ref e)) Q E s := by
  have hT : s.TypeIs (.ref e) "enumerate" := ⟨_, he, rfl⟩
  unfold pyNext
  refine wpAny_bind (wpAny_attempt (wpAny_callSpecial?_slot (name := Str.ofString "__next__") hT F.slot_enumerate_next
    (wpAny_call_entry F.slot_enumerate_next hT F.entry_enumerate_next ?_ (F.args_enumerate_next_1 _))))
  show wpAny _ _ (field (.ref e) 2 >>= _) _ _ _
  refine wpAny_bind (wpAny_field he rfl (x := .ref it) rfl ?_)
  refine wpAny_bind (wpAny_nextOf_tuple_end hh hit ht hx fun h' x he' hx' => ?_)
  obtain ⟨o, ho, hc⟩ := hx'
  refine wpAny_bind (wpAny_isInstance (T := "StopIteration") (b := true) ⟨o, ho, hc⟩ isSubtype_stop ?_)
  exact wpAny_pure (hQ _ he')
end
/-- the tuple at a, each item in a new pair -/
def IteT (K : PySem.W.Frag) (a : Addr) : It :=
  ⟨fun i H => ∃ (xs : List V) (x : V), SqT K H a xs ∧ xs[i]? = some x, fun i H v H' => ∃ T x, v = .ref T ∧ H T = none ∧ H' = upd H T (.tup [.int (i : Nat), x]) ∧ ∀ xs, SqT K H a xs → xs[i]? = some x, fun i H => ∃ xs : List V, SqT K H a xs ∧ xs.length ≤ i⟩
theorem turn_enumT {P : Program} {w : World} {K : PySem.W.Frag} {elts : List Expr} {kk : Nat} {tpos : Pos} (a e it : Addr) :
    Turn P w K (.Tuple elts kk tpos) (IteT K a) [e, it] e (fun i h => (∃ old, IsEnum h e it ((i : Nat) : Int) old) ∧ h.IsTupleIter it a i ∧ e ≠ it ∧ a ≠ it ∧ a ≠ e) where
  mem := by simp
  obj := fun i h st b hb => by
    obtain ⟨⟨old, he⟩, ⟨o, ho, hc, hd⟩, _⟩ := st
    have e' : b = e ∨ b = it := by simpa using hb
    rcases e' with z | z
    · rw [z]; exact ⟨_, he, fun v q => nomatch q⟩
    · rw [z]; exact ⟨o, ho, fun v q => by rw [hd] at q; cases q⟩
  keep := fun i h h' st k => let ⟨⟨old, he⟩, hi, hne⟩ := st; ⟨⟨old, k e (by simp) _ he⟩, hi.at fun o q => k it (by simp) o q, hne⟩
  item := by
    intro X hP hw hK hc i pins s σ H E I hf st hg
    subst hP hw hK
    obtain ⟨⟨old, he⟩, hit, hne, hai, hae⟩ := st
    obtain ⟨xs, x, hq, hx⟩ := hg
    obtain ⟨its, rv, p, hz⟩ := I.tuple hq
    obtain ⟨u, hu, ru⟩ := rv.get hx
    have hel : e < s.heap.objs.size := Heap.lt_size he
    have hil : it < s.heap.objs.size := by obtain ⟨_, q, _⟩ := hit; exact Heap.lt_size q
    have hlt : i < its.toArray.size := by
      rw [List.size_toArray, ← rv.length]
      exact (List.getElem?_eq_some_iff.mp hx).1
    have D : Draws X.prog X.w X.A.in1 it [it, a] its.toArray.size (fun i v => its.toArray[i]? = some v) (fun i h => h.IsTupleIter it a i ∧ h.IsTuple a its.toArray) := Draws.tuple (by show X.A.in1.handled = none; exact I.ok.hd hc) it a hai its.toArray
    refine wpAny_pyNext_enum_itemD D he ⟨hit, p⟩ hlt hne (by simp only [List.mem_cons, List.not_mem_nil, or_false, not_or]; exact ⟨hne, Ne.symm hae⟩) fun y h' tk hy ho hst' hT hsz hk => ?_
    have hyu : y = u := by
      have h1 : its.toArray[i]? = some y := hy
      have h2 : its.toArray[i]? = some u := by simpa using hu
      rw [h1] at h2
      exact Option.some.inj h2
    subst hyu
    refine ⟨_, rfl, wpAny_letOwnedTupleGo_enum (s := { s with heap := h', toks := tk + 1 }) ho fun h'' he' sb => ?_⟩
    have hT2 : h''.get? s.heap.objs.size = some { cls := .type "tuple", data := .seq #[.int i tk, y] } := (sb.2 _ (Nat.ne_of_gt hel)).trans hT
    have new : ObjOk X.prog X.w (upd H s.heap.objs.size (.tup [.int (i : Nat), x])) h'' s.heap.objs.size (.tup [.int (i : Nat), x]) :=
      ⟨by show 2 ≤ sizeLine; decide, [.int i tk, y], .cons ⟨_, rfl⟩ (.cons ru .nil), ⟨_, hT2, rfl, _, rfl⟩⟩
    have I1 : Inv X pins σ (upd H s.heap.objs.size (.tup [.int (i : Nat), x])) { s with heap := h'', toks := tk + 1 } :=
      I.turnedNew (ch := [e, it]) (fun b ob hb q => (sb.2 b (fun z => hb (by simp [z]))).trans (hk b ob (fun z => hb (by simp [z])) (fun z => hb (by simp [z])) q)) hf (Nat.le_refl _) new
    refine ⟨.ref s.heap.objs.size, _, I1, rfl, ⟨_, x, rfl, I.hok.fresh (Nat.le_refl _), rfl, fun ys hy => by rw [I.tuple_inj hy hq]; exact hx⟩, ⟨⟨y, ?_⟩, hst'.1.at fun o q => (sb.2 it (Ne.symm hne)).trans q, hne, hai, hae⟩, fun b hb => ?_⟩
    · have e1 : ((i + 1 : Nat) : Int) = (i : Int) + 1 := by omega
      rw [e1]; exact he'
    · have hb' : b < s.heap.objs.size := by
        have e' : b = e ∨ b = it := by simpa using hb
        rcases e' with z | z
        · rw [z]; exact hel
        · rw [z]; exact hil
      rw [upd_ne (Nat.ne_of_lt hb')]
      exact (hf b hb).1
  done := by
    intro X hP hw hK hc i pins s σ H E I hf st hg
    subst hP hw hK
    obtain ⟨⟨old, he⟩, hit, _⟩ := st
    obtain ⟨xs, hq, hx⟩ := hg
    obtain ⟨its, rv, p, hz⟩ := I.tuple hq
    obtain ⟨f0, f1, f2, f3, f4, f5⟩ := hf it (by simp)
    have hl := rv.length
    exact next_enumT_end (I.ok.hd hc) he hit p (by simp; omega) fun h' eb => ⟨rfl, I.turned (t' := s.toks) (fun b o hb q => eb b o hb q) f0 f1 f3 f4 f5⟩
  self := fun A i s Q E st h => let ⟨⟨_, he⟩, _⟩ := st; wpAny_pyIter_enum he h
def iEnumA (K : PySem.W.Frag) (ta : TA) : TI := fun σ H R => ta σ H fun vs H1 => ∃ a xs, vs = [.ref a] ∧ ((SqL K H1 a xs ∧ R (Ite K a) H1) ∨ (SqT K H1 a xs ∧ R (IteT K a) H1))
theorem pi_enumA {X : Cx} {e : Expr} {ta : TA} {p pos tpos : Pos} {elts : List Expr} {kk : Nat} (hg : Gl X "enumerate") (hm : X.mg "enumerate" = none) (ha : PA X [e] ta) (hs : starEach [e] X.env = [(false, eval e X.env)] := by rfl) :
    PI X (.Tuple elts kk tpos) (.Call (.Name "enumerate" p) [e] [] pos) (iEnumA X.K ta) := by
  refine ⟨fun pins s σ H R I h => ?_⟩
  refine Call_ (ld_blt I hg hm boot_enumerate (PyProof.Rows.callWith_type1 (thn (ha.run pos pins s σ H _ I h) fun us s1 ⟨vs, H1, I1, r1, q1⟩ => ?_) hs rfl))
  obtain ⟨a, xs, ex, q⟩ := q1
  subst ex
  cases r1 with
  | cons r rr =>
    cases rr
    cases r
    have fp : ∀ b ∈ [s1.heap.objs.size + 1, s1.heap.objs.size], s1.heap.objs.size ≤ b := fun b hb => by
      have e' : b = s1.heap.objs.size + 1 ∨ b = s1.heap.objs.size := by simpa using hb
      rcases e' with z | z
      · rw [z]; exact Nat.le_add_right _ _
      · rw [z]; exact Nat.le_refl _
    rcases q with ⟨hq, q⟩ | ⟨hq, q⟩
    · obtain ⟨its, rv, p', hz⟩ := I1.list hq
      refine call_enumerate_list p'.isList fun h' he hit hsz hk => wpAny_pyIter_enum he ?_
      have I2 : Inv X pins σ H1 { s1 with heap := h' } := I1.kept (t' := s1.toks) hk
      exact ⟨s1.heap.objs.size + 1, [s1.heap.objs.size + 1, s1.heap.objs.size], _, _, H1, rfl, I2, turn_enum a (s1.heap.objs.size + 1) s1.heap.objs.size, ⟨⟨.none, he⟩, hit, Nat.succ_ne_self _⟩, fun b hb => I1.fpOk (fp b hb) (I1.hok.fresh (fp b hb)), q⟩
    · obtain ⟨its, rv, p', hz⟩ := I1.tuple hq
      have hal : a < s1.heap.objs.size := by obtain ⟨_, z, _⟩ := p'; exact Heap.lt_size z
      refine call_enumB (begins_tuple a its.toArray) p' fun h' he hit hsz hk => wpAny_pyIter_enum he ?_
      have I2 : Inv X pins σ H1 { s1 with heap := h' } := I1.kept (t' := s1.toks) hk
      exact ⟨s1.heap.objs.size + 1, [s1.heap.objs.size + 1, s1.heap.objs.size], _, _, H1, rfl, I2, turn_enumT a (s1.heap.objs.size + 1) s1.heap.objs.size, ⟨⟨.none, he⟩, ⟨_, hit, rfl, rfl⟩, Nat.succ_ne_self _, Nat.ne_of_lt hal, Nat.ne_of_lt (Nat.lt_succ_of_lt hal)⟩, fun b hb => I1.fpOk (fp b hb) (I1.hok.fresh (fp b hb)), q⟩
/-! ### told of data -/
def enumAD : D → Res (List D)
  | .tuple ds => .ok ((List.range ds.length).zipWith (fun (i : Nat) d => .tuple [.int i, d]) ds)
  | d => enumD d
def xEnumA (t : DEnv → Res D) : DEnv → Res (List D) := fun Γ => (t Γ).bind enumAD
theorem iter_enumT {K : PySem.W.Frag} {B : Hp} {a : Addr} {xs : List V} {ds : List D} (h : SqT K B a xs) (r : Reps K B xs ds) : IterOk K (IteT K a) B ((List.range ds.length).zipWith (fun (i : Nat) d => .tuple [.int i, d]) ds) where
  go := fun i H sub hi => by
    rw [List.length_zipWith, List.length_range, Nat.min_self] at hi
    exact ⟨xs, xs[i]'(by rw [r.length]; exact hi), sqT_mono sub h, List.getElem?_eq_getElem _⟩
  stop := fun i H sub hi => by
    rw [List.length_zipWith, List.length_range, Nat.min_self] at hi
    exact ⟨xs, sqT_mono sub h, by rw [r.length]; exact hi⟩
  yld := fun i H v H' d sub e y F own B1 Γ σ s b => by
    obtain ⟨T, x, rfl, hT, rfl, q1⟩ := y
    rw [List.getElem?_zipWith] at e
    cases er : (List.range ds.length)[i]? with
    | none => rw [er] at e; cases e
    | some j =>
      have hj : j = i := by
        obtain ⟨h2, h3⟩ := List.getElem?_eq_some_iff.mp er
        rw [List.getElem_range] at h3
        exact h3.symm
      subst hj
      cases ed : ds[j]? with
      | none => rw [er, ed] at e; cases e
      | some d1 =>
        rw [er, ed] at e
        cases e
        obtain ⟨x', e3, s1⟩ := r.get ed
        have f1 := q1 xs (sqT_mono sub h)
        rw [e3] at f1
        cases f1
        exact pair_yld s hT (.int _) (s1.mono b)
section
variable {X : Cx} {F : FR} {own : List Nat}
theorem di_enumA {elts : List Expr} {kk : Nat} {tpos : Pos} {e : Expr} {t : DEnv → Res D} {p pos : Pos} (h : DE X F own .val e t) (hm : X.mg "enumerate" = none) (hg : Gl X "enumerate" := by rfl) (hs : starEach [e] X.env = [(false, eval e X.env)] := by rfl) : DI X F own (.Tuple elts kk tpos) (.Call (.Name "enumerate" p) [e] [] pos) (xEnumA t) :=
  PI.mono (pi_enumA hg hm (da_cons h da_nil (hs := hs)) hs) fun σ H R ⟨B, Γ, s, p⟩ => by
    unfold iEnumA
    have e1 : xEnumA t Γ = (xCons t xNil Γ).bind fun ds => match ds with | [d] => enumAD d | _ => .bad := by
      unfold xEnumA xCons xNil
      cases t Γ <;> rfl
    rw [e1] at p
    refine tA_firstI s p fun ds vs H1 B1 s1 r q => ?_
    cases r with
    | nil => exact q.elim
    | cons r1 r2 =>
      cases r2 with
      | cons r2 r3 => exact q.elim
      | nil =>
        cases r1 with
        | lst h1 q1 => exact ⟨_, _, rfl, .inl ⟨sqL_mono s1.sub h1, q _ H1 B1 s1 Grow.refl (iter_enum h1 q1)⟩⟩
        | tup h1 q1 => exact ⟨_, _, rfl, .inr ⟨SqT.of (s1.sub _ _ h1), q _ H1 B1 s1 Grow.refl (iter_enumT (SqT.of h1) q1)⟩⟩
        | _ => exact q.elim
end
end DL

/-! DL: a op b op2 c (as a test), xs.count(x). -/
namespace DL
open PySem PySem.Spec PyProof.Rows L2
variable [TabCx] [WCx]
section
variable {X : Cx} {F : FR} {own : List Nat}
/-! ### chains of comparisons -/
def xChainT (g g' : D → D → Res D) (ta tb tc : DEnv → Res D) : DEnv → Res Bool := fun Γ => (ta Γ).bind fun x => (tb Γ).bind fun y => ((g x y).bind toB).bind fun b => if b then (tc Γ).bind fun z => (g' y z).bind toB else .ok false
theorem op_test {r : R2} {g : D → D → Res D} (hr : OpD X.K F own .val r g) {γ : Type} {f : Bool → Res γ} {rv : Hp → Hp → Hp → γ → γ → Prop} (er : Early rv) {Γ : DEnv} {σ : L2.St} {H B : Hp} {x y : D} {u v : V} {Q : γ → Hp → Prop} {R : VK} (s : SR X.K F own B Γ σ H) (rx : Bor X.K F B H u x) (ry : Bor X.K F B H v y) (p : Post X.K F own rv (((g x y).bind toB).bind f) Γ σ H B Q)
    (k : ∀ b H1 B1, SR X.K F own B1 Γ σ H1 → Grow B H B1 H1 → Post X.K F own rv (f b) Γ σ H1 B1 Q → R (.bl b) H1) : r u v H R := by
  refine hr Γ σ H B x y u v _ s rx ry ?_
  cases eg : g x y with
  | bad => rw [eg] at p; exact p
  | raise c => rw [eg] at p; exact p
  | ok d =>
    rw [eg] at p
    intro w H3 B3 s3 g3 r3
    have p3 := Post.mono er p g3
    cases d with
    | bool b =>
      have r3 : Rep X.K B3 w (.bool b) := r3
      cases r3
      exact k b H3 B3 s3 g3 p3
    | _ => exact p3.elim
theorem dt_chain {op op' : CmpOp} {r r' : R2} {g g' : D → D → Res D} {a b c : Expr} {ta tb tc : DEnv → Res D} {pos : Pos} (ho : OpR X (compareOp op) r) (hr : OpD X.K F own .val r g) (ho' : OpR X (compareOp op') r') (hr' : OpD X.K F own .val r' g')
    (ha : DE X F own .bor a ta) (hb : DE X F own .bor b tb) (hc : DE X F own .bor c tc) (hm : lastMarks [op, op'] [b, c] = false := by with_unfolding_all rfl) : DT X F own (.Compare a [op, op'] [b, c] pos) (xChainT g g' ta tb tc) := PT.mono (pt_chain ho ho' ha hb hc hm) fun σ H Q ⟨B, Γ, s, p⟩ => by
  unfold tTest tChain
  refine tD_first early_B s p fun x u H1 B1 s1 g1 r1 p1 => ?_
  refine tD_first early_B s1 p1 fun y v H2 B2 s2 g2 r2 p2 => ?_
  refine op_test hr early_B s2 (Bor.later (RV.bor r1) g2 s1.sub s2.sub) (RV.bor r2) p2 fun b H3 B3 s3 g3 p3 => ⟨b, rfl, ?_⟩
  cases b with
  | false =>
    rw [if_neg Bool.false_ne_true]
    exact ⟨false, rfl, p3 false H3 B3 s3 Grow.refl rfl⟩
  | true =>
    rw [if_pos rfl]
    refine tD_first early_B s3 p3 fun z w H4 B4 s4 g4 r4 p4 => ?_
    have e : ∀ t : Res Bool, t = t.bind .ok := fun t => by cases t <;> rfl
    have p4 : Post X.K F own rvB (((g' y z).bind toB).bind Res.ok) Γ σ H4 B4 Q := by rw [← e]; exact p4
    exact op_test hr' early_B s4 (Bor.later (Bor.later (RV.bor r2) g3 s2.sub s3.sub) g4 s3.sub s4.sub) (RV.bor r4) p4 fun b H5 B5 s5 g5 p5 => ⟨b, rfl, p5 b H5 B5 s5 Grow.refl rfl⟩
/-! ### xs.count(x) -/
theorem mt_countD (hu : X.A.units + 65 < cLine) : MtR X "list.count" fun x xs H Q => ∃ (a : Addr) (y : V) (d : D) (ds : List D), x = V.ref a ∧ xs = [y] ∧ Dp X.K H (V.ref a) (.list ds) ∧ Dp X.K H y d ∧ PyData.plainAll ds = true ∧ d.plain = true ∧ SeqAt.shaped d = true ∧ Q (.int ((ds.countP fun z => PyData.eqv z d : Nat) : Int)) H := by
  intro pins s σ H x xs v us Q I rx rxs h
  obtain ⟨a, y, d, ds, rfl, rfl, hl, hy, pl, pd, sl, q⟩ := h
  cases rx
  cases rxs with
  | cons ry rt =>
    rename_i uy ut
    cases rt
    obtain ⟨bs, r1⟩ := Dp.reads I d y uy hy ry
    have hroom : X.A.units + 1 + min (PyData.depthAll ds) d.depth < cLine := room_in_shaped sl hu
    cases hl with
    | lst hs ha =>
      obtain ⟨its, rv, p, hlen⟩ := I.list hs
      obtain ⟨as, h4⟩ := Dp.readsAll I ds _ its ha rv
      exact SeqAt.count_list_data p.isList h4 r1 pl pd hroom ⟨.int _, H, I.tok _, ⟨s.toks, rfl⟩, q⟩
def countD : D → D → Res D := fun x y => match x with
  | .list ds => if PyData.plainAll ds && y.plain && SeqAt.shaped y then .ok (.int ((ds.countP fun z => PyData.eqv z y : Nat) : Int)) else .bad
  | _ => .bad
def xCount (to te : DEnv → Res D) : DEnv → Res D := fun Γ => (to Γ).bind fun x => (isL x).bind fun x => (te Γ).bind fun y => countD x y
theorem de_count {o e : Expr} {to te : DEnv → Res D} {apos cpos : Pos} (hu : X.A.units + 65 < cLine) (ho : DE X F own .bor o to) (he : DE X F own .bor e te)
    (hbase : attributeBase o "count" X.env (eval o X.env) = eval o X.env := by rfl) (hfew : ((backTo cpos (starEach [e] X.env)).all (fun x => !x.1) && (backToKw cpos (keywordEach [] X.env)).all (fun x => x.1.isSome) && decide (([e] : List Expr).length + ([] : List Keyword).length + (if ([] : List Keyword).isEmpty then 0 else 1) < 30)) = true := by rfl)
    (hline : (apos.endLine == cpos.line) = true := by rfl) (hs : starEach [e] X.env = (false, eval e X.env) :: starEach [] X.env := by rfl) (hplain : (backTo cpos (starEach [] X.env)).any (·.1) = false := by rfl) :
    DE X F own .val (.Call (.Attribute o "count" apos) [e] [] cpos) (xCount to te) := PE.mono (pe_bm PySem.F.plainAttrs_list PySem.F.slot_list_count PySem.F.type_list_count (mt_countD hu) ho (pa_cons he pa_nil hs) hbase hfew hline hs hplain) fun σ H Q ⟨B, Γ, s, p⟩ => by
  unfold tBM tCons
  refine tD_first early_RV s p fun d v H1 B1 s1 g1 r1 p1 => ?_
  cases d with
  | list ds =>
    obtain ⟨a, xs, rfl, hx, rr⟩ := Bor.list (RV.bor r1) s1.sub
    refine ⟨.inl ⟨rfl, xs, hx⟩, ?_⟩
    refine tD_first early_RV s1 p1 fun y w H2 B2 s2 g2 r2 p2 => ?_
    have p2 : Post X.K F own (RV X.K F own Γ σ .val) (if PyData.plainAll ds && y.plain && SeqAt.shaped y then Res.ok (PyData.int ((ds.countP fun z => PyData.eqv z y : Nat) : Int)) else .bad) Γ σ H2 B2 Q := p2
    cases hc : (PyData.plainAll ds && y.plain && SeqAt.shaped y) with
    | false => rw [hc] at p2; exact p2.elim
    | true =>
      rw [hc] at p2
      simp only [Bool.and_eq_true] at hc
      obtain ⟨⟨c1, c2⟩, c3⟩ := hc
      have rl : Bor X.K F B2 H2 (.ref a) (.list ds) := Bor.later (RV.bor r1) g2 s1.sub s2.sub
      exact ⟨a, w, y, ds, rfl, rfl, Bor.dp s2.sub c1 rl, Bor.dp s2.sub c2 (RV.bor r2), c1, c2, c3, Post.here p2 s2 (.int _)⟩
  | _ => exact p1.elim
end
end DL

/-! DL: walking a dict (for k in d, [.. for k in d]): the dict is locked meanwhile. For programs without lambdas. -/
namespace DL
open PySem PySem.Spec PyProof.Rows L2
variable [WCx]
/-! ### a dict locked, and no more -/
def Up (B B' : Hp) : Prop := ∀ a x, B a = some x → (B' a = some x ∨ ∃ kvs, (x = .dK kvs ∨ ∃ o, x = .frz o (.dK kvs)) ∧ Rd B' a (.dK kvs))
section
variable {K : PySem.W.Frag} {B B' : Hp}
theorem Up.rdL (h : Up B B') {a : Addr} {xs : List V} (r : Rd B a (.lst xs)) : Rd B' a (.lst xs) := by
  rcases r with r | ⟨o, r⟩
  · rcases h _ _ r with e | ⟨kvs, e | ⟨o2, e⟩, _⟩
    · exact .inl e
    · cases e
    · cases e
  · rcases h _ _ r with e | ⟨kvs, e | ⟨o2, e⟩, _⟩
    · exact .inr ⟨o, e⟩
    · cases e
    · cases e
theorem Up.rdK (h : Up B B') {a : Addr} {kvs : List (Key × V)} (r : Rd B a (.dK kvs)) : Rd B' a (.dK kvs) := by
  rcases r with r | ⟨o, r⟩
  · rcases h _ _ r with e | ⟨k2, e | ⟨o2, e⟩, q⟩
    · exact .inl e
    · cases e; exact q
    · cases e
  · rcases h _ _ r with e | ⟨k2, e | ⟨o2, e⟩, q⟩
    · exact .inr ⟨o, e⟩
    · cases e
    · cases e; exact q
mutual
theorem Rep.up (h : Up B B') : ∀ {v : V} {d : D}, Rep K B v d → Rep K B' v d
  | _, _, .non => .non
  | _, _, .bl b => .bl b
  | _, _, .int i => .int i
  | _, _, .str x => .str x
  | _, _, .lst s r => .lst (match s with | .inl s => .inl (h.rdL s) | .inr s => .inr s) (Reps.up h r)
  | _, _, .tup s r => .tup (by
      rcases h _ _ s with e | ⟨kvs, e | ⟨o2, e⟩, _⟩
      · exact e
      · cases e
      · cases e) (Reps.up h r)
  | _, _, .dK s r => .dK (h.rdK s) (RepK.up h r)
  | _, _, .dT s r n => .dT (by
      rcases h _ _ s with e | ⟨kvs, e | ⟨o2, e⟩, _⟩
      · exact e
      · cases e
      · cases e) (RepT.up h r) n
  | _, _, .dN s r n t => .dN (by
      rcases h _ _ s with e | ⟨kvs, e | ⟨o2, e⟩, _⟩
      · exact e
      · cases e
      · cases e) (RepN.up h r) n t
theorem Reps.up (h : Up B B') : ∀ {vs : List V} {ds : List D}, Reps K B vs ds → Reps K B' vs ds
  | _, _, .nil => .nil
  | _, _, .cons a b => .cons (Rep.up h a) (Reps.up h b)
theorem RepK.up (h : Up B B') : ∀ {vs : List (Key × V)} {ds : List (D × D)}, RepK K B vs ds → RepK K B' vs ds
  | _, _, .nil => .nil
  | _, _, .cons a b => .cons (Rep.up h a) (RepK.up h b)
theorem RepT.up (h : Up B B') : ∀ {vs : List (List Key × V)} {ds : List (D × D)}, RepT K B vs ds → RepT K B' vs ds
  | _, _, .nil => .nil
  | _, _, .cons a b => .cons (Rep.up h a) (RepT.up h b)
theorem RepN.up (h : Up B B') : ∀ {vs : List NRow} {ds : List (D × D)}, RepN K B vs ds → RepN K B' vs ds
  | _, _, .nil => .nil
  | _, _, .cons a n l b c => .cons (Rep.up h a) n l (Rep.up h b) (RepN.up h c)
end
theorem ORep.up (h : Up B B') {a : Addr} {o : HO} {d : D} (r : ORep K B a o d) : ORep K B' a o d := by
  cases o with
  | lst xs => cases d with
    | list ds => exact Reps.up h r
    | _ => exact False.elim r
  | dK xs => cases d with
    | dict ds => exact RepK.up h r
    | _ => exact False.elim r
  | dT xs => cases d with
    | dict ds => exact ⟨RepT.up h r.1, r.2⟩
    | _ => exact False.elim r
  | ext φ => cases d with
    | dict ds =>
      obtain ⟨ps, e, r, n, t⟩ := (r : ∃ ps, φ = dnφ a ps ∧ RepN K B ps ds ∧ ds ≠ [] ∧ TabCx.T = [])
      exact ⟨ps, e, RepN.up h r, n, t⟩
    | _ => exact False.elim r
  | _ => cases d <;> exact False.elim r
end
def lkF (F : FR) (d : Addr) (o : HO) : FR := { W := F.W, cv := F.cv, H0 := upd F.H0 d o, B0 := upd F.B0 d o, tab := fun p hp => nomatch hp }
theorem up_lock {B : Hp} {d : Addr} {o : Obj} {kvs : List (Key × V)} (h : B d = some (.dK kvs)) : Up B (upd B d (.frz o (.dK kvs))) := fun a x e => by
  by_cases c : a = d
  · subst c
    rw [h] at e
    cases e
    exact .inr ⟨kvs, .inl rfl, .inr ⟨o, upd_same⟩⟩
  · exact .inl (by rw [upd_ne c]; exact e)
theorem up_open {B : Hp} {d : Addr} {o : Obj} {kvs : List (Key × V)} (h : B d = some (.frz o (.dK kvs))) : Up B (upd B d (.dK kvs)) := fun a x e => by
  by_cases c : a = d
  · subst c
    rw [h] at e
    cases e
    exact .inr ⟨kvs, .inr ⟨o, rfl⟩, .inl upd_same⟩
  · exact .inl (by rw [upd_ne c]; exact e)
section
variable {K : PySem.W.Frag} {F : FR} {own : List Nat} {B H : Hp} {Γ : DEnv} {σ : L2.St} {d : Addr} {o : Obj} {kvs : List (Key × V)}
theorem SR.lock (s : SR K F own B Γ σ H) (h : B d = some (.dK kvs)) : SR K (lkF F d (.frz o (.dK kvs))) own (upd B d (.frz o (.dK kvs))) Γ σ (upd H d (.frz o (.dK kvs))) where
  sub := fun a x e => by
    by_cases c : a = d
    · subst c; rw [upd_same] at e ⊢; exact e
    · rw [upd_ne c] at e ⊢; exact s.sub a x e
  same := ⟨fun a x e n => by
    have e : upd F.H0 d (.frz o (.dK kvs)) a = some x := e
    by_cases c : a = d
    · subst c; rw [upd_same] at e ⊢; exact e
    · rw [upd_ne c] at e ⊢; exact s.same.obj a x e n, fun a e => by
    have e : upd F.H0 d (.frz o (.dK kvs)) a ≠ none := e
    by_cases c : a = d
    · subst c; rw [upd_same]; exact fun z => nomatch z
    · rw [upd_ne c] at e ⊢; exact s.same.ne a e, fun _ p hp => nomatch hp⟩
  old := fun a e => by
    have e : upd F.H0 d (.frz o (.dK kvs)) a ≠ none := e
    show _ = upd F.B0 d (.frz o (.dK kvs)) a
    by_cases c : a = d
    · subst c; rw [upd_same, upd_same]
    · rw [upd_ne c] at e ⊢; rw [upd_ne c]; exact s.old a e
  len := s.len
  dat := fun i x hi e => by
    obtain ⟨v, e1, r⟩ := s.dat i x hi e
    exact ⟨v, e1, r.up (up_lock h)⟩
  owd := fun i x hi e => by
    obtain ⟨v, e1, a, u, rfl, n, h1, r, n0⟩ := s.owd i x hi e
    have c : a ≠ d := fun z => by rw [z, h] at n; cases n
    refine ⟨_, e1, a, u, rfl, by rw [upd_ne c]; exact n, by rw [upd_ne c]; exact h1, r.up (up_lock h), ?_⟩
    show upd F.H0 d _ a = none
    rw [upd_ne c]
    exact n0
  apart := s.apart
  nt := fun a ps e => by
    by_cases c : a = d
    · subst c; rw [upd_same] at e; cases e
    · rw [upd_ne c] at e; exact s.nt a ps e
/-- unlocked: s0 the state ahead of the lock -/
theorem SR.open {B1 H1 : Hp} {Γ1 : DEnv} {σ1 : L2.St} {own1 : List Nat} {own0 : List Nat} {Γ0 : DEnv} {σ0 : L2.St} (s0 : SR K F own0 B Γ0 σ0 H) (h : B d = some (.dK kvs)) (s : SR K (lkF F d (.frz o (.dK kvs))) own1 B1 Γ1 σ1 H1) : SR K F own1 (upd B1 d (.dK kvs)) Γ1 σ1 (upd H1 d (.dK kvs)) ∧ H1 d = some (.frz o (.dK kvs)) ∧ B1 d = some (.frz o (.dK kvs)) := by
  have hH : H1 d = some (.frz o (.dK kvs)) := s.same.obj d _ (show upd F.H0 d _ d = _ from upd_same) fun ps z => nomatch z
  have hB : B1 d = some (.frz o (.dK kvs)) := by
    rw [s.old d (by show upd F.H0 d _ d ≠ none; rw [upd_same]; exact fun z => nomatch z)]
    exact upd_same
  have hH0 : H d = some (.dK kvs) := s0.sub _ _ h
  refine ⟨⟨fun a x e => ?_, ⟨fun a x e n => ?_, fun a e => ?_, fun _ p hp => nomatch hp⟩, fun a e => ?_, s.len, fun i x hi e => ?_, fun i x hi e => ?_, s.apart, fun a ps e => ?_⟩, hH, hB⟩
  · by_cases c : a = d
    · subst c; rw [upd_same] at e ⊢; exact e
    · rw [upd_ne c] at e ⊢; exact s.sub a x e
  · by_cases c : a = d
    · subst c
      rw [upd_same]
      have := s0.same.obj a x e n
      rw [hH0] at this
      exact this
    · rw [upd_ne c]
      exact s.same.obj a x (by show upd F.H0 d _ a = _; rw [upd_ne c]; exact e) n
  · by_cases c : a = d
    · subst c; rw [upd_same]; exact fun z => nomatch z
    · rw [upd_ne c]
      exact s.same.ne a (by show upd F.H0 d _ a ≠ _; rw [upd_ne c]; exact e)
  · by_cases c : a = d
    · subst c
      rw [upd_same, ← s0.old a e]
      exact h.symm
    · rw [upd_ne c, s.old a (by show upd F.H0 d _ a ≠ _; rw [upd_ne c]; exact e)]
      exact upd_ne c
  · obtain ⟨v, e1, r⟩ := s.dat i x hi e
    exact ⟨v, e1, r.up (up_open hB)⟩
  · obtain ⟨v, e1, a, u, rfl, n, h1, r, n0⟩ := s.owd i x hi e
    have c : a ≠ d := fun z => by rw [z, hB] at n; cases n
    have n0 : upd F.H0 d (.frz o (.dK kvs)) a = none := n0
    rw [upd_ne c] at n0
    exact ⟨_, e1, a, u, rfl, by rw [upd_ne c]; exact n, by rw [upd_ne c]; exact h1, r.up (up_open hB), n0⟩
  · by_cases c : a = d
    · subst c; rw [upd_same] at e; cases e
    · rw [upd_ne c] at e; exact s.nt a ps e
theorem Grow.open {B1 H1 : Hp} (g : Grow (upd B d (.frz o (.dK kvs))) (upd H d (.frz o (.dK kvs))) B1 H1) (h : B d = some (.dK kvs)) (hH : H d = some (.dK kvs)) : Grow B H (upd B1 d (.dK kvs)) (upd H1 d (.dK kvs)) where
  hp := ⟨fun a x e n => by
    by_cases c : a = d
    · subst c; rw [upd_same, ← hH]; exact e
    · rw [upd_ne c]; exact g.hp.obj a x (by rw [upd_ne c]; exact e) n, fun a e => by
    by_cases c : a = d
    · subst c; rw [upd_same]; exact fun z => nomatch z
    · rw [upd_ne c]; exact g.hp.ne a (by rw [upd_ne c]; exact e), fun _ p hp => nomatch hp⟩
  fz := fun a e => by
    by_cases c : a = d
    · subst c; rw [upd_same]; exact h.symm
    · rw [upd_ne c, g.fz a (by rw [upd_ne c]; exact e)]
      exact upd_ne c
end
/-! ### what is walked -/
def itK (i : Nat) : DEnv → Res (List D) := fun Γ => match Γ[i]? with
  | some (some (.dict es)) => if guardK es then .ok (es.map (·.1)) else .bad
  | _ => .bad
theorem iter_keys {K : PySem.W.Frag} {B : Hp} {d : Addr} {o : Obj} {kvs : List (Key × V)} {es : List (D × D)} (h : B d = some (.frz o (.dK kvs))) (r : RepK K B kvs es) : IterOk K (Itk d o kvs) B (es.map (·.1)) where
  go := fun i H sub hi => ⟨sub _ _ h, by rw [List.length_map] at hi; rw [r.length]; exact hi⟩
  stop := fun i H sub hi => ⟨sub _ _ h, by rw [List.length_map] at hi; rw [r.length]; exact hi⟩
  yld := fun i H x H' dd sub e y F own B1 Γ σ s b => by
    obtain ⟨rfl, k, v, hk, rfl⟩ := y
    refine ⟨B1, s, Grow.refl, ?_⟩
    have h2 : (kvs.map fun kv => kV kv.1)[i]? = some (kV k) := by rw [List.getElem?_map, hk]; rfl
    obtain ⟨d2, e2, r2⟩ := (repK_list r).getV h2
    rw [e] at e2
    cases e2
    exact r2.mono b
theorem PE.ex {X : Cx} {e : Expr} {ι : Type} {t : ι → TE} (h : ∀ i, PE X e (t i)) : PE X e (fun σ H Q => ∃ i, t i σ H Q) := ⟨fun pins s σ H Q I ⟨i, q⟩ => (h i).run pins s σ H Q I q⟩
theorem PE.or {X : Cx} {e : Expr} {t u : TE} (h : PE X e t) (k : PE X e u) : PE X e (fun σ H Q => t σ H Q ∨ u σ H Q) := ⟨fun pins s σ H Q I q => q.elim (h.run pins s σ H Q I) (k.run pins s σ H Q I)⟩
theorem PS.ex {X : Cx} {e : Stmt} {ι : Type} {t : ι → TS} (h : ∀ i, PS X e (t i)) : PS X e (fun D σ H => ∃ i, t i D σ H) := ⟨fun pins s σ H D I ⟨i, q⟩ => (h i).run pins s σ H D I q⟩
theorem PS.or {X : Cx} {e : Stmt} {t u : TS} (h : PS X e t) (k : PS X e u) : PS X e (fun D σ H => t D σ H ∨ u D σ H) := ⟨fun pins s σ H D I q => q.elim (h.run pins s σ H D I) (k.run pins s σ H D I)⟩
/-- the dict at a slot, as it stands -/
theorem keys_at {K : PySem.W.Frag} {F : FR} {own : List Nat} {B H : Hp} {Γ : DEnv} {σ : L2.St} {i : Nat} {ds : List D} (s : SR K F own B Γ σ H) (ho : i ∉ own) (e : itK i Γ = .ok ds) : ∃ d kvs es, σ[i]? = some (some (.ref d)) ∧ Rd B d (.dK kvs) ∧ RepK K B kvs es ∧ ds = es.map (·.1) := by
  unfold itK at e
  cases eg : Γ[i]? with
  | none => rw [eg] at e; cases e
  | some od =>
    cases od with
    | none => rw [eg] at e; cases e
    | some d =>
      cases d with
      | dict es =>
        rw [eg] at e
        have e : (if guardK es then Res.ok (es.map (·.1)) else .bad) = .ok ds := e
        cases g : guardK es with
        | false => rw [g] at e; cases e
        | true =>
          rw [g] at e
          cases e
          obtain ⟨v, e1, r⟩ := s.dat i _ ho eg
          cases r with
          | dK h r => exact ⟨_, _, _, e1, h, r, rfl⟩
          | dT h r n => exact (guardK_T r n g).elim
          | dN h r n _ => exact (guardK_N r n g).elim
      | _ => rw [eg] at e; cases e
theorem itK_calm {i : Nat} {Γ : DEnv} {c : Str} : itK i Γ ≠ .raise c := by
  unfold itK
  split
  · split <;> exact fun z => nomatch z
  · exact fun z => nomatch z
theorem iKeys_of {K : PySem.W.Frag} {F : FR} {own : List Nat} {σ : L2.St} {H : Hp} {R : It → Hp → Prop} {i : Nat} (ho : i ∉ own) (lk : ∀ d kvs, σ[i]? = some (some (.ref d)) → H d ≠ some (.dK kvs)) (h : tI K F own (itK i) σ H R) : iKeys (tVar i) σ H R := by
  obtain ⟨B, Γ, s, p⟩ := h
  cases e : itK i Γ with
  | bad => rw [e] at p; exact p.elim
  | raise c => exact absurd e itK_calm
  | ok ds =>
    rw [e] at p
    obtain ⟨d, kvs, es, e1, h1, r, rfl⟩ := keys_at s ho e
    rcases h1 with h1 | ⟨o, h1⟩
    · exact absurd (s.sub _ _ h1) (lk d kvs e1)
    · exact ⟨_, e1, d, o, rfl, .inl ⟨kvs, s.sub _ _ h1, p _ H B s Grow.refl (iter_keys h1 r)⟩⟩
theorem tIB_of {K : PySem.W.Frag} {F : FR} {own : List Nat} {σ : L2.St} {H : Hp} {R : It → Hp → Prop} {i : Nat} (h : tIB K F own (itK i) σ H R) : tI K F own (itK i) σ H R := by
  obtain ⟨B, Γ, s, p⟩ := h
  refine ⟨B, Γ, s, ?_⟩
  cases e : itK i Γ with
  | bad => rw [e] at p; exact p
  | raise c => exact absurd e itK_calm
  | ok ds =>
    rw [e] at p
    exact fun J H' B' s' g io => p J H' B' s' g (io.bor s'.sub)
def xCalm (t : DEnv → Res D) : DEnv → Res D := fun Γ => match t Γ with
  | .ok d => .ok d
  | _ => .bad
section
variable {X : Cx} {F : FR} {own : List Nat}
theorem de_compK {ts : List Nat} {tg elt : Expr} {ifs : List Expr} {scope : Scope} (i : Nat) {x : Str} {xp : Pos} (vs : List (Str × Nat)) {pos : Pos} {g : D → DEnv → Res DEnv} {tt : DEnv → Res Bool} {te : DEnv → Res D} (hc : X.calm = true) (hN : X.N.Nodup) (ok : BlkOk X.N X.env.scope scope vs)
    (hg : ∀ (F : FR) (s : Shared) (H : Hp) (C : Addr) (cl : List (Str × Addr)) (fp : List Addr), DG (X.blk s H scope (compEnvC scope cl C X.env) fp) F.quiet own ts tg g) (ht : ∀ (F : FR) (s : Shared) (H : Hp) (C : Addr) (cl : List (Str × Addr)) (fp : List Addr), DTs (X.blk s H scope (compEnvC scope cl C X.env) fp) F.quiet own ifs tt)
    (he : ∀ (F : FR) (s : Shared) (H : Hp) (C : Addr) (cl : List (Str × Addr)) (fp : List Addr), DE (X.blk s H scope (compEnvC scope cl C X.env) fp) F.quiet own .val elt te) (ho : i ∉ own := by decide) (hi : X.N[i]? = some x := by rfl) (hv : Vis X.env.scope x := by first | exact Or.inl rfl | exact Or.inr (Or.inl rfl) | exact Or.inr (Or.inr rfl)) (hd : (x == ("__debug__" : Str)) = false := by decide)
    (hcd : (x == ("__classdict__" : Str)) = false := by decide) (hts : ∀ i ∈ ts, i ∈ vs.map (·.2) := by decide) (hvo : ∀ i ∈ vs.map (·.2), i ∉ own := by decide) (hs : ∀ y, foldedSetIterable (.Name x xp) X.env y = pure y := by intro _; rfl) :
    DE X F own .fresh (.ListComp elt [⟨tg, .Name x xp, ifs, 0⟩] scope pos) (xCalm (xComp (vs.map (·.2)) (itK i) g tt te)) := by
  have pe : PE X (.ListComp elt [⟨tg, .Name x xp, ifs, 0⟩] scope pos) (fun σ H Q => ∃ F : FR, tLc (iKeys (tVar i)) (tG X.K F.quiet own ts g) (tB X.K F.quiet own tt) (tD X.K F.quiet own .val te) (vs.map (·.2)) σ H Q) :=
    PE.ex fun F => pe_lc (g := tG X.K F.quiet own ts g) (tt := tB X.K F.quiet own tt) (te := tD X.K F.quiet own .val te) hc hN (pi_keys (pe_var hi hv hd hcd)) ok (hg F) (ht F) (he F) hs
  refine PE.mono (PE.or (pe_lock pe) pe) fun σ H Q ⟨B, Γ, s, p⟩ => ?_
  have inner : ∀ {F : FR} {σ : L2.St} {H : Hp} {Q : VK}, (∀ d kvs, σ[i]? = some (some (.ref d)) → H d ≠ some (.dK kvs)) → tD X.K F own .fresh (xComp (vs.map (·.2)) (itK i) g tt te) σ H Q → tLc (iKeys (tVar i)) (tG X.K F.quiet own ts g) (tB X.K F.quiet own tt) (tD X.K F.quiet own .val te) (vs.map (·.2)) σ H Q := fun {F σ H Q} lk h => iKeys_of ho lk (tIB_of (lc_of vs hts hvo σ H Q h))
  unfold xCalm at p
  cases ex : xComp (vs.map (·.2)) (itK i) g tt te Γ with
  | bad => rw [ex] at p; exact p.elim
  | raise c => rw [ex] at p; exact p.elim
  | ok d0 =>
    rw [ex] at p
    have p : Post X.K F own (RV X.K F own Γ σ .fresh) (.ok d0) Γ σ H B Q := p
    have ek : ∃ ds, itK i Γ = .ok ds := by
      unfold xComp at ex
      cases e : itK i Γ with
      | ok ds => exact ⟨ds, rfl⟩
      | bad => rw [e] at ex; cases ex
      | raise c => rw [e] at ex; cases ex
    obtain ⟨ds, ek⟩ := ek
    obtain ⟨d, kvs, es, e1, h1, r, _⟩ := keys_at s ho ek
    rcases h1 with h1 | ⟨o, h1⟩
    · refine .inl ⟨d, .dK kvs, s.sub _ _ h1, trivial, fun o => ⟨lkF F d (.frz o (.dK kvs)), inner (fun d2 k2 e2 z => ?_) ⟨_, Γ, s.lock h1, ?_⟩⟩⟩
      · rw [e1] at e2
        cases e2
        rw [upd_same] at z
        cases z
      · rw [ex]
        intro v H1 B1 s1 g1 r1
        obtain ⟨s2, hH, hB⟩ := s.open h1 s1
        refine ⟨hH, p v _ _ s2 (g1.open h1 (s.sub _ _ h1)) ?_⟩
        obtain ⟨⟨a, u, rfl, n, h2, r2, n0⟩, r3, r4⟩ := r1
        have c : a ≠ d := fun z => by rw [z, hB] at n; cases n
        have n0 : upd F.H0 d (.frz o (.dK kvs)) a = none := n0
        rw [upd_ne c] at n0
        refine ⟨⟨a, u, rfl, by rw [upd_ne c]; exact n, by rw [upd_ne c]; exact h2, r2.up (up_open hB), n0⟩, r3, fun b e => ?_⟩
        have := r4 b e
        cases e
        rw [upd_ne c] at this
        exact this
    · refine .inr ⟨F, inner (fun d2 k2 e2 z => ?_) ⟨B, Γ, s, ?_⟩⟩
      · rw [e1] at e2
        cases e2
        rw [s.sub _ _ h1] at z
        cases z
      · rw [ex]; exact p
/-! ### for k in d -/
theorem for_of {ts : List Nat} {it : DEnv → Res (List D)} {g : D → DEnv → Res DEnv} {t : DEnv → Out} {Dn : Ends} {σ : L2.St} {H : Hp} (h : tS X.K F own own (sFor it g t) Dn σ H) : tFor (tI X.K F own it) (tG X.K F own ts g) (tS X.K F own own t) Dn σ H := by
  obtain ⟨B, Γ, s, p⟩ := h
  refine ⟨B, Γ, s, ?_⟩
  unfold sFor at p
  cases e : it Γ with
  | bad => rw [e] at p; exact p.elim
  | raise c => rw [e] at p; exact fun H' h => p σ H' (s.same.trans h)
  | ok ds =>
    rw [e] at p
    intro J H' B' s' gr io
    have p : OPost X.K F own Dn (forL g t ds Γ) B := p
    refine ⟨fun i m σ H => ∃ B Γ, SR X.K F own B Γ σ H ∧ Same B' B ∧ m = ds.length - i ∧ OPost X.K F own Dn (forL g t (ds.drop i) Γ) B, ⟨ds.length, B', Γ, s', Same.refl _, by simp, p.mono (gr.same s.sub)⟩, ?_⟩
    rintro i m σ1 H1 ⟨B1, Γ1, s1, b1, em, p1⟩
    have sH : Same B' H1 := b1.trans s1.sub
    by_cases hlt : i < ds.length
    · refine .inr ⟨io.go i H1 sH hlt, fun σ2 H2 => ∃ B2 Γ2, SR X.K F own B2 Γ2 σ2 H2 ∧ Same B' B2 ∧ OPost X.K F own Dn (forL g t (ds.drop (i + 1)) Γ2) B2, fun σ2 H2 ⟨B2, Γ2, s2, b2, p2⟩ => ⟨ds.length - (i + 1), by omega, B2, Γ2, s2, b2, rfl, p2⟩, fun x H2 y => ?_⟩
      have hd : ds[i]? = some ds[i] := List.getElem?_eq_getElem hlt
      obtain ⟨B2, s2, g2, r2⟩ := io.yld i H1 x H2 ds[i] sH hd y F own B1 Γ1 σ1 s1 b1
      have b2 : Same B1 B2 := g2.same s1.sub
      rw [List.drop_eq_getElem_cons hlt] at p1
      unfold forL at p1
      cases eg : g ds[i] Γ1 with
      | bad => rw [eg] at p1; exact p1.elim
      | raise c => rw [eg] at p1; exact p1.elim
      | ok Γ2 =>
        rw [eg] at p1
        have p1 : OPost X.K F own Dn ((t Γ2).andThen (forL g t (ds.drop (i + 1)))) B1 := p1
        refine ⟨B2, Γ1, ds[i], s2, r2, Γ2, eg, fun σ3 s3 _ => ⟨B2, Γ2, s3, ?_⟩⟩
        cases et : t Γ2 with
        | next Γ3 =>
          rw [et] at p1
          exact fun σ4 H4 B4 s4 b4 => ⟨B4, Γ3, s4, (b1.trans b2).trans b4, OPost.mono p1 (b2.trans b4)⟩
        | ret d => rw [et] at p1; exact p1
        | raise c => rw [et] at p1; exact p1
        | bad => rw [et] at p1; exact p1
    · refine .inl ⟨io.stop i H1 sH (by omega), ?_⟩
      rw [List.drop_eq_nil_of_le (by omega)] at p1
      exact p1 σ1 H1 B1 s1 (Same.refl _)
def sCalm (t : DEnv → Out) : DEnv → Out := fun Γ => match t Γ with
  | .next Γ' => .next Γ'
  | _ => .bad
theorem ds_forK {ts : List Nat} {tg : Expr} {body : List Stmt} {g : D → DEnv → Res DEnv} {t : DEnv → Out} {pos : Pos} (i : Nat) {x : Str} {xp : Pos} (hp : PassesOwn (model X.prog X.w) X.A X.env X.xe) (hc : X.calm = true) (hg : ∀ F : FR, DG X F own ts tg g) (hb : ∀ F : FR, DSs X F own own body t)
    (ho : i ∉ own := by decide) (hi : X.N[i]? = some x := by rfl) (hv : Vis X.env.scope x := by first | exact Or.inl rfl | exact Or.inr (Or.inl rfl) | exact Or.inr (Or.inr rfl)) (hd : (x == ("__debug__" : Str)) = false := by decide) (hcd : (x == ("__classdict__" : Str)) = false := by decide)
    (hs : ∀ y, foldedSetIterable (.Name x xp) X.env y = pure y := by intro _; rfl) : DS X F own own (.For tg (.Name x xp) body [] pos) (sCalm (sFor (itK i) g t)) := by
  have pe : PS X (.For tg (.Name x xp) body [] pos) (fun D σ H => ∃ F : FR, tFor (iKeys (tVar i)) (tG X.K F own ts g) (tS X.K F own own t) D σ H) :=
    PS.ex fun F => ps_for hp hc (pi_keys (pe_var hi hv hd hcd)) (hg F) (hb F) hs
  refine PS.mono (PS.or (ps_lock pe) pe) fun Dn σ H ⟨B, Γ, s, p⟩ => ?_
  have inner : ∀ {F : FR} {σ : L2.St} {H : Hp} {Dn : Ends}, (∀ d kvs, σ[i]? = some (some (.ref d)) → H d ≠ some (.dK kvs)) → tS X.K F own own (sFor (itK i) g t) Dn σ H → tFor (iKeys (tVar i)) (tG X.K F own ts g) (tS X.K F own own t) Dn σ H := fun {F σ H Dn} lk h => iKeys_of ho lk (for_of h)
  unfold sCalm at p
  cases ex : sFor (itK i) g t Γ with
  | bad => rw [ex] at p; exact p.elim
  | raise c => rw [ex] at p; exact p.elim
  | ret d => rw [ex] at p; exact p.elim
  | next Γ' =>
    rw [ex] at p
    have p : OPost X.K F own Dn (.next Γ') B := p
    have ek : ∃ ds, itK i Γ = .ok ds := by
      unfold sFor at ex
      cases e : itK i Γ with
      | ok ds => exact ⟨ds, rfl⟩
      | bad => rw [e] at ex; cases ex
      | raise c => rw [e] at ex; cases ex
    obtain ⟨ds, ek⟩ := ek
    obtain ⟨d, kvs, es, e1, h1, r, _⟩ := keys_at s ho ek
    rcases h1 with h1 | ⟨o, h1⟩
    · refine .inl ⟨d, .dK kvs, s.sub _ _ h1, trivial, fun o => ⟨lkF F d (.frz o (.dK kvs)), inner (fun d2 k2 e2 z => ?_) ⟨_, Γ, s.lock h1, ?_⟩⟩⟩
      · rw [e1] at e2
        cases e2
        rw [upd_same] at z
        cases z
      · rw [ex]
        intro σ' H1 B1 s1 b1
        obtain ⟨s2, hH, hB⟩ := s.open h1 s1
        refine ⟨hH, p σ' _ _ s2 fun a y e => ?_⟩
        by_cases c : a = d
        · subst c
          rw [upd_same, ← h1]
          exact e
        · rw [upd_ne c]
          exact b1 a y (by rw [upd_ne c]; exact e)
    · refine .inr ⟨F, inner (fun d2 k2 e2 z => ?_) ⟨B, Γ, s, ?_⟩⟩
      · rw [e1] at e2
        cases e2
        rw [s.sub _ _ h1] at z
        cases z
      · rw [ex]; exact p
end
end DL

/-! DL: str(x), int(text), startswith, endswith, partition, split, join. -/
namespace DL
open PySem PySem.Spec PyProof.Rows L2
variable [TabCx] [WCx]
section
variable {X : Cx} {F : FR} {own : List Nat}
/-! ### str(x), int(text) -/
def strOfD : D → Res D
  | .int i => if i.natAbs.log2 < 1920 then .ok (.str (Str.ofString (toString i))) else .bad
  | .str a => .ok (.str a)
  | _ => .bad
theorem de_strOf {e : Expr} {t : DEnv → Res D} {p pos : Pos} (h : DE X F own .bor e t) (hm : X.mg "str" = none) (hg : Gl X "str" := by rfl) (hs : starEach [e] X.env = (false, eval e X.env) :: starEach [] X.env := by rfl) :
    DE X F own .val (.Call (.Name "str" p) [e] [] pos) (xCall (on1 strOfD) (xCons t xNil)) := de_bty (CallR.or' call_str_int SkE.call_str_str) (ca1 fun Γ σ H B v d Q s r p => by
      cases d with
      | int i =>
        cases r.int
        have p : Post X.K F own (RV X.K F own Γ σ .val) (if i.natAbs.log2 < 1920 then .ok (.str (Str.ofString (toString i))) else .bad) Γ σ H B Q := p
        by_cases h : i.natAbs.log2 < 1920
        · rw [if_pos h] at p
          exact .inl ⟨i, rfl, h, Post.here p s (.str _)⟩
        · rw [if_neg h] at p; exact p.elim
      | str a =>
        cases r.str
        exact .inr ⟨a, rfl, Post.here p s (.str _)⟩
      | _ => exact p.elim) hm (by decide +kernel) (da_cons h da_nil (hs := hs)) hg (he := hs)
def intSD : D → Res D
  | .str a => match PySem.intText? a with
    | some n => if a.length ≤ 640 then .ok (.int n) else .bad
    | none => .bad
  | _ => .bad
theorem de_intS {e : Expr} {t : DEnv → Res D} {p pos : Pos} (h : DE X F own .bor e t) (hm : X.mg "int" = none) (hg : Gl X "int" := by rfl) (hs : starEach [e] X.env = (false, eval e X.env) :: starEach [] X.env := by rfl) :
    DE X F own .val (.Call (.Name "int" p) [e] [] pos) (xCall (on1 intSD) (xCons t xNil)) := de_bty call_int_str (ca1 fun Γ σ H B v d Q s r p => by
      cases d with
      | str a =>
        cases r.str
        have p : Post X.K F own (RV X.K F own Γ σ .val) (match PySem.intText? a with | some n => if a.length ≤ 640 then Res.ok (PyData.int n) else .bad | none => .bad) Γ σ H B Q := p
        cases e : PySem.intText? a with
        | none => rw [e] at p; exact p.elim
        | some n =>
          rw [e] at p
          have p : Post X.K F own (RV X.K F own Γ σ .val) (if a.length ≤ 640 then Res.ok (PyData.int n) else .bad) Γ σ H B Q := p
          by_cases hl : a.length ≤ 640
          · rw [if_pos hl] at p
            exact ⟨a, n, rfl, e, hl, Post.here p s (.int _)⟩
          · rw [if_neg hl] at p; exact p.elim
      | _ => exact p.elim) hm (by decide +kernel) (da_cons h da_nil (hs := hs)) hg (he := hs)
/-! ### methods of a text with one thing -/
def isS : D → Res D
  | .str a => .ok (.str a)
  | _ => .bad
def xM1 (g : D → D → Res D) (to te : DEnv → Res D) : DEnv → Res D := fun Γ => (to Γ).bind fun x => (isS x).bind fun x => (te Γ).bind fun y => g x y
theorem de_m1 {m : Mode} {id : String} {name : Str} {o e : Expr} {to te : DEnv → Res D} {apos cpos : Pos} {r : V → List V → Hp → VK → Prop} {g : D → D → Res D} (slot : Slot "str" name id) (ty : typeOf (.builtin id) = pure (.type "method_descriptor")) (rule : MtR X id r)
    (hr : ∀ Γ σ H B (a : Str) y v Q, SR X.K F own B Γ σ H → Bor X.K F B H v y → Post X.K F own (RV X.K F own Γ σ m) (g (.str a) y) Γ σ H B Q → r (.str a) [v] H Q)
    (ho : DE X F own .bor o to) (he : DE X F own .bor e te) (hs : starEach [e] X.env = [(false, eval e X.env)] := by rfl) (hbase : attributeBase o name X.env (eval o X.env) = eval o X.env := by rfl) (hline : (apos.endLine == cpos.line) = true := by rfl) :
    DE X F own m (.Call (.Attribute o name apos) [e] [] cpos) (xM1 g to te) := PE.mono (pe_m1 slot ty rule ho he hs hbase hline) fun σ H Q ⟨B, Γ, s, p⟩ => by
  unfold tM1
  unfold xM1 at p
  refine tD_first early_RV s p fun d v H1 B1 s1 g1 r1 p1 => ?_
  cases d with
  | str a =>
    have e1 := Bor.str (RV.bor r1)
    subst e1
    refine ⟨⟨a, rfl⟩, ?_⟩
    exact tD_first early_RV s1 p1 fun y w H2 B2 s2 g2 r2 p2 => hr Γ σ H2 B2 a y w Q s2 (RV.bor r2) p2
  | _ => exact p1.elim
def startsD : D → D → Res D := fun x y => match x, y with
  | .str a, .str b => .ok (.bool (Txt.startswith a b))
  | _, _ => .bad
theorem de_starts {o e : Expr} {to te : DEnv → Res D} {apos cpos : Pos} (ho : DE X F own .bor o to) (he : DE X F own .bor e te) (hs : starEach [e] X.env = [(false, eval e X.env)] := by rfl) (hbase : attributeBase o "startswith" X.env (eval o X.env) = eval o X.env := by rfl) (hline : (apos.endLine == cpos.line) = true := by rfl) :
    DE X F own .val (.Call (.Attribute o "startswith" apos) [e] [] cpos) (xM1 startsD to te) := de_m1 PySem.F.slot_str_startswith PySem.F.type_str_startswith mt_startswith (fun Γ σ H B a y v Q s r p => by
      cases y with
      | str b => cases r.str; exact ⟨a, b, rfl, rfl, Post.here p s (.bl _)⟩
      | _ => exact p.elim) ho he hs hbase hline
def endsD : D → D → Res D := fun x y => match x, y with
  | .str a, .str b => .ok (.bool (Txt.endswith a b))
  | _, _ => .bad
theorem de_ends {o e : Expr} {to te : DEnv → Res D} {apos cpos : Pos} (ho : DE X F own .bor o to) (he : DE X F own .bor e te) (hs : starEach [e] X.env = [(false, eval e X.env)] := by rfl) (hbase : attributeBase o "endswith" X.env (eval o X.env) = eval o X.env := by rfl) (hline : (apos.endLine == cpos.line) = true := by rfl) :
    DE X F own .val (.Call (.Attribute o "endswith" apos) [e] [] cpos) (xM1 endsD to te) := de_m1 PySem.F.slot_str_endswith PySem.F.type_str_endswith mt_endswith (fun Γ σ H B a y v Q s r p => by
      cases y with
      | str b => cases r.str; exact ⟨a, b, rfl, rfl, Post.here p s (.bl _)⟩
      | _ => exact p.elim) ho he hs hbase hline
def partsD : D → D → Res D := fun x y => match x, y with
  | .str a, .str b => if (b.length == 0) = false ∧ a.length ≤ sizeLine then .ok (.tuple [.str (Txt.partition a b).1, .str (Txt.partition a b).2.1, .str (Txt.partition a b).2.2]) else .bad
  | _, _ => .bad
theorem de_parts {o e : Expr} {to te : DEnv → Res D} {apos cpos : Pos} (ho : DE X F own .bor o to) (he : DE X F own .bor e te) (hs : starEach [e] X.env = [(false, eval e X.env)] := by rfl) (hbase : attributeBase o "partition" X.env (eval o X.env) = eval o X.env := by rfl) (hline : (apos.endLine == cpos.line) = true := by rfl) :
    DE X F own .val (.Call (.Attribute o "partition" apos) [e] [] cpos) (xM1 partsD to te) := de_m1 PySem.F.slot_str_partition PySem.F.type_str_partition mt_partition (fun Γ σ H B a y v Q s r p => by
      cases y with
      | str b =>
        cases r.str
        have p : Post X.K F own (RV X.K F own Γ σ .val) (if (b.length == 0) = false ∧ a.length ≤ sizeLine then .ok (.tuple [.str (Txt.partition a b).1, .str (Txt.partition a b).2.1, .str (Txt.partition a b).2.2]) else .bad) Γ σ H B Q := p
        by_cases h : (b.length == 0) = false ∧ a.length ≤ sizeLine
        · rw [if_pos h] at p
          exact ⟨a, b, rfl, rfl, h.1, h.2, fun q hq => Post.newTup p s (.cons (.str _) (.cons (.str _) (.cons (.str _) .nil))) hq⟩
        · rw [if_neg h] at p; exact p.elim
      | _ => exact p.elim) ho he hs hbase hline
theorem reps_strs {K : PySem.W.Frag} {B : Hp} : ∀ l : List Str, Reps K B (l.map V.str) (l.map PyData.str)
  | [] => .nil
  | x :: l => .cons (.str x) (reps_strs l)
def splitD : D → D → Res D := fun x y => match x, y with
  | .str a, .str b => if (b.length == 0) = false ∧ a.length + 2 ≤ sizeLine then .ok (.list ((Txt.split a b).map .str)) else .bad
  | _, _ => .bad
theorem de_split {o e : Expr} {to te : DEnv → Res D} {apos cpos : Pos} (ho : DE X F own .bor o to) (he : DE X F own .bor e te) (hs : starEach [e] X.env = [(false, eval e X.env)] := by rfl) (hbase : attributeBase o "split" X.env (eval o X.env) = eval o X.env := by rfl) (hline : (apos.endLine == cpos.line) = true := by rfl) :
    DE X F own .fresh (.Call (.Attribute o "split" apos) [e] [] cpos) (xM1 splitD to te) := de_m1 PySem.F.slot_str_split PySem.F.type_str_split mt_split (fun Γ σ H B a y v Q s r p => by
      cases y with
      | str b =>
        cases r.str
        have p : Post X.K F own (RV X.K F own Γ σ .fresh) (if (b.length == 0) = false ∧ a.length + 2 ≤ sizeLine then .ok (.list ((Txt.split a b).map .str)) else .bad) Γ σ H B Q := p
        by_cases h : (b.length == 0) = false ∧ a.length + 2 ≤ sizeLine
        · rw [if_pos h] at p
          exact ⟨a, b, rfl, rfl, h.1, h.2, fun q hq => Post.newObj p s (show ORep X.K B _ (.lst _) (.list _) from reps_strs _) hq⟩
        · rw [if_neg h] at p; exact p.elim
      | _ => exact p.elim) ho he hs hbase hline
def strsOf : List D → Option (List Str)
  | [] => some []
  | .str a :: r => (strsOf r).map (a :: ·)
  | _ :: _ => none
theorem strsOf_eq : ∀ {ds : List D} {l : List Str}, strsOf ds = some l → ds = l.map .str
  | [], l, e => by cases e; rfl
  | d :: ds, l, e => by
    cases d with
    | str a =>
      have e : (strsOf ds).map (a :: ·) = some l := e
      cases q : strsOf ds with
      | none => rw [q] at e; cases e
      | some m =>
        rw [q] at e
        cases e
        rw [strsOf_eq q]
        rfl
    | _ => cases e
theorem strs_rep {K : PySem.W.Frag} {B : Hp} : ∀ {l : List Str} {xs : List V}, Reps K B xs (l.map PyData.str) → xs = l.map V.str
  | [], _, .nil => rfl
  | x :: l, _, .cons r t => by
    cases r
    rw [strs_rep t]
    rfl
def joinD : D → D → Res D := fun x y => match x, y with
  | .str a, .list ds => (match strsOf ds with
    | some l => if (l.map (·.length)).sum + l.length * a.length ≤ 16777216 then .ok (.str (Txt.join a l)) else .bad
    | none => .bad)
  | _, _ => .bad
theorem de_join {o e : Expr} {to te : DEnv → Res D} {apos cpos : Pos} (ho : DE X F own .bor o to) (he : DE X F own .bor e te) (hs : starEach [e] X.env = [(false, eval e X.env)] := by rfl) (hbase : attributeBase o "join" X.env (eval o X.env) = eval o X.env := by rfl) (hline : (apos.endLine == cpos.line) = true := by rfl) :
    DE X F own .val (.Call (.Attribute o "join" apos) [e] [] cpos) (xM1 joinD to te) := de_m1 PySem.F.slot_str_join PySem.F.type_str_join mt_join (fun Γ σ H B a y v Q s r p => by
      cases y with
      | list ds =>
        have p : Post X.K F own (RV X.K F own Γ σ .val) (match strsOf ds with | some l => if (l.map (·.length)).sum + l.length * a.length ≤ 16777216 then .ok (.str (Txt.join a l)) else .bad | none => .bad) Γ σ H B Q := p
        cases e : strsOf ds with
        | none => rw [e] at p; exact p.elim
        | some l =>
          rw [e] at p
          have p : Post X.K F own (RV X.K F own Γ σ .val) (if (l.map (·.length)).sum + l.length * a.length ≤ 16777216 then .ok (.str (Txt.join a l)) else .bad) Γ σ H B Q := p
          by_cases h : (l.map (·.length)).sum + l.length * a.length ≤ 16777216
          · rw [if_pos h] at p
            obtain ⟨q, xs, rfl, hx, rr⟩ := r.list s.sub
            rw [strsOf_eq e] at rr
            rw [strs_rep rr] at hx
            exact ⟨a, q, l, rfl, rfl, .inl hx, h, Post.here p s (.str _)⟩
          · rw [if_neg h] at p; exact p.elim
      | _ => exact p.elim) ho he hs hbase hline
end
end DL

/-! DL: dicts whose keys are nested tuples: setdefault, d[k] = v, k in d, d[k], list(d). For programs without lambdas. -/
namespace DL
open PySem PySem.Spec PyProof.Rows L2 DLT
variable [WCx]
/-! ### keys as data -/
mutual
theorem data_plain : ∀ k : NestedKey, k.data.plain = true
  | .none => rfl
  | .num _ => rfl
  | .text _ => rfl
  | .tup ks => datas_plain ks
theorem datas_plain : ∀ ks : List NestedKey, PyData.plainAll (NestedKey.datas ks) = true
  | [] => rfl
  | k :: ks => by
    show (k.data.plain && PyData.plainAll (NestedKey.datas ks)) = true
    rw [data_plain k, datas_plain ks]
    rfl
end
mutual
theorem data_depth : ∀ k : NestedKey, k.data.depth ≤ k.depth
  | .none => Nat.le_refl 0
  | .num _ => Nat.le_refl 0
  | .text _ => Nat.le_refl 0
  | .tup ks => by
    have := datas_depth ks
    show PyData.depth (.tuple (NestedKey.datas ks)) ≤ NestedKey.depth (.tup ks)
    rw [PyData.depth, NestedKey.depth]
    omega
theorem datas_depth : ∀ ks : List NestedKey, PyData.depthAll (NestedKey.datas ks) ≤ NestedKey.depthAll ks
  | [] => Nat.le_refl 0
  | k :: ks => by
    have h1 := data_depth k
    have h2 := datas_depth ks
    show PyData.depthAll (k.data :: NestedKey.datas ks) ≤ NestedKey.depthAll (k :: ks)
    rw [PyData.depthAll, NestedKey.depthAll]
    omega
end
mutual
theorem eqv_data : ∀ a b : NestedKey, PyData.eqv a.data b.data = NestedKey.beq a b
  | .none, .none => rfl
  | .none, .num _ => rfl
  | .none, .text _ => rfl
  | .none, .tup _ => rfl
  | .num _, .none => rfl
  | .num i, .num j => by
    show (i == j) = decide (i = j)
    by_cases h : i = j <;> simp [h]
  | .num _, .text _ => rfl
  | .num _, .tup _ => rfl
  | .text _, .none => rfl
  | .text _, .num _ => rfl
  | .text x, .text y => by
    show (x == y) = decide (x = y)
    by_cases h : x = y <;> simp [h]
  | .text _, .tup _ => rfl
  | .tup _, .none => rfl
  | .tup _, .num _ => rfl
  | .tup _, .text _ => rfl
  | .tup xs, .tup ys => by
    rw [NestedKey.beq]
    exact eqv_datas xs ys
theorem eqv_datas : ∀ xs ys : List NestedKey, PyData.eqvAll (NestedKey.datas xs) (NestedKey.datas ys) = NestedKey.beqAll xs ys
  | [], [] => rfl
  | [], _ :: _ => rfl
  | _ :: _, [] => rfl
  | x :: xs, y :: ys => by
    show (PyData.eqv x.data y.data && PyData.eqvAll (NestedKey.datas xs) (NestedKey.datas ys)) = _
    rw [eqv_data x y, eqv_datas xs ys, NestedKey.beqAll]
end
theorem eqv_nk (a b : NestedKey) : PyData.eqv a.data b.data = decide (a = b) := by rw [eqv_data, NestedKey.decide_eq]
/-! ### the rows of such a dict -/
def valN (ps : List NRow) (k : NestedKey) : Option V := (ps.find? fun p => decide (p.1 = k)).map (·.2.2)
def putN (ps : List NRow) (k : NestedKey) (b : Addr) (v : V) : List NRow := if (valN ps k).isSome then ps.map (fun p => if p.1 = k then (p.1, p.2.1, v) else p) else ps ++ [(k, b, v)]
section
variable {K : PySem.W.Frag} {B H : Hp}
theorem valN_pos {k : NestedKey} {b : Addr} {v : V} {ps : List NRow} : valN ((k, b, v) :: ps) k = some v := by
  unfold valN
  rw [List.find?_cons_of_pos (by simp)]
  rfl
theorem valN_neg {k k' : NestedKey} {b : Addr} {v : V} {ps : List NRow} (h : k' ≠ k) : valN ((k', b, v) :: ps) k = valN ps k := by
  unfold valN
  rw [List.find?_cons_of_neg (by simp [h])]
theorem RepN.get (k : NestedKey) : ∀ {ps : List NRow} {es : List (D × D)}, RepN K B ps es → (∃ v d, valN ps k = some v ∧ dGet es k.data = some d ∧ Rep K B v d) ∨ (valN ps k = none ∧ dGet es k.data = none)
  | _, _, .nil => .inr ⟨rfl, rfl⟩
  | _, _, .cons (k := k') (b := b) (v := v) (e := e) (ps := ps) (es := es) a _ _ r t => by
    by_cases h : k' = k
    · subst h
      refine .inl ⟨v, e, valN_pos, ?_, r⟩
      unfold dGet
      rw [List.find?_cons_of_pos (by rw [eqv_nk]; simp)]
      rfl
    · have e2 : dGet ((k'.data, e) :: es) k.data = dGet es k.data := by
        unfold dGet
        rw [List.find?_cons_of_neg (by rw [eqv_nk]; simp [h])]
      rw [valN_neg h, e2]
      exact RepN.get k t
theorem RepN.any (k : NestedKey) {ps : List NRow} {es : List (D × D)} (r : RepN K B ps es) : (es.any fun e => PyData.eqv e.1 k.data) = (valN ps k).isSome := by
  have : (es.any fun e => PyData.eqv e.1 k.data) = (dGet es k.data).isSome := by
    unfold dGet
    rw [Option.isSome_map]
    clear r
    induction es with
    | nil => rfl
    | cons e es ih =>
      rw [List.any_cons, List.find?_cons]
      cases q : PyData.eqv e.1 k.data with
      | true => rfl
      | false =>
        rw [Bool.false_or]
        exact ih
  rw [this]
  rcases RepN.get k r with ⟨v, d, h1, h2, _⟩ | ⟨h1, h2⟩ <;> rw [h1, h2] <;> rfl
theorem RepN.repl (k : NestedKey) {v : V} {d : D} (r : Rep K B v d) : ∀ {ps : List NRow} {es : List (D × D)}, RepN K B ps es → RepN K B (ps.map fun p => if p.1 = k then (p.1, p.2.1, v) else p) (es.map fun e => if PyData.eqv e.1 k.data then (e.1, d) else e)
  | _, _, .nil => .nil
  | _, _, .cons (k := k') a n l x b => by
    rw [List.map_cons, List.map_cons]
    by_cases h : k' = k
    · rw [if_pos h, if_pos (by rw [eqv_nk]; exact decide_eq_true h)]
      exact .cons a n l r (RepN.repl k r b)
    · rw [if_neg h, if_neg (by rw [eqv_nk]; simp [h])]
      exact .cons a n l x (RepN.repl k r b)
theorem RepN.append : ∀ {a b : List NRow} {c d : List (D × D)}, RepN K B a c → RepN K B b d → RepN K B (a ++ b) (c ++ d)
  | _, _, _, _, .nil, r => r
  | _, _, _, _, .cons a n l x b, r => .cons a n l x (RepN.append b r)
theorem RepN.put {k : NestedKey} {b : Addr} {v : V} {d : D} (hb : Rep K B (.ref b) k.data) (n : nestK k = true) (l : k.depth ≤ 8) (r : Rep K B v d) {ps : List NRow} {es : List (D × D)} (t : RepN K B ps es) : RepN K B (putN ps k b v) (dPut es k.data d) := by
  unfold putN dPut
  rw [t.any k]
  cases (valN ps k).isSome with
  | true =>
    rw [if_pos rfl, if_pos rfl]
    exact t.repl k r
  | false =>
    rw [if_neg Bool.false_ne_true, if_neg Bool.false_ne_true]
    exact t.append (.cons hb n l r .nil)
theorem putN_len (ps : List NRow) (k : NestedKey) (b : Addr) (v : V) : (putN ps k b v).length ≤ ps.length + 1 := by
  unfold putN
  split
  · rw [List.length_map]; omega
  · simp
theorem repN_rows {F : FR} (sub : Same B H) : ∀ {ps : List NRow} {es : List (D × D)}, RepN K B ps es → ∀ p ∈ ps, RowOk K H (p.2.1, p.1)
  | _, _, .nil, p, hp => by cases hp
  | _, _, .cons a n l x t, p, hp => by
    rcases List.mem_cons.mp hp with rfl | hp
    · exact ⟨Bor.dp sub (data_plain _) (F := F) (.inl a), l, Nat.le_trans (data_depth _) (Nat.le_trans l (by omega))⟩
    · exact repN_rows (F := F) sub t p hp
end
/-! ### rows as they lie in the heap -/
theorem nRel_val {k : NestedKey} : ∀ {ps : List NRow} {xs : List (NestedKey × Addr × Value)}, Paired nRel ps xs → (valN ps k = none ∧ atKey xs k = none) ∨ ∃ v q, valN ps k = some v ∧ atKey xs k = some q ∧ RelV v q.2
  | _, _, .nil => .inl ⟨rfl, rfl⟩
  | (k', b, v) :: ps, (k2, b2, w) :: xs, .cons r t => by
    obtain ⟨e1, e2, e3⟩ := r
    have e1 : k' = k2 := e1
    subst e1
    by_cases h : k' = k
    · subst h
      refine .inr ⟨v, (b2, w), valN_pos, ?_, e3⟩
      unfold atKey
      rw [List.find?_cons_of_pos (by simp)]
      rfl
    · have q : atKey ((k', b2, w) :: xs) k = atKey xs k := by
        unfold atKey
        rw [List.find?_cons_of_neg (by simp [h])]
      rw [valN_neg h, q]
      exact nRel_val t
theorem nRel_put {k : NestedKey} {b : Addr} {v : V} {r : Value} (rv : RelV v r) {ps : List NRow} {xs : List (NestedKey × Addr × Value)} (t : Paired nRel ps xs) : Paired nRel (putN ps k b v) (storedH xs k b r) := by
  have some_eq : (valN ps k).isSome = (atKey xs k).isSome := by
    rcases nRel_val (k := k) t with ⟨h1, h2⟩ | ⟨_, _, h1, h2, _⟩ <;> rw [h1, h2] <;> rfl
  unfold putN storedH
  rw [some_eq]
  cases (atKey xs k).isSome with
  | true =>
    rw [if_pos rfl, if_pos rfl]
    clear some_eq
    induction t with
    | nil => exact .nil
    | @cons p q ps xs h t ih =>
      rw [List.map_cons, List.map_cons]
      refine .cons ?_ ih
      obtain ⟨e1, e2, e3⟩ := h
      unfold putAt
      by_cases c : p.1 = k
      · rw [if_pos c, if_pos (by rw [← e1]; exact c)]
        exact ⟨e1, e2, rv⟩
      · rw [if_neg c, if_neg (by rw [← e1]; exact c)]
        exact ⟨e1, e2, e3⟩
  | false =>
    rw [if_neg Bool.false_ne_true, if_neg Bool.false_ne_true]
    clear some_eq
    induction t with
    | nil => exact .cons ⟨rfl, rfl, rv⟩ .nil
    | cons h t ih => exact .cons h ih
theorem extN_new {P : Program} {w : World} {H : Hp} {h : Heap} {a : Addr} {ps : List NRow} (p : dnφ a ps h) : ObjOk P w H h a (.ext (dnφ a ps)) := by
  obtain ⟨z, hd, w', xs, e, rel, o, es, ep, ho, r⟩ := p
  exact ⟨⟨z, hd, w', xs, e, rel, o, es, ep, ho, r⟩, ⟨o, ho⟩, fun h1 h2 ⟨z, hd, w', xs, e, rel, o, es, ep, ho, r⟩ k => ⟨z, hd, w', xs, e, rel, o, es, ep, k o ho, r⟩⟩
/-- the dict at a has nested keys (or none) -/
def IsN' (H : Hp) (a : Addr) (ps : List NRow) : Prop := H a = some (.ext (dnφ a ps)) ∨ (H a = some (.dK []) ∧ ps = [])
/-- the same, to be read -/
def IsNr (H : Hp) (a : Addr) (ps : List NRow) : Prop := H a = some (.ext (dnφ a ps)) ∨ (Rd H a (.dK []) ∧ ps = [])
theorem IsN'.r {H : Hp} {a : Addr} {ps : List NRow} (e : IsN' H a ps) : IsNr H a ps := e.imp id fun ⟨e, q⟩ => ⟨.inl e, q⟩
section
variable {X : Cx} {pins : List (Addr × Obj)} {σ : L2.St} {H : Hp} {s : Shared} {a b : Addr} {r : Value} {d : V} {k : NestedKey} {A : Around} {E : Value → Shared → Prop} {ps : List NRow}
theorem rows_isN (I : Inv X pins σ H s) : ∀ {ps : List NRow} {xs : List (NestedKey × Addr × Value)}, Paired nRel ps xs → (∀ p ∈ ps, RowOk X.K H (p.2.1, p.1)) → ∀ x ∈ xs, IsN s.heap x.1 x.2.1
  | _, _, .nil, _, x, hx => by cases hx
  | (k', b', v') :: _, _, .cons h t, rows, x, hx => by
    rcases List.mem_cons.mp hx with rfl | hx
    · obtain ⟨e1, e2, _⟩ := h
      have := (RowOk.reads I (rows _ List.mem_cons_self)).2
      rw [← e1, ← e2]
      exact this
    · exact rows_isN I t (fun p hp => rows p (List.mem_cons_of_mem _ hp)) x hx
theorem isN_of (hw : WCx.w = some X.w) (I : Inv X pins σ H s) (e : IsNr H a ps) (rows : ∀ p ∈ ps, RowOk X.K H (p.2.1, p.1)) : ps.length ≤ sizeLine ∧ (a == sysModules) = false ∧ ∃ xs, Paired nRel ps xs ∧ s.heap.DictOfH (nestedKind X.prog X.w) a xs := by
  rcases e with e | ⟨e, rfl⟩
  · obtain ⟨⟨z, hd, w, xs, ew, rel, o, es, ep, h1, h2, h3, h4, h5⟩, _⟩ := (show ObjOk X.prog X.w H s.heap a (.ext (dnφ a ps)) from I.hok a _ e)
    rw [hw] at ew
    cases ew
    exact ⟨z, hd, xs, rel, o, es, ep, h1, h2, h3, h4, rows_isN I rel rows, h5⟩
  · obtain ⟨z, hd, vs, rel, o, es, ep, h1, h2, h3, h4, h5, h6⟩ := dk_rd I.hok e
    refine ⟨z, hd, [], .nil, o, es, ep, h1, h2, h3, ?_, (fun x hx => nomatch hx), List.nodup_nil⟩
    cases rel
    have : es.toList.length = 0 := by
      have := h5
      first
        | (have q := this.length; simpa using q)
        | (cases this; rename_i q; simp_all)
        | (revert this; cases hq : es.toList with
            | nil => intro _; rfl
            | cons x y => intro q; cases q)
    exact List.eq_nil_of_length_eq_zero this
theorem isN_mut (e : IsN' H a ps) : Mut (H a) := by
  rcases e with e | ⟨e, _⟩ <;> rw [e] <;> exact True.intro
/-- written anew -/
theorem isN_write {h' : Heap} {t' : Nat} {xs : List (NestedKey × Addr × Value)} {ps' : List NRow} (hw : WCx.w = some X.w) (I : Inv X pins σ H s) (e : IsN' H a ps) (hd : (a == sysModules) = false) (dd : h'.DictOfH (nestedKind X.prog X.w) a xs) (hs : Heap.SameBut a s.heap h') (rel : Paired nRel ps' xs) (hl : ps'.length ≤ sizeLine) :
    Inv X pins σ (upd H a (.ext (dnφ a ps'))) { s with heap := h', toks := t' } := by
  obtain ⟨q, es, ep, hq, g2, g3, g4, _, g5⟩ := dd
  exact d_write I (isN_mut e) hs ⟨q, hq⟩ (extN_new ⟨hl, hd, X.w, xs, hw, rel, q, es, ep, hq, g2, g3, g4, g5⟩)
theorem dn_setd {Q : Value → Shared → Prop} (hw : WCx.w = some X.w) (hu : A.units + 64 < cLine) (I : Inv X pins σ H s) (e : IsN' H a ps) (rows : ∀ p ∈ ps, RowOk X.K H (p.2.1, p.1)) (rk : RowOk X.K H (b, k)) (rd : RelV d r) (hl : ps.length < sizeLine)
    (h1 : ∀ v, valN ps k = some v → ∀ (w' : Value) (s' : Shared), Inv X pins σ H s' → RelV v w' → Q w' s') (h2 : valN ps k = none → ∀ (w' : Value) (s' : Shared), Inv X pins σ (upd H a (.ext (dnφ a (putN ps k b d)))) s' → RelV d w' → Q w' s') :
    wpAny (model X.prog X.w) A (call (.builtin "dict.setdefault") [.ref a, .ref b, r]) Q E s := by
  obtain ⟨z, hd, xs, rel, dd⟩ := isN_of hw I e.r rows
  have hz : xs.length ≤ sizeLine := by rw [← Paired.length rel]; exact z
  have hl2 : (putN ps k b d).length ≤ sizeLine := by have := putN_len ps k b d; omega
  refine call_setdefault_heap (knd := nestedKind X.prog X.w) (hsz := hz) (show A.in1.units + 8 < cLine by rw [Around.in1_units]; omega) (RowOk.reads I rk).2 hd dd (fun p hp => ?_) fun hn h' dd' hs => ?_
  · rcases nRel_val (k := k) rel with ⟨_, q2⟩ | ⟨v, q, q1, q2, q3⟩
    · rw [hp] at q2; cases q2
    · rw [hp] at q2; cases q2
      exact h1 v q1 _ _ (I.tok _) q3
  · rcases nRel_val (k := k) rel with ⟨q1, _⟩ | ⟨v, q, _, q2, _⟩
    · exact h2 q1 _ _ (isN_write hw I e hd dd' hs (nRel_put rd rel) hl2) rd
    · rw [hn] at q2; cases q2
theorem dn_set {Q : Unit → Shared → Prop} (hw : WCx.w = some X.w) (hu : A.units + 64 < cLine) (I : Inv X pins σ H s) (e : IsN' H a ps) (rows : ∀ p ∈ ps, RowOk X.K H (p.2.1, p.1)) (rk : RowOk X.K H (b, k)) (rd : RelV d r) (hl : ps.length < sizeLine)
    (h : ∀ s' : Shared, Inv X pins σ (upd H a (.ext (dnφ a (putN ps k b d)))) s' → Q () s') : wpAny (model X.prog X.w) A (setItem (.ref a) (.ref b) r) Q E s := by
  obtain ⟨z, hd, xs, rel, dd⟩ := isN_of hw I e.r rows
  have hz : xs.length ≤ sizeLine := by rw [← Paired.length rel]; exact z
  have hl2 : (putN ps k b d).length ≤ sizeLine := by have := putN_len ps k b d; omega
  exact wpAny_setItem_heap (knd := nestedKind X.prog X.w) (hsz := hz) (show A.in1.units + 8 < cLine by rw [Around.in1_units]; omega) (RowOk.reads I rk).2 dd fun h' dd' hs => h _ (isN_write hw I e hd dd' hs (nRel_put rd rel) hl2)
theorem dn_in {Q : Value → Shared → Prop} (hw : WCx.w = some X.w) (hu : A.units + 64 < cLine) (I : Inv X pins σ H s) (e : IsNr H a ps) (rows : ∀ p ∈ ps, RowOk X.K H (p.2.1, p.1)) (rk : RowOk X.K H (b, k))
    (h : ∀ s', Inv X pins σ H s' → Q (.bool (valN ps k).isSome) s') : wpAny (model X.prog X.w) A (compareOp .In (.ref b) (.ref a)) Q E s := by
  obtain ⟨z, hd, xs, rel, dd⟩ := isN_of hw I e rows
  refine wpAny_in_heap (knd := nestedKind X.prog X.w) (show A.in1.units + 8 < cLine by rw [Around.in1_units]; omega) (RowOk.reads I rk).2 hd dd ?_
  have q : (valN ps k).isSome = (atKey xs k).isSome := by
    rcases nRel_val (k := k) rel with ⟨h1, h2⟩ | ⟨_, _, h1, h2, _⟩ <;> rw [h1, h2] <;> rfl
  rw [← q]
  exact h _ (I.tok _)
theorem dn_notIn {Q : Value → Shared → Prop} (hw : WCx.w = some X.w) (hu : A.units + 64 < cLine) (I : Inv X pins σ H s) (e : IsNr H a ps) (rows : ∀ p ∈ ps, RowOk X.K H (p.2.1, p.1)) (rk : RowOk X.K H (b, k))
    (h : ∀ s', Inv X pins σ H s' → Q (.bool (!(valN ps k).isSome)) s') : wpAny (model X.prog X.w) A (compareOp .NotIn (.ref b) (.ref a)) Q E s := by
  obtain ⟨z, hd, xs, rel, dd⟩ := isN_of hw I e rows
  refine wpAny_notIn_heap (knd := nestedKind X.prog X.w) (show A.in1.units + 8 < cLine by rw [Around.in1_units]; omega) (RowOk.reads I rk).2 hd dd ?_
  have q : (valN ps k).isSome = (atKey xs k).isSome := by
    rcases nRel_val (k := k) rel with ⟨h1, h2⟩ | ⟨_, _, h1, h2, _⟩ <;> rw [h1, h2] <;> rfl
  rw [← q]
  exact h _ (I.tok _)
theorem dn_get {v : V} {Q : Value → Shared → Prop} (hw : WCx.w = some X.w) (hu : A.units + 64 < cLine) (I : Inv X pins σ H s) (e : IsNr H a ps) (rows : ∀ p ∈ ps, RowOk X.K H (p.2.1, p.1)) (rk : RowOk X.K H (b, k)) (hv : valN ps k = some v)
    (h : ∀ w' s', Inv X pins σ H s' → RelV v w' → Q w' s') : wpAny (model X.prog X.w) A (getItem (.ref a) (.ref b)) Q E s := by
  obtain ⟨z, hd, xs, rel, dd⟩ := isN_of hw I e rows
  rcases nRel_val (k := k) rel with ⟨h1, _⟩ | ⟨v', q, h1, h2, h3⟩
  · rw [hv] at h1; cases h1
  · rw [hv] at h1; cases h1
    exact wpAny_getItem_heap (knd := nestedKind X.prog X.w) (show A.in1.units + 8 < cLine by rw [Around.in1_units]; omega) (RowOk.reads I rk).2 dd h2 (h _ _ (I.tok _) h3)
end
end DL

/-! DL: dicts whose keys are nested tuples, over data. For programs without lambdas. -/
namespace DL
open PySem PySem.Spec PyProof.Rows L2 DLT
variable [WCx]
def okN (k : D) : Bool := match keyN k with
  | some kk => nestK kk && decide (kk.depth ≤ 8)
  | none => false
def guardN (es : List (D × D)) : Bool := es.all fun e => okN e.1
def nOK (es : List (D × D)) (k : D) : Bool := okN k && guardN es
theorem okN_cases {k : D} (h : okN k = true) : ∃ kk : NestedKey, k = kk.data ∧ nestK kk = true ∧ kk.depth ≤ 8 := by
  unfold okN at h
  cases e : keyN k with
  | none => rw [e] at h; cases h
  | some kk =>
    rw [e] at h
    have h : (nestK kk && decide (kk.depth ≤ 8)) = true := h
    rw [Bool.and_eq_true, decide_eq_true_iff] at h
    exact ⟨kk, (keyN_data k kk e).symm, h.1, h.2⟩
theorem keysN_flat : ∀ (ks : List Key) (js : List NestedKey), keysN (ks.map kD) = some js → (js.any fun | .tup _ => true | _ => false) = false
  | [], js, h => by cases h; rfl
  | k :: ks, js, h => by
    rw [List.map_cons] at h
    obtain ⟨j, r, e1, e2, rfl⟩ := keysN_cons h
    rw [List.any_cons, keysN_flat ks r e2, Bool.or_false]
    cases k with
    | inl i => cases e1; rfl
    | inr x => cases e1; rfl
theorem okN_kD (k : Key) : okN (kD k) = false := by cases k <;> rfl
theorem okN_flat (ks : List Key) : okN (.tuple (ks.map kD)) = false := by
  unfold okN
  rw [keyN]
  cases e : keysN (ks.map kD) with
  | none => rfl
  | some js =>
    show ((js.any fun | .tup _ => true | _ => false) && _) = false
    rw [keysN_flat ks js e]
    rfl
section
variable {K : PySem.W.Frag} {F : FR} {own : List Nat} {B H : Hp}
theorem guardN_K {kvs : List (Key × V)} {es : List (D × D)} (r : RepK K B kvs es) (g : guardN es = true) : kvs = [] ∧ es = [] := by
  cases r with
  | nil => exact ⟨rfl, rfl⟩
  | cons a b =>
    unfold guardN at g
    rw [List.all_cons, okN_kD] at g
    cases g
theorem guardN_T {kvs : List (List Key × V)} {es : List (D × D)} (r : RepT K B kvs es) (n : es ≠ []) (g : guardN es = true) : False := by
  cases r with
  | nil => exact n rfl
  | cons a b =>
    unfold guardN at g
    rw [List.all_cons, okN_flat] at g
    cases g
theorem borN {v : V} {es : List (D × D)} (sub : Same B H) (r : Bor K F B H v (.dict es)) (g : guardN es = true) : ∃ a ps, v = .ref a ∧ IsNr H a ps ∧ RepN K B ps es := by
  obtain ⟨a, e, hd⟩ := r.dict sub
  rcases hd with ⟨kvs, h, r⟩ | ⟨kvs, h, r, n⟩ | ⟨ps, h, r, n⟩
  · obtain ⟨rfl, rfl⟩ := guardN_K r g
    exact ⟨a, [], e, .inr ⟨h, rfl⟩, .nil⟩
  · exact (guardN_T r n g).elim
  · exact ⟨a, ps, e, .inl h, r⟩
theorem own_slotN {Γ : DEnv} {σ : L2.St} {i : Nat} {es : List (D × D)} (s : SR K F own B Γ σ H) (hi : i ∈ own) (e : Γ[i]? = some (some (.dict es))) (g : guardN es = true) : ∃ a ps, σ[i]? = some (some (.ref a)) ∧ IsN' H a ps ∧ RepN K B ps es := by
  obtain ⟨a, ev, hd⟩ := own_slotD s hi e
  rcases hd with ⟨kvs, h, r⟩ | ⟨kvs, h, r, n⟩ | ⟨ps, h, r, n, _⟩
  · obtain ⟨rfl, rfl⟩ := guardN_K r g
    exact ⟨a, [], ev, .inr ⟨h, rfl⟩, .nil⟩
  · exact (guardN_T r n g).elim
  · exact ⟨a, ps, ev, .inl h, r⟩
theorem rep_nest {y : V} {kk : NestedKey} (r : Rep K B y kk.data) (n : nestK kk = true) : ∃ b, y = .ref b := by
  cases kk with
  | tup ks =>
    have r : Rep K B y (.tuple (NestedKey.datas ks)) := r
    cases r with
    | tup h _ => exact ⟨_, rfl⟩
  | _ => cases n
theorem bor_nest {y : V} {kk : NestedKey} (r : Bor K F B H y kk.data) (n : nestK kk = true) : Rep K B y kk.data := by
  rcases r with r | ⟨a, o, _, _, _, r, _⟩
  · exact r
  · cases kk with
    | tup ks => cases o <;> exact False.elim r
    | _ => cases n
theorem rowOk_of {F : FR} (sub : Same B H) {b : Addr} {kk : NestedKey} (r : Rep K B (.ref b) kk.data) (l : kk.depth ≤ 8) : RowOk K H (b, kk) := ⟨Bor.dp sub (data_plain _) (F := F) (.inl r), l, Nat.le_trans (data_depth _) (Nat.le_trans l (by omega))⟩
end
/-! ### k in d, d[k] -/
def inND : D → D → Res D := fun x y => match y with
  | .dict es => if nOK es x then .ok (.bool (dGet es x).isSome) else .bad
  | _ => .bad
def ninND : D → D → Res D := fun x y => match y with
  | .dict es => if nOK es x then .ok (.bool (!(dGet es x).isSome)) else .bad
  | _ => .bad
def dixND : D → D → Res D := fun x y => match x with
  | .dict es => if nOK es y then (match dGet es y with | some d => .ok d | none => .bad) else .bad
  | _ => .bad
def NAt (K : PySem.W.Frag) (H : Hp) (a : Addr) (ps : List NRow) (y : V) (k : NestedKey) : Prop := ∃ b, y = .ref b ∧ IsNr H a ps ∧ (∀ p ∈ ps, RowOk K H (p.2.1, p.1)) ∧ RowOk K H (b, k)
def rNin (K : PySem.W.Frag) (g : Bool → Bool) : R2 := fun x y H Q => ∃ a ps k, y = .ref a ∧ NAt K H a ps x k ∧ Q (.bl (g (valN ps k).isSome)) H
theorem n_get {K : PySem.W.Frag} {F : FR} {B H : Hp} {u v : V} {es : List (D × D)} {k : D} (sub : Same B H) (rd : Bor K F B H u (.dict es)) (rk : Bor K F B H v k) (h : nOK es k = true) :
    ∃ a ps kk, u = .ref a ∧ NAt K H a ps v kk ∧ ((∃ w d, valN ps kk = some w ∧ dGet es k = some d ∧ Rep K B w d) ∨ (valN ps kk = none ∧ dGet es k = none)) := by
  unfold nOK at h
  rw [Bool.and_eq_true] at h
  obtain ⟨kk, rfl, n, l⟩ := okN_cases h.1
  obtain ⟨a, ps, e, hN, r⟩ := borN sub rd h.2
  have rk := bor_nest rk n
  obtain ⟨b, rfl⟩ := rep_nest rk n
  exact ⟨a, ps, kk, e, ⟨b, rfl, hN, repN_rows (F := F) sub r, rowOk_of (F := F) sub rk l⟩, r.get kk⟩
section
variable {X : Cx} {F : FR} {own : List Nat}
theorem op_nin (hw : WCx.w = some X.w) (hu : X.A.units + 64 < cLine) : OpR X (compareOp .In) (rNin X.K fun b => b) := fun pins s σ H x y v u Q I rx ry ⟨a, ps, k, e, ⟨b, ex, hN, rows, rk⟩, q⟩ => by
  subst e ex
  obtain rfl : u = Value.ref a := ry
  obtain rfl : v = Value.ref b := rx
  exact dn_in hw hu I hN rows rk fun s' I' => ⟨.bl _, H, I', rfl, q⟩
theorem op_nnin (hw : WCx.w = some X.w) (hu : X.A.units + 64 < cLine) : OpR X (compareOp .NotIn) (rNin X.K fun b => !b) := fun pins s σ H x y v u Q I rx ry ⟨a, ps, k, e, ⟨b, ex, hN, rows, rk⟩, q⟩ => by
  subst e ex
  obtain rfl : u = Value.ref a := ry
  obtain rfl : v = Value.ref b := rx
  exact dn_notIn hw hu I hN rows rk fun s' I' => ⟨.bl _, H, I', rfl, q⟩
theorem opd_nin {K : PySem.W.Frag} : OpD K F own .val (rNin K fun b => b) inND := fun Γ σ H B x y u v Q s rx ry p => by
  cases y with
  | dict es =>
    have p : Post K F own (RV K F own Γ σ .val) (if nOK es x then .ok (.bool (dGet es x).isSome) else .bad) Γ σ H B Q := p
    by_cases h : nOK es x = true
    · rw [if_pos h] at p
      obtain ⟨a, ps, kk, e, hN, c⟩ := n_get s.sub ry rx h
      refine ⟨a, ps, kk, e, hN, ?_⟩
      rcases c with ⟨w, d, e1, e2, _⟩ | ⟨e1, e2⟩ <;> (rw [e2] at p; rw [e1]; exact Post.here p s (.bl _))
    · rw [if_neg h] at p
      exact p.elim
  | _ => exact p.elim
theorem opd_nnin {K : PySem.W.Frag} : OpD K F own .val (rNin K fun b => !b) ninND := fun Γ σ H B x y u v Q s rx ry p => by
  cases y with
  | dict es =>
    have p : Post K F own (RV K F own Γ σ .val) (if nOK es x then .ok (.bool (!(dGet es x).isSome)) else .bad) Γ σ H B Q := p
    by_cases h : nOK es x = true
    · rw [if_pos h] at p
      obtain ⟨a, ps, kk, e, hN, c⟩ := n_get s.sub ry rx h
      refine ⟨a, ps, kk, e, hN, ?_⟩
      rcases c with ⟨w, d, e1, e2, _⟩ | ⟨e1, e2⟩ <;> (rw [e2] at p; rw [e1]; exact Post.here p s (.bl _))
    · rw [if_neg h] at p
      exact p.elim
  | _ => exact p.elim
def rNix (K : PySem.W.Frag) : R2 := fun x y H Q => ∃ a ps k v, x = .ref a ∧ NAt K H a ps y k ∧ valN ps k = some v ∧ Q v H
theorem isNr_type {pins : List (Addr × Obj)} {σ : L2.St} {H : Hp} {s : Shared} {a : Addr} {ps : List NRow} (I : Inv X pins σ H s) (e : IsNr H a ps) : s.TypeIs (.ref a) "dict" := by
  rcases e with e | ⟨e, _⟩
  · exact (isDA_at I (.inr ⟨ps, e⟩)).1
  · exact (isDA_at I (.inl (.inl ⟨[], e⟩))).1
theorem pe_nix {o i : Expr} {td ty : TE} {pos : Pos} (hw : WCx.w = some X.w) (hu : X.A.units + 64 < cLine) (ho : PE X o td) (hi : PE X i ty) (hs : NoSl i) : PE X (.Subscript o i pos) (tOp (rNix X.K) td ty) := by
  refine ⟨fun pins s σ H Q I h => ?_⟩
  refine subD_of PySem.F.slot_dict_getitem.lookup hs (thn (ho.run pins s σ H _ I h) fun u s1 ⟨x, H1, I1, rx, q1⟩ => thn (hi.run pins s1 σ H1 _ I1 q1) fun iv s2 ⟨y, H2, I2, ry, a, ps, k, v, ex, ⟨b, ey, hN, rows, rk⟩, g, q2⟩ => ?_)
  subst ex ey
  obtain rfl : u = Value.ref a := rx
  obtain rfl : iv = Value.ref b := ry
  exact ⟨isNr_type I2 hN, dn_get hw hu I2 hN rows rk g fun w' s3 I3 rw' => ⟨v, H2, I3, rw', q2⟩⟩
theorem de_nix {o i : Expr} {to ti : DEnv → Res D} {pos : Pos} (hw : WCx.w = some X.w) (hu : X.A.units + 64 < cLine) (ho : DE X F own .bor o to) (hi : DE X F own .bor i ti) (hs : NoSl i := by exact fun _ _ => rfl) : DE X F own .val (.Subscript o i pos) (x2 dixND to ti) :=
  de_op2 (pe_nix hw hu ho hi hs) fun Γ σ H B x y u v Q s rx ry p => by
    cases x with
    | dict es =>
      have p : Post X.K F own (RV X.K F own Γ σ .val) (if nOK es y then (match dGet es y with | some d => .ok d | none => .bad) else .bad) Γ σ H B Q := p
      by_cases h : nOK es y = true
      · rw [if_pos h] at p
        obtain ⟨a, ps, kk, e, hN, c⟩ := n_get s.sub rx ry h
        rcases c with ⟨w, d, e1, e2, r⟩ | ⟨e1, e2⟩
        · rw [e2] at p
          exact ⟨a, ps, kk, w, e, hN, e1, Post.here p s r⟩
        · rw [e2] at p
          exact p.elim
      · rw [if_neg h] at p
        exact p.elim
    | _ => exact p.elim
/-! ### d[k] = v, d.setdefault(k, v) -/
def NPut (K : PySem.W.Frag) (H : Hp) (a : Addr) (ps : List NRow) (y : V) (b : Addr) (k : NestedKey) : Prop := y = .ref b ∧ IsN' H a ps ∧ (∀ p ∈ ps, RowOk K H (p.2.1, p.1)) ∧ RowOk K H (b, k) ∧ ps.length < sizeLine
def sNPut (K : PySem.W.Frag) (td ty tv : TE) : TS := fun D σ H => tv σ H fun v H1 => td σ H1 fun x H2 => ty σ H2 fun y H3 => ∃ a ps b k, x = .ref a ∧ NPut K H3 a ps y b k ∧ D.nx σ (upd H3 a (.ext (dnφ a (putN ps k b v))))
theorem ps_nput {o i value : Expr} {td ty tv : TE} {pos' pos : Pos} (hw : WCx.w = some X.w) (hu : X.A.units + 64 < cLine) (ho : PE X o td) (hi : PE X i ty) (hv : PE X value tv) (hs : swapsWith value (some (.Subscript o i pos')) pos.line X.env = pure false) :
    PS X (.Assign [.Subscript o i pos'] value pos) (sNPut X.K td ty tv) := by
  refine ⟨fun pins s σ H D I h => ?_⟩
  refine wpAny_Assign_Subscript (thn (hv.run pins s σ H _ I h) fun r s1 ⟨v, H1, I1, rv, q1⟩ => thn (ho.run pins s1 σ H1 _ I1 q1) fun u s2 ⟨x, H2, I2, rx, q2⟩ => thn (hi.run pins s2 σ H2 _ I2 q2) fun iv s3 ⟨y, H3, I3, ry, a, ps, b, k, ex, ⟨ey, hN, rows, rk, hl⟩, q3⟩ => ?_) hs
  subst ex ey
  obtain rfl : u = Value.ref a := rx
  obtain rfl : iv = Value.ref b := ry
  exact dn_set hw hu I3 hN rows rk rv hl fun s4 I4 => ⟨σ, _, I4, q3⟩
def sDputN (i : Nat) (tk tv : DEnv → Res D) : DEnv → Out := fun Γ => oDict Γ[i]? fun es => oBind (tv Γ) fun v => oBind (tk Γ) fun k => if nOK es k && decide (es.length < sizeLine) then .next (Γ.set i (some (.dict (dPut es k v)))) else .bad
theorem putN_rep {K : PySem.W.Frag} {B : Hp} {a b : Addr} {kk : NestedKey} {ps : List NRow} {es : List (D × D)} {v : V} {d : D} (rk : Rep K B (.ref b) kk.data) (n : nestK kk = true) (l : kk.depth ≤ 8) (rd : Rep K B v d) (r : RepN K B ps es) : ORep K B a (.ext (dnφ a (putN ps kk b v))) (.dict (dPut es kk.data d)) := ⟨_, rfl, r.put rk n l rd, dPut_ne _ _ _, rfl⟩
theorem ds_dputN (i : Nat) {x : Str} {ek ev : Expr} {tk tv : DEnv → Res D} {p1 p2 p3 : Pos} (hw : WCx.w = some X.w) (hu : X.A.units + 64 < cLine) (hk : DE X F own .val ek tk) (hvv : DE X F own .val ev tv)
    (hi : i ∈ own := by decide) (hN : X.N[i]? = some x := by rfl) (hv : Vis X.env.scope x := by first | exact Or.inl rfl | exact Or.inr (Or.inl rfl) | exact Or.inr (Or.inr rfl)) (hdb : (x == ("__debug__" : Str)) = false := by decide)
    (hcd : (x == ("__classdict__" : Str)) = false := by decide) (hs : swapsWith ev (some (.Subscript (.Name x p1) ek p2)) p3.line X.env = pure false := by rfl) :
    DS X F own own (.Assign [.Subscript (.Name x p1) ek p2] ev p3) (sDputN i tk tv) :=
  PS.mono (ps_nput hw hu (pe_var hN hv hdb hcd) hk hvv hs) fun Dn σ H ⟨B, Γ, s, p⟩ => by
    unfold sNPut tVar
    unfold sDputN at p
    obtain ⟨es, ei⟩ := oDict_of p
    rw [ei] at p
    refine tD_firstO s p fun v z H1 B1 _ s1 g1 sb1 r1 p1 => ?_
    obtain ⟨a0, e0, _⟩ := own_slotD s1 hi ei
    refine ⟨.ref a0, e0, ?_⟩
    refine tD_firstO s1 p1 fun k y H2 B2 _ s2 g2 sb2 r2 p2 => ?_
    have r1 : Rep X.K B2 z v := Rep.mono sb2 r1
    have r2 : Rep X.K B2 y k := r2
    have p2 : OPost X.K F own Dn (if nOK es k && decide (es.length < sizeLine) then .next (Γ.set i (some (.dict (dPut es k v)))) else .bad) B2 := p2
    cases hc : (nOK es k && decide (es.length < sizeLine)) with
    | false => rw [hc] at p2; exact p2.elim
    | true =>
      rw [hc] at p2
      rw [Bool.and_eq_true] at hc
      obtain ⟨hk1, hlen⟩ := hc
      unfold nOK at hk1
      rw [Bool.and_eq_true] at hk1
      obtain ⟨kk, rfl, n, l⟩ := okN_cases hk1.1
      obtain ⟨b, rfl⟩ := rep_nest r2 n
      obtain ⟨a1, ps, e1, hNd, r⟩ := own_slotN s2 hi ei hk1.2
      rw [e0] at e1
      cases e1
      refine ⟨a0, ps, b, kk, rfl, ⟨rfl, hNd, repN_rows (F := F) s2.sub r, rowOk_of (F := F) s2.sub r2 l, by rw [r.length]; exact of_decide_eq_true hlen⟩, ?_⟩
      exact p2 _ _ B2 (s2.mutate hi ei e0 (putN_rep r2 n l r1 r)) (Same.refl _)
def tNSetd (K : PySem.W.Frag) (td ty tx : TE) : TE := fun σ H Q => td σ H fun x H1 => ∃ a, x = .ref a ∧ IsDA H1 a ∧ ty σ H1 fun y H2 => tx σ H2 fun z H3 => ∃ ps b k, NPut K H3 a ps y b k ∧ (∀ v, valN ps k = some v → Q v H3) ∧ (valN ps k = none → Q z (upd H3 a (.ext (dnφ a (putN ps k b z)))))
theorem pe_nsetd {o e f : Expr} {td ty tx : TE} {apos cpos : Pos} (hw : WCx.w = some X.w) (hu : X.A.units + 64 < cLine) (ho : PE X o td) (he : PE X e ty) (hf : PE X f tx) (m : M2 X o "setdefault" apos e f cpos) : PE X (.Call (.Attribute o "setdefault" apos) [e, f] [] cpos) (tNSetd X.K td ty tx) := by
  refine ⟨fun pins s σ H Q I h => ?_⟩
  refine wpAny_Call_method m.base m.few m.line PySem.F.plainAttrs_dict PySem.F.slot_dict_setdefault PySem.F.type_dict_setdefault (thn (ho.run pins s σ H _ I h) fun u s1 ⟨x, H1, I1, rx, a, ex, d, q1⟩ => ?_)
  subst ex
  obtain rfl : u = Value.ref a := rx
  obtain ⟨t1, t2, _⟩ := isDA_at I1 d
  refine ⟨t1, t2, ?_⟩
  rw [m.trees]
  refine Calls.callWith_builtin rfl (Calls.evalArgs_plain (Calls.spliced_cons (thn (he.run pins s1 σ H1 _ I1 q1) fun iv s2 ⟨y, H2, I2, ry, q2⟩ =>
    Calls.spliced_cons (thn (hf.run pins s2 σ H2 _ I2 q2) fun fv s3 ⟨z, H3, I3, rz, ps, b, k, ⟨ey, hN, rows, rk, hl⟩, q3, q4⟩ => Calls.spliced_nil ?_))))
  subst ey
  obtain rfl : iv = Value.ref b := ry
  exact dn_setd hw hu I3 hN rows rk rz hl (fun v hv w' s4 I4 rw' => ⟨v, _, I4, rw', q3 v hv⟩) fun hn w' s4 I4 rw' => ⟨z, _, I4, rw', q4 hn⟩
def sSetdN (i : Nat) (tk td : DEnv → Res D) : DEnv → Out := fun Γ => oDict Γ[i]? fun es => oBind (tk Γ) fun k => oBind (td Γ) fun d => if nOK es k && decide (es.length < sizeLine) then .next (Γ.set i (some (.dict (match dGet es k with | some _ => es | none => dPut es k d)))) else .bad
theorem ds_setdN (i : Nat) {x : Str} {ek ed : Expr} {tk td : DEnv → Res D} {p1 p2 p3 p4 : Pos} (hw : WCx.w = some X.w) (hu : X.A.units + 64 < cLine) (hk : DE X F own .val ek tk) (hd : DE X F own .val ed td)
    (hi : i ∈ own := by decide) (hN : X.N[i]? = some x := by rfl) (hv : Vis X.env.scope x := by first | exact Or.inl rfl | exact Or.inr (Or.inl rfl) | exact Or.inr (Or.inr rfl)) (hdb : (x == ("__debug__" : Str)) = false := by decide)
    (hcd : (x == ("__classdict__" : Str)) = false := by decide) (m : M2 X (.Name x p1) "setdefault" p2 ek ed p3 := by exact ⟨rfl, rfl, rfl, rfl⟩) (hs : swapsWith (.Call (.Attribute (.Name x p1) "setdefault" p2) [ek, ed] [] p3) none p4.line X.env = pure false := by rfl) :
    DS X F own own (.Expr (.Call (.Attribute (.Name x p1) "setdefault" p2) [ek, ed] [] p3) p4) (sSetdN i tk td) :=
  PS.mono (ps_expr (pe_nsetd hw hu (pe_var hN hv hdb hcd) hk hd m) hs) fun Dn σ H ⟨B, Γ, s, p⟩ => by
    unfold tDrop tNSetd tVar
    unfold sSetdN at p
    obtain ⟨es, ei⟩ := oDict_of p
    rw [ei] at p
    obtain ⟨a0, e0, eo⟩ := own_slotD s hi ei
    refine ⟨.ref a0, e0, a0, rfl, ?_, ?_⟩
    · rcases eo with ⟨kvs, h, _⟩ | ⟨kvs, h, _⟩ | ⟨ps, h, _⟩
      · exact .inl (.inl ⟨kvs, .inl h⟩)
      · exact .inl (.inr ⟨kvs, .inl h⟩)
      · exact .inr ⟨ps, h⟩
    refine tD_firstO s p fun k y H1 B1 _ s1 g1 sb1 r1 p1 => ?_
    refine tD_firstO s1 p1 fun d z H2 B2 _ s2 g2 sb2 r2 p2 => ?_
    have r1 : Rep X.K B2 y k := Rep.mono sb2 r1
    have r2 : Rep X.K B2 z d := r2
    have p2 : OPost X.K F own Dn (if nOK es k && decide (es.length < sizeLine) then .next (Γ.set i (some (.dict (match dGet es k with | some _ => es | none => dPut es k d)))) else .bad) B2 := p2
    cases hc : (nOK es k && decide (es.length < sizeLine)) with
    | false => rw [hc] at p2; exact p2.elim
    | true =>
      rw [hc] at p2
      rw [Bool.and_eq_true] at hc
      obtain ⟨hk1, hlen⟩ := hc
      unfold nOK at hk1
      rw [Bool.and_eq_true] at hk1
      obtain ⟨kk, rfl, n, l⟩ := okN_cases hk1.1
      obtain ⟨b, rfl⟩ := rep_nest r1 n
      obtain ⟨a1, ps, e1, hNd, r⟩ := own_slotN s2 hi ei hk1.2
      rw [e0] at e1
      cases e1
      refine ⟨ps, b, kk, ⟨rfl, hNd, repN_rows (F := F) s2.sub r, rowOk_of (F := F) s2.sub r1 l, by rw [r.length]; exact of_decide_eq_true hlen⟩, fun v hv => ?_, fun hn => ?_⟩
      · rcases r.get kk with ⟨w, d', h1, h2, h3⟩ | ⟨h1, _⟩
        · rw [h2] at p2
          exact p2 _ _ B2 (s2.setSame ei) (Same.refl _)
        · rw [hv] at h1; cases h1
      · rcases r.get kk with ⟨w, d', h1, h2, h3⟩ | ⟨_, h2⟩
        · rw [hn] at h1; cases h1
        · rw [h2] at p2
          exact p2 _ _ B2 (s2.mutate hi ei e0 (putN_rep r1 n l r2 r)) (Same.refl _)
end
end DL

/-! DL: list(d), sorted(d) of a dict whose keys are nested tuples. For programs without lambdas. -/
namespace DL
open PySem PySem.Spec PyProof.Rows L2 DLT
variable [WCx]
abbrev rowN (p : NRow) : DLT.Row := (p.2.1, p.1)
section
variable {X : Cx} {pins : List (Addr × Obj)} {σ : L2.St} {H : Hp} {s : Shared} {a : Addr} {ps : List NRow}
theorem nRel_keys {w : World} : ∀ {ps : List NRow} {xs : List (NestedKey × Addr × Value)}, Paired nRel ps xs → (xs.map (fun x => (⟨x.1.hash w, .ref x.2.1, x.2.2⟩ : DictEntry))).map (·.key) = ps.map fun p => Value.ref p.2.1
  | _, _, .nil => rfl
  | _, _, .cons h t => by
    rw [List.map_cons, List.map_cons, List.map_cons, nRel_keys t, h.2.1]
/-- the object, by itself -/
theorem isN_ob (I : Inv X pins σ H s) (e : IsNr H a ps) : ps.length ≤ sizeLine ∧ (a == sysModules) = false ∧ ∃ o es ep, s.heap.get? a = some o ∧ o.ExactDict ∧ o.data = .dict es ep ∧ es.toList.map (·.key) = ps.map fun p => Value.ref p.2.1 := by
  rcases e with e | ⟨e, rfl⟩
  · obtain ⟨⟨z, hd, w, xs, ew, rel, o, es, ep, h1, h2, h3, h4, h5⟩, _⟩ := (show ObjOk X.prog X.w H s.heap a (.ext (dnφ a ps)) from I.hok a _ e)
    exact ⟨z, hd, o, es, ep, h1, h2, h3, by rw [h4]; exact nRel_keys rel⟩
  · obtain ⟨z, hd, vs, rel, o, es, ep, h1, h2, h3, h4, h5, h6⟩ := dk_rd I.hok e
    refine ⟨z, hd, o, es, ep, h1, h2, h3, ?_⟩
    cases rel
    have : es.toList.length = 0 := by
      have := h5
      first
        | (have q := this.length; simpa using q)
        | (cases this; rename_i q; simp_all)
        | (revert this; cases hq : es.toList with
            | nil => intro _; rfl
            | cons x y => intro q; cases q)
    rw [List.eq_nil_of_length_eq_zero this]
    rfl
theorem items_keys {es : Array DictEntry} {L : List Addr} (hk : es.toList.map (·.key) = L.map Value.ref) {acc : Array Value} (h1 : acc.size = es.size) (h2 : ∀ (j : Nat) (v : Value), acc[j]? = some v → ∃ en : DictEntry, es[j]? = some en ∧ v = en.key) : acc.toList = L.map Value.ref := by
  rw [← hk]
  apply List.ext_getElem?
  intro j
  rw [List.getElem?_map]
  cases hj : acc.toList[j]? with
  | none =>
    have h3 := List.getElem?_eq_none_iff.mp hj
    rw [Array.length_toList, h1] at h3
    rw [List.getElem?_eq_none (by rw [Array.length_toList]; exact h3)]
    rfl
  | some v =>
    obtain ⟨en, hen, hv⟩ := h2 j v (by rw [← Array.getElem?_toList]; exact hj)
    rw [Array.getElem?_toList, hen, hv]
    rfl
theorem call_listN (hc : X.calm = true) : CallR X (.type "list") (fun xs H Q => ∃ d ps, xs = [V.ref d] ∧ IsNr H d ps ∧ ∀ p, H p = none → Q (.ref p) (upd H p (.lst (ps.map fun p => V.ref p.2.1)))) := by
  intro pins s σ H xs us Q I r h
  obtain ⟨d, ps, rfl, hd, q⟩ := h
  obtain ⟨u, rfl, rx⟩ := r.one
  cases rx
  obtain ⟨z, hs, o, es, ep, ho, hx, hdt, hk⟩ := isN_ob I hd
  have hl : es.size = ps.length := by
    have := congrArg List.length hk
    rw [List.length_map, List.length_map, Array.length_toList] at this
    exact this
  refine PySem.W.kdl_call (kdl_raw hs hx hdt) (I.ok.hd hc) ho (by omega) fun h' tk acc' c' kp e it => ?_
  have eb : acc'.toList = (ps.map fun p => p.2.1).map Value.ref := items_keys (by rw [hk, List.map_map]; rfl) it.1 it.2
  have rv : Vals ((ps.map fun x => x.2.1).map V.ref) acc'.toList := by rw [eb]; exact vals_refs _
  have hz : ((ps.map fun x => x.2.1).map V.ref).length ≤ sizeLine := by rw [List.length_map, List.length_map]; omega
  have em : (ps.map fun p => V.ref p.2.1) = (ps.map fun x => x.2.1).map V.ref := by rw [List.map_map]; rfl
  have q := q s.heap.objs.size (I.hok.fresh (Nat.le_refl _))
  rw [em] at q
  refine ⟨.ref s.heap.objs.size, _, I.laid (t' := tk) (o := .lst ((ps.map fun x => x.2.1).map V.ref)) kp (Nat.le_refl _) ?_, rfl, q⟩
  exact ⟨hz, acc'.toList, c', rv, by rw [Array.toArray_toList]; exact e⟩
end
section
variable {P : Program} {w : World} {A : Around} {E : Value → Shared → Prop} {s : Shared}
theorem sorted_dictN {a : Addr} {L : List DLT.Row} {o : Obj} {es : Array DictEntry} {ep : Nat} {Q : Value → Shared → Prop} (hs : (a == sysModules) = false) (ho : s.heap.get? a = some o) (hx : o.ExactDict) (hdt : o.data = .dict es ep) (hk : es.toList.map (·.key) = (L.map (·.1)).map Value.ref) (hh : A.handled = none) (hu : A.units + 66 < cLine) (rd : ∀ p ∈ L, Reads s.heap (.ref p.1) p.2.data []) (hd : ∀ p ∈ L, p.2.data.depth ≤ 60)
    (hl : L.length ≤ sizeLine) (guard : L.length ≤ 1 ∨ PySem.W.AllAlike (L.map fun p => p.2.data) ∧ PySem.W.Sortable (L.map fun p => p.2.data))
    (hQ : ∀ (h' : Heap) (tk : Nat) s' (out : Array Value) (c : Nat) (L2 : List DLT.Row), (∀ b o, s.heap.get? b = some o → h'.get? b = some o) → (∀ b o, h'.get? b = some o → s'.heap.get? b = some o) → s'.gens = s.gens → s'.os = s.os → s'.heap.get? h'.objs.size = some (seqObj "list" out c) → out.toList = L2.map (fun p => Value.ref p.1) → L2 = L.mergeSort leN → Q (.ref h'.objs.size) s') :
    wpAny (model P w) A (call (.builtin "sorted") [.ref a]) Q E s := by
  have hsz : es.size = L.length := by
    have := congrArg List.length hk
    rw [List.length_map, List.length_map, List.length_map, Array.length_toList] at this
    exact this
  refine Calls.call_function_entry kind_sorted plain_sorted entry_sorted (args_sorted1 _) ?_
  unfold Builtin.«sorted»
  refine wpAny_bind (m := checkCount "sorted" 1 1 _) (wpAny_pure ?_)
  refine wpAny_bind (PySem.W.kdu_collect (A := A.in1) (kdl_raw hs hx hdt) hh ho (by omega) fun h' tk acc k1 it => ?_)
  have ea : acc.toList = L.map fun p => Value.ref p.1 := by
    rw [items_keys hk it.1 it.2, List.map_map]
    rfl
  rw [ea]
  refine wpAny_bind (wpAny_newList ?_ (by rw [List.length_map]; exact hl))
  have hoL : (h'.push (seqObj "list" (L.map fun p => Value.ref p.1).toArray 0)).get? h'.objs.size = some (seqObj "list" (L.map fun p => Value.ref p.1).toArray 0) := Heap.get?_push_size _ rfl
  refine wpAny_bind (wpAny_holding (sort_refs (s := { s with heap := h'.push (seqObj "list" (L.map fun p => Value.ref p.1).toArray 0), toks := tk }) hoL (fun p hp => PyProof.Rows.Reads.keeps (fun b u e => Heap.get?_push_of_some _ (k1 b u e)) (rd p hp)) hl (by simp only [Around.in1_units]; omega) (fun p hp => hd p hp) guard fun L2 e2 => ?_))
  obtain ⟨c, hc⟩ := sortedHeap_at (vs := L.map fun p => Value.ref p.1) (out := (L2.map fun p => Value.ref p.1).toArray) hoL
  refine wpAny_pure ⟨_, rfl, hQ h' tk _ _ c L2 k1 (fun b u q => ?_) rfl rfl hc rfl e2⟩
  have hlt := Heap.lt_size q
  show (sortedHeap (h'.push (seqObj "list" (L.map fun p => Value.ref p.1).toArray 0)) h'.objs.size (L.map fun p => Value.ref p.1) (L2.map fun p => Value.ref p.1).toArray).get? b = some u
  rw [sortedHeap_old (Nat.ne_of_lt hlt) (by rw [size_push']; exact Nat.lt_succ_of_lt hlt)]
  exact Heap.get?_push_of_some _ q
end
def rSortDN (K : PySem.W.Frag) : List V → Hp → VK → Prop := fun vs H Q => ∃ (a : Addr) (ps : List NRow), vs = [V.ref a] ∧ IsNr H a ps ∧ (∀ p ∈ ps, RowOk K H (rowN p)) ∧ (ps.length ≤ 1 ∨ PySem.W.AllAlike (ps.map fun p => p.1.data) ∧ PySem.W.Sortable (ps.map fun p => p.1.data)) ∧
  ∀ (L2 : List DLT.Row) (q : Addr), L2 = (ps.map rowN).mergeSort leN → H q = none → Q (.ref q) (upd H q (.lst (L2.map fun p => V.ref p.1)))
theorem cr_sortDN {X : Cx} (hc : X.calm = true) (hu : X.A.units + 66 < cLine) : CallR X (.builtin "sorted") (rSortDN X.K) := by
  intro pins s σ H vs us Q I r h
  obtain ⟨a, ps, rfl, ha, hk, guard, q⟩ := h
  obtain ⟨z, hs, o, es, ep, ho, hx, hdt, hkk⟩ := isN_ob I ha
  rw [Vals.ref1 r]
  have hk' : ∀ p ∈ ps.map rowN, RowOk X.K H p := fun p hp => by
    obtain ⟨p', hp', rfl⟩ := List.mem_map.mp hp
    exact hk p' hp'
  refine sorted_dictN (P := X.prog) (w := X.w) (L := ps.map rowN) hs ho hx hdt (by rw [hkk, List.map_map, List.map_map]; rfl) (I.ok.hd hc) hu (fun p hp => (RowOk.reads I (hk' p hp)).1) (fun p hp => (hk' p hp).2.2) (by rw [List.length_map]; exact z) (by rw [List.length_map, List.map_map]; exact guard) fun h' tk s' out c L2 k1 k2 g o hg hout e2 => ?_
  have I1 : Inv X pins σ H { s with heap := h', toks := tk } := I.kept k1
  have hn : H h'.objs.size = none := I1.hok.fresh (Nat.le_refl _)
  have hl : (L2.map fun q => V.ref q.1).length ≤ sizeLine := by rw [List.length_map, e2, List.length_mergeSort, List.length_map]; exact z
  have J : Inv X pins σ (upd H h'.objs.size (.lst (L2.map fun q => V.ref q.1))) { ({ s with heap := h', toks := tk } : Shared) with heap := s'.heap, gens := s'.gens, drawn := s'.drawn, toks := s'.toks } :=
    I1.call (ch := []) (Un.laid k2 (Nat.le_refl _) hn) (I1.hok.laid k2 (Nat.le_refl _) ⟨hl, out.toList, c, by rw [hout]; exact refs_row L2, hg⟩) (by rw [g]; exact I1.bare) (fun _ z => nomatch z)
  have e : s' = { ({ s with heap := h', toks := tk } : Shared) with heap := s'.heap, gens := s'.gens, drawn := s'.drawn, toks := s'.toks } := by
    cases s'
    cases s
    cases o
    rfl
  rw [e]
  exact ⟨.ref h'.objs.size, _, J, rfl, q L2 _ e2 hn⟩
/-! ### over data -/
def lstND : D → Res D
  | .dict es => if guardN es then .ok (.list (es.map (·.1))) else .bad
  | _ => .bad
theorem repN_keys {K : PySem.W.Frag} {B : Hp} : ∀ {ps : List NRow} {es : List (D × D)}, RepN K B ps es → Reps K B (ps.map fun p => V.ref p.2.1) (es.map (·.1))
  | _, _, .nil => .nil
  | _, _, .cons a _ _ _ t => .cons a (repN_keys t)
theorem repN_data {K : PySem.W.Frag} {B : Hp} : ∀ {ps : List NRow} {es : List (D × D)}, RepN K B ps es → es.map (·.1) = ps.map (fun p => p.1.data) ∧ ∀ p ∈ ps, Rep K B (.ref p.2.1) p.1.data
  | _, _, .nil => ⟨rfl, fun p hp => by cases hp⟩
  | _, _, .cons a _ _ _ t => by
    obtain ⟨h1, h2⟩ := repN_data t
    refine ⟨by rw [List.map_cons, List.map_cons, h1], fun p hp => ?_⟩
    rcases List.mem_cons.mp hp with rfl | hp
    · exact a
    · exact h2 p hp
section
variable {X : Cx} {F : FR} {own : List Nat}
theorem de_lstN {e : Expr} {t : DEnv → Res D} {p pos : Pos} (hc : X.calm = true) (h : DE X F own .bor e t) (hm : X.mg "list" = none) (hg : Gl X "list" := by rfl) (hs : starEach [e] X.env = (false, eval e X.env) :: starEach [] X.env := by rfl) :
    DE X F own .fresh (.Call (.Name "list" p) [e] [] pos) (xCall (on1 lstND) (xCons t xNil)) := de_bty (call_listN hc) (ca1 fun Γ σ H B v d Q s r p => by
      cases d with
      | dict es =>
        have p : Post X.K F own (RV X.K F own Γ σ .fresh) (if guardN es then .ok (.list (es.map (·.1))) else .bad) Γ σ H B Q := p
        cases g : guardN es with
        | false => rw [g] at p; exact p.elim
        | true =>
          rw [g] at p
          obtain ⟨a, ps, rfl, hN, rk⟩ := borN s.sub r g
          exact ⟨a, ps, rfl, hN, fun q hq => Post.newObj p s (show ORep X.K B _ (.lst _) (.list _) from repN_keys rk) hq⟩
      | _ => exact p.elim) hm (by decide +kernel) (da_cons h da_nil (hs := hs)) hg (he := hs)
def sortND : D → Res D
  | .dict es => if guardN es && sortOk (es.map (·.1)) then .ok (.list ((es.map (·.1)).mergeSort (PySem.W.dataLe false fun d => d))) else .bad
  | _ => .bad
theorem de_sortN {e : Expr} {t : DEnv → Res D} {p pos : Pos} (hc : X.calm = true) (hu : X.A.units + 66 < cLine) (h : DE X F own .bor e t) (hm : X.mg "sorted" = none) (hg : Gl X "sorted" := by rfl) (hs : starEach [e] X.env = (false, eval e X.env) :: starEach [] X.env := by rfl) :
    DE X F own .fresh (.Call (.Name "sorted" p) [e] [] pos) (xCall (on1 sortND) (xCons t xNil)) := de_blt (cr_sortDN hc hu) (ca1 fun Γ σ H B v d Q s r p => by
      cases d with
      | dict es =>
        have p : Post X.K F own (RV X.K F own Γ σ .fresh) (if guardN es && sortOk (es.map (·.1)) then .ok (.list ((es.map (·.1)).mergeSort (PySem.W.dataLe false fun d => d))) else .bad) Γ σ H B Q := p
        cases g : guardN es && sortOk (es.map (·.1)) with
        | false => rw [g] at p; exact p.elim
        | true =>
          rw [g] at p
          rw [Bool.and_eq_true] at g
          obtain ⟨h1, h2, h3, h4⟩ := sortOk_of g.2
          obtain ⟨a, ps, rfl, hN, rk⟩ := borN s.sub r g.1
          obtain ⟨k1, k2⟩ := repN_data rk
          rw [k1] at h2 h3
          refine ⟨a, ps, rfl, hN, repN_rows (F := F) s.sub rk, .inr ⟨h2, h3⟩, fun L2 q e2 hq => ?_⟩
          have em : L2.map (fun p => p.2.data) = (es.map (·.1)).mergeSort (PySem.W.dataLe false fun d => d) := by
            subst e2
            have q := PySem.W.sort_maps (r := leN) (s := PySem.W.dataLe false fun d : D => d) (fun p : DLT.Row => p.2.data) (l := ps.map rowN) fun a _ b _ => rfl
            rw [q, k1, List.map_map]
            rfl
          have sub2 : ∀ p ∈ L2, Rep X.K B (.ref p.1) p.2.data := fun p hp => by
            subst e2
            have hp := (List.mergeSort_perm _ _).mem_iff.mp hp
            obtain ⟨p', hp', rfl⟩ := List.mem_map.mp hp
            exact k2 p' hp'
          have rr : Reps X.K B (L2.map fun p => V.ref p.1) (L2.map fun p => p.2.data) := by
            clear em e2
            induction L2 with
            | nil => exact .nil
            | cons p L2 ih => exact .cons (sub2 p List.mem_cons_self) (ih fun r hr => sub2 r (List.mem_cons_of_mem _ hr))
          rw [em] at rr
          exact Post.newObj p s (show ORep X.K B _ (.lst _) (.list _) from rr) hq
      | _ => exact p.elim) hm (by decide +kernel) (da_cons h da_nil (hs := hs)) hg (he := hs)
end
end DL

/-! DL: {k: v}, k a nested tuple. For programs without lambdas. -/
namespace DL
open PySem PySem.Spec PyProof.Rows L2 DLT
variable [WCx]
def tDispN (K : PySem.W.Frag) (tk tv : TE) : TE := fun σ H Q => ∀ p, H p = none → tk σ (upd H p (.dK [])) fun y H1 => tv σ H1 fun z H2 => H2 p = some (.dK []) ∧ ∃ b k, y = .ref b ∧ RowOk K H2 (b, k) ∧ Q (.ref p) (upd H2 p (.ext (dnφ p [(k, b, z)])))
def dispQ (K : PySem.W.Frag) (Q : VK) (p : Addr) : List (V × V) → Hp → Prop := fun ps H2 => match ps with
  | [(y, z)] => H2 p = some (.dK []) ∧ ∃ b k, y = .ref b ∧ RowOk K H2 (b, k) ∧ Q (.ref p) (upd H2 p (.ext (dnφ p [(k, b, z)])))
  | _ => False
theorem pe_dispN {X : Cx} {k v : Expr} {tk tv : TE} {pos : Pos} (hw : WCx.w = some X.w) (hu : X.A.units + 64 < cLine) (hk : PE X k tk) (hv : PE X v tv) : PE X (.Dict [some k] [v] pos) (tDispN X.K tk tv) := by
  refine ⟨fun pins s σ H Q I q => ?_⟩
  have hn := I.hok.fresh (Nat.le_refl s.heap.objs.size)
  have I1 := I.laid (a := s.heap.objs.size) (o := .dK []) (h' := s.heap.push { cls := .type "dict", data := .dict #[] }) (t' := s.toks) (fun _ _ q => Heap.get?_push_of_some _ q) (Nat.le_refl _) (dk_empty s.heap I.big)
  have q0 := q _ hn
  rw [arm_eval_Dict, zip_pairTrees [some k] [v] X.env pos rfl rfl, dictDisplay_pairs (pairTrees [some k] [v] X.env pos) (by intro e; cases e) (show 1 < 17 by omega)]
  refine wpAny_bind (wpAny_standAt (wpAny_bind (wpAny_subDictH (knd := nestedKind X.prog X.w) (Q := fun d s' => wpAny (model X.prog X.w) X.A (pure (Value.ref d)) (fun w s' => ∃ x H', Inv X pins σ H' s' ∧ RelV x w ∧ Q x H') X.xe s') (show X.A.units + 8 < cLine by omega) (show 1 ≤ 15 by omega) ?_)))
  refine thn ((pps_cons hk hv pps_nil).run pins _ σ _ (dispQ X.K Q s.heap.objs.size) I1 q0) fun ws s2 ⟨ps, H2, I2, rel, q1⟩ => ?_
  · match ps, q1, rel with
    | [(y, z)], ⟨e, b, kk, ey, rk, q2⟩, rel =>
    subst ey
    cases rel with
    | @cons _ w _ _ r t =>
      cases t
      obtain ⟨w1, w2⟩ := w
      obtain ⟨r1, r2⟩ := r
      obtain rfl : w1 = Value.ref b := r1
      have hN : IsN' H2 s.heap.objs.size [] := .inr ⟨e, rfl⟩
      obtain ⟨_, hd, xs, relx, dd⟩ := isN_of hw I2 hN.r (fun p hp => nomatch hp)
      cases relx
      refine ⟨[(kk, b, w2)], ⟨rfl, rfl, (RowOk.reads I2 rk).2, trivial⟩, dd, fun h' tk' dd' hs => wpAny_pure ?_⟩
      exact ⟨.ref s.heap.objs.size, _, isN_write hw I2 hN hd dd' hs (.cons ⟨rfl, rfl, r2⟩ .nil) (by show 1 ≤ sizeLine; decide), rfl, q2⟩
def xDispN (tk tv : DEnv → Res D) : DEnv → Res D := fun Γ => (tk Γ).bind fun k => (tv Γ).bind fun v => if okN k then .ok (.dict [(k, v)]) else .bad
theorem de_dispN {X : Cx} {F : FR} {own : List Nat} {k v : Expr} {tk tv : DEnv → Res D} {pos : Pos} (hw : WCx.w = some X.w) (hu : X.A.units + 64 < cLine) (hk : DE X F own .val k tk) (hv : DE X F own .val v tv) : DE X F own .fresh (.Dict [some k] [v] pos) (xDispN tk tv) :=
  PE.mono (pe_dispN hw hu hk hv) fun σ H Q ⟨B, Γ, s, p⟩ => by
    unfold tDispN
    intro q hq
    unfold xDispN at p
    have s0 := s.grown (o := .dK []) hq
    have g0 : Grow B H B (upd H q (.dK [])) := grow_new hq
    refine tX_first early_RV s0 (Post.mono early_RV p g0) fun k y H1 B1 ek s1 g1 r1 p1 => ?_
    refine tX_first early_RV s1 p1 fun v z H2 B2 ev s2 g2 r2 p2 => ?_
    rw [ek, Res.ok_bind, ev, Res.ok_bind] at p
    have r1 : Rep X.K B2 y k := Rep.mono (g2.same s1.sub) r1
    have r2 : Rep X.K B2 z v := r2
    have g12 := g1.trans g2
    have hq1 : H2 q = some (.dK []) := g12.hp.obj _ _ upd_same (by intro ps z; cases z)
    have nB : B2 q = none := by
      rw [g12.fz q (by rw [upd_same]; exact fun z => nomatch z)]
      exact s.noB hq
    refine ⟨hq1, ?_⟩
    cases c : okN k with
    | false =>
      rw [c] at p
      exact p.elim
    | true =>
      rw [c] at p
      have p : Post X.K F own (RV X.K F own Γ σ .fresh) (.ok (.dict [(k, v)])) Γ σ H B Q := p
      obtain ⟨kk, rfl, n, l⟩ := okN_cases c
      obtain ⟨b, rfl⟩ := rep_nest r1 n
      refine ⟨b, kk, rfl, rowOk_of (F := F) s2.sub r1 l, ?_⟩
      have s3 : SR X.K F own B2 Γ σ (upd H2 q (.ext (dnφ q [(kk, b, z)]))) := s2.side hq1 nB (s.no0 hq) (s.noS hq) (by intro ps z; cases z) (by intro φ z; cases z)
      have gg := g0.trans g12
      have sm : Sm H (upd H2 q (.ext (dnφ q [(kk, b, z)]))) := gg.hp.mut hq hq1 (by intro ps z; cases z) (by intro φ z; cases z)
      have o : ORep X.K B2 q (.ext (dnφ q [(kk, b, z)])) (.dict [(kk.data, v)]) := ⟨_, rfl, .cons r1 n l r2 .nil, (by intro z; cases z), rfl⟩
      exact p _ _ B2 s3 ⟨sm, gg.fz⟩ ⟨⟨q, _, rfl, nB, upd_same, o, s.no0 hq⟩, s.noS hq, fun a e => by cases e; exact hq⟩
end DL

/-! DL: a def called with things that the caller still owns; what it tells is a scalar. -/
namespace DL
open PySem PySem.Spec PyProof.Rows L2
variable [TabCx] [WCx]
/-- w is the world in which keys are told -/
class NW (w : World) : Prop where
  h : WCx.w = some w
def scal : D → Bool
  | .none => true
  | .bool _ => true
  | .int _ => true
  | .str _ => true
  | _ => false
def scalD : Res D → Res D
  | .ok d => if scal d then .ok d else .bad
  | .raise c => .raise c
  | .bad => .bad
def xCallB (g : List D → Res D) (t : DEnv → Res (List D)) : DEnv → Res D := fun Γ => (t Γ).bind fun ds => scalD (g ds)
/-- all that lies there, but tables -/
def allB (H : Hp) : Hp := fun b => match H b with
  | some (.tbl _) => none
  | o => o
theorem allB_sub (H : Hp) : Same (allB H) H := fun b o e => by
  unfold allB at e
  split at e
  · cases e
  · exact e
theorem allB_nt (H : Hp) : ∀ a ps, allB H a ≠ some (.tbl ps) := fun a ps e => by
  unfold allB at e
  split at e
  · cases e
  · rename_i h
    exact h ps e
theorem allB_of {B H : Hp} (sub : Same B H) (nt : ∀ a ps, B a ≠ some (.tbl ps)) : Same B (allB H) := fun b o e => by
  have h := sub b o e
  unfold allB
  rw [h]
  cases o with
  | tbl ps => exact absurd e (nt b ps)
  | _ => rfl
theorem rep_scal {K : PySem.W.Frag} {B B' : Hp} {v : V} {d : D} (h : scal d = true) (r : Rep K B' v d) : Rep K B v d := by
  cases d with
  | none => cases r; exact .non
  | bool b => cases r; exact .bl b
  | int i => cases r; exact .int i
  | str x => cases r; exact .str x
  | _ => cases h
section
variable {X : Cx} {F : FR} {own : List Nat}
theorem bors_reps {K : PySem.W.Frag} {Γ : DEnv} {σ : L2.St} {s B H : Hp} (sub : Same B H) (nt : ∀ a ps, B a ≠ some (.tbl ps)) : ∀ {vs : List V} {ds : List D}, RVs K F own Γ σ .bor s B H vs ds → Reps K (allB H) vs ds
  | _, _, .nil => .nil
  | _, _, .cons r t => .cons (by
      have m := allB_of sub nt
      rcases r with r | ⟨a, o, rfl, _, h, r, _⟩
      · exact Rep.mono m r
      · refine ORep.rep ?_ (r.mono m)
        have := r.nt
        unfold allB
        rw [h]
        cases o with
        | tbl ps => exact absurd rfl (this ps)
        | _ => rfl) (bors_reps sub nt t)
theorem de_callB {k n : Nat} {f : Addr} {fd : FuncData} {ps : List Str} {x : Str} {g : List D → Res D} {e : Expr} {es : List Expr} {t : DEnv → Res (List D)} {p pos : Pos} (Fn : FnOk X.prog X.w X.K X.mg X.base (L2.CX X.prog X.w) k f fd ps (spD X.K F.cv n g)) (hr : Room k X.A) (hm : X.mg x = some (.ref f))
    (hk : PySem.W.keepIn X.K (.ref f) = true) (hb : Binds X.K fd ps []) (tk : Takes X F.W) (ha : DA X F own .bor (e :: es) t) (hl : ∀ Γ ds, t Γ = .ok ds → ds.length = n) (hg : Gl X x := by rfl) (hdb : (x == ("__debug__" : Str)) = false := by decide)
    (he : starEach (e :: es) X.env = (false, eval e X.env) :: starEach es X.env := by rfl) (hpl : (backTo pos (starEach es X.env)).any (·.1) = false := by rfl) : DE X F own .val (.Call (.Name x p) (e :: es) [] pos) (xCallB g t) :=
  PE.mono (pe_callS Fn hr hg hm hk hb (fun σ => passAt tk σ) ha hdb he hpl) fun σ H Q ⟨B, Γ, s, p⟩ => by
    unfold tCallS
    unfold xCallB at p
    refine tA_first early_RV s p fun x v H1 B1 e1 s1 g1 r1 p1 => ⟨allB H1, x, allB_sub H1, s1.tab, allB_nt H1, bors_reps s1.sub s1.nt r1, by rw [Paired.length r1]; exact hl Γ x e1, ?_⟩
    cases eg : g x with
    | bad => rw [eg] at p1; exact p1
    | raise c => rw [eg] at p1; exact p1
    | ok d =>
      rw [eg] at p1
      have p1 : Post X.K F own (RV X.K F own Γ σ .val) (if scal d then .ok d else .bad) Γ σ H1 B1 Q := p1
      intro v2 H2 B2 sm sub fz nt r2
      cases hs : scal d with
      | false => rw [hs] at p1; exact p1.elim
      | true =>
        rw [hs] at p1
        exact p1 v2 H2 B1 (s1.late sm) ⟨sm, fun _ _ => rfl⟩ (rep_scal hs r2)
end
end DL

/-! DL: try: f(..) except C as e: two lists of isinstance(e, ..); if isinstance(e, T) and ..: suite. -/
namespace DL
open PySem PySem.Spec PyProof.Rows L2
variable [TabCx] [WCx]
/-- the name in slot i is the exception at a -/
abbrev Es (i : Nat) (a : Addr) (σ : L2.St) : Prop := σ[i]? = some (some (V.ref a))
def tLeaf (i : Nat) (a : Addr) (b : Bool) : TE := fun σ H Q => Es i a σ ∧ Q (.bl b) H
def tLeaves (i : Nat) (a : Addr) (bs : List Bool) : TA := fun σ H R => Es i a σ ∧ R (bs.map V.bl) H
section
variable {X : Cx} {F : FR} {own : List Nat} {i : Nat} {a : Addr}
theorem leaf_own {n x : Str} {c D : Addr} {b : Bool} {oe : Obj} {pn : List (Addr × Obj)} {q1 q2 q3 q4 : Pos} (hE : ExcC X.K D) (hz : Zc (.ref D) none oe) (hf : ∃ vs, oe.data = .fields vs) (hk : PySem.W.kitOne X.K (.ref D) (.ref c) = some b)
    (hi : X.N[i]? = some n) (hv : Vis X.env.scope n) (hd : (n == ("__debug__" : Str)) = false) (hcd : (n == ("__classdict__" : Str)) = false) (hmi : X.mg "isinstance" = none) (hgi : Gl X "isinstance") (hmx : X.mg x = some (.ref c)) (hgx : Gl X x) (hdx : (x == ("__debug__" : Str)) = false)
    (he : starEach [.Name n q2, .Name x q3] (X.suite a ((a, oe) :: pn)).env = (false, eval (.Name n q2) (X.suite a ((a, oe) :: pn)).env) :: starEach [.Name x q3] (X.suite a ((a, oe) :: pn)).env := by rfl)
    (he2 : starEach [.Name x q3] (X.suite a ((a, oe) :: pn)).env = (false, eval (.Name x q3) (X.suite a ((a, oe) :: pn)).env) :: starEach [] (X.suite a ((a, oe) :: pn)).env := by rfl)
    (hpl : (backTo q4 (starEach [.Name x q3] (X.suite a ((a, oe) :: pn)).env)).any (·.1) = false := by rfl) :
    PE (X.suite a ((a, oe) :: pn)) (.Call (.Name "isinstance" q1) [.Name n q2, .Name x q3] [] q4) (tLeaf i a b) := by
  have pe : PE (X.suite a ((a, oe) :: pn)) (.Call (.Name "isinstance" q1) [.Name n q2, .Name x q3] [] q4) _ := pe_callB (call_isE (X := X) (pn := pn) hE hz hf) hgi hmi rfl (pa_cons (pe_var (i := i) hi hv hd hcd) (pa_cons (pe_glob (v := .ref c) hgx hmx rfl hdx) pa_nil he2) he) (by decide +kernel) (by decide) he hpl
  exact PE.mono pe fun σ H Q ⟨h1, q⟩ => ⟨.ref a, h1, .ref c, .ref c, b, rfl, fun u r => r, hk, q⟩
theorem leaf_kit {n : Str} {T : String} {D : Addr} {b : Bool} {oe : Obj} {pn : List (Addr × Obj)} {q1 q2 q3 q4 : Pos} (hE : ExcC X.K D) (hz : Zc (.ref D) none oe) (hf : ∃ vs, oe.data = .fields vs) (hk : PySem.W.kitOne X.K (.ref D) (.type T) = some b)
    (hi : X.N[i]? = some n) (hv : Vis X.env.scope n) (hd : (n == ("__debug__" : Str)) = false) (hcd : (n == ("__classdict__" : Str)) = false) (hmi : X.mg "isinstance" = none) (hgi : Gl X "isinstance") (hmT : X.mg (PySem.Str.ofString T) = none) (hgT : Gl X (PySem.Str.ofString T)) (hvT : bootBuiltins (PySem.Str.ofString T) = some (.type T)) (hnT : PySem.Str.ofString T ≠ "__name__") (hdT : (PySem.Str.ofString T == ("__debug__" : Str)) = false)
    (he : starEach [.Name n q2, .Name (PySem.Str.ofString T) q3] (X.suite a ((a, oe) :: pn)).env = (false, eval (.Name n q2) (X.suite a ((a, oe) :: pn)).env) :: starEach [.Name (PySem.Str.ofString T) q3] (X.suite a ((a, oe) :: pn)).env := by rfl)
    (he2 : starEach [.Name (PySem.Str.ofString T) q3] (X.suite a ((a, oe) :: pn)).env = (false, eval (.Name (PySem.Str.ofString T) q3) (X.suite a ((a, oe) :: pn)).env) :: starEach [] (X.suite a ((a, oe) :: pn)).env := by rfl)
    (hpl : (backTo q4 (starEach [.Name (PySem.Str.ofString T) q3] (X.suite a ((a, oe) :: pn)).env)).any (·.1) = false := by rfl) :
    PE (X.suite a ((a, oe) :: pn)) (.Call (.Name "isinstance" q1) [.Name n q2, .Name (PySem.Str.ofString T) q3] [] q4) (tLeaf i a b) := by
  have pe : PE (X.suite a ((a, oe) :: pn)) (.Call (.Name "isinstance" q1) [.Name n q2, .Name (PySem.Str.ofString T) q3] [] q4) _ := pe_callB (call_isE (X := X) (pn := pn) hE hz hf) hgi hmi rfl (pa_cons (pe_var (i := i) hi hv hd hcd) (pa_cons (pe_bltn (v := .ty T) hgT hmT hvT rfl hnT hdT) pa_nil he2) he) (by decide +kernel) (by decide) he hpl
  exact PE.mono pe fun σ H Q ⟨h1, q⟩ => ⟨.ref a, h1, .ty T, .type T, b, rfl, fun u r => r, hk, q⟩
theorem leaves4 {S : Cx} {e1 e2 e3 e4 : Expr} {b1 b2 b3 b4 : Bool} (h1 : PE S e1 (tLeaf i a b1)) (h2 : PE S e2 (tLeaf i a b2)) (h3 : PE S e3 (tLeaf i a b3)) (h4 : PE S e4 (tLeaf i a b4))
    (s1 : starEach [e1, e2, e3, e4] S.env = (false, eval e1 S.env) :: starEach [e2, e3, e4] S.env) (s2 : starEach [e2, e3, e4] S.env = (false, eval e2 S.env) :: starEach [e3, e4] S.env) (s3 : starEach [e3, e4] S.env = (false, eval e3 S.env) :: starEach [e4] S.env) (s4 : starEach [e4] S.env = (false, eval e4 S.env) :: starEach [] S.env) :
    PA S [e1, e2, e3, e4] (tLeaves i a [b1, b2, b3, b4]) := PA.mono (pa_cons h1 (pa_cons h2 (pa_cons h3 (pa_cons h4 pa_nil s4) s3) s2) s1) fun σ H R ⟨he, r⟩ => ⟨he, he, he, he, r⟩
/-- what the suite does, the answers of isinstance given -/
def suiteK (j1 j2 : Nat) (bs1 bs2 : List Bool) (b : Bool) (tw : DEnv → Res Bool) (tb : DEnv → Out) : DEnv → Out := fun Γ =>
  if b then oBind (tw ((Γ.set j1 (some (.list (bs1.map .bool)))).set j2 (some (.list (bs2.map .bool))))) fun c => if c then tb ((Γ.set j1 (some (.list (bs1.map .bool)))).set j2 (some (.list (bs2.map .bool)))) else .next ((Γ.set j1 (some (.list (bs1.map .bool)))).set j2 (some (.list (bs2.map .bool))))
  else .next ((Γ.set j1 (some (.list (bs1.map .bool)))).set j2 (some (.list (bs2.map .bool))))
theorem reps_bools {K : PySem.W.Frag} {B : Hp} : ∀ bs : List Bool, Reps K B (bs.map V.bl) (bs.map PyData.bool)
  | [] => .nil
  | b :: bs => .cons (.bl b) (reps_bools bs)
/-- a list of truths is made, and put into slot j -/
theorem SR.bools {K : PySem.W.Frag} {B H : Hp} {Γ : DEnv} {σ : L2.St} {q : Addr} {j : Nat} (s : SR K F own B Γ σ H) (hq : H q = none) (hj : j ∉ own) (bs : List Bool) : SR K F own (upd B q (.lst (bs.map .bl))) (Γ.set j (some (.list (bs.map .bool)))) (σ.set j (some (.ref q))) (upd H q (.lst (bs.map .bl))) ∧ Same B (upd B q (.lst (bs.map .bl))) := by
  have s1 := (s.grown (o := .lst (bs.map V.bl)) hq).freeze upd_same (s.noB hq) (s.no0 hq) (s.noS hq)
  exact ⟨s1.set hj (.lst (SqL.of upd_same) (reps_bools bs)), same_upd (s.noB hq)⟩
theorem suite_kind {S : Cx} {j1 j2 : Nat} {bs1 bs2 : List Bool} {b : Bool} {tw : DEnv → Res Bool} {tb : DEnv → Out} {x1 x2 : Str} {es1 es2 cs : List Expr} {le c2 : Expr} {body : List Stmt} {p1 p2 l1 l2 q1 q2 pb pi : Pos}
    (hN : S.N.Nodup) (h1 : PA S es1 (tLeaves i a bs1)) (h2 : PA S es2 (tLeaves i a bs2)) (hL : PE S le (tLeaf i a b)) (hLt : ∀ whole, isTrue le S.env whole = (do let v ← whole; standAt le.pos; holding [v] (truthy v)))
    (hW : DW S F own (.BoolOp .And (c2 :: cs) pb) tw) (hB : DSs S F own own body tb) (hij1 : i ≠ j1) (hij2 : i ≠ j2) (hj1 : j1 ∉ own) (hj2 : j2 ∉ own) (z1 : bs1.length ≤ 10) (z2 : bs2.length ≤ 10)
    (hi1 : S.N[j1]? = some x1) (hx1 : Loc S.env.scope x1) (hs1 : swapsWith (.List es1 l1) (some (.Name x1 p1)) q1.line S.env = pure false) (hf1 : S.fn x1 = true ∨ S.env.scope.names.lookup x1 = some .local)
    (hi2 : S.N[j2]? = some x2) (hx2 : Loc S.env.scope x2) (hs2 : swapsWith (.List es2 l2) (some (.Name x2 p2)) q2.line S.env = pure false) (hf2 : S.fn x2 = true ∨ S.env.scope.names.lookup x2 = some .local) :
    PSs S [.Assign [.Name x1 p1] (.List es1 l1) q1, .Assign [.Name x2 p2] (.List es2 l2) q2, .If (.BoolOp .And (le :: c2 :: cs) pb) body [] pi] (fun Dn σ H => Es i a σ ∧ ∃ B Γ, SR S.K F own B Γ σ H ∧ OPost S.K F own Dn (suiteK j1 j2 bs1 bs2 b tw tb Γ) B) :=
  PSs.mono (pss_cons (ps_set hN hi1 hx1 (pe_lst h1) hs1 hf1) (pss_cons (ps_set hN hi2 hx2 (pe_lst h2) hs2 hf2) (pss_one (ps_if (PW.pt (pw_and (pt_val hL hLt) hW)) hB (dss_nil (F := F) (own := own)))))) fun Dn σ H ⟨he, B, Γ, s, p⟩ => by
    refine ⟨he, by rw [List.length_map, sizeLine_eq]; omega, fun q hq => ?_⟩
    obtain ⟨s1, sb1⟩ := s.bools hq hj1 bs1
    have he1 : Es i a (σ.set j1 (some (.ref q))) := by
      show (σ.set j1 (some (V.ref q)))[i]? = _
      rw [List.getElem?_set_ne fun z => hij1 z.symm]
      exact he
    refine ⟨he1, by rw [List.length_map, sizeLine_eq]; omega, fun r hr => ?_⟩
    obtain ⟨s2, sb2⟩ := s1.bools hr hj2 bs2
    have he2 : Es i a ((σ.set j1 (some (.ref q))).set j2 (some (.ref r))) := by
      show ((σ.set j1 (some (V.ref q))).set j2 (some (V.ref r)))[i]? = _
      rw [List.getElem?_set_ne fun z => hij2 z.symm]
      exact he1
    have p := OPost.mono p (sb1.trans sb2)
    unfold suiteK at p
    refine ⟨he2, b, rfl, ?_⟩
    cases b with
    | false =>
      rw [if_neg Bool.false_ne_true] at p
      rw [if_neg Bool.false_ne_true]
      show (if false = true then _ else _)
      rw [if_neg Bool.false_ne_true]
      exact ⟨_, _, s2, p⟩
    | true =>
      rw [if_pos rfl] at p
      rw [if_pos rfl]
      refine tB_firstO s2 p fun c H1 B1 _ s3 g3 sb3 p3 => ?_
      cases c with
      | true => exact ⟨B1, _, s3, p3⟩
      | false => exact ⟨B1, _, s3, p3⟩
/-- what isinstance answers for the class D -/
def KitL (K : PySem.W.Frag) (D : Addr) (cs : List Addr) (bs : List Bool) : Prop := Paired (fun c b => PySem.W.kitOne K (.ref D) (.ref c) = some b) cs bs
def clearO (i : Nat) : Out → Out
  | .next Γ => .next (Γ.set i none)
  | o => o
def sTryK (i : Nat) (te : DEnv → Res D) (known : List Str) (p : Str → Bool) (u : Str → DEnv → Out) : DEnv → Out := fun Γ => match te Γ with
  | .ok _ => .next Γ
  | .raise c => if c ∈ known ∧ i < Γ.length then (if p c then clearO i (u c (Γ.set i none)) else .raise c) else .bad
  | .bad => .bad
theorem SR.unsetV {K : PySem.W.Frag} {B H : Hp} {Γ : DEnv} {σ : L2.St} {i : Nat} (w : Option V) (s : SR K F own B Γ σ H) (hi : i ∉ own) : SR K F own B (Γ.set i none) (σ.set i w) H := by
  have back : ∀ {j : Nat} {d : D}, (Γ.set i none)[j]? = some (some d) → i ≠ j ∧ Γ[j]? = some (some d) := fun {j d} e => by
    by_cases hji : i = j
    · subst hji
      have hl := (List.getElem?_eq_some_iff.mp e).1
      rw [List.length_set] at hl
      rw [List.getElem?_set_self hl] at e
      cases e
    · rw [List.getElem?_set_ne hji] at e
      exact ⟨hji, e⟩
  refine ⟨s.sub, s.same, s.old, by rw [List.length_set, List.length_set, s.len], fun j e hj ej => ?_, fun j e hj ej => ?_, fun j k e e' w hj hk hjk ej ek ev => ?_, s.nt⟩
  · obtain ⟨h1, h2⟩ := back ej
    rw [List.getElem?_set_ne h1]
    exact s.dat j e hj h2
  · obtain ⟨h1, h2⟩ := back ej
    rw [List.getElem?_set_ne h1]
    exact s.owd j e hj h2
  · obtain ⟨h1, h2⟩ := back ej
    obtain ⟨h3, h4⟩ := back ek
    rw [List.getElem?_set_ne h1] at ev
    rw [List.getElem?_set_ne h3]
    exact s.apart j k e e' w hj hk hjk h2 h4 ev
def tsK (K : PySem.W.Frag) (F : FR) (own : List Nat) (i : Nat) (cs1 cs2 : List Addr) (T : String) (u : List Bool → List Bool → Bool → DEnv → Out) : Addr → Value → Option Addr → TS := fun a cls d Dn σ H => ∃ (D : Addr) (bs1 bs2 : List Bool) (b : Bool), cls = .ref D ∧ d = none ∧ ExcC K D ∧ KitL K D cs1 bs1 ∧ KitL K D cs2 bs2 ∧ PySem.W.kitOne K (.ref D) (.type T) = some b ∧ Es i a σ ∧ ∃ B Γ, SR K F own B Γ σ H ∧ OPost K F own Dn (u bs1 bs2 b Γ) B
theorem ds_tryK (i : Nat) {e : Expr} {te : DEnv → Res D} (known : List Str) {x n : Str} {C : Value} {p : Str → Bool} {v1 v2 : Str → List Bool} {vb : Str → Bool} {cs1 cs2 : List Addr} {T : String} {u : List Bool → List Bool → Bool → DEnv → Out} {b0 : Stmt} {suite : List Stmt} {pp np pos' pos : Pos} (hX : X.stack = X.env :: X.outer) (hf : X.env.frame = some X.env.locals) (tk : Takes X F.W) (hN : X.N.Nodup)
    (hb : ∀ (W : WX) (pn : List (Addr × Obj)) (xe : Value → Shared → Prop), Takes (X.tr pn xe) W → DE (X.tr pn xe) (F.wish W) own .val e te) (hc : Names X x C) (hx : ∀ y ∈ known, PySem.W.exmOne X.K (F.cv y) C = some (p y))
    (hk : ∀ y ∈ known, p y = true → ∃ D, F.cv y = .ref D ∧ ExcC X.K D ∧ KitL X.K D cs1 (v1 y) ∧ KitL X.K D cs2 (v2 y) ∧ PySem.W.kitOne X.K (.ref D) (.type T) = some (vb y))
    (hsu : ∀ (a : Addr) (oe : Obj) (pn : List (Addr × Obj)) (D : Addr) (bs1 bs2 : List Bool) (b : Bool), ExcC X.K D → Zc (.ref D) none oe → (∃ vs, oe.data = .fields vs) → KitL X.K D cs1 bs1 → KitL X.K D cs2 bs2 → PySem.W.kitOne X.K (.ref D) (.type T) = some b →
      PSs (X.suite a ((a, oe) :: pn)) (b0 :: suite) (fun Dn σ H => Es i a σ ∧ ∃ B Γ, SR X.K F own B Γ σ H ∧ OPost X.K F own Dn (u bs1 bs2 b Γ) B))
    (hio : i ∉ own := by decide) (hi : X.N[i]? = some n := by rfl) (hln : X.env.kindOf n = some .local := by rfl)
    (hsw : ∀ (pn : List (Addr × Obj)) (xe : Value → Shared → Prop), swapsWith e none pp.line (X.tr pn xe).env = pure false := by intros; rfl) :
    DS X F own own (.Try [.Expr e pp] [.ExceptHandler (some (.Name x np)) (some n) (b0 :: suite) pos'] [] [] pos) (sTryK i te known p fun c => u (v1 c) (v2 c) (vb c)) := by
  refine PS.mono (ps_try_as (i := i) (ts := tsK X.K F own i cs1 cs2 T u) (tb := fun W => tDrop (tD X.K (F.wish W) own .val te)) hX hf hN hi hln hc tk (fun W pn xe tk' _ => pss_one (ps_expr (hb W pn xe tk') (hsw pn xe))) fun a oe cls d pn hz hff => ?_) fun Dn σ H ⟨B, Γ, s, q⟩ => ?_
  · refine ⟨fun pins s σ H Dn I h => ?_⟩
    obtain ⟨D, bs1, bs2, b, rfl, rfl, hE, k1, k2, k3, h⟩ := h
    exact (hsu a oe pn D bs1 bs2 b hE hz hff k1 k2 k3).run pins s σ H Dn I h
  unfold tDrop
  refine ⟨B, Γ, s.wish _, ?_⟩
  unfold sTryK at q
  cases et : te Γ with
  | bad =>
    rw [et] at q
    exact q.elim
  | ok d =>
    rw [et] at q
    exact fun v H1 B1 s1 g r => q σ H1 B1 s1.unwish (g.same s.sub)
  | raise c =>
    rw [et] at q
    have q : OPost X.K F own Dn (if c ∈ known ∧ i < Γ.length then (if p c then clearO i (u (v1 c) (v2 c) (vb c) (Γ.set i none)) else .raise c) else .bad) B := q
    by_cases hc2 : c ∈ known ∧ i < Γ.length
    · rw [if_pos hc2] at q
      intro H' h
      have s2 := s.late h
      refine ⟨p c, hx c hc2.1, fun e1 a na => ?_, fun e1 => ?_⟩
      · obtain ⟨D, d1, d2, d3, d4, d5⟩ := hk c hc2.1 e1
        rw [if_pos e1] at q
        have hl : i < σ.length := by rw [← s.len]; exact hc2.2
        refine ⟨D, v1 c, v2 c, vb c, d1, rfl, d2, d3, d4, d5, List.getElem?_set_self hl, B, Γ.set i none, s2.unsetV _ hio, ?_⟩
        cases eu : u (v1 c) (v2 c) (vb c) (Γ.set i none) with
        | next Γ' =>
          rw [eu] at q
          have q : ∀ σ1 H1 B1, SR X.K F own B1 (Γ'.set i none) σ1 H1 → Same B B1 → Dn.nx σ1 H1 := q
          exact fun σ1 H1 B1 s1 sb => q _ H1 B1 (s1.unset hio) sb
        | ret d => rw [eu] at q; exact q
        | raise c => rw [eu] at q; exact q
        | bad => rw [eu] at q; exact q.elim
      · rw [if_neg (by rw [e1]; exact Bool.false_ne_true)] at q
        exact q σ H' s2.same
    · rw [if_neg hc2] at q
      exact q.elim
theorem kl4 {K : PySem.W.Frag} {D c1 c2 c3 c4 : Addr} {b1 b2 b3 b4 : Bool} (g1 : PySem.W.kitOne K (.ref D) (.ref c1) = some b1) (g2 : PySem.W.kitOne K (.ref D) (.ref c2) = some b2) (g3 : PySem.W.kitOne K (.ref D) (.ref c3) = some b3) (g4 : PySem.W.kitOne K (.ref D) (.ref c4) = some b4) : KitL K D [c1, c2, c3, c4] [b1, b2, b3, b4] := .cons g1 (.cons g2 (.cons g3 (.cons g4 .nil)))
theorem kit4 {K : PySem.W.Frag} {D c1 c2 c3 c4 : Addr} {bs : List Bool} (h : KitL K D [c1, c2, c3, c4] bs) : ∃ b1 b2 b3 b4, bs = [b1, b2, b3, b4] ∧ PySem.W.kitOne K (.ref D) (.ref c1) = some b1 ∧ PySem.W.kitOne K (.ref D) (.ref c2) = some b2 ∧ PySem.W.kitOne K (.ref D) (.ref c3) = some b3 ∧ PySem.W.kitOne K (.ref D) (.ref c4) = some b4 := by
  unfold KitL at h
  cases h with
  | cons g1 h => cases h with
    | cons g2 h => cases h with
      | cons g3 h => cases h with
        | cons g4 h =>
          cases h
          exact ⟨_, _, _, _, rfl, g1, g2, g3, g4⟩
theorem ds_tryK44 (i j1 j2 : Nat) {e : Expr} {te : DEnv → Res D} (known : List Str) {x n x1 x2 y1 y2 y3 y4 y5 y6 y7 y8 : Str} {C : Value} {p : Str → Bool} {v1 v2 : Str → List Bool} {vb : Str → Bool} {c1' c2' c3' c4' c5' c6' c7' c8' : Addr} {T : String} {tw : DEnv → Res Bool} {tb : DEnv → Out} {c2 : Expr} {cs : List Expr} {body : List Stmt} {pp np pos' pos p1 p2 l1 l2 q1 q2 pb pi qa1 qb1 qc1 qd1 qa2 qb2 qc2 qd2 qa3 qb3 qc3 qd3 qa4 qb4 qc4 qd4 qa5 qb5 qc5 qd5 qa6 qb6 qc6 qd6 qa7 qb7 qc7 qd7 qa8 qb8 qc8 qd8 qa9 qb9 qc9 qd9 : Pos} (hX : X.stack = X.env :: X.outer) (hf : X.env.frame = some X.env.locals) (tk : Takes X F.W) (hN : X.N.Nodup)
    (hb : ∀ (W : WX) (pn : List (Addr × Obj)) (xe : Value → Shared → Prop), Takes (X.tr pn xe) W → DE (X.tr pn xe) (F.wish W) own .val e te) (hc : Names X x C) (hx : ∀ y ∈ known, PySem.W.exmOne X.K (F.cv y) C = some (p y))
    (hk : ∀ y ∈ known, p y = true → ∃ D, F.cv y = .ref D ∧ ExcC X.K D ∧ KitL X.K D [c1', c2', c3', c4'] (v1 y) ∧ KitL X.K D [c5', c6', c7', c8'] (v2 y) ∧ PySem.W.kitOne X.K (.ref D) (.type T) = some (vb y))
    (hmi : X.mg "isinstance" = none) (hmT : X.mg (PySem.Str.ofString T) = none) (hvT : bootBuiltins (PySem.Str.ofString T) = some (.type T)) (hm1 : X.mg y1 = some (.ref c1')) (hm2 : X.mg y2 = some (.ref c2')) (hm3 : X.mg y3 = some (.ref c3')) (hm4 : X.mg y4 = some (.ref c4')) (hm5 : X.mg y5 = some (.ref c5')) (hm6 : X.mg y6 = some (.ref c6')) (hm7 : X.mg y7 = some (.ref c7')) (hm8 : X.mg y8 = some (.ref c8'))
    (hW : ∀ (a : Addr) (oe : Obj) (pn : List (Addr × Obj)), DW (X.suite a ((a, oe) :: pn)) F own (.BoolOp .And (c2 :: cs) pb) tw) (hB : ∀ (a : Addr) (oe : Obj) (pn : List (Addr × Obj)), DSs (X.suite a ((a, oe) :: pn)) F own own body tb)
    (hio : i ∉ own := by decide) (hij1 : i ≠ j1 := by decide) (hij2 : i ≠ j2 := by decide) (hj1 : j1 ∉ own := by decide) (hj2 : j2 ∉ own := by decide) (hi : X.N[i]? = some n := by rfl) (hln : X.env.kindOf n = some .local := by rfl) (hv : Vis X.env.scope n := by first | exact Or.inl rfl | exact Or.inr (Or.inl rfl) | exact Or.inr (Or.inr rfl)) (hd : (n == ("__debug__" : Str)) = false := by decide) (hcd : (n == ("__classdict__" : Str)) = false := by decide)
    (hgi : Gl X "isinstance" := by rfl) (hgT : Gl X (PySem.Str.ofString T) := by rfl) (hnT : PySem.Str.ofString T ≠ "__name__" := by decide) (hdT : (PySem.Str.ofString T == ("__debug__" : Str)) = false := by decide) (hg1 : Gl X y1 := by rfl) (hd1 : (y1 == ("__debug__" : Str)) = false := by decide) (hg2 : Gl X y2 := by rfl) (hd2 : (y2 == ("__debug__" : Str)) = false := by decide) (hg3 : Gl X y3 := by rfl) (hd3 : (y3 == ("__debug__" : Str)) = false := by decide) (hg4 : Gl X y4 := by rfl) (hd4 : (y4 == ("__debug__" : Str)) = false := by decide) (hg5 : Gl X y5 := by rfl) (hd5 : (y5 == ("__debug__" : Str)) = false := by decide) (hg6 : Gl X y6 := by rfl) (hd6 : (y6 == ("__debug__" : Str)) = false := by decide) (hg7 : Gl X y7 := by rfl) (hd7 : (y7 == ("__debug__" : Str)) = false := by decide) (hg8 : Gl X y8 := by rfl) (hd8 : (y8 == ("__debug__" : Str)) = false := by decide)
    (hi1 : X.N[j1]? = some x1 := by rfl) (hx1 : Loc X.env.scope x1 := by first | exact .inl rfl | exact .inr rfl) (hs1 : swapsWith (.List [.Call (.Name "isinstance" qa1) [.Name n qb1, .Name y1 qc1] [] qd1, .Call (.Name "isinstance" qa2) [.Name n qb2, .Name y2 qc2] [] qd2, .Call (.Name "isinstance" qa3) [.Name n qb3, .Name y3 qc3] [] qd3, .Call (.Name "isinstance" qa4) [.Name n qb4, .Name y4 qc4] [] qd4] l1) (some (.Name x1 p1)) q1.line X.env = pure false := by rfl) (hf1 : X.fn x1 = true ∨ X.env.scope.names.lookup x1 = some .local := by first | exact .inl rfl | exact .inr rfl)
    (hi2 : X.N[j2]? = some x2 := by rfl) (hx2 : Loc X.env.scope x2 := by first | exact .inl rfl | exact .inr rfl) (hs2 : swapsWith (.List [.Call (.Name "isinstance" qa5) [.Name n qb5, .Name y5 qc5] [] qd5, .Call (.Name "isinstance" qa6) [.Name n qb6, .Name y6 qc6] [] qd6, .Call (.Name "isinstance" qa7) [.Name n qb7, .Name y7 qc7] [] qd7, .Call (.Name "isinstance" qa8) [.Name n qb8, .Name y8 qc8] [] qd8] l2) (some (.Name x2 p2)) q2.line X.env = pure false := by rfl) (hf2 : X.fn x2 = true ∨ X.env.scope.names.lookup x2 = some .local := by first | exact .inl rfl | exact .inr rfl)
    (hsw : ∀ (pn : List (Addr × Obj)) (xe : Value → Shared → Prop), swapsWith e none pp.line (X.tr pn xe).env = pure false := by intros; rfl) :
    DS X F own own (.Try [.Expr e pp] [.ExceptHandler (some (.Name x np)) (some n) [.Assign [.Name x1 p1] (.List [.Call (.Name "isinstance" qa1) [.Name n qb1, .Name y1 qc1] [] qd1, .Call (.Name "isinstance" qa2) [.Name n qb2, .Name y2 qc2] [] qd2, .Call (.Name "isinstance" qa3) [.Name n qb3, .Name y3 qc3] [] qd3, .Call (.Name "isinstance" qa4) [.Name n qb4, .Name y4 qc4] [] qd4] l1) q1, .Assign [.Name x2 p2] (.List [.Call (.Name "isinstance" qa5) [.Name n qb5, .Name y5 qc5] [] qd5, .Call (.Name "isinstance" qa6) [.Name n qb6, .Name y6 qc6] [] qd6, .Call (.Name "isinstance" qa7) [.Name n qb7, .Name y7 qc7] [] qd7, .Call (.Name "isinstance" qa8) [.Name n qb8, .Name y8 qc8] [] qd8] l2) q2, .If (.BoolOp .And (.Call (.Name "isinstance" qa9) [.Name n qb9, .Name (PySem.Str.ofString T) qc9] [] qd9 :: c2 :: cs) pb) body [] pi] pos'] [] [] pos) (sTryK i te known p fun c => suiteK j1 j2 (v1 c) (v2 c) (vb c) tw tb) :=
  ds_tryK (T := T) (u := fun bs1 bs2 b => suiteK j1 j2 bs1 bs2 b tw tb) i known hX hf tk hN hb hc hx hk (fun a oe pn D bs1 bs2 b hE hz hff k1 k2 k3 => by
    obtain ⟨b1, b2, b3, b4, rfl, g1, g2, g3, g4⟩ := kit4 k1
    obtain ⟨b5, b6, b7, b8, rfl, g5, g6, g7, g8⟩ := kit4 k2
    exact suite_kind (S := X.suite a ((a, oe) :: pn)) hN (leaves4 (leaf_own (X := X) hE hz hff g1 hi hv hd hcd hmi hgi hm1 hg1 hd1) (leaf_own (X := X) hE hz hff g2 hi hv hd hcd hmi hgi hm2 hg2 hd2) (leaf_own (X := X) hE hz hff g3 hi hv hd hcd hmi hgi hm3 hg3 hd3) (leaf_own (X := X) hE hz hff g4 hi hv hd hcd hmi hgi hm4 hg4 hd4) rfl rfl rfl rfl) (leaves4 (leaf_own (X := X) hE hz hff g5 hi hv hd hcd hmi hgi hm5 hg5 hd5) (leaf_own (X := X) hE hz hff g6 hi hv hd hcd hmi hgi hm6 hg6 hd6) (leaf_own (X := X) hE hz hff g7 hi hv hd hcd hmi hgi hm7 hg7 hd7) (leaf_own (X := X) hE hz hff g8 hi hv hd hcd hmi hgi hm8 hg8 hd8) rfl rfl rfl rfl) (leaf_kit (X := X) hE hz hff k3 hi hv hd hcd hmi hgi hmT hgT hvT hnT hdT) (by intro _; rfl) (hW a oe pn) (hB a oe pn) hij1 hij2 hj1 hj2 (show 4 ≤ 10 by omega) (show 4 ≤ 10 by omega) hi1 hx1 hs1 hf1 hi2 hx2 hs2 hf2) hio hi hln hsw
end
end DL

/-! DL: a def called with nothing. -/
namespace DL
open PySem PySem.Spec PyProof.Rows L2
variable [TabCx] [WCx]
theorem pe_callS0 {X : Cx} {CX : CXT} {k : Nat} {f : Addr} {fd : FuncData} {ps : List Str} {sp : Sp} {E : L2.St → XK} {x : Str} {p pos : Pos} (F : FnOk X.prog X.w X.K X.mg X.base CX k f fd ps sp) (hr : Room k X.A) (hg : Gl X x) (hm : X.mg x = some (.ref f)) (hk : PySem.W.keepIn X.K (.ref f) = true) (hb : Binds X.K fd ps []) (hx : ∀ σ, PassesAt CX X σ (E σ))
    (hdb : (x == ("__debug__" : Str)) = false := by decide) : PE X (.Call (.Name x p) [] [] pos) (tCallS sp E tNil) := by
  refine ⟨fun pins s σ H Q I h => ?_⟩
  refine wpAny_Call_Name_kw (ld_glob I hg hm ?_ hdb)
  exact PySem.W.callWith_K0 I.kIn hk (run_fnS (us := []) F hr hb (hx σ) I .nil h)
section
variable {X : Cx} {F : FR} {own : List Nat}
theorem de_call0 {k : Nat} {f : Addr} {fd : FuncData} {ps : List Str} {x : Str} {g : List D → Res D} {p pos : Pos} (Fn : FnOk X.prog X.w X.K X.mg X.base (L2.CX X.prog X.w) k f fd ps (spD X.K F.cv 0 g)) (hr : Room k X.A) (hm : X.mg x = some (.ref f))
    (hk : PySem.W.keepIn X.K (.ref f) = true) (hb : Binds X.K fd ps []) (tk : Takes X F.W) (hg : Gl X x := by rfl) (hdb : (x == ("__debug__" : Str)) = false := by decide) : DE X F own .val (.Call (.Name x p) [] [] pos) (xCall g xNil) :=
  PE.mono (pe_callS0 Fn hr hg hm hk hb (fun σ => passAt tk σ) hdb) fun σ H Q ⟨B, Γ, s, p⟩ => by
    have p : Post X.K F own (RV X.K F own Γ σ .val) (g []) Γ σ H B Q := p
    refine ⟨B, [], s.sub, s.tab, s.nt, .nil, rfl, ?_⟩
    cases eg : g [] with
    | bad => rw [eg] at p; exact p
    | raise c => rw [eg] at p; exact p
    | ok d =>
      rw [eg] at p
      intro v2 H2 B2 sm sub fz nt r2
      have gr : Grow B H B2 H2 := ⟨sm, fz⟩
      exact p v2 H2 B2 (s.after gr sub nt) gr r2
end
end DL

namespace My
open PySem PySem.Spec PyProof.Rows L2 DL
def b_is_whole : DEnv → Out := (sRet (xAnd (xIsa "int" (xVar 0)) (xNot (xIsa "bool" (xVar 0)))))
def f_is_whole : List D → Res D := runF 1 b_is_whole
def b_is_name_0 : DEnv → Out := (sIf (xT (x2 tninD (xVar 1) (xC (.str (PySem.Str.ofString "abcdefghijklmnopqrstuvwxyz")))))
 (sRet (xC (.bool false)))
 sNil)
def b_is_name : DEnv → Out := (sSeq (sIf (xOrT (xNotT (xT (xIsa "str" (xVar 0)))) (xOrT (xT (x2 ltD (xCall (on1 lenD) (xCons (xVar 0) xNil)) (xC (.int 1)))) (xT (x2 gtD (xCall (on1 lenD) (xCons (xVar 0) xNil)) (xC (.int 8))))))
 (sRet (xC (.bool false)))
 sNil)
 (sSeq (sFor (xItems (xVar 0)) (gSet 1)
 b_is_name_0)
 (sRet (xC (.bool true)))))
def f_is_name : List D → Res D := runF 2 b_is_name
def b_is_term : DEnv → Out := (sRet (xOr (xCall f_is_whole (xCons (xVar 0) xNil)) (xCall f_is_name (xCons (xVar 0) xNil))))
def f_is_term : List D → Res D := runF 1 b_is_term
def b_is_fact : DEnv → Out := (sSeq (sIf (xOrT (xNotT (xT (xIsa "tuple" (xVar 0)))) (xOrT (xT (x2 neD (xCall (on1 lenD) (xCons (xVar 0) xNil)) (xC (.int 2)))) (xNotT (xT (xCall f_is_name (xCons (x2 ixD (xVar 0) (xC (.int 0))) xNil))))))
 (sRet (xC (.bool false)))
 sNil)
 (sSeq (sIf (xOrT (xNotT (xT (xIsa "tuple" (x2 ixD (xVar 0) (xC (.int 1)))))) (xOrT (xT (x2 ltD (xCall (on1 lenD) (xCons (x2 ixD (xVar 0) (xC (.int 1))) xNil)) (xC (.int 1)))) (xT (x2 gtD (xCall (on1 lenD) (xCons (x2 ixD (xVar 0) (xC (.int 1))) xNil)) (xC (.int 4))))))
 (sRet (xC (.bool false)))
 sNil)
 (sRet (xCall (on1 allD) (xCons (xComp [1] (xItems (x2 ixD (xVar 0) (xC (.int 1)))) (gSet 1) xYes (xCall f_is_whole (xCons (xVar 1) xNil))) xNil)))))
def f_is_fact : List D → Res D := runF 2 b_is_fact
def b_is_atom : DEnv → Out := (sSeq (sIf (xOrT (xNotT (xT (xIsa "tuple" (xVar 0)))) (xOrT (xT (x2 neD (xCall (on1 lenD) (xCons (xVar 0) xNil)) (xC (.int 2)))) (xNotT (xT (xCall f_is_name (xCons (x2 ixD (xVar 0) (xC (.int 0))) xNil))))))
 (sRet (xC (.bool false)))
 sNil)
 (sSeq (sIf (xOrT (xNotT (xT (xIsa "tuple" (x2 ixD (xVar 0) (xC (.int 1)))))) (xOrT (xT (x2 ltD (xCall (on1 lenD) (xCons (x2 ixD (xVar 0) (xC (.int 1))) xNil)) (xC (.int 1)))) (xT (x2 gtD (xCall (on1 lenD) (xCons (x2 ixD (xVar 0) (xC (.int 1))) xNil)) (xC (.int 4))))))
 (sRet (xC (.bool false)))
 sNil)
 (sRet (xCall (on1 allD) (xCons (xComp [1] (xItems (x2 ixD (xVar 0) (xC (.int 1)))) (gSet 1) xYes (xCall f_is_term (xCons (xVar 1) xNil))) xNil)))))
def f_is_atom : List D → Res D := runF 2 b_is_atom
def b_alike_long_0 : DEnv → Out := (sSetdIf 1 (xVar 2) (xCall (on1 lenD) (xCons (xVar 3) xNil)) (xCall (on1 lenD) (xCons (xVar 3) xNil))
 (sRet (xC (.bool false)))
 sNil)
def b_alike_long : DEnv → Out := (sSeq (sSet 1 (xC (.dict [])))
 (sSeq (sFor (xItems (xVar 0)) (gTup 2 (gMore (gSet 2) (gMore (gSet 3) gNone)))
 b_alike_long_0)
 (sRet (xC (.bool true)))))
def f_alike_long : List D → Res D := runF 4 b_alike_long
def b_are_facts_0 : DEnv → Out := (sIf (xOrT (xNotT (xT (xCall f_is_fact (xCons (x2 ixD (xVar 0) (xVar 1)) xNil)))) (xAndT (xT (x2 gtD (xVar 1) (xC (.int 0)))) (xT (x2 leD (x2 ixD (xVar 0) (xVar 1)) (x2 ixD (xVar 0) (x2 subD (xVar 1) (xC (.int 1))))))))
 (sRet (xC (.bool false)))
 sNil)
def b_are_facts : DEnv → Out := (sSeq (sIf (xNotT (xT (xIsa "list" (xVar 0))))
 (sRet (xC (.bool false)))
 sNil)
 (sSeq (sFor (xRange1 (xCons (xCall (on1 lenD) (xCons (xVar 0) xNil)) xNil)) (gSet 1)
 b_are_facts_0)
 (sRet (xC (.bool true)))))
def f_are_facts : List D → Res D := runF 2 b_are_facts
def b_checked_book : DEnv → Out := (sSeq (sIf (xOrT (xNotT (xT (xCall f_are_facts (xCons (xVar 0) xNil)))) (xNotT (xT (xCall f_alike_long (xCons (xVar 0) xNil)))))
 (sRaise "NoBook")
 sNil)
 (sRet (xCall (on1 lstOfD) (xCons (xVar 0) xNil))))
def f_checked_book : List D → Res D := runF 1 b_checked_book
def b_are_atoms : DEnv → Out := (sSeq (sIf (xOrT (xNotT (xT (xIsa "tuple" (xVar 0)))) (xOrT (xT (x2 ltD (xCall (on1 lenD) (xCons (xVar 0) xNil)) (xVar 1))) (xT (x2 gtD (xCall (on1 lenD) (xCons (xVar 0) xNil)) (xVar 2)))))
 (sRet (xC (.bool false)))
 sNil)
 (sRet (xAnd (xCall (on1 allD) (xCons (xComp [3] (xItems (xVar 0)) (gSet 3) xYes (xCall f_is_atom (xCons (xVar 3) xNil))) xNil)) (xCall f_alike_long (xCons (xVar 0) xNil)))))
def f_are_atoms : List D → Res D := runF 4 b_are_atoms
def b_stand_ins_1 : DEnv → Out := (sIf (xT (xIsa "str" (xVar 3)))
 (sDput 1 (xVar 3) (xC (.bool true)))
 sNil)
def b_stand_ins_0 : DEnv → Out := (sFor (xItems (x2 ixD (xVar 2) (xC (.int 1)))) (gSet 3)
 b_stand_ins_1)
def b_stand_ins : DEnv → Out := (sSeq (sSet 1 (xC (.dict [])))
 (sSeq (sFor (xItems (xVar 0)) (gSet 2)
 b_stand_ins_0)
 (sRet (xCall (on1 lstKD) (xCons (xVar 1) xNil)))))
def f_stand_ins : List D → Res D := runF 4 b_stand_ins
def b_is_asking : DEnv → Out := (sSeq (sIf (xOrT (xNotT (xT (xIsa "tuple" (xVar 0)))) (xOrT (xT (x2 neD (xCall (on1 lenD) (xCons (xVar 0) xNil)) (xC (.int 2)))) (xOrT (xNotT (xT (xIsa "tuple" (x2 ixD (xVar 0) (xC (.int 0)))))) (xT (x2 gtD (xCall (on1 lenD) (xCons (x2 ixD (xVar 0) (xC (.int 0))) xNil)) (xC (.int 4)))))))
 (sRet (xC (.bool false)))
 sNil)
 (sSeq (sIf (xOrT (xNotT (xT (xCall (on1 allD) (xCons (xComp [1] (xItems (x2 ixD (xVar 0) (xC (.int 0)))) (gSet 1) xYes (xCall f_is_term (xCons (xVar 1) xNil))) xNil)))) (xNotT (xT (xCall f_are_atoms (xCons (x2 ixD (xVar 0) (xC (.int 1))) (xCons (xC (.int 1)) (xCons (xC (.int 6)) xNil)))))))
 (sRet (xC (.bool false)))
 sNil)
 (sSeq (sSet 2 (xCall f_stand_ins (xCons (x2 ixD (xVar 0) (xC (.int 1))) xNil)))
 (sRet (xCall (on1 allD) (xCons (xComp [1] (xItems (x2 ixD (xVar 0) (xC (.int 0)))) (gSet 1) xYes (xOr (xCall f_is_whole (xCons (xVar 1) xNil)) (x2 inD (xVar 1) (xVar 2)))) xNil))))))
def f_is_asking : List D → Res D := runF 3 b_is_asking
def b_checked_asking : DEnv → Out := (sSeq (sIf (xNotT (xT (xCall f_is_asking (xCons (xVar 0) xNil))))
 (sRaise "NoAsking")
 sNil)
 (sRet (xVar 0)))
def f_checked_asking : List D → Res D := runF 1 b_checked_asking
def b_fitted_0 : DEnv → Out := (sIf (xT (xIsa "str" (xVar 4)))
 (sSetdIf 3 (xVar 4) (xVar 5) (xVar 5)
 (sRet (xC .none))
 sNil)
 (sIf (xT (x2 neD (xVar 4) (xVar 5)))
 (sRet (xC .none))
 sNil))
def b_fitted : DEnv → Out := (sSeq (sSet 3 (xCall (on1 dictOfD) (xCons (xVar 0) xNil)))
 (sSeq (sFor (xZip (xVar 1) (xVar 2)) (gTup 2 (gMore (gSet 4) (gMore (gSet 5) gNone)))
 b_fitted_0)
 (sRet (xVar 3))))
def f_fitted : List D → Res D := runF 6 b_fitted
def b_all_fitted_2 : DEnv → Out := (sIf (xAndT (xT (x2 eqD (xVar 3) (xVar 7))) (xT (x2 eqD (xCall (on1 lenD) (xCons (xVar 4) xNil)) (xCall (on1 lenD) (xCons (xVar 8) xNil)))))
 (sSeq (sSet 9 (xCall f_fitted (xCons (xVar 6) (xCons (xVar 4) (xCons (xVar 8) xNil)))))
 (sIf (xT (x2 notND (xVar 9) (xC .none)))
 (sAppend 5 (xVar 9))
 sNil))
 sNil)
def b_all_fitted_1 : DEnv → Out := (sFor (xItems (xVar 1)) (gTup 2 (gMore (gSet 7) (gMore (gSet 8) gNone)))
 b_all_fitted_2)
def b_all_fitted_0 : DEnv → Out := (sSeq (sSet 5 (xLst xNil))
 (sSeq (sFor (xItems (xVar 2)) (gSet 6)
 b_all_fitted_1)
 (sSet 2 (xVar 5))))
def b_all_fitted : DEnv → Out := (sSeq (sSet 2 (xLst (xCons (xC (.dict [])) xNil)))
 (sSeq (sFor (xItems (xVar 0)) (gTup 2 (gMore (gSet 3) (gMore (gSet 4) gNone)))
 b_all_fitted_0)
 (sRet (xVar 2))))
def f_all_fitted : List D → Res D := runF 10 b_all_fitted
def b_put : DEnv → Out := (sRet (xCall (on1 tupOfD) (xCons (xComp [2] (xItems (xVar 1)) (gSet 2) xYes (xGet2 (xVar 0) (xVar 2) (xVar 2))) xNil)))
def f_put : List D → Res D := runF 3 b_put
def b_answers : DEnv → Out := (sSeq (sDrop (xCall f_checked_asking (xCons (xVar 0) xNil)))
 (sSeq (sDrop (xCall f_checked_book (xCons (xVar 1) xNil)))
 (sRet (x1 sortSetA (xComp [2] (xItems (xCall f_all_fitted (xCons (x2 ixD (xVar 0) (xC (.int 1))) (xCons (xVar 1) xNil)))) (gSet 2) xYes (xCall f_put (xCons (xVar 2) (xCons (x2 ixD (xVar 0) (xC (.int 0))) xNil))))))))
def f_answers : List D → Res D := runF 3 b_answers
def b_ways : DEnv → Out := (sRet (xComp [2] (xItems (xCall f_all_fitted (xCons (x2 ixD (xVar 1) (xC (.int 1))) (xCons (x2 ixD (xVar 0) (xC (.int 1))) xNil)))) (gSet 2) (xT (x2 eqD (xCall f_put (xCons (xVar 2) (xCons (x2 ixD (xVar 1) (xC (.int 0))) xNil))) (x2 ixD (xVar 0) (xC (.int 0))))) (xVar 2)))
def f_ways : List D → Res D := runF 3 b_ways
def b_need_two : DEnv → Out := (sSeq (sDrop (xCall f_checked_asking (xCons (xVar 0) xNil)))
 (sSeq (sDrop (xCall f_checked_asking (xCons (xVar 1) xNil)))
 (sIf (xT (x2 neD (xCall (on1 lenD) (xCons (x2 ixD (xVar 0) (xC (.int 0))) xNil)) (xCall (on1 lenD) (xCons (x2 ixD (xVar 1) (xC (.int 0))) xNil))))
 (sRaise "Unlike")
 sNil)))
def f_need_two : List D → Res D := runF 2 b_need_two
def b_numbers_in_0 : DEnv → Out := (sExtend 1 (xComp [2] (xItems (x2 ixD (xVar 3) (xC (.int 1)))) (gSet 2) (xNotT (xT (xIsa "str" (xVar 2)))) (xVar 2)))
def b_numbers_in : DEnv → Out := (sSeq (sSet 1 (xComp [2] (xItems (x2 ixD (xVar 0) (xC (.int 0)))) (gSet 2) (xNotT (xT (xIsa "str" (xVar 2)))) (xVar 2)))
 (sSeq (sFor (xItems (x2 ixD (xVar 0) (xC (.int 1)))) (gSet 3)
 b_numbers_in_0)
 (sRet (xVar 1))))
def f_numbers_in : List D → Res D := runF 4 b_numbers_in
def b_frozen_0 : DEnv → Out := (sDput 2 (xVar 3) (x2 addD (xVar 1) (xCall (on1 lenAD) (xCons (xVar 2) xNil))))
def b_frozen : DEnv → Out := (sSeq (sSet 2 (xC (.dict [])))
 (sSeq (sFor (xItems (xCall f_stand_ins (xCons (x2 ixD (xVar 0) (xC (.int 1))) xNil))) (gSet 3)
 b_frozen_0)
 (sSeq (sSet 4 (xComp [5, 6] (xItems (x2 ixD (xVar 0) (xC (.int 1)))) (gTup 2 (gMore (gSet 5) (gMore (gSet 6) gNone))) xYes (xTup (xCons (xVar 5) (xCons (xCall f_put (xCons (xVar 2) (xCons (xVar 6) xNil))) xNil)))))
 (sRet (xTup (xCons (x1 sortSetA (xVar 4)) (xCons (xCall f_put (xCons (xVar 2) (xCons (x2 ixD (xVar 0) (xC (.int 0))) xNil))) xNil)))))))
def f_frozen : List D → Res D := runF 7 b_frozen
def b_within : DEnv → Out := (sSeq (sDrop (xCall f_need_two (xCons (xVar 0) (xCons (xVar 1) xNil))))
 (sSeq (sSet 2 (xCall f_ways (xCons (xVar 0) (xCons (xVar 1) xNil))))
 (sSeq (sIf (xT (x2 nilNeD (xVar 2) (xLst xNil)))
 (sRet (xTup (xCons (xC (.str (PySem.Str.ofString "way"))) (xCons (xComp [3] (xItems (xCall f_stand_ins (xCons (x2 ixD (xVar 1) (xC (.int 1))) xNil))) (gSet 3) xYes (xTup (xCons (xVar 3) (xCons (x2 dixD (x2 ixD (xVar 2) (xC (.int 0))) (xVar 3)) xNil)))) xNil))))
 sNil)
 (sSeq (sSet 4 (x2 addD (xC (.int 1)) (xCall (on1 maxLD) (xCons (x2 addD (x2 addD (xLst (xCons (xC (.int 0)) xNil)) (xCall f_numbers_in (xCons (xVar 0) xNil))) (xCall f_numbers_in (xCons (xVar 1) xNil))) xNil))))
 (sSeq (sAsg (xCall f_frozen (xCons (xVar 0) (xCons (xVar 4) xNil))) (gTup 2 (gMore (gSet 5) (gMore (gSet 6) gNone))))
 (sRet (xTup (xCons (xC (.str (PySem.Str.ofString "book"))) (xCons (xVar 5) (xCons (xVar 6) xNil))))))))))
def f_within : List D → Res D := runF 7 b_within
def b_alike : DEnv → Out := (sSeq (sDrop (xCall f_need_two (xCons (xVar 0) (xCons (xVar 1) xNil))))
 (sRet (xAnd (x2 nilNeD (xCall f_ways (xCons (xVar 0) (xCons (xVar 1) xNil))) (xLst xNil)) (x2 nilNeD (xCall f_ways (xCons (xVar 1) (xCons (xVar 0) xNil))) (xLst xNil)))))
def f_alike : List D → Res D := runF 2 b_alike
def b_without : DEnv → Out := (sRet (xTup (xCons (x2 ixD (xVar 0) (xC (.int 0))) (xCons (x2 addD (xSl (x2 ixD (xVar 0) (xC (.int 1))) xNo (xPart (xVar 1))) (xSl (x2 ixD (xVar 0) (xC (.int 1))) (xPart (x2 addD (xVar 1) (xC (.int 1)))) xNo)) xNil))))
def f_without : List D → Res D := runF 2 b_without
def b_is_needless : DEnv → Out := (sSeq (sSet 2 (xCall f_without (xCons (xVar 0) (xCons (xVar 1) xNil))))
 (sRet (xAnd (xCall f_is_asking (xCons (xVar 2) xNil)) (x2 nilNeD (xCall f_ways (xCons (xVar 2) (xCons (xVar 0) xNil))) (xLst xNil)))))
def f_is_needless : List D → Res D := runF 3 b_is_needless
def b_needless : DEnv → Out := (sSeq (sDrop (xCall f_checked_asking (xCons (xVar 0) xNil)))
 (sRet (xCall f_is_needless (xCons (xVar 0) (xCons (xVar 1) xNil)))))
def f_needless : List D → Res D := runF 2 b_needless
def b_lean_0 : DEnv → Out := (sIf (xT (xCall f_is_needless (xCons (xVar 1) (xCons (xVar 2) xNil))))
 (sSet 1 (xCall f_without (xCons (xVar 1) (xCons (xVar 2) xNil))))
 (sSet 2 (x2 addD (xVar 2) (xC (.int 1)))))
def b_lean : DEnv → Out := (sSeq (sDrop (xCall f_checked_asking (xCons (xVar 0) xNil)))
 (sSeq (sSet 1 (xVar 0))
 (sSeq (sSet 2 (xC (.int 0)))
 (sSeq (fun Γ => sWhile (xT (x2 ltD (xVar 2) (xCall (on1 lenD) (xCons (x2 ixD (xVar 1) (xC (.int 1))) xNil))))
 b_lean_0 1000 Γ)
 (sRet (xVar 1))))))
def f_lean : List D → Res D := runF 3 b_lean
def b_is_rule : DEnv → Out := (sSeq (sIf (xOrT (xNotT (xT (xIsa "tuple" (xVar 0)))) (xOrT (xT (x2 neD (xCall (on1 lenD) (xCons (xVar 0) xNil)) (xC (.int 2)))) (xOrT (xNotT (xT (xCall f_is_atom (xCons (x2 ixD (xVar 0) (xC (.int 0))) xNil)))) (xNotT (xT (xCall f_are_atoms (xCons (x2 ixD (xVar 0) (xC (.int 1))) (xCons (xC (.int 1)) (xCons (xC (.int 4)) xNil)))))))))
 (sRet (xC (.bool false)))
 sNil)
 (sSeq (sSet 1 (xCall f_stand_ins (xCons (x2 ixD (xVar 0) (xC (.int 1))) xNil)))
 (sRet (xCall (on1 allD) (xCons (xComp [2] (xItems (xCall f_stand_ins (xCons (xLst (xCons (x2 ixD (xVar 0) (xC (.int 0))) xNil)) xNil))) (gSet 2) xYes (x2 inD (xVar 2) (xVar 1))) xNil)))))
def f_is_rule : List D → Res D := runF 3 b_is_rule
def b_need_rules_0 : DEnv → Out := (sSeq (sIf (xNotT (xT (xCall f_is_rule (xCons (xVar 3) xNil))))
 (sRaise "NoRules")
 sNil)
 (sSeq (sAppend 2 (x2 ixD (xVar 3) (xC (.int 0))))
 (sExtend 2 (x2 ixD (xVar 3) (xC (.int 1))))))
def b_need_rules : DEnv → Out := (sSeq (sIf (xOrT (xNotT (xT (xIsa "list" (xVar 0)))) (xT (x2 gtD (xCall (on1 lenD) (xCons (xVar 0) xNil)) (xC (.int 8)))))
 (sRaise "NoRules")
 sNil)
 (sSeq (sSet 2 (xCall (on1 lstOfD) (xCons (xVar 1) xNil)))
 (sSeq (sFor (xItems (xVar 0)) (gSet 3)
 b_need_rules_0)
 (sIf (xNotT (xT (xCall f_alike_long (xCons (xVar 2) xNil))))
 (sRaise "NoRules")
 sNil))))
def f_need_rules : List D → Res D := runF 4 b_need_rules
def b_made_by_0 : DEnv → Out := (sSeq (sSet 4 (xComp [5, 6] (xItems (x2 ixD (xVar 0) (xC (.int 1)))) (gTup 2 (gMore (gSet 5) (gMore (gSet 6) gNone))) xYes (xTup (xCons (xVar 5) (xCons (xCall f_put (xCons (xVar 3) (xCons (xVar 6) xNil))) xNil)))))
 (sAppend 2 (xTup (xCons (xTup (xCons (x2 ixD (x2 ixD (xVar 0) (xC (.int 0))) (xC (.int 0))) (xCons (xCall f_put (xCons (xVar 3) (xCons (x2 ixD (x2 ixD (xVar 0) (xC (.int 0))) (xC (.int 1))) xNil))) xNil))) (xCons (xVar 4) xNil)))))
def b_made_by : DEnv → Out := (sSeq (sSet 2 (xLst xNil))
 (sSeq (sFor (xItems (xCall f_all_fitted (xCons (x2 ixD (xVar 0) (xC (.int 1))) (xCons (xVar 1) xNil)))) (gSet 3)
 b_made_by_0)
 (sRet (xVar 2))))
def f_made_by : List D → Res D := runF 7 b_made_by
def b_steps_of_0 : DEnv → Out := (sDputN 2 (xVar 3) (xTup (xCons (xVar 3) (xCons (xC .none) (xCons (xLst xNil) xNil)))))
def b_steps_of_3 : DEnv → Out := (sSetdN 2 (xVar 3) (xTup (xCons (xVar 3) (xCons (xVar 5) (xCons (xVar 6) xNil)))))
def b_steps_of_2 : DEnv → Out := (sFor (xItems (xCall f_made_by (xCons (x2 ixD (xVar 0) (xVar 5)) (xCons (xCall (on1 lstND) (xCons (xVar 2) xNil)) xNil)))) (gTup 2 (gMore (gSet 3) (gMore (gSet 6) gNone)))
 b_steps_of_3)
def b_steps_of_1 : DEnv → Out := (sSeq (sSet 4 (xCall (on1 lenAD) (xCons (xVar 2) xNil)))
 (sFor (xRange1 (xCons (xCall (on1 lenD) (xCons (xVar 0) xNil)) xNil)) (gSet 5)
 b_steps_of_2))
def b_steps_of : DEnv → Out := (sSeq (sSet 2 (xC (.dict [])))
 (sSeq (sFor (xItems (xVar 1)) (gSet 3)
 b_steps_of_0)
 (sSeq (sSet 4 (x1 negD (xC (.int 1))))
 (sSeq (fun Γ => sWhile (xT (x2 ltD (xVar 4) (xCall (on1 lenAD) (xCons (xVar 2) xNil))))
 b_steps_of_1 1000 Γ)
 (sRet (xVar 2))))))
def f_steps_of : List D → Res D := runF 7 b_steps_of
def b_comes : DEnv → Out := (sSeq (sSet 2 (xCall f_checked_book (xCons (xVar 1) xNil)))
 (sSeq (sDrop (xCall f_need_rules (xCons (xVar 0) (xCons (xVar 2) xNil))))
 (sRet (xCall (on1 sortND) (xCons (xCall f_steps_of (xCons (xVar 0) (xCons (xVar 2) xNil))) xNil)))))
def f_comes : List D → Res D := runF 3 b_comes
def b_why_1 : DEnv → Out := (sDputN 5 (xVar 8) (xC (.bool true)))
def b_why_0 : DEnv → Out := (sIf (xT (x2 inND (xVar 7) (xVar 5)))
 (sSeq (sAppend 6 (x2 dixND (xVar 4) (xVar 7)))
 (sFor (xItems (x2 ixD (x2 dixND (xVar 4) (xVar 7)) (xC (.int 2)))) (gSet 8)
 b_why_1))
 sNil)
def b_why : DEnv → Out := (sSeq (sSet 3 (xCall f_checked_book (xCons (xVar 1) xNil)))
 (sSeq (sDrop (xCall f_need_rules (xCons (xVar 0) (xCons (xVar 3) xNil))))
 (sSeq (sSet 4 (xCall f_steps_of (xCons (xVar 0) (xCons (xVar 3) xNil))))
 (sSeq (sIf (xT (x2 ninND (xVar 2) (xVar 4)))
 (sRet (xC .none))
 sNil)
 (sSeq (sSet 5 (xDispN (xVar 2) (xC (.bool true))))
 (sSeq (sSet 6 (xLst xNil))
 (sSeq (sFor (xRev (xCall (on1 lstND) (xCons (xVar 4) xNil))) (gSet 7)
 b_why_0)
 (sRet (x1 revD (xVar 6))))))))))
def f_why : List D → Res D := runF 9 b_why
def b_shared_0 : DEnv → Out := (sIf (xT (xCall (on1 anyD) (xCons (xComp [5] (xItems (xVar 1)) (gSet 5) (xT (x2 neD (xVar 5) (xVar 2))) (x2 inD (xVar 4) (x2 ixD (x2 ixD (xVar 0) (xVar 5)) (xC (.int 1))))) xNil)))
 (sAppend 3 (xVar 4))
 sNil)
def b_shared : DEnv → Out := (sSeq (sSet 3 (xLst xNil))
 (sSeq (sFor (xItems (xCall f_stand_ins (xCons (xLst (xCons (x2 ixD (xVar 0) (xVar 2)) xNil)) xNil))) (gSet 4)
 b_shared_0)
 (sRet (xVar 3))))
def f_shared : List D → Res D := runF 6 b_shared
def b_above_0 : DEnv → Out := (sIf (xAndT (xT (x2 neD (xVar 3) (xVar 2))) (xT (xCall (on1 allD) (xCons (xComp [4] (xItems (xCall f_shared (xCons (xVar 0) (xCons (xVar 1) (xCons (xVar 2) xNil))))) (gSet 4) xYes (x2 inD (xVar 4) (x2 ixD (x2 ixD (xVar 0) (xVar 3)) (xC (.int 1))))) xNil))))
 (sRet (xVar 3))
 sNil)
def b_above : DEnv → Out := (sSeq (sFor (xItems (xVar 1)) (gSet 3)
 b_above_0)
 (sRet (xC .none)))
def f_above : List D → Res D := runF 5 b_above
def b_taken_off_0 : DEnv → Out := (sSeq (sSet 5 (xComp [6] (xItems (xVar 1)) (gSet 6) xYes (xTup (xCons (xVar 6) (xCons (xCall f_above (xCons (xVar 0) (xCons (xVar 1) (xCons (xVar 6) xNil)))) xNil)))))
 (sSeq (sSet 5 (xComp [7] (xItems (xVar 5)) (gSet 7) (xT (x2 notND (x2 ixD (xVar 7) (xC (.int 1))) (xC .none))) (xVar 7)))
 (sSeq (sSet 4 (x2 neD (xVar 5) (xLst xNil)))
 (sIf (xT (xVar 4))
 (sSeq (sAppend 3 (x2 ixD (xVar 5) (xC (.int 0))))
 (sSet 1 (xComp [6] (xItems (xVar 1)) (gSet 6) (xT (x2 neD (xVar 6) (x2 ixD (x2 ixD (xVar 5) (xC (.int 0))) (xC (.int 0))))) (xVar 6))))
 sNil))))
def b_taken_off : DEnv → Out := (sSeq (sSet 1 (xComp [2] (xRange1 (xCons (xCall (on1 lenD) (xCons (xVar 0) xNil)) xNil)) (gSet 2) xYes (xVar 2)))
 (sSeq (sSet 3 (xLst xNil))
 (sSeq (sSet 4 (xC (.bool true)))
 (sSeq (fun Γ => sWhile (xAndT (xT (xVar 4)) (xT (x2 gtD (xCall (on1 lenD) (xCons (xVar 1) xNil)) (xC (.int 1)))))
 b_taken_off_0 1000 Γ)
 (sRet (xTup (xCons (xVar 3) (xCons (xVar 1) xNil))))))))
def f_taken_off : List D → Res D := runF 8 b_taken_off
def b_tree_0 : DEnv → Out := (sLput 3 (xVar 5) (xVar 6))
def b_tree : DEnv → Out := (sSeq (sDrop (xCall f_checked_asking (xCons (xVar 0) xNil)))
 (sSeq (sAsg (xCall f_taken_off (xCons (x2 ixD (xVar 0) (xC (.int 1))) xNil)) (gTup 2 (gMore (gSet 1) (gMore (gSet 2) gNone))))
 (sSeq (sIf (xT (x2 gtD (xCall (on1 lenD) (xCons (xVar 2) xNil)) (xC (.int 1))))
 (sRet (xTup (xCons (xC (.str (PySem.Str.ofString "knot"))) (xCons (xVar 1) (xCons (xVar 2) xNil)))))
 sNil)
 (sSeq (sSet 3 (xComp [4] (xItems (x2 ixD (xVar 0) (xC (.int 1)))) (gSet 4) xYes (xC .none)))
 (sSeq (sFor (xItems (xVar 1)) (gTup 2 (gMore (gSet 5) (gMore (gSet 6) gNone)))
 b_tree_0)
 (sRet (xTup (xCons (xC (.str (PySem.Str.ofString "tree"))) (xCons (xVar 3) xNil)))))))))
def f_tree : List D → Res D := runF 7 b_tree
def b_agree : DEnv → Out := (sRet (xCall (on1 allD) (xCons (xCalm (xComp [2] (itK 0) (gSet 2) xYes (x2 eqD (xGet2 (xVar 1) (xVar 2) (x2 dixD (xVar 0) (xVar 2))) (x2 dixD (xVar 0) (xVar 2))))) xNil)))
def f_agree : List D → Res D := runF 3 b_agree
def b_joined_0 : DEnv → Out := (sDput 2 (xVar 3) (x2 dixD (xVar 1) (xVar 3)))
def b_joined : DEnv → Out := (sSeq (sSet 2 (xCall (on1 dictOfD) (xCons (xVar 0) xNil)))
 (sSeq (sCalm (sFor (itK 1) (gSet 3)
 b_joined_0))
 (sRet (xVar 2))))
def f_joined : List D → Res D := runF 4 b_joined
def b_by_tree_0 : DEnv → Out := (sLput 5 (xVar 8) (xComp [9] (xItems (x2 ixD (xVar 5) (xVar 8))) (gSet 9) (xT (xCall (on1 anyD) (xCons (xComp [10] (xItems (x2 ixD (xVar 5) (xVar 7))) (gSet 10) xYes (xCall f_agree (xCons (xVar 9) (xCons (xVar 10) xNil)))) xNil))) (xVar 9)))
def b_by_tree_2 : DEnv → Out := (sExtend 12 (xComp [10] (xItems (x2 ixD (xVar 5) (xVar 7))) (gSet 10) (xT (xCall f_agree (xCons (xVar 9) (xCons (xVar 10) xNil)))) (xCall f_joined (xCons (xVar 9) (xCons (xVar 10) xNil)))))
def b_by_tree_1 : DEnv → Out := (sSeq (sSet 12 (xLst xNil))
 (sSeq (sFor (xItems (xVar 11)) (gSet 9)
 b_by_tree_2)
 (sSet 11 (xVar 12))))
def b_by_tree : DEnv → Out := (sSeq (sDrop (xCall f_checked_asking (xCons (xVar 0) xNil)))
 (sSeq (sSet 2 (xCall f_checked_book (xCons (xVar 1) xNil)))
 (sSeq (sAsg (xCall f_taken_off (xCons (x2 ixD (xVar 0) (xC (.int 1))) xNil)) (gTup 2 (gMore (gSet 3) (gMore (gSet 4) gNone))))
 (sSeq (sIf (xT (x2 gtD (xCall (on1 lenD) (xCons (xVar 4) xNil)) (xC (.int 1))))
 (sRaise "NoTree")
 sNil)
 (sSeq (sSet 5 (xComp [6] (xItems (x2 ixD (xVar 0) (xC (.int 1)))) (gSet 6) xYes (xCall f_all_fitted (xCons (xLst (xCons (xVar 6) xNil)) (xCons (xVar 2) xNil)))))
 (sSeq (sFor (xItems (xVar 3)) (gTup 2 (gMore (gSet 7) (gMore (gSet 8) gNone)))
 b_by_tree_0)
 (sSeq (sSet 11 (x2 ixD (xVar 5) (x2 ixD (xVar 4) (xC (.int 0)))))
 (sSeq (sFor (xRev (xVar 3)) (gTup 2 (gMore (gSet 7) (gMore (gSet 8) gNone)))
 b_by_tree_1)
 (sRet (x1 sortSetA (xComp [9] (xItems (xVar 11)) (gSet 9) xYes (xCall f_put (xCons (xVar 9) (xCons (x2 ixD (xVar 0) (xC (.int 0))) xNil))))))))))))))
def f_by_tree : List D → Res D := runF 13 b_by_tree
def b_l_cell_at : DEnv → Out := (sSeq (sIf (xT (x2 ltD (xVar 1) (xCall (on1 lenD) (xCons (xVar 0) xNil))))
 (sRet (x2 ixD (xVar 0) (xVar 1)))
 sNil)
 (sSeq (sIf (xT (x2 eqD (xVar 0) (xLst xNil)))
 (sRet (xC (.int 0)))
 sNil)
 (sRet (x2 addD (x2 mulID (x2 ixD (xVar 0) (x2 modD (xVar 1) (xCall (on1 lenD) (xCons (xVar 0) xNil)))) (xC (.int 31))) (xVar 1)))))
def f_l_cell_at : List D → Res D := runF 2 b_l_cell_at
def b_l_mixed : DEnv → Out := (sSeq (sSet 3 (x2 modD (x2 mulID (x2 addD (x2 addD (xCall f_l_cell_at (xCons (xVar 0) (xCons (xVar 1) xNil))) (x2 mulID (xC (.int 7919)) (xVar 1))) (xC (.int 1))) (xC (.int 48271))) (xC (.int 2147483647))))
 (sRet (x2 modD (x2 modD (x2 addD (x2 addD (x2 mulID (xVar 3) (xVar 3)) (x2 mulID (xC (.int 7)) (xVar 3))) (xVar 1)) (xC (.int 2147483629))) (xVar 2))))
def f_l_mixed : List D → Res D := runF 4 b_l_mixed
def b_l_good : DEnv → Out := (sRet (xTup (xCons (xTup (xCons (xC (.str (PySem.Str.ofString "x"))) xNil)) (xCons (xTup (xCons (xTup (xCons (xC (.str (PySem.Str.ofString "r"))) (xCons (xTup (xCons (xC (.str (PySem.Str.ofString "x"))) (xCons (xC (.str (PySem.Str.ofString "y"))) xNil))) xNil))) xNil)) xNil))))
def f_l_good : List D → Res D := runF 0 b_l_good
def b_l_with_asking : DEnv → Out := (sSeq (sIf (xT (x2 eqD (xVar 0) (xC (.int 0))))
 (sRet (xCall f_answers (xCons (xVar 1) (xCons (xVar 2) xNil))))
 sNil)
 (sSeq (sIf (xT (x2 eqD (xVar 0) (xC (.int 1))))
 (sRet (xCall f_within (xCons (xVar 1) (xCons (xCall f_l_good xNil) xNil))))
 sNil)
 (sSeq (sIf (xT (x2 eqD (xVar 0) (xC (.int 2))))
 (sRet (xCall f_within (xCons (xCall f_l_good xNil) (xCons (xVar 1) xNil))))
 sNil)
 (sSeq (sIf (xT (x2 eqD (xVar 0) (xC (.int 3))))
 (sRet (xCall f_alike (xCons (xVar 1) (xCons (xCall f_l_good xNil) xNil))))
 sNil)
 (sSeq (sIf (xT (x2 eqD (xVar 0) (xC (.int 4))))
 (sRet (xCall f_needless (xCons (xVar 1) (xCons (xC (.int 0)) xNil))))
 sNil)
 (sSeq (sIf (xT (x2 eqD (xVar 0) (xC (.int 5))))
 (sRet (xCall f_lean (xCons (xVar 1) xNil)))
 sNil)
 (sSeq (sIf (xT (x2 eqD (xVar 0) (xC (.int 6))))
 (sRet (xCall f_tree (xCons (xVar 1) xNil)))
 sNil)
 (sSeq (sIf (xT (x2 eqD (xVar 0) (xC (.int 7))))
 (sRet (xCall f_by_tree (xCons (xVar 1) (xCons (xVar 2) xNil))))
 sNil)
 (sRet (xCall f_alike (xCons (xCall f_l_good xNil) (xCons (xVar 1) xNil))))))))))))
def f_l_with_asking : List D → Res D := runF 3 b_l_with_asking
def b_l_with_book_0 : DEnv → Out := (sRet (xCall f_by_tree (xCons (xVar 3) (xCons (xVar 1) xNil))))
def b_l_with_book : DEnv → Out := (sSeq (sIf (xT (x2 eqD (xVar 0) (xC (.int 0))))
 (sRet (xCall f_answers (xCons (xCall f_l_good xNil) (xCons (xVar 1) xNil))))
 sNil)
 (sSeq (sIf (xT (x2 eqD (xVar 0) (xC (.int 1))))
 (sSeq (sSet 3 (xCall f_l_good xNil))
 (sSeq (sIf (xT (x2 isND (xVar 2) (xC .none)))
 (sSet 3 (xTup (xCons (xTup xNil) (xCons (xTup (xCons (xTup (xCons (xC (.str (PySem.Str.ofString "r"))) (xCons (xTup (xCons (xC (.str (PySem.Str.ofString "x"))) (xCons (xC (.str (PySem.Str.ofString "y"))) xNil))) xNil))) (xCons (xTup (xCons (xC (.str (PySem.Str.ofString "r"))) (xCons (xTup (xCons (xC (.str (PySem.Str.ofString "y"))) (xCons (xC (.str (PySem.Str.ofString "z"))) xNil))) xNil))) (xCons (xTup (xCons (xC (.str (PySem.Str.ofString "r"))) (xCons (xTup (xCons (xC (.str (PySem.Str.ofString "z"))) (xCons (xC (.str (PySem.Str.ofString "x"))) xNil))) xNil))) xNil)))) xNil))))
 sNil)
 b_l_with_book_0))
 sNil)
 (sSeq (sIf (xT (x2 eqD (xVar 0) (xC (.int 2))))
 (sRet (xCall f_comes (xCons (xVar 2) (xCons (xVar 1) xNil))))
 sNil)
 (sRet (xCall f_why (xCons (xVar 2) (xCons (xVar 1) (xCons (xTup (xCons (xC (.str (PySem.Str.ofString "r"))) (xCons (xTup (xCons (xC (.int 1)) (xCons (xC (.int 2)) xNil))) xNil))) xNil))))))))
def f_l_with_book : List D → Res D := runF 4 b_l_with_book
def b_l_with_rules : DEnv → Out := (sSeq (sIf (xT (x2 eqD (xVar 0) (xC (.int 0))))
 (sRet (xCall f_comes (xCons (xVar 1) (xCons (xLst (xCons (xTup (xCons (xC (.str (PySem.Str.ofString "r"))) (xCons (xTup (xCons (xC (.int 1)) (xCons (xC (.int 2)) xNil))) xNil))) xNil)) xNil))))
 sNil)
 (sRet (xCall f_why (xCons (xVar 1) (xCons (xLst (xCons (xTup (xCons (xC (.str (PySem.Str.ofString "r"))) (xCons (xTup (xCons (xC (.int 1)) (xCons (xC (.int 2)) xNil))) xNil))) xNil)) (xCons (xTup (xCons (xC (.str (PySem.Str.ofString "r"))) (xCons (xTup (xCons (xC (.int 1)) (xCons (xC (.int 2)) xNil))) xNil))) xNil))))))
def f_l_with_rules : List D → Res D := runF 2 b_l_with_rules
def b_l_asked : DEnv → Out := (sSeq (sSet 3 (x2 ixD (xLst (xCons (xLst xNil) (xCons (xC .none) xNil))) (x2 fdivD (xVar 1) (xC (.int 36)))))
 (sSeq (sIf (xT (x2 eqD (xVar 0) (xC (.int 0))))
 (sRet (xCall f_l_with_asking (xCons (x2 modD (xVar 1) (xC (.int 9))) (xCons (xVar 2) (xCons (xVar 3) xNil)))))
 sNil)
 (sSeq (sIf (xT (x2 eqD (xVar 0) (xC (.int 1))))
 (sRet (xCall f_l_with_book (xCons (x2 modD (xVar 1) (xC (.int 4))) (xCons (xVar 2) (xCons (xVar 3) xNil)))))
 sNil)
 (sSeq (sIf (xT (x2 eqD (xVar 0) (xC (.int 2))))
 (sRet (xCall f_l_with_rules (xCons (x2 modD (xVar 1) (xC (.int 2))) (xCons (xVar 2) xNil))))
 sNil)
 (sSeq (sIf (xT (x2 eqD (x2 modD (xVar 1) (xC (.int 2))) (xC (.int 0))))
 (sRet (xCall f_within (xCons (xCall f_l_good xNil) (xCons (xVar 2) xNil))))
 sNil)
 (sRet (xCall f_alike (xCons (xVar 2) (xCons (xCall f_l_good xNil) xNil)))))))))
def f_l_asked : List D → Res D := runF 4 b_l_asked
def b_l_kind : DEnv → Out := (sSeq (sTryK 3 (xCall f_l_asked (xCons (xVar 0) (xCons (xVar 1) (xCons (xVar 2) xNil)))) ["NoAsking", "NoBook", "NoRules", "NoTree", "Unlike"] (fun y => decide (y ∈ (["NoAsking", "NoBook", "NoRules", "NoTree", "Unlike"] : List Str))) (fun c => suiteK 4 5 ((fun y => [decide (y ∈ (["NoAsking"] : List Str)), decide (y ∈ (["NoBook"] : List Str)), decide (y ∈ (["NoRules"] : List Str)), decide (y ∈ (["Unlike"] : List Str))]) c) ((fun y => [decide (y ∈ ([] : List Str)), decide (y ∈ ([] : List Str)), decide (y ∈ (["NoTree"] : List Str)), decide (y ∈ ([] : List Str))]) c) ((fun y => decide (y ∈ (["NoAsking", "NoBook", "NoRules", "NoTree", "Unlike"] : List Str))) c) (xAndT (xT (x2 eqD (xCount (x2 addD (xVar 4) (xVar 5)) (xC (.bool true))) (xC (.int 1)))) (xT (x2 inD (xC (.bool true)) (xVar 4)))) (sRet (xIndex (xVar 4) (xC (.bool true))))))
 (sRet (x1 negD (xC (.int 1)))))
def f_l_kind : List D → Res D := runF 6 b_l_kind
def b_l_bad : DEnv → Out := (sSeq (sSet 2 (xTup (xCons (xC (.str (PySem.Str.ofString "r"))) (xCons (xTup (xCons (xC (.str (PySem.Str.ofString "x"))) (xCons (xC (.str (PySem.Str.ofString "y"))) xNil))) xNil))))
 (sSeq (sIf (xT (x2 eqD (xVar 0) (xC (.int 0))))
 (sSeq (sSet 3 (xLst (xCons (xC .none) (xCons (xLst (xCons (xTup (xCons (xC (.str (PySem.Str.ofString "x"))) xNil)) (xCons (xTup (xCons (xVar 2) xNil)) xNil))) (xCons (xTup (xCons (xTup (xCons (xC (.str (PySem.Str.ofString "x"))) xNil)) (xCons (xTup xNil) xNil))) (xCons (xTup (xCons (xTup (xCons (xC (.str (PySem.Str.ofString "z"))) xNil)) (xCons (xTup (xCons (xVar 2) xNil)) xNil))) xNil))))))
 (sSeq (sExtend 3 (xLst (xCons (xTup (xCons (xTup (xCons (xC (.str (PySem.Str.ofString "x"))) xNil)) (xCons (xLst (xCons (xVar 2) xNil)) xNil))) (xCons (xTup (xCons (xTup (xCons (xC (.str (PySem.Str.ofString "x"))) xNil)) (xCons (xTup (xCons (xTup (xCons (xC (.str (PySem.Str.ofString "r"))) (xCons (xTup (xCons (xC (.str (PySem.Str.ofString "X"))) (xCons (xC (.int 1)) xNil))) xNil))) xNil)) xNil))) xNil))))
 (sRet (x2 ixD (xVar 3) (x2 modD (xVar 1) (xC (.int 6)))))))
 sNil)
 (sSeq (sIf (xT (x2 eqD (xVar 0) (xC (.int 1))))
 (sSeq (sSet 3 (xLst (xCons (xC .none) (xCons (xLst (xCons (xTup (xCons (xC (.str (PySem.Str.ofString "r"))) (xCons (xTup (xCons (xC (.int 2)) (xCons (xC (.int 1)) xNil))) xNil))) (xCons (xTup (xCons (xC (.str (PySem.Str.ofString "r"))) (xCons (xTup (xCons (xC (.int 1)) (xCons (xC (.int 2)) xNil))) xNil))) xNil))) (xCons (xLst (xCons (xLst (xCons (xC (.str (PySem.Str.ofString "r"))) (xCons (xTup (xCons (xC (.int 1)) (xCons (xC (.int 2)) xNil))) xNil))) xNil)) xNil)))))
 (sSeq (sExtend 3 (xLst (xCons (xLst (xCons (xTup (xCons (xC (.str (PySem.Str.ofString "r"))) (xCons (xLst (xCons (xC (.int 1)) (xCons (xC (.int 2)) xNil))) xNil))) xNil)) (xCons (xLst (xCons (xTup (xCons (xC (.str (PySem.Str.ofString "r"))) (xCons (xTup (xCons (xC (.int 1)) xNil)) xNil))) (xCons (xTup (xCons (xC (.str (PySem.Str.ofString "r"))) (xCons (xTup (xCons (xC (.int 1)) (xCons (xC (.int 2)) xNil))) xNil))) xNil))) xNil))))
 (sRet (x2 ixD (xVar 3) (x2 modD (xVar 1) (xC (.int 5)))))))
 sNil)
 (sSeq (sIf (xT (x2 eqD (xVar 0) (xC (.int 2))))
 (sSeq (sSet 3 (xLst (xCons (xC .none) (xCons (xTup xNil) (xCons (x2 repD (xLst (xCons (xTup (xCons (xVar 2) (xCons (xTup (xCons (xVar 2) xNil)) xNil))) xNil)) (xC (.int 9))) (xCons (xLst (xCons (xLst (xCons (xVar 2) (xCons (xTup (xCons (xVar 2) xNil)) xNil))) xNil)) (xCons (xLst (xCons (xTup (xCons (xVar 2) (xCons (xTup xNil) xNil))) xNil)) (xCons (xLst (xCons (xTup (xCons (xVar 2) (xCons (x2 mulTD (xTup (xCons (xVar 2) xNil)) (xC (.int 5))) xNil))) xNil)) xNil))))))))
 (sSeq (sExtend 3 (xLst (xCons (xLst (xCons (xTup (xCons (xTup (xCons (xC (.str (PySem.Str.ofString "r"))) (xCons (xTup (xCons (xC (.str (PySem.Str.ofString "x"))) (xCons (xC (.str (PySem.Str.ofString "z"))) xNil))) xNil))) (xCons (xTup (xCons (xVar 2) xNil)) xNil))) xNil)) (xCons (xLst (xCons (xTup (xCons (xTup (xCons (xC (.str (PySem.Str.ofString "r"))) (xCons (xTup (xCons (xC (.str (PySem.Str.ofString "x"))) xNil)) xNil))) (xCons (xTup (xCons (xVar 2) xNil)) xNil))) xNil)) xNil))))
 (sSeq (sAppend 3 (xLst (xCons (xTup (xCons (xTup (xCons (xC (.str (PySem.Str.ofString "s"))) (xCons (xTup (xCons (xC (.str (PySem.Str.ofString "x"))) xNil)) xNil))) (xCons (xTup (xCons (xTup (xCons (xC (.str (PySem.Str.ofString "s"))) (xCons (xTup (xCons (xC (.str (PySem.Str.ofString "x"))) (xCons (xC (.str (PySem.Str.ofString "y"))) xNil))) xNil))) xNil)) xNil))) xNil)))
 (sSeq (sAppend 3 (xLst (xCons (xTup (xCons (xTup (xCons (xC (.str (PySem.Str.ofString "r"))) (xCons (xTup (xCons (xC (.str (PySem.Str.ofString "x"))) xNil)) xNil))) (xCons (xTup (xCons (xTup (xCons (xC (.str (PySem.Str.ofString "t"))) (xCons (xTup (xCons (xC (.str (PySem.Str.ofString "x"))) xNil)) xNil))) xNil)) xNil))) xNil)))
 (sSeq (sAppend 3 (xLst (xCons (xTup (xCons (xTup (xCons (xC (.str (PySem.Str.ofString "s"))) (xCons (xTup (xCons (xC (.str (PySem.Str.ofString "x"))) xNil)) xNil))) (xCons (xTup (xCons (xTup (xCons (xC (.str (PySem.Str.ofString "t"))) (xCons (xTup (xCons (xC (.str (PySem.Str.ofString "x"))) xNil)) xNil))) xNil)) xNil))) (xCons (xTup (xCons (xTup (xCons (xC (.str (PySem.Str.ofString "t"))) (xCons (xTup (xCons (xC (.str (PySem.Str.ofString "x"))) xNil)) xNil))) (xCons (xTup (xCons (xTup (xCons (xC (.str (PySem.Str.ofString "s"))) (xCons (xTup (xCons (xC (.str (PySem.Str.ofString "x"))) (xCons (xC (.str (PySem.Str.ofString "x"))) xNil))) xNil))) xNil)) xNil))) xNil))))
 (sRet (x2 ixD (xVar 3) (x2 modD (xVar 1) (xC (.int 11))))))))))
 sNil)
 (sRet (x2 ixD (xLst (xCons (xTup (xCons (xTup xNil) (xCons (xTup (xCons (xVar 2) xNil)) xNil))) (xCons (xTup (xCons (xTup (xCons (xC (.str (PySem.Str.ofString "x"))) (xCons (xC (.str (PySem.Str.ofString "y"))) xNil))) (xCons (xTup (xCons (xVar 2) xNil)) xNil))) (xCons (xTup (xCons (xTup (xCons (xC (.int 1)) (xCons (xC (.int 2)) (xCons (xC (.int 3)) xNil)))) (xCons (xTup (xCons (xVar 2) xNil)) xNil))) xNil)))) (x2 modD (xVar 1) (xC (.int 3)))))))))
def f_l_bad : List D → Res D := runF 4 b_l_bad
def b_law : DEnv → Out := (sSeq (sSet 1 (xCall f_l_mixed (xCons (xVar 0) (xCons (xC (.int 0)) (xCons (xC (.int 4)) xNil)))))
 (sSeq (sSet 2 (xCall f_l_mixed (xCons (xVar 0) (xCons (xC (.int 1)) (xCons (xC (.int 72)) xNil)))))
 (sSeq (sSet 3 (xCall f_l_bad (xCons (xVar 1) (xCons (xCall f_l_mixed (xCons (xVar 0) (xCons (xC (.int 2)) (xCons (x2 powD (xC (.int 10)) (xC (.int 6))) xNil)))) xNil))))
 (sSeq (sSet 4 (xTup (xCons (xTup (xCons (xC (.str (PySem.Str.ofString "r"))) (xCons (xTup (xCons (xC (.str (PySem.Str.ofString "x"))) (xCons (xC (.str (PySem.Str.ofString "y"))) xNil))) xNil))) (xCons (xTup (xCons (xTup (xCons (xC (.str (PySem.Str.ofString "r"))) (xCons (xTup (xCons (xC (.str (PySem.Str.ofString "y"))) (xCons (xC (.str (PySem.Str.ofString "x"))) xNil))) xNil))) xNil)) xNil))))
 (sSeq (sIf (xT (x2 neD (xCall f_comes (xCons (x2 repD (xLst (xCons (xVar 4) xNil)) (xC (.int 8))) (xCons (xLst (xCons (xTup (xCons (xC (.str (PySem.Str.ofString "r"))) (xCons (xTup (xCons (xC (.int 1)) (xCons (xC (.int 2)) xNil))) xNil))) xNil)) xNil))) (xLst (xCons (xTup (xCons (xC (.str (PySem.Str.ofString "r"))) (xCons (xTup (xCons (xC (.int 1)) (xCons (xC (.int 2)) xNil))) xNil))) (xCons (xTup (xCons (xC (.str (PySem.Str.ofString "r"))) (xCons (xTup (xCons (xC (.int 2)) (xCons (xC (.int 1)) xNil))) xNil))) xNil)))))
 (sRet (xC (.bool false)))
 sNil)
 (sRet (x2 eqD (xCall f_l_kind (xCons (xVar 1) (xCons (xVar 2) (xCons (xVar 3) xNil)))) (xVar 1))))))))
def f_law : List D → Res D := runF 5 b_law

/-! ### plain law: cells, mixed numbers, columns -/
abbrev lsI (ns : List Int) : D := .list (ns.map .int)
theorem plain_ints (ns : List Int) : PyData.plainAll (ns.map PyData.int) = true := plainAll_map _ _ fun _ _ => rfl
theorem depth_ints (ns : List Int) : PyData.depthAll (ns.map PyData.int) ≤ 1 := depthAll_map _ _ _ fun _ _ => by simp [PyData.depth]
theorem rf_ret {n : Nat} {b : DEnv → Out} {ds : List D} {d : D} (h : b (envOf n ds) = .ret d) : runF n b ds = .ok d := by unfold runF; rw [h]
theorem envOf_le {n : Nat} {ds : List D} : envOf n ds = ds.map some ++ List.replicate (n - ds.length) none := rfl
theorem cell_ex (ns : List Int) (k : Int) (h : 0 ≤ k) : ∃ c, f_l_cell_at [lsI ns, .int k] = .ok (.int c) := by
  obtain ⟨n, rfl⟩ := Int.eq_ofNat_of_zero_le h
  unfold f_l_cell_at runF b_l_cell_at
  simp -implicitDefEqProofs only [lsI, envOf_le, List.map_cons, List.map_nil, List.length_cons, List.length_nil, List.cons_append, List.nil_append, ap_sSeq, ap_sIf, ap_xT, ap_x2, ap_xVar0, ap_xVarS, ap_xCall, ap_xCons, ap_xNil, Res.ok_bind, ap_on1, ap_lenL, ap_ltI, ap_toB, ok_oBind, List.length_map, Nat.sub_self, List.replicate_zero]
  by_cases hk : (n : Int) < ns.length
  · have hk' : n < ns.length := by omega
    simp -implicitDefEqProofs only [hk, decide_true, if_true, ap_sRet, ap_x2, ap_xVar0, ap_xVarS, Res.ok_bind, ap_ixL PyData.int (List.getElem?_eq_getElem hk'), ok_oBind, ret_andThen]
    exact ⟨_, rfl⟩
  · simp -implicitDefEqProofs only [hk, decide_false, Bool.false_eq_true, if_false, ap_sNil, next_andThen, ap_sSeq, ap_sIf, ap_xT, ap_x2, ap_xVar0, ap_xVarS, ap_xLst, ap_xNil, Res.ok_bind, List.length_nil, Nat.zero_le, if_true]
    rw [ap_eqP (by rw [PyData.plain]; exact plain_ints ns) (by decide) (low_of (by rw [PyData.depth]; have := depth_ints ns; omega))]
    have he : PyData.eqv (.list (ns.map PyData.int)) (.list []) = ns.isEmpty := by cases ns <;> rfl
    rw [he, Res.ok_bind, ap_toB, ok_oBind]
    cases hn : ns.isEmpty with
    | true =>
      simp -implicitDefEqProofs only [if_true, ap_sRet, ap_xC, ok_oBind, ret_andThen]
      exact ⟨_, rfl⟩
    | false =>
      simp -implicitDefEqProofs only [Bool.false_eq_true, if_false, ap_sNil, next_andThen, ap_sRet, ap_x2, ap_xVar0, ap_xVarS, ap_xCall, ap_xCons, ap_xNil, ap_on1, ap_lenL, ap_xC, List.length_map, Res.ok_bind]
      have hl : 0 < ns.length := List.length_pos_iff.mpr fun h => by subst h; cases hn
      have hp : 0 < (ns.length : Int) := by omega
      have hlt : n % ns.length < ns.length := Nat.mod_lt _ hl
      rw [ap_modI hp, Res.ok_bind, ← Int.natCast_emod, ap_ixL PyData.int (List.getElem?_eq_getElem hlt), Res.ok_bind, ap_mulR (by decide), Res.ok_bind, ap_addI, ok_oBind]
      exact ⟨_, rfl⟩
def cellZ (ns : List Int) (k : Int) : Int := match f_l_cell_at [lsI ns, .int k] with | .ok (.int c) => c | _ => 0
theorem cell_ok {ns : List Int} {k : Int} (h : 0 ≤ k) : f_l_cell_at [lsI ns, .int k] = .ok (.int (cellZ ns k)) := by
  obtain ⟨c, e⟩ := cell_ex ns k h
  unfold cellZ
  rw [e]
def mxZ (ns : List Int) (k many : Int) : Int := match f_l_mixed [lsI ns, .int k, .int many] with | .ok (.int c) => c | _ => 0
theorem mixed_ex (ns : List Int) (k many : Int) (h : 0 ≤ k) (hm : 0 < many) : ∃ c, f_l_mixed [lsI ns, .int k, .int many] = .ok (.int c) ∧ 0 ≤ c ∧ c < many := by
  unfold f_l_mixed runF b_l_mixed
  simp -implicitDefEqProofs only [envOf_le, List.map_cons, List.map_nil, List.length_cons, List.length_nil, List.cons_append, List.nil_append, ap_sSeq, ap_sSet, ap_x2, ap_xVar0, ap_xVarS, ap_xCall, ap_xCons, ap_xNil, Res.ok_bind, ap_xC, cell_ok h, ap_addI]
  rw [ap_mulL (by decide), Res.ok_bind, ap_addI, Res.ok_bind, ap_addI, Res.ok_bind, ap_mulR (by decide), Res.ok_bind, ap_modI (by decide), ok_oBind, next_andThen]
  have hd : ∀ x : Int, 0 ≤ x % 2147483647 ∧ x % 2147483647 < 2147483647 := fun x => ⟨Int.emod_nonneg _ (by decide), Int.emod_lt_of_pos _ (by decide)⟩
  generalize ((cellZ ns k + 7919 * k + 1) * 48271) = y
  have hy := hd y
  generalize y % 2147483647 = d at hy
  simp -implicitDefEqProofs only [List.replicate, List.cons_append, List.nil_append, List.set_cons_succ, List.set_cons_zero, ap_sRet, ap_x2, ap_xVar0, ap_xVarS, Res.ok_bind, ap_xC, show 0 + 1 + 1 + 1 = 3 from rfl, show 4 - 3 = 1 from rfl]
  rw [ap_mulL ⟨by omega, by omega⟩, Res.ok_bind, ap_mulL (by decide), Res.ok_bind, ap_addI, Res.ok_bind, ap_addI, Res.ok_bind, ap_modI (by decide), Res.ok_bind, ap_modI hm, ok_oBind]
  exact ⟨_, rfl, Int.emod_nonneg _ (by omega), Int.emod_lt_of_pos _ hm⟩
theorem mixed_ok {ns : List Int} {k many : Int} (h : 0 ≤ k) (hm : 0 < many) : f_l_mixed [lsI ns, .int k, .int many] = .ok (.int (mxZ ns k many)) := by
  obtain ⟨c, e, _, _⟩ := mixed_ex ns k many h hm
  unfold mxZ
  rw [e]
theorem mixed_ge {ns : List Int} {k many : Int} (h : 0 ≤ k) (hm : 0 < many) : 0 ≤ mxZ ns k many := by
  obtain ⟨c, e, h1, _⟩ := mixed_ex ns k many h hm
  unfold mxZ
  rw [e]
  exact h1
theorem mixed_lt {ns : List Int} {k many : Int} (h : 0 ≤ k) (hm : 0 < many) : mxZ ns k many < many := by
  obtain ⟨c, e, _, h2⟩ := mixed_ex ns k many h hm
  unfold mxZ
  rw [e]
  exact h2
abbrev natD (k : Nat) : D := .int (k : Int)
abbrev tupN (ks : List Nat) : D := .tuple (ks.map natD)
def colsN (ns : List Int) (at_ : Int) (many : Nat) (share : Int) : List Nat := (List.range many).filter fun k => mxZ ns (at_ + k) share == 0
theorem rng_ok (many : Nat) (hm : many < 1048576) : range1D [.int (many : Int)] = .ok ((List.range many).map natD) := by
  have := ap_range (j := (many : Int)) (Int.natCast_nonneg _) (by omega)
  rw [this, Int.toNat_natCast]
theorem le_sz (many : Nat) (hm : many < 1048576) : many ≤ sizeLine := by rw [sz]; omega
theorem columns_c (ns : List Int) (at_ : Int) (many : Nat) (share : Int) (h : 0 ≤ at_) (hs : 0 < share) (Γ : DEnv) (hΓ : Γ = [some (lsI ns), some (.int at_), some (.int many), some (.int share), none]) : compL Γ (gSet 4) (xT (x2 eqD (xCall f_l_mixed (xCons (xVar 0) (xCons (x2 addD (xVar 1) (xVar 4)) (xCons (xVar 3) xNil)))) (xC (.int 0)))) (xVar 4) ((List.range many).map natD) = .ok ((colsN ns at_ many share).map natD) := by
  unfold colsN
  subst hΓ
  refine compL_enc natD (p := fun k => mxZ ns (at_ + k) share == 0) (h := natD) (l := List.range many) fun a ha => ⟨_, ap_gSet _ _, ?_, fun _ => ?_⟩
  · simp -implicitDefEqProofs only [List.set_cons_succ, List.set_cons_zero, ap_xT, ap_x2, ap_xCall, ap_xCons, ap_xNil, ap_xVar0, ap_xVarS, ap_xC, Res.ok_bind, ap_addI, natD]
    rw [mixed_ok (by omega) hs, Res.ok_bind, ap_eqI, Res.ok_bind, ap_toB]
  · simp -implicitDefEqProofs only [List.set_cons_succ, List.set_cons_zero, ap_xVar0, ap_xVarS]
theorem colsN_lt {ns : List Int} {at_ share : Int} {many : Nat} : ∀ k ∈ colsN ns at_ many share, k < many := fun k hk => List.mem_range.mp (List.mem_filter.mp hk).1
theorem colsN_len (ns : List Int) (at_ share : Int) (many : Nat) : (colsN ns at_ many share).length ≤ many := by
  have := List.length_filter_le (fun k : Nat => mxZ ns (at_ + k) share == 0) (List.range many)
  rw [List.length_range] at this
  exact this


/-! ### plain law: small words -/
theorem rf_next {n : Nat} {b : DEnv → Out} {ds : List D} {Γ : DEnv} (h : b (envOf n ds) = .next Γ) : runF n b ds = .ok .none := by unfold runF; rw [h]
theorem ap_gtI (i j : Int) : gtD (.int i) (.int j) = .ok (.bool (decide (j < i))) := by
  show Res.ok (PyData.bool (PySem.W.dataLt (.int j) (.int i))) = _
  rw [PySem.W.dataLt_int]
theorem ap_leI (i j : Int) : leD (.int i) (.int j) = .ok (.bool (decide (i ≤ j))) := by
  show Res.ok (PyData.bool (!PySem.W.dataLt (.int j) (.int i))) = _
  rw [PySem.W.dataLt_int]
  congr 2
  by_cases h : j < i
  · rw [decide_eq_true h, decide_eq_false (by omega)]; rfl
  · rw [decide_eq_false h, decide_eq_true (by omega)]; rfl
theorem ap_geI (i j : Int) : geD (.int i) (.int j) = .ok (.bool (decide (j ≤ i))) := by
  show Res.ok (PyData.bool (!PySem.W.dataLt (.int i) (.int j))) = _
  rw [PySem.W.dataLt_int]
  congr 2
  by_cases h : i < j
  · rw [decide_eq_true h, decide_eq_false (by omega)]; rfl
  · rw [decide_eq_false h, decide_eq_true (by omega)]; rfl
theorem foldl_snoc {α β : Type} (f : α → β) : ∀ (l : List α) (a : List β), l.foldl (fun acc k => acc ++ [f k]) a = a ++ l.map f
  | [], a => by simp
  | x :: l, a => by rw [List.foldl_cons, foldl_snoc f l, List.map_cons, List.append_assoc]; rfl
abbrev encB (b : List Nat × List Nat) : D := .tuple [tupN b.1, tupN b.2]
theorem sz2 : 2 ≤ sizeLine := by decide
theorem ap_xTup2 {Γ : DEnv} {ta tb : DEnv → Res D} : xTup (xCons ta (xCons tb xNil)) Γ = (ta Γ).bind fun x => (tb Γ).bind fun y => .ok (.tuple [x, y]) := by
  unfold xTup xCons xNil
  cases ta Γ <;> simp
  cases tb Γ <;> simp [sz2]

/-! ### plain law: tuples of ints -/
abbrev tupI (r : List Int) : D := .tuple (r.map .int)
theorem eqvAll_int : ∀ (a b : List Int), PyData.eqvAll (a.map PyData.int) (b.map PyData.int) = decide (a = b)
  | [], [] => rfl
  | [], _ :: _ => rfl
  | _ :: _, [] => rfl
  | x :: a, y :: b => by
    show ((x == y) && PyData.eqvAll (a.map PyData.int) (b.map PyData.int)) = _
    rw [eqvAll_int a b]
    by_cases h1 : x = y
    · by_cases h2 : a = b
      · simp [h1, h2]
      · simp [h1, h2]
    · simp [h1]
theorem eqv_tupI (a b : List Int) : PyData.eqv (tupI a) (tupI b) = decide (a = b) := eqvAll_int a b
theorem plain_tupI (a : List Int) : (tupI a).plain = true := plain_ints a
theorem low_tupI (a : List Int) : low (tupI a) = true := low_of (by show PyData.depth (.tuple _) ≤ 60; rw [PyData.depth]; have := depth_ints a; omega)

/-! ### plain law: helpers -/
theorem filter_yes {α : Type} (l : List α) : l.filter (fun _ => true) = l := List.filter_eq_self.mpr fun _ _ => rfl
theorem bools_map {α : Type} (f : α → Bool) : ∀ l : List α, boolsD (l.map fun a => PyData.bool (f a)) = some (l.map f)
  | [] => rfl
  | a :: l => by
    rw [List.map_cons]
    unfold boolsD
    rw [bools_map f l]
    rfl
theorem any_map {α : Type} (f : α → Bool) (l : List α) : anyD (.list (l.map fun a => PyData.bool (f a))) = .ok (.bool (l.any f)) := by
  show (match boolsD (l.map fun a => PyData.bool (f a)) with | some bs => Res.ok (PyData.bool (bs.any id)) | none => .bad) = _
  rw [bools_map]
  show Res.ok (PyData.bool ((l.map f).any id)) = _
  rw [List.any_map]
  rfl
theorem all_map {α : Type} (f : α → Bool) (l : List α) : allD (.list (l.map fun a => PyData.bool (f a))) = .ok (.bool (l.all f)) := by
  show (match boolsD (l.map fun a => PyData.bool (f a)) with | some bs => Res.ok (PyData.bool (bs.all id)) | none => .bad) = _
  rw [bools_map]
  show Res.ok (PyData.bool ((l.map f).all id)) = _
  rw [List.all_map]
  rfl
theorem le_szk {α : Type} {l : List α} (h : l.length ≤ 1000) : l.length ≤ sizeLine := by rw [sz]; omega
theorem getD_of {α : Type} {r : List α} {k : Nat} {d : α} (h : k < r.length) : r[k]? = some (r.getD k d) := by
  rw [List.getElem?_eq_getElem h, List.getD_eq_getElem?_getD, List.getElem?_eq_getElem h]
  rfl
theorem sst {Γ : DEnv} {i : Nat} {te : DEnv → Res D} {d : D} (h : te Γ = .ok d) : sSet i te Γ = .next (Γ.set i (some d)) := by
  rw [ap_sSet, h]
  rfl
/-- all of the items -/
theorem all_comp {Γ : DEnv} {vs : List Nat} {it : DEnv → Res (List D)} {g : D → DEnv → Res DEnv} {te : DEnv → Res D} {ds : List D} {p : D → Bool} (hi : it Γ = .ok ds) (hl : ds.length ≤ 1000) (h : ∀ d ∈ ds, ∃ Γ1, g d (wipeE Γ vs) = .ok Γ1 ∧ te Γ1 = .ok (.bool (p d))) : xCall (on1 allD) (xCons (xComp vs it g xYes te) xNil) Γ = .ok (.bool (ds.all p)) := by
  simp -implicitDefEqProofs only [ap_sSeq, ap_sSet, ap_sIf, ap_sRet, ap_sDrop, ap_sAsg, ap_sFor, ap_sNil, ap_xC, ap_xVar0, ap_xVarS, ap_x2, ap_x1, ap_xT, ap_toB, ap_xAndT, ap_xOrT, ap_xNotT, ap_xCall, ap_xCons, ap_xNil, ap_on1, ap_xItems, ap_itemsL, ap_itemsT, ap_xRange1, ap_tupOfL, ap_tupOfT, ap_lstOfL, ap_lstOfT, ap_lenL, ap_lenT, ap_addI, ap_subI, ap_ixT0, ap_ixT1, ap_ltI, ap_eqI, ap_neI, Res.ok_bind, ok_oBind, next_andThen, ret_andThen, List.set_cons_succ, List.set_cons_zero, ap_gSet, ap_xComp, hi, if_pos (le_szk hl)]
  rw [compL_fm (p := fun _ => true) (h := fun d => .bool (p d)) fun d hd => by
    obtain ⟨Γ1, e1, e2⟩ := h d hd
    exact ⟨Γ1, e1, rfl, fun _ => e2⟩, filter_yes]
  simp -implicitDefEqProofs only [ap_sSeq, ap_sSet, ap_sIf, ap_sRet, ap_sDrop, ap_sAsg, ap_sFor, ap_sNil, ap_xC, ap_xVar0, ap_xVarS, ap_x2, ap_x1, ap_xT, ap_toB, ap_xAndT, ap_xOrT, ap_xNotT, ap_xCall, ap_xCons, ap_xNil, ap_on1, ap_xItems, ap_itemsL, ap_itemsT, ap_xRange1, ap_tupOfL, ap_tupOfT, ap_lstOfL, ap_lstOfT, ap_lenL, ap_lenT, ap_addI, ap_subI, ap_ixT0, ap_ixT1, ap_ltI, ap_eqI, ap_neI, Res.ok_bind, ok_oBind, next_andThen, ret_andThen, List.set_cons_succ, List.set_cons_zero, ap_gSet, all_map]
theorem foldM_all {α : Type} (p : α → Bool) : ∀ (l done : List α), l.foldlM (fun done a => if p a = true then some (done ++ [a]) else none) done = if l.all p = true then some (done ++ l) else none
  | [], done => by simp
  | a :: l, done => by
    rw [List.foldlM_cons, List.all_cons]
    cases e : p a with
    | true =>
      rw [if_pos rfl, Bool.true_and]
      show l.foldlM _ (done ++ [a]) = _
      rw [foldM_all p l, List.append_assoc]
      rfl
    | false => simp
/-- a loop over items that leaves at the first that fails p; what has passed is known -/
theorem forL_allP {α : Type} {g : D → DEnv → Res DEnv} {b : DEnv → Out} (enc : α → D) (R : DEnv → Prop) (p : α → Bool) {d : D} {l : List α} {Γ : DEnv} (H : ∀ a done r Γ, l = done ++ a :: r → (∀ x ∈ done, p x = true) → R Γ → ∃ Γ1, g (enc a) Γ = .ok Γ1 ∧ (if p a then ∃ Γ2, b Γ1 = .next Γ2 ∧ R Γ2 else b Γ1 = .ret d)) (h0 : R Γ) : if l.all p then ∃ Γ2, forL g b (l.map enc) Γ = .next Γ2 ∧ R Γ2 else forL g b (l.map enc) Γ = .ret d := by
  have q := forL_opt (g := g) (b := b) (d := d) enc (fun r done Γ => R Γ ∧ l = done ++ r ∧ ∀ x ∈ done, p x = true) (fun done a => if p a = true then some (done ++ [a]) else none) (fun a r done Γ ⟨h1, h2, h3⟩ => by
    obtain ⟨Γ1, e1, e2⟩ := H a done r Γ h2 h3 h1
    refine ⟨Γ1, e1, ?_⟩
    cases e : p a with
    | true =>
      rw [e] at e2
      obtain ⟨Γ2, e2, e3⟩ := e2
      rw [if_pos rfl]
      refine ⟨Γ2, e2, e3, by rw [h2, List.append_assoc]; rfl, fun x hx => ?_⟩
      rcases List.mem_append.mp hx with hx | hx
      · exact h3 x hx
      · rw [List.mem_singleton.mp hx]; exact e
    | false =>
      rw [e] at e2
      rw [if_neg Bool.false_ne_true]
      exact e2) (l := l) (s := []) (Γ := Γ) ⟨h0, rfl, fun x hx => (by cases hx)⟩
  rw [foldM_all] at q
  cases e : l.all p with
  | true =>
    rw [e, if_pos rfl] at q
    obtain ⟨Γ2, e2, e3, _⟩ := q
    exact ⟨Γ2, e2, e3⟩
  | false =>
    rw [e, if_neg Bool.false_ne_true] at q
    exact q
theorem rf_raise {n : Nat} {b : DEnv → Out} {ds : List D} {c : String} (h : b (envOf n ds) = .raise c) : runF n b ds = .raise c := by unfold runF; rw [h]
theorem foldl_flat {α β : Type} (f : α → List β) : ∀ (l : List α) (acc : List β), l.foldl (fun acc x => acc ++ f x) acc = acc ++ l.flatMap f
  | [], acc => by simp
  | x :: l, acc => by rw [List.foldl_cons, foldl_flat f l, List.flatMap_cons, List.append_assoc]

/-! ### plain law: helpers for loops, comprehensions, dicts -/
theorem for_run {S α : Type} {g : D → DEnv → Res DEnv} {b k : DEnv → Out} {o : Out} (enc : α → D) (R : List α → S → DEnv → Prop) (step : S → α → S) {l : List α} {s : S} {Γ : DEnv} (h0 : R l s Γ) (H : ∀ a r s Γ, R (a :: r) s Γ → ∃ Γ1 Γ2, g (enc a) Γ = .ok Γ1 ∧ b Γ1 = .next Γ2 ∧ R r (step s a) Γ2) (K : ∀ Γ2, R [] (l.foldl step s) Γ2 → k Γ2 = o) : (forL g b (l.map enc) Γ).andThen k = o := by
  obtain ⟨Γ2, e, h⟩ := forL_run (g := g) (b := b) enc R step H h0
  rw [e, next_andThen]
  exact K Γ2 h
/-- the loop leaves with d where step says none -/
theorem for_opt {S α : Type} {g : D → DEnv → Res DEnv} {b k : DEnv → Out} {o : Out} {d : D} (enc : α → D) (R : List α → S → DEnv → Prop) (step : S → α → Option S) {l : List α} {s : S} {Γ : DEnv} (h0 : R l s Γ) (H : ∀ a r s Γ, R (a :: r) s Γ → ∃ Γ1, g (enc a) Γ = .ok Γ1 ∧ OptP (fun s2 => ∃ Γ2, b Γ1 = .next Γ2 ∧ R r s2 Γ2) (b Γ1 = .ret d) (step s a))
    (K : OptP (fun s2 => ∀ Γ2, R [] s2 Γ2 → k Γ2 = o) (.ret d = o) (l.foldlM step s)) : (forL g b (l.map enc) Γ).andThen k = o := by
  have q := forL_opt (g := g) (b := b) (d := d) enc R step H h0
  cases e : l.foldlM step s with
  | none =>
    rw [e] at q K
    rw [show forL g b (l.map enc) Γ = .ret d from q]
    exact K
  | some s2 =>
    rw [e] at q K
    obtain ⟨Γ2, e2, h2⟩ := q
    rw [e2, next_andThen]
    exact K Γ2 h2
theorem dGet_gen {κ ν : Type} [DecidableEq κ] (ek : κ → D) (ev : ν → D) (he : ∀ a b, PyData.eqv (ek a) (ek b) = decide (a = b)) : ∀ (es : List (κ × ν)) (k : κ), dGet (es.map fun e => (ek e.1, ev e.2)) (ek k) = (es.lookup k).map ev
  | [], k => rfl
  | e :: es, k => by
    have ih := dGet_gen ek ev he es k
    unfold dGet at ih ⊢
    rw [List.map_cons, List.find?_cons, List.lookup_cons]
    dsimp only
    rw [he]
    by_cases h : e.1 = k
    · have h2 : (k == e.1) = true := by rw [h]; exact beq_self_eq_true _
      rw [h2, decide_eq_true h]
      rfl
    · have h2 : (k == e.1) = false := by rw [beq_eq_false_iff_ne]; exact fun x => h x.symm
      rw [h2, decide_eq_false h]
      exact ih
theorem any_gen {κ ν : Type} [DecidableEq κ] (ek : κ → D) (ev : ν → D) (he : ∀ a b, PyData.eqv (ek a) (ek b) = decide (a = b)) : ∀ (es : List (κ × ν)) (k : κ), ((es.map fun e => (ek e.1, ev e.2)).any fun e => PyData.eqv e.1 (ek k)) = (es.lookup k).isSome
  | [], k => rfl
  | e :: es, k => by
    rw [List.map_cons, List.any_cons, any_gen ek ev he es k, List.lookup_cons]
    dsimp only
    rw [he]
    by_cases h : e.1 = k
    · have h2 : (k == e.1) = true := by rw [h]; exact beq_self_eq_true _
      rw [h2, decide_eq_true h]
      rfl
    · have h2 : (k == e.1) = false := by rw [beq_eq_false_iff_ne]; exact fun x => h x.symm
      rw [h2, decide_eq_false h]
      rfl
def putG {κ ν : Type} [DecidableEq κ] (es : List (κ × ν)) (k : κ) (v : ν) : List (κ × ν) := if (es.lookup k).isSome then es.map (fun e => if e.1 = k then (e.1, v) else e) else es ++ [(k, v)]
theorem dPut_gen {κ ν : Type} [DecidableEq κ] (ek : κ → D) (ev : ν → D) (he : ∀ a b, PyData.eqv (ek a) (ek b) = decide (a = b)) (es : List (κ × ν)) (k : κ) (v : ν) : dPut (es.map fun e => (ek e.1, ev e.2)) (ek k) (ev v) = (putG es k v).map fun e => (ek e.1, ev e.2) := by
  unfold dPut putG
  rw [any_gen ek ev he]
  cases (es.lookup k).isSome with
  | true =>
    rw [if_pos rfl, if_pos rfl, List.map_map, List.map_map]
    refine List.map_congr_left fun e _ => ?_
    show (if PyData.eqv (ek e.1) (ek k) = true then _ else _) = _
    rw [he]
    by_cases h : e.1 = k
    · simp [h]
    · simp [h]
  | false =>
    rw [if_neg Bool.false_ne_true, if_neg Bool.false_ne_true, List.map_append]
    rfl
theorem eqv_natD (a b : Nat) : PyData.eqv (natD a) (natD b) = decide (a = b) := by
  show ((a : Int) == (b : Int)) = _
  by_cases h : a = b
  · subst h; simp
  · rw [decide_eq_false h, beq_eq_false_iff_ne]
    omega
theorem guardK_nat {ν : Type} (ev : ν → D) (es : List (Nat × ν)) : guardK (es.map fun e => (natD e.1, ev e.2)) = true := by
  unfold guardK
  rw [List.all_map]
  exact List.all_eq_true.mpr fun _ _ => rfl
/-! ### what is encoded faithfully -/
structure EncOk {α : Type} [DecidableEq α] (f : α → D) (n : Nat) : Prop where
  plain : ∀ a, (f a).plain = true
  depth : ∀ a, (f a).depth ≤ n
  eqv : ∀ a b, PyData.eqv (f a) (f b) = decide (a = b)
theorem enc_nat : EncOk natD 0 := ⟨fun _ => rfl, fun _ => Nat.le_refl 0, eqv_natD⟩
theorem enc_int : EncOk PyData.int 0 := ⟨fun _ => rfl, fun _ => Nat.le_refl 0, fun a b => by
  show (a == b) = _
  by_cases h : a = b <;> simp [h]⟩
theorem enc_str : EncOk PyData.str 0 := ⟨fun _ => rfl, fun _ => Nat.le_refl 0, fun a b => by
  show (a == b) = _
  by_cases h : a = b <;> simp [h]⟩
section
variable {α : Type} [DecidableEq α] {f : α → D} {n : Nat}
theorem EncOk.all (h : EncOk f n) : ∀ l m : List α, PyData.eqvAll (l.map f) (m.map f) = decide (l = m)
  | [], [] => rfl
  | [], _ :: _ => rfl
  | _ :: _, [] => rfl
  | a :: l, b :: m => by
    rw [List.map_cons, List.map_cons, PyData.eqvAll, h.eqv, h.all l m]
    by_cases h1 : a = b <;> by_cases h2 : l = m <;> simp [h1, h2]
theorem EncOk.tuple (h : EncOk f n) : EncOk (fun l : List α => PyData.tuple (l.map f)) (n + 1) where
  plain := fun l => by rw [PyData.plain]; exact plainAll_map _ _ fun a _ => h.plain a
  depth := fun l => by rw [PyData.depth]; have := depthAll_map f l n fun a _ => h.depth a; omega
  eqv := h.all
theorem EncOk.list (h : EncOk f n) : EncOk (fun l : List α => PyData.list (l.map f)) (n + 1) where
  plain := fun l => by rw [PyData.plain]; exact plainAll_map _ _ fun a _ => h.plain a
  depth := fun l => by rw [PyData.depth]; have := depthAll_map f l n fun a _ => h.depth a; omega
  eqv := h.all
theorem EncOk.pair {β : Type} [DecidableEq β] {g : β → D} {m : Nat} (h : EncOk f n) (k : EncOk g m) (hm : m ≤ n) : EncOk (fun p : α × β => PyData.tuple [f p.1, g p.2]) (n + 1) where
  plain := fun p => by
    show ((f p.1).plain && ((g p.2).plain && true)) = true
    rw [h.plain, k.plain]
    rfl
  depth := fun p => by
    rw [PyData.depth, PyData.depthAll, PyData.depthAll, PyData.depthAll]
    have := h.depth p.1
    have := k.depth p.2
    omega
  eqv := fun p q => by
    show (PyData.eqv (f p.1) (f q.1) && (PyData.eqv (g p.2) (g q.2) && true)) = _
    rw [h.eqv, k.eqv, Bool.and_true]
    obtain ⟨a, b⟩ := p
    obtain ⟨c, d⟩ := q
    by_cases h1 : a = c <;> by_cases h2 : b = d <;> simp [h1, h2]
theorem EncOk.low (h : EncOk f n) (hn : n ≤ 60 := by decide) (a : α) : DL.low (f a) = true := low_of (Nat.le_trans (h.depth a) hn)
theorem EncOk.eqD (h : EncOk f n) (hn : n ≤ 60 := by decide) (a b : α) : DL.eqD (f a) (f b) = .ok (.bool (decide (a = b))) := by rw [ap_eqP (h.plain a) (h.plain b) (h.low hn a), h.eqv]
theorem EncOk.neD (h : EncOk f n) (hn : n ≤ 60 := by decide) (a b : α) : DL.neD (f a) (f b) = .ok (.bool (!decide (a = b))) := by rw [ap_neP (h.plain a) (h.plain b) (h.low hn a), h.eqv]
theorem EncOk.any (h : EncOk f n) (x : α) : ∀ l : List α, ((l.map f).any fun e => PyData.eqv e (f x)) = decide (x ∈ l)
  | [] => rfl
  | a :: l => by
    rw [List.map_cons, List.any_cons, h.any x l, h.eqv]
    by_cases h1 : a = x
    · subst h1; simp
    · have : ¬ x = a := fun z => h1 z.symm
      by_cases h2 : x ∈ l <;> simp [h1, h2, this]
theorem EncOk.inT (h : EncOk f n) (hn : n ≤ 60 := by decide) (x : α) (l : List α) : inD (f x) (.tuple (l.map f)) = .ok (.bool (decide (x ∈ l))) := by
  unfold inD gD inC
  rw [h.plain, h.tuple.plain l, h.low hn]
  exact congrArg (fun b => Res.ok (PyData.bool b)) (h.any x l)
theorem EncOk.ninT (h : EncOk f n) (hn : n ≤ 60 := by decide) (x : α) (l : List α) : ninD (f x) (.tuple (l.map f)) = .ok (.bool (!decide (x ∈ l))) := by
  unfold ninD gD inC
  rw [h.plain, h.tuple.plain l, h.low hn]
  exact congrArg (fun b => Res.ok (PyData.bool (!b))) (h.any x l)
theorem EncOk.inL (h : EncOk f n) (hn : n ≤ 60 := by decide) (x : α) (l : List α) : inD (f x) (.list (l.map f)) = .ok (.bool (decide (x ∈ l))) := by
  unfold inD gD inC
  rw [h.plain, h.list.plain l, h.low hn]
  exact congrArg (fun b => Res.ok (PyData.bool b)) (h.any x l)
theorem EncOk.ninL (h : EncOk f n) (hn : n ≤ 60 := by decide) (x : α) (l : List α) : ninD (f x) (.list (l.map f)) = .ok (.bool (!decide (x ∈ l))) := by
  unfold ninD gD inC
  rw [h.plain, h.list.plain l, h.low hn]
  exact congrArg (fun b => Res.ok (PyData.bool (!b))) (h.any x l)
theorem EncOk.eqL (h : EncOk f n) (hn : n ≤ 59 := by decide) (l m : List α) : DL.eqD (.list (l.map f)) (.list (m.map f)) = .ok (.bool (decide (l = m))) := h.list.eqD (by omega) l m
theorem EncOk.neL (h : EncOk f n) (hn : n ≤ 59 := by decide) (l m : List α) : DL.neD (.list (l.map f)) (.list (m.map f)) = .ok (.bool (!decide (l = m))) := h.list.neD (by omega) l m
theorem EncOk.eqL0 (h : EncOk f n) (hn : n ≤ 59 := by decide) (l : List α) : DL.eqD (.list (l.map f)) (.list []) = .ok (.bool (decide (l = []))) := h.eqL hn l []
theorem EncOk.neL0 (h : EncOk f n) (hn : n ≤ 59 := by decide) (l : List α) : DL.neD (.list (l.map f)) (.list []) = .ok (.bool (!decide (l = []))) := h.neL hn l []
end
theorem enc_tupN : EncOk tupN 1 := enc_nat.tuple
theorem enc_tupI : EncOk tupI 1 := enc_int.tuple
theorem foldl_filter {α : Type} (p : α → Bool) : ∀ (l acc : List α), l.foldl (fun acc c => if p c = true then acc ++ [c] else acc) acc = acc ++ l.filter p
  | [], acc => by simp
  | c :: l, acc => by
    rw [List.foldl_cons, foldl_filter p l]
    by_cases q : p c = true
    · rw [if_pos q, List.filter_cons_of_pos q, List.append_assoc]; rfl
    · rw [if_neg q, List.filter_cons_of_neg q]
theorem foldl_filter_map {α β : Type} (p : α → Bool) (f : α → β) : ∀ (l : List α) (acc : List β), l.foldl (fun acc c => if p c = true then acc ++ [f c] else acc) acc = acc ++ (l.filter p).map f
  | [], acc => by simp
  | c :: l, acc => by
    rw [List.foldl_cons, foldl_filter_map p f l]
    by_cases q : p c = true
    · rw [if_pos q, List.filter_cons_of_pos q, List.append_assoc]; rfl
    · rw [if_neg q, List.filter_cons_of_neg q]
theorem ap_ixL0 (a : D) (r : List D) : ixD (.list (a :: r)) (.int 0) = .ok a := by
  show (match atI (a :: r) 0 with | some d => Res.ok d | none => .bad) = _
  rw [show (0 : Int) = ((0 : Nat) : Int) from rfl, atI_nat (v := a) rfl]
theorem ap_ixL1 (a b : D) (r : List D) : ixD (.list (a :: b :: r)) (.int 1) = .ok b := by
  show (match atI (a :: b :: r) 1 with | some d => Res.ok d | none => .bad) = _
  rw [show (1 : Int) = ((1 : Nat) : Int) from rfl, atI_nat (v := b) rfl]

/-! ### plain law: what is asked with spoilt things (finitely many) -/
def isI (k : Int) : Res D → Bool
  | .ok (.int j) => j == k
  | _ => false
theorem isI_of {k : Int} {r : Res D} (h : isI k r = true) : r = .ok (.int k) := by
  unfold isI at h
  split at h
  · rw [eq_of_beq h]
  · cases h
def sT (x : String) : D := .str (PySem.Str.ofString x)
def atomR (n : String) (ts : List D) : D := .tuple [sT n, .tuple ts]
def rxy : D := atomR "r" [sT "x", sT "y"]
def bad0 : List D := [.none, .list [.tuple [sT "x"], .tuple [rxy]], .tuple [.tuple [sT "x"], .tuple []], .tuple [.tuple [sT "z"], .tuple [rxy]], .tuple [.tuple [sT "x"], .list [rxy]], .tuple [.tuple [sT "x"], .tuple [atomR "r" [sT "X", .int 1]]]]
def bad1 : List D := [.none, .list [atomR "r" [.int 2, .int 1], atomR "r" [.int 1, .int 2]], .list [.list [sT "r", .tuple [.int 1, .int 2]]], .list [.tuple [sT "r", .list [.int 1, .int 2]]], .list [atomR "r" [.int 1], atomR "r" [.int 1, .int 2]]]
def ruleR (h : D) (b : List D) : D := .tuple [h, .tuple b]
def bad2 : List D := [.none, .tuple [], .list (List.replicate 9 (ruleR rxy [rxy])), .list [.list [rxy, .tuple [rxy]]], .list [ruleR rxy []], .list [ruleR rxy [rxy, rxy, rxy, rxy, rxy]], .list [ruleR (atomR "r" [sT "x", sT "z"]) [rxy]], .list [ruleR (atomR "r" [sT "x"]) [rxy]], .list [ruleR (atomR "s" [sT "x"]) [atomR "s" [sT "x", sT "y"]]],
  .list [ruleR (atomR "r" [sT "x"]) [atomR "t" [sT "x"]]], .list [ruleR (atomR "s" [sT "x"]) [atomR "t" [sT "x"]], ruleR (atomR "t" [sT "x"]) [atomR "s" [sT "x", sT "x"]]]]
def bad3 : List D := [.tuple [.tuple [], .tuple [rxy]], .tuple [.tuple [sT "x", sT "y"], .tuple [rxy]], .tuple [.tuple [.int 1, .int 2, .int 3], .tuple [rxy]]]
set_option maxHeartbeats 4000000 in
theorem all0 : ((List.range 72).all fun w => bad0.all fun d => isI 0 (f_l_kind [.int 0, natD w, d])) = true := by kernel_rfl
set_option maxHeartbeats 4000000 in
theorem all1 : ((List.range 72).all fun w => bad1.all fun d => isI 1 (f_l_kind [.int 1, natD w, d])) = true := by kernel_rfl
set_option maxHeartbeats 4000000 in
theorem all2 : ((List.range 72).all fun w => bad2.all fun d => isI 2 (f_l_kind [.int 2, natD w, d])) = true := by kernel_rfl
set_option maxHeartbeats 4000000 in
theorem all3 : ((List.range 72).all fun w => bad3.all fun d => isI 3 (f_l_kind [.int 3, natD w, d])) = true := by kernel_rfl

/-! ### plain law: spoilt things, drawn -/
theorem seq_next {s u : DEnv → Out} {Γ Γ' : DEnv} {o : Out} (h : s Γ = .next Γ') (k : u Γ' = o) : sSeq s u Γ = o := by
  rw [ap_sSeq, h, next_andThen]
  exact k
theorem seq_ifT {c : DEnv → Res Bool} {t u k : DEnv → Out} {Γ : DEnv} {d : D} (h : c Γ = .ok true) (e : t Γ = .ret d) : sSeq (sIf c t u) k Γ = .ret d := by
  rw [ap_sSeq, ap_sIf, h]
  show (if true = true then t Γ else u Γ).andThen k = _
  rw [if_pos rfl, e, ret_andThen]
theorem seq_ifF {c : DEnv → Res Bool} {t k : DEnv → Out} {Γ : DEnv} {o : Out} (h : c Γ = .ok false) (e : k Γ = o) : sSeq (sIf c t sNil) k Γ = o := by
  rw [ap_sSeq, ap_sIf, h]
  show (if false = true then t Γ else sNil Γ).andThen k = _
  rw [if_neg Bool.false_ne_true]
  exact e
theorem ret_pick {Γ : DEnv} {i : Nat} {l : List D} {c : Int} {m : Nat} {d : D} (h1 : xVar i Γ = .ok (.list l)) (h2 : xVar 1 Γ = .ok (.int c)) (hm : 0 < m) (hd : ixD (.list l) (.int (c % (m : Int))) = .ok d) : sRet (x2 ixD (xVar i) (x2 modD (xVar 1) (xC (.int (m : Int))))) Γ = .ret d := by
  rw [ap_sRet, ap_x2, h1, Res.ok_bind, ap_x2, h2, Res.ok_bind, ap_xC, Res.ok_bind, ap_modI (show (0 : Int) < (m : Int) by omega), Res.ok_bind, hd]
  rfl
theorem ix_pickD {l : List D} {c : Int} {m : Nat} (hm : l.length = m) (h0 : 0 < m) : ∃ d, ixD (.list l) (.int (c % (m : Int))) = .ok d ∧ d ∈ l := by
  have h1 : 0 ≤ c % (m : Int) := Int.emod_nonneg _ (by omega)
  have h2 : c % (m : Int) < (m : Int) := Int.emod_lt_of_pos _ (by omega)
  obtain ⟨k, hk⟩ := Int.eq_ofNat_of_zero_le h1
  have hkl : k < l.length := by omega
  refine ⟨l.getD k .none, ?_, ?_⟩
  · rw [hk]
    have := ap_ixL (fun d : D => d) (l := l) (getD_of (d := .none) hkl)
    rwa [List.map_id'] at this
  · rw [List.getD_eq_getElem?_getD, List.getElem?_eq_getElem hkl]
    exact List.getElem_mem hkl
theorem l_bad0 (c : Int) : ∃ d ∈ bad0, f_l_bad [.int 0, .int c] = .ok d := by
  obtain ⟨d, hd, hm⟩ := ix_pickD (l := bad0) (c := c) (m := 6) rfl (by omega)
  refine ⟨d, hm, rf_ret (n := 4) (b := b_l_bad) ?_⟩
  change b_l_bad [some (.int 0), some (.int c), none, none] = _
  unfold b_l_bad
  refine seq_next (Γ' := [some (.int 0), some (.int c), some rxy, none]) (by kernel_rfl) ?_
  refine seq_ifT (by kernel_rfl) ?_
  refine seq_next (Γ' := [some (.int 0), some (.int c), some rxy, some (.list (bad0.take 4))]) (by kernel_rfl) ?_
  refine seq_next (Γ' := [some (.int 0), some (.int c), some rxy, some (.list bad0)]) (by kernel_rfl) ?_
  exact ret_pick (m := 6) rfl rfl (by omega) hd
theorem l_bad1 (c : Int) : ∃ d ∈ bad1, f_l_bad [.int 1, .int c] = .ok d := by
  obtain ⟨d, hd, hm⟩ := ix_pickD (l := bad1) (c := c) (m := 5) rfl (by omega)
  refine ⟨d, hm, rf_ret (n := 4) (b := b_l_bad) ?_⟩
  change b_l_bad [some (.int 1), some (.int c), none, none] = _
  unfold b_l_bad
  refine seq_next (Γ' := [some (.int 1), some (.int c), some rxy, none]) (by kernel_rfl) ?_
  refine seq_ifF (by kernel_rfl) ?_
  refine seq_ifT (by kernel_rfl) ?_
  refine seq_next (Γ' := [some (.int 1), some (.int c), some rxy, some (.list (bad1.take 3))]) (by kernel_rfl) ?_
  refine seq_next (Γ' := [some (.int 1), some (.int c), some rxy, some (.list bad1)]) (by kernel_rfl) ?_
  exact ret_pick (m := 5) rfl rfl (by omega) hd
theorem l_bad2 (c : Int) : ∃ d ∈ bad2, f_l_bad [.int 2, .int c] = .ok d := by
  obtain ⟨d, hd, hm⟩ := ix_pickD (l := bad2) (c := c) (m := 11) rfl (by omega)
  refine ⟨d, hm, rf_ret (n := 4) (b := b_l_bad) ?_⟩
  change b_l_bad [some (.int 2), some (.int c), none, none] = _
  unfold b_l_bad
  refine seq_next (Γ' := [some (.int 2), some (.int c), some rxy, none]) (by kernel_rfl) ?_
  refine seq_ifF (by kernel_rfl) ?_
  refine seq_ifF (by kernel_rfl) ?_
  refine seq_ifT (by kernel_rfl) ?_
  refine seq_next (Γ' := [some (.int 2), some (.int c), some rxy, some (.list (bad2.take 6))]) (by kernel_rfl) ?_
  refine seq_next (Γ' := [some (.int 2), some (.int c), some rxy, some (.list (bad2.take 8))]) (by kernel_rfl) ?_
  refine seq_next (Γ' := [some (.int 2), some (.int c), some rxy, some (.list (bad2.take 9))]) (by kernel_rfl) ?_
  refine seq_next (Γ' := [some (.int 2), some (.int c), some rxy, some (.list (bad2.take 10))]) (by kernel_rfl) ?_
  refine seq_next (Γ' := [some (.int 2), some (.int c), some rxy, some (.list bad2)]) (by kernel_rfl) ?_
  exact ret_pick (m := 11) rfl rfl (by omega) hd
theorem l_bad3 (c : Int) : ∃ d ∈ bad3, f_l_bad [.int 3, .int c] = .ok d := by
  obtain ⟨d, hd, hm⟩ := ix_pickD (l := bad3) (c := c) (m := 3) rfl (by omega)
  refine ⟨d, hm, rf_ret (n := 4) (b := b_l_bad) ?_⟩
  change b_l_bad [some (.int 3), some (.int c), none, none] = _
  unfold b_l_bad
  refine seq_next (Γ' := [some (.int 3), some (.int c), some rxy, none]) (by kernel_rfl) ?_
  refine seq_ifF (by kernel_rfl) ?_
  refine seq_ifF (by kernel_rfl) ?_
  refine seq_ifF (by kernel_rfl) ?_
  rw [ap_sRet, ap_x2, show xLst _ _ = Res.ok (PyData.list bad3) from by kernel_rfl, Res.ok_bind, ap_x2]
  show oBind (((Res.ok (PyData.int c)).bind fun x => (Res.ok (PyData.int 3)).bind fun y => modD x y).bind fun y => ixD (.list bad3) y) Out.ret = _
  rw [Res.ok_bind, Res.ok_bind, ap_modI (show (0 : Int) < 3 by omega), Res.ok_bind]
  have hd : ixD (.list bad3) (.int (c % 3)) = .ok d := hd
  rw [hd]
  rfl
def rule8 : D := .list (List.replicate 8 (ruleR rxy [atomR "r" [sT "y", sT "x"]]))
def fa1 : D := atomR "r" [.int 1, .int 2]
def fa2 : D := atomR "r" [.int 2, .int 1]
def stp8 : List (D × D) := [(fa1, .tuple [fa1, .none, .list []]), (fa2, .tuple [fa2, .int 0, .list [fa1]])]
theorem steps8 : f_steps_of [rule8, .list [fa1]] = .ok (.dict stp8) := by kernel_rfl
theorem sort8 : sortND (.dict stp8) = .ok (.list [fa1, fa2]) := by
  show (if guardN stp8 && sortOk (stp8.map (·.1)) then Res.ok (PyData.list ((stp8.map (·.1)).mergeSort (PySem.W.dataLe false fun d => d))) else .bad) = _
  rw [show (guardN stp8 && sortOk (stp8.map (·.1))) = true from by kernel_rfl, if_pos rfl, show stp8.map (·.1) = [fa1, fa2] from rfl]
  have hp : [fa1, fa2].Pairwise (fun a b => PySem.W.dataLe false (fun d => d) a b = true) := .cons (fun b hb => by
    rw [List.mem_singleton.mp hb]
    kernel_rfl) (.cons (fun b hb => (by cases hb)) .nil)
  first
    | rw [List.mergeSort_of_pairwise hp]
    | rw [List.mergeSort_of_sorted hp]
theorem comes8 : f_comes [rule8, .list [fa1]] = .ok (.list [fa1, fa2]) := by
  refine rf_ret (n := 3) (b := b_comes) ?_
  change b_comes [some rule8, some (.list [fa1]), none] = _
  unfold b_comes
  refine seq_next (Γ' := [some rule8, some (.list [fa1]), some (.list [fa1])]) (by kernel_rfl) ?_
  refine seq_next (Γ' := [some rule8, some (.list [fa1]), some (.list [fa1])]) (by kernel_rfl) ?_
  simp -implicitDefEqProofs only [ap_sSeq, ap_sSet, ap_sIf, ap_sRet, ap_sDrop, ap_sAsg, ap_sFor, ap_sNil, ap_xC, ap_xVar0, ap_xVarS, ap_x2, ap_x1, ap_xT, ap_toB, ap_xAndT, ap_xOrT, ap_xNotT, ap_xCall, ap_xCons, ap_xNil, ap_on1, ap_xItems, ap_itemsL, ap_itemsT, ap_xRange1, ap_tupOfL, ap_tupOfT, ap_lstOfL, ap_lstOfT, ap_lenL, ap_lenT, ap_addI, ap_subI, ap_ixT0, ap_ixT1, ap_ltI, ap_eqI, ap_neI, Res.ok_bind, ok_oBind, next_andThen, ret_andThen, List.set_cons_succ, List.set_cons_zero, ap_gSet, steps8, sort8]
theorem law_true (ns : List Int) (_ : ns.length ≤ 63) : f_law [.list (ns.map .int)] = .ok (.bool true) := by
  refine rf_ret (n := 5) (b := b_law) ?_
  change b_law [some (lsI ns), none, none, none, none] = _
  have hk1 := mixed_ge (ns := ns) (k := 0) (many := 4) (by omega) (by omega)
  have hk2 := mixed_lt (ns := ns) (k := 0) (many := 4) (by omega) (by omega)
  have hw1 := mixed_ge (ns := ns) (k := 1) (many := 72) (by omega) (by omega)
  have hw2 := mixed_lt (ns := ns) (k := 1) (many := 72) (by omega) (by omega)
  have key : ∀ (k w c : Int), 0 ≤ k → k < 4 → 0 ≤ w → w < 72 → ∃ d, f_l_bad [.int k, .int c] = .ok d ∧ f_l_kind [.int k, .int w, d] = .ok (.int k) := by
    intro k w c k1 k2 w1 w2
    obtain ⟨w, rfl⟩ := Int.eq_ofNat_of_zero_le w1
    have hw : w ∈ List.range 72 := List.mem_range.mpr (by omega)
    have h4 : k = 0 ∨ k = 1 ∨ k = 2 ∨ k = 3 := by omega
    rcases h4 with rfl | rfl | rfl | rfl
    · obtain ⟨d, hd, e⟩ := l_bad0 c
      exact ⟨d, e, isI_of (List.all_eq_true.mp (List.all_eq_true.mp all0 w hw) d hd)⟩
    · obtain ⟨d, hd, e⟩ := l_bad1 c
      exact ⟨d, e, isI_of (List.all_eq_true.mp (List.all_eq_true.mp all1 w hw) d hd)⟩
    · obtain ⟨d, hd, e⟩ := l_bad2 c
      exact ⟨d, e, isI_of (List.all_eq_true.mp (List.all_eq_true.mp all2 w hw) d hd)⟩
    · obtain ⟨d, hd, e⟩ := l_bad3 c
      exact ⟨d, e, isI_of (List.all_eq_true.mp (List.all_eq_true.mp all3 w hw) d hd)⟩
  obtain ⟨d, e1, e2⟩ := key (mxZ ns 0 4) (mxZ ns 1 72) (mxZ ns 2 1000000) hk1 hk2 hw1 hw2
  unfold b_law
  refine seq_next (Γ' := [some (lsI ns), some (.int (mxZ ns 0 4)), none, none, none]) (by simp -implicitDefEqProofs only [ap_sSeq, ap_sSet, ap_sIf, ap_sRet, ap_sDrop, ap_sAsg, ap_sFor, ap_sNil, ap_xC, ap_xVar0, ap_xVarS, ap_x2, ap_x1, ap_xT, ap_toB, ap_xAndT, ap_xOrT, ap_xNotT, ap_xCall, ap_xCons, ap_xNil, ap_on1, ap_xItems, ap_itemsL, ap_itemsT, ap_xRange1, ap_tupOfL, ap_tupOfT, ap_lstOfL, ap_lstOfT, ap_lenL, ap_lenT, ap_addI, ap_subI, ap_ixT0, ap_ixT1, ap_ltI, ap_eqI, ap_neI, Res.ok_bind, ok_oBind, next_andThen, ret_andThen, List.set_cons_succ, List.set_cons_zero, ap_gSet, mixed_ok (show (0 : Int) ≤ 0 by omega) (show (0 : Int) < 4 by omega)]) ?_
  refine seq_next (Γ' := [some (lsI ns), some (.int (mxZ ns 0 4)), some (.int (mxZ ns 1 72)), none, none]) (by simp -implicitDefEqProofs only [ap_sSeq, ap_sSet, ap_sIf, ap_sRet, ap_sDrop, ap_sAsg, ap_sFor, ap_sNil, ap_xC, ap_xVar0, ap_xVarS, ap_x2, ap_x1, ap_xT, ap_toB, ap_xAndT, ap_xOrT, ap_xNotT, ap_xCall, ap_xCons, ap_xNil, ap_on1, ap_xItems, ap_itemsL, ap_itemsT, ap_xRange1, ap_tupOfL, ap_tupOfT, ap_lstOfL, ap_lstOfT, ap_lenL, ap_lenT, ap_addI, ap_subI, ap_ixT0, ap_ixT1, ap_ltI, ap_eqI, ap_neI, Res.ok_bind, ok_oBind, next_andThen, ret_andThen, List.set_cons_succ, List.set_cons_zero, ap_gSet, mixed_ok (show (0 : Int) ≤ 1 by omega) (show (0 : Int) < 72 by omega)]) ?_
  refine seq_next (Γ' := [some (lsI ns), some (.int (mxZ ns 0 4)), some (.int (mxZ ns 1 72)), some d, none]) (by simp -implicitDefEqProofs only [ap_sSeq, ap_sSet, ap_sIf, ap_sRet, ap_sDrop, ap_sAsg, ap_sFor, ap_sNil, ap_xC, ap_xVar0, ap_xVarS, ap_x2, ap_x1, ap_xT, ap_toB, ap_xAndT, ap_xOrT, ap_xNotT, ap_xCall, ap_xCons, ap_xNil, ap_on1, ap_xItems, ap_itemsL, ap_itemsT, ap_xRange1, ap_tupOfL, ap_tupOfT, ap_lstOfL, ap_lstOfT, ap_lenL, ap_lenT, ap_addI, ap_subI, ap_ixT0, ap_ixT1, ap_ltI, ap_eqI, ap_neI, Res.ok_bind, ok_oBind, next_andThen, ret_andThen, List.set_cons_succ, List.set_cons_zero, ap_gSet, show powD (.int 10) (.int 6) = .ok (.int 1000000) from by kernel_rfl, mixed_ok (show (0 : Int) ≤ 2 by omega) (show (0 : Int) < 1000000 by omega), e1]) ?_
  refine seq_next (Γ' := [some (lsI ns), some (.int (mxZ ns 0 4)), some (.int (mxZ ns 1 72)), some d, some (ruleR rxy [atomR "r" [sT "y", sT "x"]])]) (by kernel_rfl) ?_
  refine seq_ifF ?_ ?_
  · rw [ap_xT, ap_x2, ap_xCall, show xCons (x2 repD (xLst (xCons (xVar 4) xNil)) (xC (.int 8))) (xCons _ xNil) [some (lsI ns), some (.int (mxZ ns 0 4)), some (.int (mxZ ns 1 72)), some d, some (ruleR rxy [atomR "r" [sT "y", sT "x"]])] = .ok [rule8, .list [fa1]] from by kernel_rfl, Res.ok_bind, comes8, Res.ok_bind]
    kernel_rfl
  · simp -implicitDefEqProofs only [ap_sSeq, ap_sSet, ap_sIf, ap_sRet, ap_sDrop, ap_sAsg, ap_sFor, ap_sNil, ap_xC, ap_xVar0, ap_xVarS, ap_x2, ap_x1, ap_xT, ap_toB, ap_xAndT, ap_xOrT, ap_xNotT, ap_xCall, ap_xCons, ap_xNil, ap_on1, ap_xItems, ap_itemsL, ap_itemsT, ap_xRange1, ap_tupOfL, ap_tupOfT, ap_lstOfL, ap_lstOfT, ap_lenL, ap_lenT, ap_addI, ap_subI, ap_ixT0, ap_ixT1, ap_ltI, ap_eqI, ap_neI, Res.ok_bind, ok_oBind, next_andThen, ret_andThen, List.set_cons_succ, List.set_cons_zero, ap_gSet, e2, beq_self_eq_true]

end My
set_option maxHeartbeats 4000000
/-! ### the text: places, functions over data, promises (printed by gen.py) -/
namespace My
open PySem PySem.Spec PyProof.Rows L2 DL
def topS (i : Nat) : Stmt := PySem.Challenge.pw_askbook_k21_askings_refused.main.body.getD i (.Pass ⟨0, 0, 0, 0⟩)
abbrev s_is_whole : Stmt := topS 12
abbrev n_is_whole : List Str := ["thing"]
theorem sc_is_whole : FnScope ["thing"] ["thing"] (defScope s_is_whole) := ⟨rfl, rfl, rfl, by decide +kernel, rfl, by decide +kernel, by decide +kernel⟩
abbrev s_is_name : Stmt := topS 13
abbrev n_is_name : List Str := ["thing", "sign"]
theorem sc_is_name : FnScope ["thing", "sign"] ["thing"] (defScope s_is_name) := ⟨rfl, rfl, rfl, by decide +kernel, rfl, by decide +kernel, by decide +kernel⟩
abbrev s_is_term : Stmt := topS 14
abbrev n_is_term : List Str := ["thing"]
theorem sc_is_term : FnScope ["thing"] ["thing"] (defScope s_is_term) := ⟨rfl, rfl, rfl, by decide +kernel, rfl, by decide +kernel, by decide +kernel⟩
abbrev s_is_fact : Stmt := topS 15
abbrev n_is_fact : List Str := ["thing", "value"]
theorem sc_is_fact : FnScope ["thing", "value"] ["thing"] (defScope s_is_fact) := ⟨rfl, rfl, rfl, by decide +kernel, rfl, by decide +kernel, by decide +kernel⟩
abbrev s_is_atom : Stmt := topS 16
abbrev n_is_atom : List Str := ["thing", "term"]
theorem sc_is_atom : FnScope ["thing", "term"] ["thing"] (defScope s_is_atom) := ⟨rfl, rfl, rfl, by decide +kernel, rfl, by decide +kernel, by decide +kernel⟩
abbrev s_alike_long : Stmt := topS 17
abbrev n_alike_long : List Str := ["rows", "sizes", "name", "terms"]
theorem sc_alike_long : FnScope ["rows", "sizes", "name", "terms"] ["rows"] (defScope s_alike_long) := ⟨rfl, rfl, rfl, by decide +kernel, rfl, by decide +kernel, by decide +kernel⟩
abbrev s_are_facts : Stmt := topS 18
abbrev n_are_facts : List Str := ["thing", "k"]
theorem sc_are_facts : FnScope ["thing", "k"] ["thing"] (defScope s_are_facts) := ⟨rfl, rfl, rfl, by decide +kernel, rfl, by decide +kernel, by decide +kernel⟩
abbrev s_checked_book : Stmt := topS 19
abbrev n_checked_book : List Str := ["book"]
theorem sc_checked_book : FnScope ["book"] ["book"] (defScope s_checked_book) := ⟨rfl, rfl, rfl, by decide +kernel, rfl, by decide +kernel, by decide +kernel⟩
abbrev s_are_atoms : Stmt := topS 20
abbrev n_are_atoms : List Str := ["thing", "least", "most", "atom"]
theorem sc_are_atoms : FnScope ["thing", "least", "most", "atom"] ["thing", "least", "most"] (defScope s_are_atoms) := ⟨rfl, rfl, rfl, by decide +kernel, rfl, by decide +kernel, by decide +kernel⟩
abbrev s_stand_ins : Stmt := topS 21
abbrev n_stand_ins : List Str := ["atoms", "found", "atom", "term"]
theorem sc_stand_ins : FnScope ["atoms", "found", "atom", "term"] ["atoms"] (defScope s_stand_ins) := ⟨rfl, rfl, rfl, by decide +kernel, rfl, by decide +kernel, by decide +kernel⟩
abbrev s_is_asking : Stmt := topS 22
abbrev n_is_asking : List Str := ["thing", "term", "known"]
theorem sc_is_asking : FnScope ["thing", "term", "known"] ["thing"] (defScope s_is_asking) := ⟨rfl, rfl, rfl, by decide +kernel, rfl, by decide +kernel, by decide +kernel⟩
abbrev s_checked_asking : Stmt := topS 23
abbrev n_checked_asking : List Str := ["asking"]
theorem sc_checked_asking : FnScope ["asking"] ["asking"] (defScope s_checked_asking) := ⟨rfl, rfl, rfl, by decide +kernel, rfl, by decide +kernel, by decide +kernel⟩
abbrev s_fitted : Stmt := topS 25
abbrev n_fitted : List Str := ["given", "terms", "values", "made", "term", "value"]
theorem sc_fitted : FnScope ["given", "terms", "values", "made", "term", "value"] ["given", "terms", "values"] (defScope s_fitted) := ⟨rfl, rfl, rfl, by decide +kernel, rfl, by decide +kernel, by decide +kernel⟩
abbrev s_all_fitted : Stmt := topS 26
abbrev n_all_fitted : List Str := ["atoms", "facts", "found", "name", "terms", "more", "given", "other", "values", "made"]
theorem sc_all_fitted : FnScope ["atoms", "facts", "found", "name", "terms", "more", "given", "other", "values", "made"] ["atoms", "facts"] (defScope s_all_fitted) := ⟨rfl, rfl, rfl, by decide +kernel, rfl, by decide +kernel, by decide +kernel⟩
abbrev s_put : Stmt := topS 27
abbrev n_put : List Str := ["given", "terms", "term"]
theorem sc_put : FnScope ["given", "terms", "term"] ["given", "terms"] (defScope s_put) := ⟨rfl, rfl, rfl, by decide +kernel, rfl, by decide +kernel, by decide +kernel⟩
abbrev s_answers : Stmt := topS 28
abbrev n_answers : List Str := ["asking", "book", "given"]
theorem sc_answers : FnScope ["asking", "book", "given"] ["asking", "book"] (defScope s_answers) := ⟨rfl, rfl, rfl, by decide +kernel, rfl, by decide +kernel, by decide +kernel⟩
abbrev s_ways : Stmt := topS 30
abbrev n_ways : List Str := ["one", "other", "given"]
theorem sc_ways : FnScope ["one", "other", "given"] ["one", "other"] (defScope s_ways) := ⟨rfl, rfl, rfl, by decide +kernel, rfl, by decide +kernel, by decide +kernel⟩
abbrev s_need_two : Stmt := topS 31
abbrev n_need_two : List Str := ["one", "other"]
theorem sc_need_two : FnScope ["one", "other"] ["one", "other"] (defScope s_need_two) := ⟨rfl, rfl, rfl, by decide +kernel, rfl, by decide +kernel, by decide +kernel⟩
abbrev s_numbers_in : Stmt := topS 32
abbrev n_numbers_in : List Str := ["asking", "found", "term", "atom"]
theorem sc_numbers_in : FnScope ["asking", "found", "term", "atom"] ["asking"] (defScope s_numbers_in) := ⟨rfl, rfl, rfl, by decide +kernel, rfl, by decide +kernel, by decide +kernel⟩
abbrev s_frozen : Stmt := topS 33
abbrev n_frozen : List Str := ["asking", "first", "given", "term", "facts", "name", "terms"]
theorem sc_frozen : FnScope ["asking", "first", "given", "term", "facts", "name", "terms"] ["asking", "first"] (defScope s_frozen) := ⟨rfl, rfl, rfl, by decide +kernel, rfl, by decide +kernel, by decide +kernel⟩
abbrev s_within : Stmt := topS 34
abbrev n_within : List Str := ["one", "other", "found", "term", "first", "book", "row"]
theorem sc_within : FnScope ["one", "other", "found", "term", "first", "book", "row"] ["one", "other"] (defScope s_within) := ⟨rfl, rfl, rfl, by decide +kernel, rfl, by decide +kernel, by decide +kernel⟩
abbrev s_alike : Stmt := topS 35
abbrev n_alike : List Str := ["one", "other"]
theorem sc_alike : FnScope ["one", "other"] ["one", "other"] (defScope s_alike) := ⟨rfl, rfl, rfl, by decide +kernel, rfl, by decide +kernel, by decide +kernel⟩
abbrev s_without : Stmt := topS 37
abbrev n_without : List Str := ["asking", "place"]
theorem sc_without : FnScope ["asking", "place"] ["asking", "place"] (defScope s_without) := ⟨rfl, rfl, rfl, by decide +kernel, rfl, by decide +kernel, by decide +kernel⟩
abbrev s_is_needless : Stmt := topS 38
abbrev n_is_needless : List Str := ["asking", "place", "less"]
theorem sc_is_needless : FnScope ["asking", "place", "less"] ["asking", "place"] (defScope s_is_needless) := ⟨rfl, rfl, rfl, by decide +kernel, rfl, by decide +kernel, by decide +kernel⟩
abbrev s_needless : Stmt := topS 39
abbrev n_needless : List Str := ["asking", "place"]
theorem sc_needless : FnScope ["asking", "place"] ["asking", "place"] (defScope s_needless) := ⟨rfl, rfl, rfl, by decide +kernel, rfl, by decide +kernel, by decide +kernel⟩
abbrev s_lean : Stmt := topS 40
abbrev n_lean : List Str := ["asking", "made", "place"]
theorem sc_lean : FnScope ["asking", "made", "place"] ["asking"] (defScope s_lean) := ⟨rfl, rfl, rfl, by decide +kernel, rfl, by decide +kernel, by decide +kernel⟩
abbrev s_is_rule : Stmt := topS 42
abbrev n_is_rule : List Str := ["thing", "known", "term"]
theorem sc_is_rule : FnScope ["thing", "known", "term"] ["thing"] (defScope s_is_rule) := ⟨rfl, rfl, rfl, by decide +kernel, rfl, by decide +kernel, by decide +kernel⟩
abbrev s_need_rules : Stmt := topS 43
abbrev n_need_rules : List Str := ["rules", "facts", "rows", "rule"]
theorem sc_need_rules : FnScope ["rules", "facts", "rows", "rule"] ["rules", "facts"] (defScope s_need_rules) := ⟨rfl, rfl, rfl, by decide +kernel, rfl, by decide +kernel, by decide +kernel⟩
abbrev s_made_by : Stmt := topS 44
abbrev n_made_by : List Str := ["rule", "facts", "found", "given", "uses", "name", "terms"]
theorem sc_made_by : FnScope ["rule", "facts", "found", "given", "uses", "name", "terms"] ["rule", "facts"] (defScope s_made_by) := ⟨rfl, rfl, rfl, by decide +kernel, rfl, by decide +kernel, by decide +kernel⟩
abbrev s_steps_of : Stmt := topS 45
abbrev n_steps_of : List Str := ["rules", "facts", "steps", "fact", "many", "k", "uses"]
theorem sc_steps_of : FnScope ["rules", "facts", "steps", "fact", "many", "k", "uses"] ["rules", "facts"] (defScope s_steps_of) := ⟨rfl, rfl, rfl, by decide +kernel, rfl, by decide +kernel, by decide +kernel⟩
abbrev s_comes : Stmt := topS 46
abbrev n_comes : List Str := ["rules", "book", "facts"]
theorem sc_comes : FnScope ["rules", "book", "facts"] ["rules", "book"] (defScope s_comes) := ⟨rfl, rfl, rfl, by decide +kernel, rfl, by decide +kernel, by decide +kernel⟩
abbrev s_why : Stmt := topS 47
abbrev n_why : List Str := ["rules", "book", "fact", "facts", "steps", "needed", "made", "other", "use"]
theorem sc_why : FnScope ["rules", "book", "fact", "facts", "steps", "needed", "made", "other", "use"] ["rules", "book", "fact"] (defScope s_why) := ⟨rfl, rfl, rfl, by decide +kernel, rfl, by decide +kernel, by decide +kernel⟩
abbrev s_shared : Stmt := topS 49
abbrev n_shared : List Str := ["atoms", "left", "place", "found", "term", "other"]
theorem sc_shared : FnScope ["atoms", "left", "place", "found", "term", "other"] ["atoms", "left", "place"] (defScope s_shared) := ⟨rfl, rfl, rfl, by decide +kernel, rfl, by decide +kernel, by decide +kernel⟩
abbrev s_above : Stmt := topS 50
abbrev n_above : List Str := ["atoms", "left", "place", "other", "term"]
theorem sc_above : FnScope ["atoms", "left", "place", "other", "term"] ["atoms", "left", "place"] (defScope s_above) := ⟨rfl, rfl, rfl, by decide +kernel, rfl, by decide +kernel, by decide +kernel⟩
abbrev s_taken_off : Stmt := topS 51
abbrev n_taken_off : List Str := ["atoms", "left", "k", "order", "going", "found", "place", "pair"]
theorem sc_taken_off : FnScope ["atoms", "left", "k", "order", "going", "found", "place", "pair"] ["atoms"] (defScope s_taken_off) := ⟨rfl, rfl, rfl, by decide +kernel, rfl, by decide +kernel, by decide +kernel⟩
abbrev s_tree : Stmt := topS 52
abbrev n_tree : List Str := ["asking", "order", "left", "made", "atom", "place", "other"]
theorem sc_tree : FnScope ["asking", "order", "left", "made", "atom", "place", "other"] ["asking"] (defScope s_tree) := ⟨rfl, rfl, rfl, by decide +kernel, rfl, by decide +kernel, by decide +kernel⟩
abbrev s_agree : Stmt := topS 53
abbrev n_agree : List Str := ["one", "other", "term"]
theorem sc_agree : FnScope ["one", "other", "term"] ["one", "other"] (defScope s_agree) := ⟨rfl, rfl, rfl, by decide +kernel, rfl, by decide +kernel, by decide +kernel⟩
abbrev s_joined : Stmt := topS 54
abbrev n_joined : List Str := ["one", "other", "made", "term"]
theorem sc_joined : FnScope ["one", "other", "made", "term"] ["one", "other"] (defScope s_joined) := ⟨rfl, rfl, rfl, by decide +kernel, rfl, by decide +kernel, by decide +kernel⟩
abbrev s_by_tree : Stmt := topS 55
abbrev n_by_tree : List Str := ["asking", "book", "facts", "order", "left", "fits", "atom", "place", "other", "given", "less", "found", "more"]
theorem sc_by_tree : FnScope ["asking", "book", "facts", "order", "left", "fits", "atom", "place", "other", "given", "less", "found", "more"] ["asking", "book"] (defScope s_by_tree) := ⟨rfl, rfl, rfl, by decide +kernel, rfl, by decide +kernel, by decide +kernel⟩
abbrev s_l_cell_at : Stmt := topS 57
abbrev n_l_cell_at : List Str := ["_law_script", "_law_k"]
theorem sc_l_cell_at : FnScope ["_law_script", "_law_k"] ["_law_script", "_law_k"] (defScope s_l_cell_at) := ⟨rfl, rfl, rfl, by decide +kernel, rfl, by decide +kernel, by decide +kernel⟩
abbrev s_l_mixed : Stmt := topS 58
abbrev n_l_mixed : List Str := ["_law_script", "_law_k", "_law_many", "_law_drawn"]
theorem sc_l_mixed : FnScope ["_law_script", "_law_k", "_law_many", "_law_drawn"] ["_law_script", "_law_k", "_law_many"] (defScope s_l_mixed) := ⟨rfl, rfl, rfl, by decide +kernel, rfl, by decide +kernel, by decide +kernel⟩
abbrev s_l_good : Stmt := topS 59
abbrev n_l_good : List Str := []
theorem sc_l_good : FnScope [] [] (defScope s_l_good) := ⟨rfl, rfl, rfl, by decide +kernel, rfl, by decide +kernel, by decide +kernel⟩
abbrev s_l_with_asking : Stmt := topS 60
abbrev n_l_with_asking : List Str := ["_law_what", "_law_bad_here", "_law_beside"]
theorem sc_l_with_asking : FnScope ["_law_what", "_law_bad_here", "_law_beside"] ["_law_what", "_law_bad_here", "_law_beside"] (defScope s_l_with_asking) := ⟨rfl, rfl, rfl, by decide +kernel, rfl, by decide +kernel, by decide +kernel⟩
abbrev s_l_with_book : Stmt := topS 61
abbrev n_l_with_book : List Str := ["_law_what", "_law_bad_here", "_law_beside", "_law_asking"]
theorem sc_l_with_book : FnScope ["_law_what", "_law_bad_here", "_law_beside", "_law_asking"] ["_law_what", "_law_bad_here", "_law_beside"] (defScope s_l_with_book) := ⟨rfl, rfl, rfl, by decide +kernel, rfl, by decide +kernel, by decide +kernel⟩
abbrev s_l_with_rules : Stmt := topS 62
abbrev n_l_with_rules : List Str := ["_law_what", "_law_bad_here"]
theorem sc_l_with_rules : FnScope ["_law_what", "_law_bad_here"] ["_law_what", "_law_bad_here"] (defScope s_l_with_rules) := ⟨rfl, rfl, rfl, by decide +kernel, rfl, by decide +kernel, by decide +kernel⟩
abbrev s_l_asked : Stmt := topS 63
abbrev n_l_asked : List Str := ["_law_kind_here", "_law_what", "_law_bad_here", "_law_beside"]
theorem sc_l_asked : FnScope ["_law_kind_here", "_law_what", "_law_bad_here", "_law_beside"] ["_law_kind_here", "_law_what", "_law_bad_here"] (defScope s_l_asked) := ⟨rfl, rfl, rfl, by decide +kernel, rfl, by decide +kernel, by decide +kernel⟩
abbrev s_l_kind : Stmt := topS 64
abbrev n_l_kind : List Str := ["_law_kind_here", "_law_what", "_law_bad_here", "e", "_law_own", "_law_others"]
theorem sc_l_kind : FnScope ["_law_kind_here", "_law_what", "_law_bad_here", "e", "_law_own", "_law_others"] ["_law_kind_here", "_law_what", "_law_bad_here"] (defScope s_l_kind) := ⟨rfl, rfl, rfl, by decide +kernel, rfl, by decide +kernel, by decide +kernel⟩
abbrev s_l_bad : Stmt := topS 65
abbrev n_l_bad : List Str := ["_law_kind_here", "_law_cell", "_law_atom", "_law_some"]
theorem sc_l_bad : FnScope ["_law_kind_here", "_law_cell", "_law_atom", "_law_some"] ["_law_kind_here", "_law_cell"] (defScope s_l_bad) := ⟨rfl, rfl, rfl, by decide +kernel, rfl, by decide +kernel, by decide +kernel⟩
abbrev s_law : Stmt := topS 66
abbrev n_law : List Str := ["_law_script", "_law_kind_here", "_law_what", "_law_bad_here", "_law_swapped"]
theorem sc_law : FnScope ["_law_script", "_law_kind_here", "_law_what", "_law_bad_here", "_law_swapped"] ["_law_script"] (defScope s_law) := ⟨rfl, rfl, rfl, by decide +kernel, rfl, by decide +kernel, by decide +kernel⟩
section
variable {P : Program} {w : World} {K : PySem.W.Frag} {mg : Str → Option Value} {base : Heap}
abbrev cvOf (mg : Str → Option Value) : Str → Value := fun x => (mg x).getD .none
structure Txt (K : PySem.W.Frag) (mg : Str → Option Value) where
  ta_is_whole : Addr
  td_is_whole : FuncData
  tF_is_whole : Fun K "is_whole" "is_whole" s_is_whole ta_is_whole td_is_whole
  tg_is_whole : mg "is_whole" = some (.ref ta_is_whole)
  tb_is_whole : Binds K td_is_whole ["thing"] []
  ta_is_name : Addr
  td_is_name : FuncData
  tF_is_name : Fun K "is_name" "is_name" s_is_name ta_is_name td_is_name
  tg_is_name : mg "is_name" = some (.ref ta_is_name)
  tb_is_name : Binds K td_is_name ["thing"] []
  ta_is_term : Addr
  td_is_term : FuncData
  tF_is_term : Fun K "is_term" "is_term" s_is_term ta_is_term td_is_term
  tg_is_term : mg "is_term" = some (.ref ta_is_term)
  tb_is_term : Binds K td_is_term ["thing"] []
  ta_is_fact : Addr
  td_is_fact : FuncData
  tF_is_fact : Fun K "is_fact" "is_fact" s_is_fact ta_is_fact td_is_fact
  tg_is_fact : mg "is_fact" = some (.ref ta_is_fact)
  tb_is_fact : Binds K td_is_fact ["thing"] []
  ta_is_atom : Addr
  td_is_atom : FuncData
  tF_is_atom : Fun K "is_atom" "is_atom" s_is_atom ta_is_atom td_is_atom
  tg_is_atom : mg "is_atom" = some (.ref ta_is_atom)
  tb_is_atom : Binds K td_is_atom ["thing"] []
  ta_alike_long : Addr
  td_alike_long : FuncData
  tF_alike_long : Fun K "alike_long" "alike_long" s_alike_long ta_alike_long td_alike_long
  tg_alike_long : mg "alike_long" = some (.ref ta_alike_long)
  tb_alike_long : Binds K td_alike_long ["rows"] []
  ta_are_facts : Addr
  td_are_facts : FuncData
  tF_are_facts : Fun K "are_facts" "are_facts" s_are_facts ta_are_facts td_are_facts
  tg_are_facts : mg "are_facts" = some (.ref ta_are_facts)
  tb_are_facts : Binds K td_are_facts ["thing"] []
  ta_checked_book : Addr
  td_checked_book : FuncData
  tF_checked_book : Fun K "checked_book" "checked_book" s_checked_book ta_checked_book td_checked_book
  tg_checked_book : mg "checked_book" = some (.ref ta_checked_book)
  tb_checked_book : Binds K td_checked_book ["book"] []
  ta_are_atoms : Addr
  td_are_atoms : FuncData
  tF_are_atoms : Fun K "are_atoms" "are_atoms" s_are_atoms ta_are_atoms td_are_atoms
  tg_are_atoms : mg "are_atoms" = some (.ref ta_are_atoms)
  tb_are_atoms : Binds K td_are_atoms ["thing", "least", "most"] []
  ta_stand_ins : Addr
  td_stand_ins : FuncData
  tF_stand_ins : Fun K "stand_ins" "stand_ins" s_stand_ins ta_stand_ins td_stand_ins
  tg_stand_ins : mg "stand_ins" = some (.ref ta_stand_ins)
  tb_stand_ins : Binds K td_stand_ins ["atoms"] []
  ta_is_asking : Addr
  td_is_asking : FuncData
  tF_is_asking : Fun K "is_asking" "is_asking" s_is_asking ta_is_asking td_is_asking
  tg_is_asking : mg "is_asking" = some (.ref ta_is_asking)
  tb_is_asking : Binds K td_is_asking ["thing"] []
  ta_checked_asking : Addr
  td_checked_asking : FuncData
  tF_checked_asking : Fun K "checked_asking" "checked_asking" s_checked_asking ta_checked_asking td_checked_asking
  tg_checked_asking : mg "checked_asking" = some (.ref ta_checked_asking)
  tb_checked_asking : Binds K td_checked_asking ["asking"] []
  ta_fitted : Addr
  td_fitted : FuncData
  tF_fitted : Fun K "fitted" "fitted" s_fitted ta_fitted td_fitted
  tg_fitted : mg "fitted" = some (.ref ta_fitted)
  tb_fitted : Binds K td_fitted ["given", "terms", "values"] []
  ta_all_fitted : Addr
  td_all_fitted : FuncData
  tF_all_fitted : Fun K "all_fitted" "all_fitted" s_all_fitted ta_all_fitted td_all_fitted
  tg_all_fitted : mg "all_fitted" = some (.ref ta_all_fitted)
  tb_all_fitted : Binds K td_all_fitted ["atoms", "facts"] []
  ta_put : Addr
  td_put : FuncData
  tF_put : Fun K "put" "put" s_put ta_put td_put
  tg_put : mg "put" = some (.ref ta_put)
  tb_put : Binds K td_put ["given", "terms"] []
  ta_answers : Addr
  td_answers : FuncData
  tF_answers : Fun K "answers" "answers" s_answers ta_answers td_answers
  tg_answers : mg "answers" = some (.ref ta_answers)
  tb_answers : Binds K td_answers ["asking", "book"] []
  ta_ways : Addr
  td_ways : FuncData
  tF_ways : Fun K "ways" "ways" s_ways ta_ways td_ways
  tg_ways : mg "ways" = some (.ref ta_ways)
  tb_ways : Binds K td_ways ["one", "other"] []
  ta_need_two : Addr
  td_need_two : FuncData
  tF_need_two : Fun K "need_two" "need_two" s_need_two ta_need_two td_need_two
  tg_need_two : mg "need_two" = some (.ref ta_need_two)
  tb_need_two : Binds K td_need_two ["one", "other"] []
  ta_numbers_in : Addr
  td_numbers_in : FuncData
  tF_numbers_in : Fun K "numbers_in" "numbers_in" s_numbers_in ta_numbers_in td_numbers_in
  tg_numbers_in : mg "numbers_in" = some (.ref ta_numbers_in)
  tb_numbers_in : Binds K td_numbers_in ["asking"] []
  ta_frozen : Addr
  td_frozen : FuncData
  tF_frozen : Fun K "frozen" "frozen" s_frozen ta_frozen td_frozen
  tg_frozen : mg "frozen" = some (.ref ta_frozen)
  tb_frozen : Binds K td_frozen ["asking", "first"] []
  ta_within : Addr
  td_within : FuncData
  tF_within : Fun K "within" "within" s_within ta_within td_within
  tg_within : mg "within" = some (.ref ta_within)
  tb_within : Binds K td_within ["one", "other"] []
  ta_alike : Addr
  td_alike : FuncData
  tF_alike : Fun K "alike" "alike" s_alike ta_alike td_alike
  tg_alike : mg "alike" = some (.ref ta_alike)
  tb_alike : Binds K td_alike ["one", "other"] []
  ta_without : Addr
  td_without : FuncData
  tF_without : Fun K "without" "without" s_without ta_without td_without
  tg_without : mg "without" = some (.ref ta_without)
  tb_without : Binds K td_without ["asking", "place"] []
  ta_is_needless : Addr
  td_is_needless : FuncData
  tF_is_needless : Fun K "is_needless" "is_needless" s_is_needless ta_is_needless td_is_needless
  tg_is_needless : mg "is_needless" = some (.ref ta_is_needless)
  tb_is_needless : Binds K td_is_needless ["asking", "place"] []
  ta_needless : Addr
  td_needless : FuncData
  tF_needless : Fun K "needless" "needless" s_needless ta_needless td_needless
  tg_needless : mg "needless" = some (.ref ta_needless)
  tb_needless : Binds K td_needless ["asking", "place"] []
  ta_lean : Addr
  td_lean : FuncData
  tF_lean : Fun K "lean" "lean" s_lean ta_lean td_lean
  tg_lean : mg "lean" = some (.ref ta_lean)
  tb_lean : Binds K td_lean ["asking"] []
  ta_is_rule : Addr
  td_is_rule : FuncData
  tF_is_rule : Fun K "is_rule" "is_rule" s_is_rule ta_is_rule td_is_rule
  tg_is_rule : mg "is_rule" = some (.ref ta_is_rule)
  tb_is_rule : Binds K td_is_rule ["thing"] []
  ta_need_rules : Addr
  td_need_rules : FuncData
  tF_need_rules : Fun K "need_rules" "need_rules" s_need_rules ta_need_rules td_need_rules
  tg_need_rules : mg "need_rules" = some (.ref ta_need_rules)
  tb_need_rules : Binds K td_need_rules ["rules", "facts"] []
  ta_made_by : Addr
  td_made_by : FuncData
  tF_made_by : Fun K "made_by" "made_by" s_made_by ta_made_by td_made_by
  tg_made_by : mg "made_by" = some (.ref ta_made_by)
  tb_made_by : Binds K td_made_by ["rule", "facts"] []
  ta_steps_of : Addr
  td_steps_of : FuncData
  tF_steps_of : Fun K "steps_of" "steps_of" s_steps_of ta_steps_of td_steps_of
  tg_steps_of : mg "steps_of" = some (.ref ta_steps_of)
  tb_steps_of : Binds K td_steps_of ["rules", "facts"] []
  ta_comes : Addr
  td_comes : FuncData
  tF_comes : Fun K "comes" "comes" s_comes ta_comes td_comes
  tg_comes : mg "comes" = some (.ref ta_comes)
  tb_comes : Binds K td_comes ["rules", "book"] []
  ta_why : Addr
  td_why : FuncData
  tF_why : Fun K "why" "why" s_why ta_why td_why
  tg_why : mg "why" = some (.ref ta_why)
  tb_why : Binds K td_why ["rules", "book", "fact"] []
  ta_shared : Addr
  td_shared : FuncData
  tF_shared : Fun K "shared" "shared" s_shared ta_shared td_shared
  tg_shared : mg "shared" = some (.ref ta_shared)
  tb_shared : Binds K td_shared ["atoms", "left", "place"] []
  ta_above : Addr
  td_above : FuncData
  tF_above : Fun K "above" "above" s_above ta_above td_above
  tg_above : mg "above" = some (.ref ta_above)
  tb_above : Binds K td_above ["atoms", "left", "place"] []
  ta_taken_off : Addr
  td_taken_off : FuncData
  tF_taken_off : Fun K "taken_off" "taken_off" s_taken_off ta_taken_off td_taken_off
  tg_taken_off : mg "taken_off" = some (.ref ta_taken_off)
  tb_taken_off : Binds K td_taken_off ["atoms"] []
  ta_tree : Addr
  td_tree : FuncData
  tF_tree : Fun K "tree" "tree" s_tree ta_tree td_tree
  tg_tree : mg "tree" = some (.ref ta_tree)
  tb_tree : Binds K td_tree ["asking"] []
  ta_agree : Addr
  td_agree : FuncData
  tF_agree : Fun K "agree" "agree" s_agree ta_agree td_agree
  tg_agree : mg "agree" = some (.ref ta_agree)
  tb_agree : Binds K td_agree ["one", "other"] []
  ta_joined : Addr
  td_joined : FuncData
  tF_joined : Fun K "joined" "joined" s_joined ta_joined td_joined
  tg_joined : mg "joined" = some (.ref ta_joined)
  tb_joined : Binds K td_joined ["one", "other"] []
  ta_by_tree : Addr
  td_by_tree : FuncData
  tF_by_tree : Fun K "by_tree" "by_tree" s_by_tree ta_by_tree td_by_tree
  tg_by_tree : mg "by_tree" = some (.ref ta_by_tree)
  tb_by_tree : Binds K td_by_tree ["asking", "book"] []
  ta_l_cell_at : Addr
  td_l_cell_at : FuncData
  tF_l_cell_at : Fun K "_law_cell_at" "_law_cell_at" s_l_cell_at ta_l_cell_at td_l_cell_at
  tg_l_cell_at : mg "_law_cell_at" = some (.ref ta_l_cell_at)
  tb_l_cell_at : Binds K td_l_cell_at ["_law_script", "_law_k"] []
  ta_l_mixed : Addr
  td_l_mixed : FuncData
  tF_l_mixed : Fun K "_law_mixed" "_law_mixed" s_l_mixed ta_l_mixed td_l_mixed
  tg_l_mixed : mg "_law_mixed" = some (.ref ta_l_mixed)
  tb_l_mixed : Binds K td_l_mixed ["_law_script", "_law_k", "_law_many"] []
  ta_l_good : Addr
  td_l_good : FuncData
  tF_l_good : Fun K "_law_good" "_law_good" s_l_good ta_l_good td_l_good
  tg_l_good : mg "_law_good" = some (.ref ta_l_good)
  tb_l_good : Binds K td_l_good [] []
  ta_l_with_asking : Addr
  td_l_with_asking : FuncData
  tF_l_with_asking : Fun K "_law_with_asking" "_law_with_asking" s_l_with_asking ta_l_with_asking td_l_with_asking
  tg_l_with_asking : mg "_law_with_asking" = some (.ref ta_l_with_asking)
  tb_l_with_asking : Binds K td_l_with_asking ["_law_what", "_law_bad_here", "_law_beside"] []
  ta_l_with_book : Addr
  td_l_with_book : FuncData
  tF_l_with_book : Fun K "_law_with_book" "_law_with_book" s_l_with_book ta_l_with_book td_l_with_book
  tg_l_with_book : mg "_law_with_book" = some (.ref ta_l_with_book)
  tb_l_with_book : Binds K td_l_with_book ["_law_what", "_law_bad_here", "_law_beside"] []
  ta_l_with_rules : Addr
  td_l_with_rules : FuncData
  tF_l_with_rules : Fun K "_law_with_rules" "_law_with_rules" s_l_with_rules ta_l_with_rules td_l_with_rules
  tg_l_with_rules : mg "_law_with_rules" = some (.ref ta_l_with_rules)
  tb_l_with_rules : Binds K td_l_with_rules ["_law_what", "_law_bad_here"] []
  ta_l_asked : Addr
  td_l_asked : FuncData
  tF_l_asked : Fun K "_law_asked" "_law_asked" s_l_asked ta_l_asked td_l_asked
  tg_l_asked : mg "_law_asked" = some (.ref ta_l_asked)
  tb_l_asked : Binds K td_l_asked ["_law_kind_here", "_law_what", "_law_bad_here"] []
  ta_l_kind : Addr
  td_l_kind : FuncData
  tF_l_kind : Fun K "_law_kind" "_law_kind" s_l_kind ta_l_kind td_l_kind
  tg_l_kind : mg "_law_kind" = some (.ref ta_l_kind)
  tb_l_kind : Binds K td_l_kind ["_law_kind_here", "_law_what", "_law_bad_here"] []
  ta_l_bad : Addr
  td_l_bad : FuncData
  tF_l_bad : Fun K "_law_bad" "_law_bad" s_l_bad ta_l_bad td_l_bad
  tg_l_bad : mg "_law_bad" = some (.ref ta_l_bad)
  tb_l_bad : Binds K td_l_bad ["_law_kind_here", "_law_cell"] []
  ta_law : Addr
  td_law : FuncData
  tF_law : Fun K "law" "law" s_law ta_law td_law
  tg_law : mg "law" = some (.ref ta_law)
  tb_law : Binds K td_law ["_law_script"] []
  tm_ValueError : mg "ValueError" = none
  tm_all : mg "all" = none
  tm_any : mg "any" = none
  tm_bool : mg "bool" = none
  tm_dict : mg "dict" = none
  tm_int : mg "int" = none
  tm_isinstance : mg "isinstance" = none
  tm_len : mg "len" = none
  tm_list : mg "list" = none
  tm_max : mg "max" = none
  tm_range : mg "range" = none
  tm_reversed : mg "reversed" = none
  tm_set : mg "set" = none
  tm_sorted : mg "sorted" = none
  tm_str : mg "str" = none
  tm_tuple : mg "tuple" = none
  tm_zip : mg "zip" = none
  xa_NoAsking : Addr
  xg_NoAsking : mg "NoAsking" = some (.ref xa_NoAsking)
  xq_NoAsking : PySem.W.excIn K xa_NoAsking [.type "ValueError", .type "Exception", .type "BaseException", .type "object"] "ValueError.__new__" = true
  xk_NoAsking : PySem.W.keepIn K (.ref xa_NoAsking) = true
  xb_NoAsking : PySem.W.subIn K (.ref xa_NoAsking) (.type "BaseException") = some true
  xt_NoAsking : PySem.W.typeIn K (.ref xa_NoAsking) = some (.type "type")
  xa_NoBook : Addr
  xg_NoBook : mg "NoBook" = some (.ref xa_NoBook)
  xq_NoBook : PySem.W.excIn K xa_NoBook [.type "ValueError", .type "Exception", .type "BaseException", .type "object"] "ValueError.__new__" = true
  xk_NoBook : PySem.W.keepIn K (.ref xa_NoBook) = true
  xb_NoBook : PySem.W.subIn K (.ref xa_NoBook) (.type "BaseException") = some true
  xt_NoBook : PySem.W.typeIn K (.ref xa_NoBook) = some (.type "type")
  xa_NoRules : Addr
  xg_NoRules : mg "NoRules" = some (.ref xa_NoRules)
  xq_NoRules : PySem.W.excIn K xa_NoRules [.type "ValueError", .type "Exception", .type "BaseException", .type "object"] "ValueError.__new__" = true
  xk_NoRules : PySem.W.keepIn K (.ref xa_NoRules) = true
  xb_NoRules : PySem.W.subIn K (.ref xa_NoRules) (.type "BaseException") = some true
  xt_NoRules : PySem.W.typeIn K (.ref xa_NoRules) = some (.type "type")
  xa_NoTree : Addr
  xg_NoTree : mg "NoTree" = some (.ref xa_NoTree)
  xq_NoTree : PySem.W.excIn K xa_NoTree [.type "ValueError", .type "Exception", .type "BaseException", .type "object"] "ValueError.__new__" = true
  xk_NoTree : PySem.W.keepIn K (.ref xa_NoTree) = true
  xb_NoTree : PySem.W.subIn K (.ref xa_NoTree) (.type "BaseException") = some true
  xt_NoTree : PySem.W.typeIn K (.ref xa_NoTree) = some (.type "type")
  xa_Unlike : Addr
  xg_Unlike : mg "Unlike" = some (.ref xa_Unlike)
  xq_Unlike : PySem.W.excIn K xa_Unlike [.type "ValueError", .type "Exception", .type "BaseException", .type "object"] "ValueError.__new__" = true
  xk_Unlike : PySem.W.keepIn K (.ref xa_Unlike) = true
  xb_Unlike : PySem.W.subIn K (.ref xa_Unlike) (.type "BaseException") = some true
  xt_Unlike : PySem.W.typeIn K (.ref xa_Unlike) = some (.type "type")
  xa_AskError : Addr
  xg_AskError : mg "AskError" = some (.ref xa_AskError)
  xa_NoBonds : Addr
  xg_NoBonds : mg "NoBonds" = some (.ref xa_NoBonds)
  xa_NoColumns : Addr
  xg_NoColumns : mg "NoColumns" = some (.ref xa_NoColumns)
  xa_NoText : Addr
  xg_NoText : mg "NoText" = some (.ref xa_NoText)
  xe_NoAsking : ExcC K xa_NoAsking
  xe_NoBook : ExcC K xa_NoBook
  xe_NoRules : ExcC K xa_NoRules
  xe_NoTree : ExcC K xa_NoTree
  xe_Unlike : ExcC K xa_Unlike
  xi_NoAsking_ValueError : PySem.W.kitOne K (.ref xa_NoAsking) (.type "ValueError") = some true
  xi_NoBook_ValueError : PySem.W.kitOne K (.ref xa_NoBook) (.type "ValueError") = some true
  xi_NoRules_ValueError : PySem.W.kitOne K (.ref xa_NoRules) (.type "ValueError") = some true
  xi_NoTree_ValueError : PySem.W.kitOne K (.ref xa_NoTree) (.type "ValueError") = some true
  xi_Unlike_ValueError : PySem.W.kitOne K (.ref xa_Unlike) (.type "ValueError") = some true
  xo_NoAsking_NoAsking : PySem.W.kitOne K (.ref xa_NoAsking) (.ref xa_NoAsking) = some true
  xo_NoAsking_NoBonds : PySem.W.kitOne K (.ref xa_NoAsking) (.ref xa_NoBonds) = some false
  xo_NoAsking_NoBook : PySem.W.kitOne K (.ref xa_NoAsking) (.ref xa_NoBook) = some false
  xo_NoAsking_NoColumns : PySem.W.kitOne K (.ref xa_NoAsking) (.ref xa_NoColumns) = some false
  xo_NoAsking_NoRules : PySem.W.kitOne K (.ref xa_NoAsking) (.ref xa_NoRules) = some false
  xo_NoAsking_NoText : PySem.W.kitOne K (.ref xa_NoAsking) (.ref xa_NoText) = some false
  xo_NoAsking_NoTree : PySem.W.kitOne K (.ref xa_NoAsking) (.ref xa_NoTree) = some false
  xo_NoAsking_Unlike : PySem.W.kitOne K (.ref xa_NoAsking) (.ref xa_Unlike) = some false
  xo_NoBook_NoAsking : PySem.W.kitOne K (.ref xa_NoBook) (.ref xa_NoAsking) = some false
  xo_NoBook_NoBonds : PySem.W.kitOne K (.ref xa_NoBook) (.ref xa_NoBonds) = some false
  xo_NoBook_NoBook : PySem.W.kitOne K (.ref xa_NoBook) (.ref xa_NoBook) = some true
  xo_NoBook_NoColumns : PySem.W.kitOne K (.ref xa_NoBook) (.ref xa_NoColumns) = some false
  xo_NoBook_NoRules : PySem.W.kitOne K (.ref xa_NoBook) (.ref xa_NoRules) = some false
  xo_NoBook_NoText : PySem.W.kitOne K (.ref xa_NoBook) (.ref xa_NoText) = some false
  xo_NoBook_NoTree : PySem.W.kitOne K (.ref xa_NoBook) (.ref xa_NoTree) = some false
  xo_NoBook_Unlike : PySem.W.kitOne K (.ref xa_NoBook) (.ref xa_Unlike) = some false
  xo_NoRules_NoAsking : PySem.W.kitOne K (.ref xa_NoRules) (.ref xa_NoAsking) = some false
  xo_NoRules_NoBonds : PySem.W.kitOne K (.ref xa_NoRules) (.ref xa_NoBonds) = some false
  xo_NoRules_NoBook : PySem.W.kitOne K (.ref xa_NoRules) (.ref xa_NoBook) = some false
  xo_NoRules_NoColumns : PySem.W.kitOne K (.ref xa_NoRules) (.ref xa_NoColumns) = some false
  xo_NoRules_NoRules : PySem.W.kitOne K (.ref xa_NoRules) (.ref xa_NoRules) = some true
  xo_NoRules_NoText : PySem.W.kitOne K (.ref xa_NoRules) (.ref xa_NoText) = some false
  xo_NoRules_NoTree : PySem.W.kitOne K (.ref xa_NoRules) (.ref xa_NoTree) = some false
  xo_NoRules_Unlike : PySem.W.kitOne K (.ref xa_NoRules) (.ref xa_Unlike) = some false
  xo_NoTree_NoAsking : PySem.W.kitOne K (.ref xa_NoTree) (.ref xa_NoAsking) = some false
  xo_NoTree_NoBonds : PySem.W.kitOne K (.ref xa_NoTree) (.ref xa_NoBonds) = some false
  xo_NoTree_NoBook : PySem.W.kitOne K (.ref xa_NoTree) (.ref xa_NoBook) = some false
  xo_NoTree_NoColumns : PySem.W.kitOne K (.ref xa_NoTree) (.ref xa_NoColumns) = some false
  xo_NoTree_NoRules : PySem.W.kitOne K (.ref xa_NoTree) (.ref xa_NoRules) = some false
  xo_NoTree_NoText : PySem.W.kitOne K (.ref xa_NoTree) (.ref xa_NoText) = some false
  xo_NoTree_NoTree : PySem.W.kitOne K (.ref xa_NoTree) (.ref xa_NoTree) = some true
  xo_NoTree_Unlike : PySem.W.kitOne K (.ref xa_NoTree) (.ref xa_Unlike) = some false
  xo_Unlike_NoAsking : PySem.W.kitOne K (.ref xa_Unlike) (.ref xa_NoAsking) = some false
  xo_Unlike_NoBonds : PySem.W.kitOne K (.ref xa_Unlike) (.ref xa_NoBonds) = some false
  xo_Unlike_NoBook : PySem.W.kitOne K (.ref xa_Unlike) (.ref xa_NoBook) = some false
  xo_Unlike_NoColumns : PySem.W.kitOne K (.ref xa_Unlike) (.ref xa_NoColumns) = some false
  xo_Unlike_NoRules : PySem.W.kitOne K (.ref xa_Unlike) (.ref xa_NoRules) = some false
  xo_Unlike_NoText : PySem.W.kitOne K (.ref xa_Unlike) (.ref xa_NoText) = some false
  xo_Unlike_NoTree : PySem.W.kitOne K (.ref xa_Unlike) (.ref xa_NoTree) = some false
  xo_Unlike_Unlike : PySem.W.kitOne K (.ref xa_Unlike) (.ref xa_Unlike) = some true
  xm_NoAsking_AskError : PySem.W.exmOne K (.ref xa_NoAsking) (.ref xa_AskError) = some true
  xm_NoBook_AskError : PySem.W.exmOne K (.ref xa_NoBook) (.ref xa_AskError) = some true
  xm_NoRules_AskError : PySem.W.exmOne K (.ref xa_NoRules) (.ref xa_AskError) = some true
  xm_NoTree_AskError : PySem.W.exmOne K (.ref xa_NoTree) (.ref xa_AskError) = some true
  xm_Unlike_AskError : PySem.W.exmOne K (.ref xa_Unlike) (.ref xa_AskError) = some true
  tt_LETTERS : Nat
  tc_LETTERS : mg "LETTERS" = some (.str (PySem.Str.ofString "abcdefghijklmnopqrstuvwxyz") tt_LETTERS)
theorem cv_of {mg : Str → Option Value} {x : Str} {a : Addr} (h : mg x = some (.ref a)) : cvOf mg x = .ref a := by unfold cvOf; rw [h]; rfl
variable [WCx] [NW w]
variable (T : Txt K mg)
theorem Txt.ok_is_whole : FnOk P w K mg base (L2.CX P w) 1 T.ta_is_whole T.td_is_whole ["thing"] (spD K (cvOf mg) 1 f_is_whole) :=
  fn_ok (k := 0) (n := 1) (m := 1) (own := []) (t := b_is_whole) T.tF_is_whole sc_is_whole fun cdv A outer s H B E tab nb hce hr =>
  (dss_one (ds_ret (de_and (de_loan (de_isa (T := "int") (de_varB 0) (by decide) T.tm_isinstance T.tm_int (by decide +kernel))) (de_one (de_not (de_loan (de_isa (T := "bool") (de_varB 0) (by decide) T.tm_isinstance T.tm_bool (by decide +kernel))))))))
theorem Txt.ok_is_name : FnOk P w K mg base (L2.CX P w) 1 T.ta_is_name T.td_is_name ["thing"] (spD K (cvOf mg) 1 f_is_name) :=
  fn_ok (k := 0) (n := 2) (m := 1) (own := []) (t := b_is_name) T.tF_is_name sc_is_name fun cdv A outer s H B E tab nb hce hr =>
  (dss_cons (ds_if (o2 := []) (dt_w (dw_or (dt_not (dt_val (de_loan (de_isa (T := "str") (de_varB 0) (by decide) T.tm_isinstance T.tm_str (by decide +kernel))))) (dw_or (dt_cmpr (op_ltP hr.units) opd_datP (de_loan (de_len (de_varB 0) T.tm_len)) (de_loan de_int)) (dw_or1 (dt_cmpr (op_gtP hr.units) opd_datP (de_loan (de_len (de_varB 0) T.tm_len)) (de_loan de_int))))))
 (dss_one (ds_ret de_bl))
 dss_nil)
 (dss_cons (ds_for (own := []) (passes_of rfl) rfl (di_seq (de_var 0)) (dg_name 1 sc_is_name.nd)
 (dss_one (ds_if (o2 := []) (dt_cmpr op_tnin opd_tnin (de_varB 1) (de_loan (de_glob T.tc_LETTERS (by exact ⟨_, rfl⟩) (fun _ _ => Rep.str _))))
 (dss_one (ds_ret de_bl))
 dss_nil)))
 (dss_one (ds_ret de_bl))))
theorem Txt.ok_is_term : FnOk P w K mg base (L2.CX P w) 2 T.ta_is_term T.td_is_term ["thing"] (spD K (cvOf mg) 1 f_is_term) :=
  fn_ok (k := 1) (n := 1) (m := 1) (own := []) (t := b_is_term) T.tF_is_term sc_is_term fun cdv A outer s H B E tab nb hce hr =>
  (dss_one (ds_ret (de_or (de_loan (de_call (n := 1) (T.ok_is_whole (w := w)) (hr.mono (by decide)) T.tg_is_whole T.tF_is_whole.kp T.tb_is_whole (takes_of rfl rfl rfl rfl) (da_cons (de_var 0) da_nil) (lenC lenN))) (de_one (de_call (n := 1) (T.ok_is_name (w := w)) (hr.mono (by decide)) T.tg_is_name T.tF_is_name.kp T.tb_is_name (takes_of rfl rfl rfl rfl) (da_cons (de_var 0) da_nil) (lenC lenN))))))
theorem Txt.ok_is_fact : FnOk P w K mg base (L2.CX P w) 2 T.ta_is_fact T.td_is_fact ["thing"] (spD K (cvOf mg) 1 f_is_fact) :=
  fn_ok (k := 1) (n := 2) (m := 1) (own := []) (t := b_is_fact) T.tF_is_fact sc_is_fact fun cdv A outer s H B E tab nb hce hr =>
  (dss_cons (ds_if (o2 := []) (dt_w (dw_or (dt_not (dt_val (de_loan (de_isa (T := "tuple") (de_varB 0) (by decide) T.tm_isinstance T.tm_tuple (by decide +kernel))))) (dw_or (dt_cmpr (op_neP hr.units) opd_datP (de_loan (de_len (de_varB 0) T.tm_len)) (de_loan de_int)) (dw_or1 (dt_not (dt_val (de_loan (de_call (n := 1) (T.ok_is_name (w := w)) (hr.mono (by decide)) T.tg_is_name T.tF_is_name.kp T.tb_is_name (takes_of rfl rfl rfl rfl) (da_cons (de_ix (de_varB 0) (de_loan de_int)) da_nil) (lenC lenN)))))))))
 (dss_one (ds_ret de_bl))
 dss_nil)
 (dss_cons (ds_if (o2 := []) (dt_w (dw_or (dt_not (dt_val (de_loan (de_isa (T := "tuple") (de_loan (de_ix (de_varB 0) (de_loan de_int))) (by decide) T.tm_isinstance T.tm_tuple (by decide +kernel))))) (dw_or (dt_cmpr (op_ltP hr.units) opd_datP (de_loan (de_len (de_loan (de_ix (de_varB 0) (de_loan de_int))) T.tm_len)) (de_loan de_int)) (dw_or1 (dt_cmpr (op_gtP hr.units) opd_datP (de_loan (de_len (de_loan (de_ix (de_varB 0) (de_loan de_int))) T.tm_len)) (de_loan de_int))))))
 (dss_one (ds_ret de_bl))
 dss_nil)
 (dss_one (ds_ret (de_all rfl (de_loan (de_comp [("value", 1)] rfl sc_is_fact.nd (dib_seq (de_loan (de_ix (de_varB 0) (de_loan de_int)))) (blkOk_by (N := n_is_fact) (sc := defScope s_is_fact) (by decide +kernel)) (fun _ _ _ _ _ => (dg_name 1 sc_is_fact.nd)) (fun _ _ _ _ _ => dts_nil) (fun _ _ _ _ _ => (de_call (n := 1) (T.ok_is_whole (w := w)) (hr.mono (by decide)) T.tg_is_whole T.tF_is_whole.kp T.tb_is_whole takes_quiet (da_cons (de_var 1) da_nil) (lenC lenN))))) T.tm_all)))))
theorem Txt.ok_is_atom : FnOk P w K mg base (L2.CX P w) 3 T.ta_is_atom T.td_is_atom ["thing"] (spD K (cvOf mg) 1 f_is_atom) :=
  fn_ok (k := 2) (n := 2) (m := 1) (own := []) (t := b_is_atom) T.tF_is_atom sc_is_atom fun cdv A outer s H B E tab nb hce hr =>
  (dss_cons (ds_if (o2 := []) (dt_w (dw_or (dt_not (dt_val (de_loan (de_isa (T := "tuple") (de_varB 0) (by decide) T.tm_isinstance T.tm_tuple (by decide +kernel))))) (dw_or (dt_cmpr (op_neP hr.units) opd_datP (de_loan (de_len (de_varB 0) T.tm_len)) (de_loan de_int)) (dw_or1 (dt_not (dt_val (de_loan (de_call (n := 1) (T.ok_is_name (w := w)) (hr.mono (by decide)) T.tg_is_name T.tF_is_name.kp T.tb_is_name (takes_of rfl rfl rfl rfl) (da_cons (de_ix (de_varB 0) (de_loan de_int)) da_nil) (lenC lenN)))))))))
 (dss_one (ds_ret de_bl))
 dss_nil)
 (dss_cons (ds_if (o2 := []) (dt_w (dw_or (dt_not (dt_val (de_loan (de_isa (T := "tuple") (de_loan (de_ix (de_varB 0) (de_loan de_int))) (by decide) T.tm_isinstance T.tm_tuple (by decide +kernel))))) (dw_or (dt_cmpr (op_ltP hr.units) opd_datP (de_loan (de_len (de_loan (de_ix (de_varB 0) (de_loan de_int))) T.tm_len)) (de_loan de_int)) (dw_or1 (dt_cmpr (op_gtP hr.units) opd_datP (de_loan (de_len (de_loan (de_ix (de_varB 0) (de_loan de_int))) T.tm_len)) (de_loan de_int))))))
 (dss_one (ds_ret de_bl))
 dss_nil)
 (dss_one (ds_ret (de_all rfl (de_loan (de_comp [("term", 1)] rfl sc_is_atom.nd (dib_seq (de_loan (de_ix (de_varB 0) (de_loan de_int)))) (blkOk_by (N := n_is_atom) (sc := defScope s_is_atom) (by decide +kernel)) (fun _ _ _ _ _ => (dg_name 1 sc_is_atom.nd)) (fun _ _ _ _ _ => dts_nil) (fun _ _ _ _ _ => (de_call (n := 1) (T.ok_is_term (w := w)) (hr.mono (by decide)) T.tg_is_term T.tF_is_term.kp T.tb_is_term takes_quiet (da_cons (de_var 1) da_nil) (lenC lenN))))) T.tm_all)))))
theorem Txt.ok_alike_long : FnOk P w K mg base (L2.CX P w) 1 T.ta_alike_long T.td_alike_long ["rows"] (spD K (cvOf mg) 1 f_alike_long) :=
  fn_ok (k := 0) (n := 4) (m := 1) (own := [1]) (t := b_alike_long) T.tF_alike_long sc_alike_long fun cdv A outer s H B E tab nb hce hr =>
  (dss_cons (ds_setO 1 sc_alike_long.nd de_dK)
 (dss_cons (ds_for (own := [1]) (passes_of rfl) rfl (di_seq (de_var 0)) (dg_tup rfl (dgs_cons (dg_name 2 sc_alike_long.nd) (dgs_cons (dg_name 3 sc_alike_long.nd) dgs_nil)))
 (dss_one (ds_setdIf (o2 := [1]) 1 hr.units (de_var 2) (de_len (de_varB 3) T.tm_len) (de_loan (de_len (de_varB 3) T.tm_len))
 (dss_one (ds_ret de_bl))
 dss_nil)))
 (dss_one (ds_ret de_bl))))
theorem Txt.ok_are_facts : FnOk P w K mg base (L2.CX P w) 3 T.ta_are_facts T.td_are_facts ["thing"] (spD K (cvOf mg) 1 f_are_facts) :=
  fn_ok (k := 2) (n := 2) (m := 1) (own := []) (t := b_are_facts) T.tF_are_facts sc_are_facts fun cdv A outer s H B E tab nb hce hr =>
  (dss_cons (ds_if (o2 := []) (dt_not (dt_val (de_loan (de_isa (T := "list") (de_varB 0) (by decide) T.tm_isinstance T.tm_list (by decide +kernel)))))
 (dss_one (ds_ret de_bl))
 dss_nil)
 (dss_cons (ds_for (own := []) (passes_of rfl) rfl (di_range1 (de_len (de_varB 0) T.tm_len) T.tm_range) (dg_name 1 sc_are_facts.nd)
 (dss_one (ds_if (o2 := []) (dt_w (dw_or (dt_not (dt_val (de_loan (de_call (n := 1) (T.ok_is_fact (w := w)) (hr.mono (by decide)) T.tg_is_fact T.tF_is_fact.kp T.tb_is_fact (takes_of rfl rfl rfl rfl) (da_cons (de_ix (de_varB 0) (de_varB 1)) da_nil) (lenC lenN))))) (dw_or1 (dt_w (dw_and (dt_cmpr (op_gtP hr.units) opd_datP (de_varB 1) (de_loan de_int)) (dw_and1 (dt_cmpr (op_leP hr.units) opd_datP (de_loan (de_ix (de_varB 0) (de_varB 1))) (de_loan (de_ix (de_varB 0) (de_loan (de_sub (de_varB 1) (de_loan de_int))))))))))))
 (dss_one (ds_ret de_bl))
 dss_nil)))
 (dss_one (ds_ret de_bl))))
theorem Txt.ok_checked_book : FnOk P w K mg base (L2.CX P w) 4 T.ta_checked_book T.td_checked_book ["book"] (spD K (cvOf mg) 1 f_checked_book) :=
  fn_ok (k := 3) (n := 1) (m := 1) (own := []) (t := b_checked_book) T.tF_checked_book sc_checked_book fun cdv A outer s H B E tab nb hce hr =>
  (dss_cons (ds_if (o2 := []) (dt_w (dw_or (dt_not (dt_val (de_loan (de_call (n := 1) (T.ok_are_facts (w := w)) (hr.mono (by decide)) T.tg_are_facts T.tF_are_facts.kp T.tb_are_facts (takes_of rfl rfl rfl rfl) (da_cons (de_var 0) da_nil) (lenC lenN))))) (dw_or1 (dt_not (dt_val (de_loan (de_call (n := 1) (T.ok_alike_long (w := w)) (hr.mono (by decide)) T.tg_alike_long T.tF_alike_long.kp T.tb_alike_long (takes_of rfl rfl rfl rfl) (da_cons (de_var 0) da_nil) (lenC lenN))))))))
 (dss_one (ds_raise PySem.F.excBase_ValueError T.xq_NoBook T.xg_NoBook T.xk_NoBook (raises_own T.xb_NoBook T.xt_NoBook) (cv_of T.xg_NoBook) (takes_of rfl rfl rfl rfl)))
 dss_nil)
 (dss_one (ds_ret (de_frz (de_lstOf (de_varB 0) T.tm_list)))))
theorem Txt.ok_are_atoms : FnOk P w K mg base (L2.CX P w) 4 T.ta_are_atoms T.td_are_atoms ["thing", "least", "most"] (spD K (cvOf mg) 3 f_are_atoms) :=
  fn_ok (k := 3) (n := 4) (m := 3) (own := []) (t := b_are_atoms) T.tF_are_atoms sc_are_atoms fun cdv A outer s H B E tab nb hce hr =>
  (dss_cons (ds_if (o2 := []) (dt_w (dw_or (dt_not (dt_val (de_loan (de_isa (T := "tuple") (de_varB 0) (by decide) T.tm_isinstance T.tm_tuple (by decide +kernel))))) (dw_or (dt_cmpr (op_ltP hr.units) opd_datP (de_loan (de_len (de_varB 0) T.tm_len)) (de_varB 1)) (dw_or1 (dt_cmpr (op_gtP hr.units) opd_datP (de_loan (de_len (de_varB 0) T.tm_len)) (de_varB 2))))))
 (dss_one (ds_ret de_bl))
 dss_nil)
 (dss_one (ds_ret (de_and (de_loan (de_all rfl (de_loan (de_comp [("atom", 3)] rfl sc_are_atoms.nd (dib_seq (de_varB 0)) (blkOk_by (N := n_are_atoms) (sc := defScope s_are_atoms) (by decide +kernel)) (fun _ _ _ _ _ => (dg_name 3 sc_are_atoms.nd)) (fun _ _ _ _ _ => dts_nil) (fun _ _ _ _ _ => (de_call (n := 1) (T.ok_is_atom (w := w)) (hr.mono (by decide)) T.tg_is_atom T.tF_is_atom.kp T.tb_is_atom takes_quiet (da_cons (de_var 3) da_nil) (lenC lenN))))) T.tm_all)) (de_one (de_call (n := 1) (T.ok_alike_long (w := w)) (hr.mono (by decide)) T.tg_alike_long T.tF_alike_long.kp T.tb_alike_long (takes_of rfl rfl rfl rfl) (da_cons (de_var 0) da_nil) (lenC lenN)))))))
theorem Txt.ok_stand_ins : FnOk P w K mg base (L2.CX P w) 1 T.ta_stand_ins T.td_stand_ins ["atoms"] (spD K (cvOf mg) 1 f_stand_ins) :=
  fn_ok (k := 0) (n := 4) (m := 1) (own := [1]) (t := b_stand_ins) T.tF_stand_ins sc_stand_ins fun cdv A outer s H B E tab nb hce hr =>
  (dss_cons (ds_setO 1 sc_stand_ins.nd de_dK)
 (dss_cons (ds_for (own := [1]) (passes_of rfl) rfl (di_seq (de_var 0)) (dg_name 2 sc_stand_ins.nd)
 (dss_one (ds_for (own := [1]) (passes_of rfl) rfl (di_seq (de_ix (de_varB 2) (de_loan de_int))) (dg_name 3 sc_stand_ins.nd)
 (dss_one (ds_if (o2 := [1]) (dt_val (de_loan (de_isa (T := "str") (de_varB 3) (by decide) T.tm_isinstance T.tm_str (by decide +kernel))))
 (dss_one (ds_dput 1 hr.units (de_var 3) de_bl))
 dss_nil)))))
 (dss_one (ds_ret (de_frz (de_lstK rfl (de_varB 1) T.tm_list))))))
theorem Txt.ok_is_asking : FnOk P w K mg base (L2.CX P w) 5 T.ta_is_asking T.td_is_asking ["thing"] (spD K (cvOf mg) 1 f_is_asking) :=
  fn_ok (k := 4) (n := 3) (m := 1) (own := []) (t := b_is_asking) T.tF_is_asking sc_is_asking fun cdv A outer s H B E tab nb hce hr =>
  (dss_cons (ds_if (o2 := []) (dt_w (dw_or (dt_not (dt_val (de_loan (de_isa (T := "tuple") (de_varB 0) (by decide) T.tm_isinstance T.tm_tuple (by decide +kernel))))) (dw_or (dt_cmpr (op_neP hr.units) opd_datP (de_loan (de_len (de_varB 0) T.tm_len)) (de_loan de_int)) (dw_or (dt_not (dt_val (de_loan (de_isa (T := "tuple") (de_loan (de_ix (de_varB 0) (de_loan de_int))) (by decide) T.tm_isinstance T.tm_tuple (by decide +kernel))))) (dw_or1 (dt_cmpr (op_gtP hr.units) opd_datP (de_loan (de_len (de_loan (de_ix (de_varB 0) (de_loan de_int))) T.tm_len)) (de_loan de_int)))))))
 (dss_one (ds_ret de_bl))
 dss_nil)
 (dss_cons (ds_if (o2 := []) (dt_w (dw_or (dt_not (dt_val (de_loan (de_all rfl (de_loan (de_comp [("term", 1)] rfl sc_is_asking.nd (dib_seq (de_loan (de_ix (de_varB 0) (de_loan de_int)))) (blkOk_by (N := n_is_asking) (sc := defScope s_is_asking) (by decide +kernel)) (fun _ _ _ _ _ => (dg_name 1 sc_is_asking.nd)) (fun _ _ _ _ _ => dts_nil) (fun _ _ _ _ _ => (de_call (n := 1) (T.ok_is_term (w := w)) (hr.mono (by decide)) T.tg_is_term T.tF_is_term.kp T.tb_is_term takes_quiet (da_cons (de_var 1) da_nil) (lenC lenN))))) T.tm_all)))) (dw_or1 (dt_not (dt_val (de_loan (de_call (n := 3) (T.ok_are_atoms (w := w)) (hr.mono (by decide)) T.tg_are_atoms T.tF_are_atoms.kp T.tb_are_atoms (takes_of rfl rfl rfl rfl) (da_cons (de_ix (de_varB 0) (de_loan de_int)) (da_cons de_int (da_cons de_int da_nil))) (lenC (lenC (lenC lenN))))))))))
 (dss_one (ds_ret de_bl))
 dss_nil)
 (dss_cons (ds_set 2 sc_is_asking.nd (de_call (n := 1) (T.ok_stand_ins (w := w)) (hr.mono (by decide)) T.tg_stand_ins T.tF_stand_ins.kp T.tb_stand_ins (takes_of rfl rfl rfl rfl) (da_cons (de_ix (de_varB 0) (de_loan de_int)) da_nil) (lenC lenN)))
 (dss_one (ds_ret (de_all rfl (de_loan (de_comp [("term", 1)] rfl sc_is_asking.nd (dib_seq (de_loan (de_ix (de_varB 0) (de_loan de_int)))) (blkOk_by (N := n_is_asking) (sc := defScope s_is_asking) (by decide +kernel)) (fun _ _ _ _ _ => (dg_name 1 sc_is_asking.nd)) (fun _ _ _ _ _ => dts_nil) (fun _ _ _ _ _ => (de_or (de_loan (de_call (n := 1) (T.ok_is_whole (w := w)) (hr.mono (by decide)) T.tg_is_whole T.tF_is_whole.kp T.tb_is_whole takes_quiet (da_cons (de_var 1) da_nil) (lenC lenN))) (de_one (de_cmp (op_inP hr.units) opd_datP (de_varB 1) (de_varB 2))))))) T.tm_all))))))
theorem Txt.ok_checked_asking : FnOk P w K mg base (L2.CX P w) 6 T.ta_checked_asking T.td_checked_asking ["asking"] (spD K (cvOf mg) 1 f_checked_asking) :=
  fn_ok (k := 5) (n := 1) (m := 1) (own := []) (t := b_checked_asking) T.tF_checked_asking sc_checked_asking fun cdv A outer s H B E tab nb hce hr =>
  (dss_cons (ds_if (o2 := []) (dt_not (dt_val (de_loan (de_call (n := 1) (T.ok_is_asking (w := w)) (hr.mono (by decide)) T.tg_is_asking T.tF_is_asking.kp T.tb_is_asking (takes_of rfl rfl rfl rfl) (da_cons (de_var 0) da_nil) (lenC lenN)))))
 (dss_one (ds_raise PySem.F.excBase_ValueError T.xq_NoAsking T.xg_NoAsking T.xk_NoAsking (raises_own T.xb_NoAsking T.xt_NoAsking) (cv_of T.xg_NoAsking) (takes_of rfl rfl rfl rfl)))
 dss_nil)
 (dss_one (ds_ret (de_var 0))))
theorem Txt.ok_fitted : FnOk P w K mg base (L2.CX P w) 1 T.ta_fitted T.td_fitted ["given", "terms", "values"] (spD K (cvOf mg) 3 f_fitted) :=
  fn_ok (k := 0) (n := 6) (m := 3) (own := []) (t := b_fitted) T.tF_fitted sc_fitted fun cdv A outer s H B E tab nb hce hr =>
  (dss_cons (ds_setO 3 sc_fitted.nd (de_dictOf (de_varB 0) T.tm_dict))
 (dss_cons (ds_for (own := [3]) (passes_of rfl) rfl (di_zip (de_var 1) (de_var 2) T.tm_zip) (dg_tup rfl (dgs_cons (dg_name 4 sc_fitted.nd) (dgs_cons (dg_name 5 sc_fitted.nd) dgs_nil)))
 (dss_one (ds_if (o2 := [3]) (dt_val (de_loan (de_isa (T := "str") (de_varB 4) (by decide) T.tm_isinstance T.tm_str (by decide +kernel))))
 (dss_one (ds_setdIf (o2 := [3]) 3 hr.units (de_var 4) (de_var 5) (de_varB 5)
 (dss_one (ds_ret de_non))
 dss_nil))
 (dss_one (ds_if (o2 := [3]) (dt_cmpr (op_neP hr.units) opd_datP (de_varB 4) (de_varB 5))
 (dss_one (ds_ret de_non))
 dss_nil)))))
 (dss_one (ds_weak (o2 := []) (ds_ret (de_var 3)) (by decide)))))
theorem Txt.ok_all_fitted : FnOk P w K mg base (L2.CX P w) 2 T.ta_all_fitted T.td_all_fitted ["atoms", "facts"] (spD K (cvOf mg) 2 f_all_fitted) :=
  fn_ok (k := 1) (n := 10) (m := 2) (own := []) (t := b_all_fitted) T.tF_all_fitted sc_all_fitted fun cdv A outer s H B E tab nb hce hr =>
  (dss_cons (ds_set 2 sc_all_fitted.nd (de_frz (de_lst (da_cons (de_frz de_dK) da_nil))))
 (dss_cons (ds_for (own := []) (passes_of rfl) rfl (di_seq (de_var 0)) (dg_tup rfl (dgs_cons (dg_name 3 sc_all_fitted.nd) (dgs_cons (dg_name 4 sc_all_fitted.nd) dgs_nil)))
 (dss_cons (ds_setO 5 sc_all_fitted.nd (de_lst da_nil))
 (dss_cons (ds_for (own := [5]) (passes_of rfl) rfl (di_seq (de_var 2)) (dg_name 6 sc_all_fitted.nd)
 (dss_one (ds_for (own := [5]) (passes_of rfl) rfl (di_seq (de_var 1)) (dg_tup rfl (dgs_cons (dg_name 7 sc_all_fitted.nd) (dgs_cons (dg_name 8 sc_all_fitted.nd) dgs_nil)))
 (dss_one (ds_if (o2 := [5]) (dt_w (dw_and (dt_cmpr (op_eqP hr.units) opd_datP (de_varB 3) (de_varB 7)) (dw_and1 (dt_cmpr (op_eqP hr.units) opd_datP (de_loan (de_len (de_varB 4) T.tm_len)) (de_loan (de_len (de_varB 8) T.tm_len))))))
 (dss_cons (ds_set 9 sc_all_fitted.nd (de_call (n := 3) (T.ok_fitted (w := w)) (hr.mono (by decide)) T.tg_fitted T.tF_fitted.kp T.tb_fitted (takes_of rfl rfl rfl rfl) (da_cons (de_var 6) (da_cons (de_var 4) (da_cons (de_var 8) da_nil))) (lenC (lenC (lenC lenN)))))
 (dss_one (ds_if (o2 := [5]) (dt_cmpr op_notN opd_notN (de_varB 9) (de_loan de_non))
 (dss_one (ds_append 5 (de_var 9)))
 dss_nil)))
 dss_nil)))))
 (dss_one (ds_weak (o2 := []) (ds_set 2 sc_all_fitted.nd (de_var 5)) (by decide))))))
 (dss_one (ds_ret (de_var 2)))))
theorem Txt.ok_put : FnOk P w K mg base (L2.CX P w) 1 T.ta_put T.td_put ["given", "terms"] (spD K (cvOf mg) 2 f_put) :=
  fn_ok (k := 0) (n := 3) (m := 2) (own := []) (t := b_put) T.tF_put sc_put fun cdv A outer s H B E tab nb hce hr =>
  (dss_one (ds_ret (de_tupOf (de_loan (de_comp [("term", 2)] rfl sc_put.nd (dib_seq (de_varB 1)) (blkOk_by (N := n_put) (sc := defScope s_put) (by decide +kernel)) (fun _ _ _ _ _ => (dg_name 2 sc_put.nd)) (fun _ _ _ _ _ => dts_nil) (fun _ _ _ _ _ => (de_get2 hr.units (de_varB 0) (de_var 2) (de_var 2))))) T.tm_tuple)))
theorem Txt.ok_answers : FnOk P w K mg base (L2.CX P w) 7 T.ta_answers T.td_answers ["asking", "book"] (spD K (cvOf mg) 2 f_answers) :=
  fn_ok (k := 6) (n := 3) (m := 2) (own := []) (t := b_answers) T.tF_answers sc_answers fun cdv A outer s H B E tab nb hce hr =>
  (dss_cons (ds_expr (de_call (n := 1) (T.ok_checked_asking (w := w)) (hr.mono (by decide)) T.tg_checked_asking T.tF_checked_asking.kp T.tb_checked_asking (takes_of rfl rfl rfl rfl) (da_cons (de_var 0) da_nil) (lenC lenN)))
 (dss_cons (ds_expr (de_call (n := 1) (T.ok_checked_book (w := w)) (hr.mono (by decide)) T.tg_checked_book T.tF_checked_book.kp T.tb_checked_book (takes_of rfl rfl rfl rfl) (da_cons (de_var 1) da_nil) (lenC lenN)))
 (dss_one (ds_ret (de_frz (de_sortSetA rfl (units66 hr) (de_loan (de_comp [("given", 2)] rfl sc_answers.nd (dib_seq (de_loan (de_call (n := 2) (T.ok_all_fitted (w := w)) (hr.mono (by decide)) T.tg_all_fitted T.tF_all_fitted.kp T.tb_all_fitted (takes_of rfl rfl rfl rfl) (da_cons (de_ix (de_varB 0) (de_loan de_int)) (da_cons (de_var 1) da_nil)) (lenC (lenC lenN))))) (blkOk_by (N := n_answers) (sc := defScope s_answers) (by decide +kernel)) (fun _ _ _ _ _ => (dg_name 2 sc_answers.nd)) (fun _ _ _ _ _ => dts_nil) (fun _ _ _ _ _ => (de_call (n := 2) (T.ok_put (w := w)) (hr.mono (by decide)) T.tg_put T.tF_put.kp T.tb_put takes_quiet (da_cons (de_var 2) (da_cons (de_ix (de_varB 0) (de_loan de_int)) da_nil)) (lenC (lenC lenN)))))) T.tm_sorted T.tm_set))))))
theorem Txt.ok_ways : FnOk P w K mg base (L2.CX P w) 3 T.ta_ways T.td_ways ["one", "other"] (spD K (cvOf mg) 2 f_ways) :=
  fn_ok (k := 2) (n := 3) (m := 2) (own := []) (t := b_ways) T.tF_ways sc_ways fun cdv A outer s H B E tab nb hce hr =>
  (dss_one (ds_ret (de_frz (de_comp [("given", 2)] rfl sc_ways.nd (dib_seq (de_loan (de_call (n := 2) (T.ok_all_fitted (w := w)) (hr.mono (by decide)) T.tg_all_fitted T.tF_all_fitted.kp T.tb_all_fitted (takes_of rfl rfl rfl rfl) (da_cons (de_ix (de_varB 1) (de_loan de_int)) (da_cons (de_ix (de_varB 0) (de_loan de_int)) da_nil)) (lenC (lenC lenN))))) (blkOk_by (N := n_ways) (sc := defScope s_ways) (by decide +kernel)) (fun _ _ _ _ _ => (dg_name 2 sc_ways.nd)) (fun _ _ _ _ _ => (dts_one (dt_cmpr (op_eqP hr.units) opd_datP (de_loan (de_call (n := 2) (T.ok_put (w := w)) (hr.mono (by decide)) T.tg_put T.tF_put.kp T.tb_put takes_quiet (da_cons (de_var 2) (da_cons (de_ix (de_varB 1) (de_loan de_int)) da_nil)) (lenC (lenC lenN)))) (de_loan (de_ix (de_varB 0) (de_loan de_int)))))) (fun _ _ _ _ _ => (de_var 2))))))
theorem Txt.ok_need_two : FnOk P w K mg base (L2.CX P w) 7 T.ta_need_two T.td_need_two ["one", "other"] (spD K (cvOf mg) 2 f_need_two) :=
  fn_ok (k := 6) (n := 2) (m := 2) (own := []) (t := b_need_two) T.tF_need_two sc_need_two fun cdv A outer s H B E tab nb hce hr =>
  (dss_cons (ds_expr (de_call (n := 1) (T.ok_checked_asking (w := w)) (hr.mono (by decide)) T.tg_checked_asking T.tF_checked_asking.kp T.tb_checked_asking (takes_of rfl rfl rfl rfl) (da_cons (de_var 0) da_nil) (lenC lenN)))
 (dss_cons (ds_expr (de_call (n := 1) (T.ok_checked_asking (w := w)) (hr.mono (by decide)) T.tg_checked_asking T.tF_checked_asking.kp T.tb_checked_asking (takes_of rfl rfl rfl rfl) (da_cons (de_var 1) da_nil) (lenC lenN)))
 (dss_one (ds_if (o2 := []) (dt_cmpr (op_neP hr.units) opd_datP (de_loan (de_len (de_loan (de_ix (de_varB 0) (de_loan de_int))) T.tm_len)) (de_loan (de_len (de_loan (de_ix (de_varB 1) (de_loan de_int))) T.tm_len)))
 (dss_one (ds_raise PySem.F.excBase_ValueError T.xq_Unlike T.xg_Unlike T.xk_Unlike (raises_own T.xb_Unlike T.xt_Unlike) (cv_of T.xg_Unlike) (takes_of rfl rfl rfl rfl)))
 dss_nil))))
theorem Txt.ok_numbers_in : FnOk P w K mg base (L2.CX P w) 1 T.ta_numbers_in T.td_numbers_in ["asking"] (spD K (cvOf mg) 1 f_numbers_in) :=
  fn_ok (k := 0) (n := 4) (m := 1) (own := []) (t := b_numbers_in) T.tF_numbers_in sc_numbers_in fun cdv A outer s H B E tab nb hce hr =>
  (dss_cons (ds_setCO 1 [("term", 2)] rfl sc_numbers_in.nd (dib_seq (de_loan (de_ix (de_varB 0) (de_loan de_int)))) (blkOk_by (N := n_numbers_in) (sc := defScope s_numbers_in) (by decide +kernel)) (fun _ _ _ _ _ => (dg_name 2 sc_numbers_in.nd)) (fun _ _ _ _ _ => (dts_one (dt_not (dt_val (de_loan (de_isa (T := "str") (de_varB 2) (by decide) T.tm_isinstance T.tm_str (by decide +kernel))))))) (fun _ _ _ _ _ => (de_var 2)))
 (dss_cons (ds_for (own := [1]) (passes_of rfl) rfl (di_seq (de_ix (de_varB 0) (de_loan de_int))) (dg_name 3 sc_numbers_in.nd)
 (dss_one (ds_extend 1 (de_frz (de_comp [("term", 2)] rfl sc_numbers_in.nd (dib_seq (de_loan (de_ix (de_varB 3) (de_loan de_int)))) (blkOk_by (N := n_numbers_in) (sc := defScope s_numbers_in) (by decide +kernel)) (fun _ _ _ _ _ => (dg_name 2 sc_numbers_in.nd)) (fun _ _ _ _ _ => (dts_one (dt_not (dt_val (de_loan (de_isa (T := "str") (de_varB 2) (by decide) T.tm_isinstance T.tm_str (by decide +kernel))))))) (fun _ _ _ _ _ => (de_var 2)))))))
 (dss_one (ds_weak (o2 := []) (ds_ret (de_var 1)) (by decide)))))
theorem Txt.ok_frozen : FnOk P w K mg base (L2.CX P w) 2 T.ta_frozen T.td_frozen ["asking", "first"] (spD K (cvOf mg) 2 f_frozen) :=
  fn_ok (k := 1) (n := 7) (m := 2) (own := []) (t := b_frozen) T.tF_frozen sc_frozen fun cdv A outer s H B E tab nb hce hr =>
  (dss_cons (ds_setO 2 sc_frozen.nd de_dK)
 (dss_cons (ds_for (own := [2]) (passes_of rfl) rfl (di_seq (de_call (n := 1) (T.ok_stand_ins (w := w)) (hr.mono (by decide)) T.tg_stand_ins T.tF_stand_ins.kp T.tb_stand_ins (takes_of rfl rfl rfl rfl) (da_cons (de_ix (de_varB 0) (de_loan de_int)) da_nil) (lenC lenN))) (dg_name 3 sc_frozen.nd)
 (dss_one (ds_dput 2 hr.units (de_var 3) (de_add (de_varB 1) (de_loan (de_lenA (de_varB 2) T.tm_len))))))
 (dss_cons (ds_weak (o2 := []) (ds_setC 4 [("name", 5), ("terms", 6)] rfl sc_frozen.nd (dib_seq (de_loan (de_ix (de_varB 0) (de_loan de_int)))) (blkOk_by (N := n_frozen) (sc := defScope s_frozen) (by decide +kernel)) (fun _ _ _ _ _ => (dg_tup rfl (dgs_cons (dg_name 5 sc_frozen.nd) (dgs_cons (dg_name 6 sc_frozen.nd) dgs_nil)))) (fun _ _ _ _ _ => dts_nil) (fun _ _ _ _ _ => (de_tup (da_cons (de_var 5) (da_cons (de_call (n := 2) (T.ok_put (w := w)) (hr.mono (by decide)) T.tg_put T.tF_put.kp T.tb_put takes_quiet (da_cons (de_var 2) (da_cons (de_var 6) da_nil)) (lenC (lenC lenN))) da_nil))))) (by decide))
 (dss_one (ds_ret (de_tup (da_cons (de_frz (de_sortSetA rfl (units66 hr) (de_varB 4) T.tm_sorted T.tm_set)) (da_cons (de_call (n := 2) (T.ok_put (w := w)) (hr.mono (by decide)) T.tg_put T.tF_put.kp T.tb_put (takes_of rfl rfl rfl rfl) (da_cons (de_var 2) (da_cons (de_ix (de_varB 0) (de_loan de_int)) da_nil)) (lenC (lenC lenN))) da_nil))))))))
theorem Txt.ok_within : FnOk P w K mg base (L2.CX P w) 8 T.ta_within T.td_within ["one", "other"] (spD K (cvOf mg) 2 f_within) :=
  fn_ok (k := 7) (n := 7) (m := 2) (own := []) (t := b_within) T.tF_within sc_within fun cdv A outer s H B E tab nb hce hr =>
  (dss_cons (ds_expr (de_call (n := 2) (T.ok_need_two (w := w)) (hr.mono (by decide)) T.tg_need_two T.tF_need_two.kp T.tb_need_two (takes_of rfl rfl rfl rfl) (da_cons (de_var 0) (da_cons (de_var 1) da_nil)) (lenC (lenC lenN))))
 (dss_cons (ds_set 2 sc_within.nd (de_call (n := 2) (T.ok_ways (w := w)) (hr.mono (by decide)) T.tg_ways T.tF_ways.kp T.tb_ways (takes_of rfl rfl rfl rfl) (da_cons (de_var 0) (da_cons (de_var 1) da_nil)) (lenC (lenC lenN))))
 (dss_cons (ds_if (o2 := []) (dt_cmpr (op_nilNe hr.units) opd_nilNe (de_varB 2) (de_loan (de_lst da_nil)))
 (dss_one (ds_ret (de_tup (da_cons de_str (da_cons (de_frz (de_comp [("term", 3)] rfl sc_within.nd (dib_seq (de_loan (de_call (n := 1) (T.ok_stand_ins (w := w)) (hr.mono (by decide)) T.tg_stand_ins T.tF_stand_ins.kp T.tb_stand_ins (takes_of rfl rfl rfl rfl) (da_cons (de_ix (de_varB 1) (de_loan de_int)) da_nil) (lenC lenN)))) (blkOk_by (N := n_within) (sc := defScope s_within) (by decide +kernel)) (fun _ _ _ _ _ => (dg_name 3 sc_within.nd)) (fun _ _ _ _ _ => dts_nil) (fun _ _ _ _ _ => (de_tup (da_cons (de_var 3) (da_cons (de_dix hr.units (de_loan (de_ix (de_varB 2) (de_loan de_int))) (de_varB 3)) da_nil)))))) da_nil)))))
 dss_nil)
 (dss_cons (ds_set 4 sc_within.nd (de_add (de_loan de_int) (de_loan (de_maxL rfl (de_loan (de_add (de_loan (de_add (de_loan (de_lst (da_cons de_int da_nil))) (de_loan (de_call (n := 1) (T.ok_numbers_in (w := w)) (hr.mono (by decide)) T.tg_numbers_in T.tF_numbers_in.kp T.tb_numbers_in (takes_of rfl rfl rfl rfl) (da_cons (de_var 0) da_nil) (lenC lenN))))) (de_loan (de_call (n := 1) (T.ok_numbers_in (w := w)) (hr.mono (by decide)) T.tg_numbers_in T.tF_numbers_in.kp T.tb_numbers_in (takes_of rfl rfl rfl rfl) (da_cons (de_var 1) da_nil) (lenC lenN))))) T.tm_max))))
 (dss_cons (ds_asg (de_call (n := 2) (T.ok_frozen (w := w)) (hr.mono (by decide)) T.tg_frozen T.tF_frozen.kp T.tb_frozen (takes_of rfl rfl rfl rfl) (da_cons (de_var 0) (da_cons (de_var 4) da_nil)) (lenC (lenC lenN))) (dg_tup rfl (dgs_cons (dg_name 5 sc_within.nd) (dgs_cons (dg_name 6 sc_within.nd) dgs_nil))))
 (dss_one (ds_ret (de_tup (da_cons de_str (da_cons (de_var 5) (da_cons (de_var 6) da_nil)))))))))))
theorem Txt.ok_alike : FnOk P w K mg base (L2.CX P w) 8 T.ta_alike T.td_alike ["one", "other"] (spD K (cvOf mg) 2 f_alike) :=
  fn_ok (k := 7) (n := 2) (m := 2) (own := []) (t := b_alike) T.tF_alike sc_alike fun cdv A outer s H B E tab nb hce hr =>
  (dss_cons (ds_expr (de_call (n := 2) (T.ok_need_two (w := w)) (hr.mono (by decide)) T.tg_need_two T.tF_need_two.kp T.tb_need_two (takes_of rfl rfl rfl rfl) (da_cons (de_var 0) (da_cons (de_var 1) da_nil)) (lenC (lenC lenN))))
 (dss_one (ds_ret (de_and (de_loan (de_cmp (op_nilNe hr.units) opd_nilNe (de_loan (de_call (n := 2) (T.ok_ways (w := w)) (hr.mono (by decide)) T.tg_ways T.tF_ways.kp T.tb_ways (takes_of rfl rfl rfl rfl) (da_cons (de_var 0) (da_cons (de_var 1) da_nil)) (lenC (lenC lenN)))) (de_loan (de_lst da_nil)))) (de_one (de_cmp (op_nilNe hr.units) opd_nilNe (de_loan (de_call (n := 2) (T.ok_ways (w := w)) (hr.mono (by decide)) T.tg_ways T.tF_ways.kp T.tb_ways (takes_of rfl rfl rfl rfl) (da_cons (de_var 1) (da_cons (de_var 0) da_nil)) (lenC (lenC lenN)))) (de_loan (de_lst da_nil))))))))
theorem Txt.ok_without : FnOk P w K mg base (L2.CX P w) 1 T.ta_without T.td_without ["asking", "place"] (spD K (cvOf mg) 2 f_without) :=
  fn_ok (k := 0) (n := 2) (m := 2) (own := []) (t := b_without) T.tF_without sc_without fun cdv A outer s H B E tab nb hce hr =>
  (dss_one (ds_ret (de_tup (da_cons (de_ix (de_varB 0) (de_loan de_int)) (da_cons (de_add (de_loan (de_sl (de_loan (de_ix (de_varB 0) (de_loan de_int))) do_none (do_some (de_varB 1)))) (de_loan (de_sl (de_loan (de_ix (de_varB 0) (de_loan de_int))) (do_some (de_loan (de_add (de_varB 1) (de_loan de_int)))) do_none))) da_nil)))))
theorem Txt.ok_is_needless : FnOk P w K mg base (L2.CX P w) 6 T.ta_is_needless T.td_is_needless ["asking", "place"] (spD K (cvOf mg) 2 f_is_needless) :=
  fn_ok (k := 5) (n := 3) (m := 2) (own := []) (t := b_is_needless) T.tF_is_needless sc_is_needless fun cdv A outer s H B E tab nb hce hr =>
  (dss_cons (ds_set 2 sc_is_needless.nd (de_call (n := 2) (T.ok_without (w := w)) (hr.mono (by decide)) T.tg_without T.tF_without.kp T.tb_without (takes_of rfl rfl rfl rfl) (da_cons (de_var 0) (da_cons (de_var 1) da_nil)) (lenC (lenC lenN))))
 (dss_one (ds_ret (de_and (de_loan (de_call (n := 1) (T.ok_is_asking (w := w)) (hr.mono (by decide)) T.tg_is_asking T.tF_is_asking.kp T.tb_is_asking (takes_of rfl rfl rfl rfl) (da_cons (de_var 2) da_nil) (lenC lenN))) (de_one (de_cmp (op_nilNe hr.units) opd_nilNe (de_loan (de_call (n := 2) (T.ok_ways (w := w)) (hr.mono (by decide)) T.tg_ways T.tF_ways.kp T.tb_ways (takes_of rfl rfl rfl rfl) (da_cons (de_var 2) (da_cons (de_var 0) da_nil)) (lenC (lenC lenN)))) (de_loan (de_lst da_nil))))))))
theorem Txt.ok_needless : FnOk P w K mg base (L2.CX P w) 7 T.ta_needless T.td_needless ["asking", "place"] (spD K (cvOf mg) 2 f_needless) :=
  fn_ok (k := 6) (n := 2) (m := 2) (own := []) (t := b_needless) T.tF_needless sc_needless fun cdv A outer s H B E tab nb hce hr =>
  (dss_cons (ds_expr (de_call (n := 1) (T.ok_checked_asking (w := w)) (hr.mono (by decide)) T.tg_checked_asking T.tF_checked_asking.kp T.tb_checked_asking (takes_of rfl rfl rfl rfl) (da_cons (de_var 0) da_nil) (lenC lenN)))
 (dss_one (ds_ret (de_call (n := 2) (T.ok_is_needless (w := w)) (hr.mono (by decide)) T.tg_is_needless T.tF_is_needless.kp T.tb_is_needless (takes_of rfl rfl rfl rfl) (da_cons (de_var 0) (da_cons (de_var 1) da_nil)) (lenC (lenC lenN))))))
theorem Txt.ok_lean : FnOk P w K mg base (L2.CX P w) 7 T.ta_lean T.td_lean ["asking"] (spD K (cvOf mg) 1 f_lean) :=
  fn_ok (k := 6) (n := 3) (m := 1) (own := []) (t := b_lean) T.tF_lean sc_lean fun cdv A outer s H B E tab nb hce hr =>
  (dss_cons (ds_expr (de_call (n := 1) (T.ok_checked_asking (w := w)) (hr.mono (by decide)) T.tg_checked_asking T.tF_checked_asking.kp T.tb_checked_asking (takes_of rfl rfl rfl rfl) (da_cons (de_var 0) da_nil) (lenC lenN)))
 (dss_cons (ds_set 1 sc_lean.nd (de_var 0))
 (dss_cons (ds_set 2 sc_lean.nd de_int)
 (dss_cons (ds_while (own := []) 1000 (passes_of rfl) (dt_cmpr (op_ltP hr.units) opd_datP (de_varB 2) (de_loan (de_len (de_loan (de_ix (de_varB 1) (de_loan de_int))) T.tm_len)))
 (dss_one (ds_if (o2 := []) (dt_val (de_loan (de_call (n := 2) (T.ok_is_needless (w := w)) (hr.mono (by decide)) T.tg_is_needless T.tF_is_needless.kp T.tb_is_needless (takes_of rfl rfl rfl rfl) (da_cons (de_var 1) (da_cons (de_var 2) da_nil)) (lenC (lenC lenN)))))
 (dss_one (ds_set 1 sc_lean.nd (de_call (n := 2) (T.ok_without (w := w)) (hr.mono (by decide)) T.tg_without T.tF_without.kp T.tb_without (takes_of rfl rfl rfl rfl) (da_cons (de_var 1) (da_cons (de_var 2) da_nil)) (lenC (lenC lenN)))))
 (dss_one (ds_set 2 sc_lean.nd (de_add (de_varB 2) (de_loan de_int)))))))
 (dss_one (ds_ret (de_var 1)))))))
theorem Txt.ok_is_rule : FnOk P w K mg base (L2.CX P w) 5 T.ta_is_rule T.td_is_rule ["thing"] (spD K (cvOf mg) 1 f_is_rule) :=
  fn_ok (k := 4) (n := 3) (m := 1) (own := []) (t := b_is_rule) T.tF_is_rule sc_is_rule fun cdv A outer s H B E tab nb hce hr =>
  (dss_cons (ds_if (o2 := []) (dt_w (dw_or (dt_not (dt_val (de_loan (de_isa (T := "tuple") (de_varB 0) (by decide) T.tm_isinstance T.tm_tuple (by decide +kernel))))) (dw_or (dt_cmpr (op_neP hr.units) opd_datP (de_loan (de_len (de_varB 0) T.tm_len)) (de_loan de_int)) (dw_or (dt_not (dt_val (de_loan (de_call (n := 1) (T.ok_is_atom (w := w)) (hr.mono (by decide)) T.tg_is_atom T.tF_is_atom.kp T.tb_is_atom (takes_of rfl rfl rfl rfl) (da_cons (de_ix (de_varB 0) (de_loan de_int)) da_nil) (lenC lenN))))) (dw_or1 (dt_not (dt_val (de_loan (de_call (n := 3) (T.ok_are_atoms (w := w)) (hr.mono (by decide)) T.tg_are_atoms T.tF_are_atoms.kp T.tb_are_atoms (takes_of rfl rfl rfl rfl) (da_cons (de_ix (de_varB 0) (de_loan de_int)) (da_cons de_int (da_cons de_int da_nil))) (lenC (lenC (lenC lenN))))))))))))
 (dss_one (ds_ret de_bl))
 dss_nil)
 (dss_cons (ds_set 1 sc_is_rule.nd (de_call (n := 1) (T.ok_stand_ins (w := w)) (hr.mono (by decide)) T.tg_stand_ins T.tF_stand_ins.kp T.tb_stand_ins (takes_of rfl rfl rfl rfl) (da_cons (de_ix (de_varB 0) (de_loan de_int)) da_nil) (lenC lenN)))
 (dss_one (ds_ret (de_all rfl (de_loan (de_comp [("term", 2)] rfl sc_is_rule.nd (dib_seq (de_loan (de_call (n := 1) (T.ok_stand_ins (w := w)) (hr.mono (by decide)) T.tg_stand_ins T.tF_stand_ins.kp T.tb_stand_ins (takes_of rfl rfl rfl rfl) (da_cons (de_frz (de_lst (da_cons (de_ix (de_varB 0) (de_loan de_int)) da_nil))) da_nil) (lenC lenN)))) (blkOk_by (N := n_is_rule) (sc := defScope s_is_rule) (by decide +kernel)) (fun _ _ _ _ _ => (dg_name 2 sc_is_rule.nd)) (fun _ _ _ _ _ => dts_nil) (fun _ _ _ _ _ => (de_cmp (op_inP hr.units) opd_datP (de_varB 2) (de_varB 1))))) T.tm_all)))))
theorem Txt.ok_need_rules : FnOk P w K mg base (L2.CX P w) 6 T.ta_need_rules T.td_need_rules ["rules", "facts"] (spD K (cvOf mg) 2 f_need_rules) :=
  fn_ok (k := 5) (n := 4) (m := 2) (own := []) (t := b_need_rules) T.tF_need_rules sc_need_rules fun cdv A outer s H B E tab nb hce hr =>
  (dss_cons (ds_if (o2 := []) (dt_w (dw_or (dt_not (dt_val (de_loan (de_isa (T := "list") (de_varB 0) (by decide) T.tm_isinstance T.tm_list (by decide +kernel))))) (dw_or1 (dt_cmpr (op_gtP hr.units) opd_datP (de_loan (de_len (de_varB 0) T.tm_len)) (de_loan de_int)))))
 (dss_one (ds_raise PySem.F.excBase_ValueError T.xq_NoRules T.xg_NoRules T.xk_NoRules (raises_own T.xb_NoRules T.xt_NoRules) (cv_of T.xg_NoRules) (takes_of rfl rfl rfl rfl)))
 dss_nil)
 (dss_cons (ds_setO 2 sc_need_rules.nd (de_lstOf (de_varB 1) T.tm_list))
 (dss_cons (ds_for (own := [2]) (passes_of rfl) rfl (di_seq (de_var 0)) (dg_name 3 sc_need_rules.nd)
 (dss_cons (ds_if (o2 := [2]) (dt_not (dt_val (de_loan (de_call (n := 1) (T.ok_is_rule (w := w)) (hr.mono (by decide)) T.tg_is_rule T.tF_is_rule.kp T.tb_is_rule (takes_of rfl rfl rfl rfl) (da_cons (de_var 3) da_nil) (lenC lenN)))))
 (dss_one (ds_raise PySem.F.excBase_ValueError T.xq_NoRules T.xg_NoRules T.xk_NoRules (raises_own T.xb_NoRules T.xt_NoRules) (cv_of T.xg_NoRules) (takes_of rfl rfl rfl rfl)))
 dss_nil)
 (dss_cons (ds_append 2 (de_ix (de_varB 3) (de_loan de_int)))
 (dss_one (ds_extend 2 (de_ix (de_varB 3) (de_loan de_int)))))))
 (dss_one (ds_weak (o2 := []) (ds_if (o2 := []) (dt_not (dt_val (de_loan (de_call (n := 1) (T.ok_alike_long (w := w)) (hr.mono (by decide)) T.tg_alike_long T.tF_alike_long.kp T.tb_alike_long (takes_of rfl rfl rfl rfl) (da_cons (de_var 2) da_nil) (lenC lenN)))))
 (dss_one (ds_raise PySem.F.excBase_ValueError T.xq_NoRules T.xg_NoRules T.xk_NoRules (raises_own T.xb_NoRules T.xt_NoRules) (cv_of T.xg_NoRules) (takes_of rfl rfl rfl rfl)))
 dss_nil) (by decide))))))
theorem Txt.ok_made_by : FnOk P w K mg base (L2.CX P w) 3 T.ta_made_by T.td_made_by ["rule", "facts"] (spD K (cvOf mg) 2 f_made_by) :=
  fn_ok (k := 2) (n := 7) (m := 2) (own := []) (t := b_made_by) T.tF_made_by sc_made_by fun cdv A outer s H B E tab nb hce hr =>
  (dss_cons (ds_setO 2 sc_made_by.nd (de_lst da_nil))
 (dss_cons (ds_for (own := [2]) (passes_of rfl) rfl (di_seq (de_call (n := 2) (T.ok_all_fitted (w := w)) (hr.mono (by decide)) T.tg_all_fitted T.tF_all_fitted.kp T.tb_all_fitted (takes_of rfl rfl rfl rfl) (da_cons (de_ix (de_varB 0) (de_loan de_int)) (da_cons (de_var 1) da_nil)) (lenC (lenC lenN)))) (dg_name 3 sc_made_by.nd)
 (dss_cons (ds_setC 4 [("name", 5), ("terms", 6)] rfl sc_made_by.nd (dib_seq (de_loan (de_ix (de_varB 0) (de_loan de_int)))) (blkOk_by (N := n_made_by) (sc := defScope s_made_by) (by decide +kernel)) (fun _ _ _ _ _ => (dg_tup rfl (dgs_cons (dg_name 5 sc_made_by.nd) (dgs_cons (dg_name 6 sc_made_by.nd) dgs_nil)))) (fun _ _ _ _ _ => dts_nil) (fun _ _ _ _ _ => (de_tup (da_cons (de_var 5) (da_cons (de_call (n := 2) (T.ok_put (w := w)) (hr.mono (by decide)) T.tg_put T.tF_put.kp T.tb_put takes_quiet (da_cons (de_var 3) (da_cons (de_var 6) da_nil)) (lenC (lenC lenN))) da_nil)))))
 (dss_one (ds_append 2 (de_tup (da_cons (de_tup (da_cons (de_ix (de_loan (de_ix (de_varB 0) (de_loan de_int))) (de_loan de_int)) (da_cons (de_call (n := 2) (T.ok_put (w := w)) (hr.mono (by decide)) T.tg_put T.tF_put.kp T.tb_put (takes_of rfl rfl rfl rfl) (da_cons (de_var 3) (da_cons (de_ix (de_loan (de_ix (de_varB 0) (de_loan de_int))) (de_loan de_int)) da_nil)) (lenC (lenC lenN))) da_nil))) (da_cons (de_var 4) da_nil)))))))
 (dss_one (ds_weak (o2 := []) (ds_ret (de_var 2)) (by decide)))))
theorem Txt.ok_steps_of : FnOk P w K mg base (L2.CX P w) 4 T.ta_steps_of T.td_steps_of ["rules", "facts"] (spD K (cvOf mg) 2 f_steps_of) :=
  fn_ok (k := 3) (n := 7) (m := 2) (own := []) (t := b_steps_of) T.tF_steps_of sc_steps_of fun cdv A outer s H B E tab nb hce hr =>
  (dss_cons (ds_setO 2 sc_steps_of.nd de_dK)
 (dss_cons (ds_for (own := [2]) (passes_of rfl) rfl (di_seq (de_var 1)) (dg_name 3 sc_steps_of.nd)
 (dss_one (ds_dputN 2 (NW.h (w := w)) hr.units (de_var 3) (de_tup (da_cons (de_var 3) (da_cons de_non (da_cons (de_frz (de_lst da_nil)) da_nil)))))))
 (dss_cons (ds_set 4 sc_steps_of.nd (de_neg (de_loan de_int)))
 (dss_cons (ds_while (own := [2]) 1000 (passes_of rfl) (dt_cmpr (op_ltP hr.units) opd_datP (de_varB 4) (de_loan (de_lenA (de_varB 2) T.tm_len)))
 (dss_cons (ds_set 4 sc_steps_of.nd (de_lenA (de_varB 2) T.tm_len))
 (dss_one (ds_for (own := [2]) (passes_of rfl) rfl (di_range1 (de_len (de_varB 0) T.tm_len) T.tm_range) (dg_name 5 sc_steps_of.nd)
 (dss_one (ds_for (own := [2]) (passes_of rfl) rfl (di_seq (de_call (n := 2) (T.ok_made_by (w := w)) (hr.mono (by decide)) T.tg_made_by T.tF_made_by.kp T.tb_made_by (takes_of rfl rfl rfl rfl) (da_cons (de_ix (de_varB 0) (de_varB 5)) (da_cons (de_frz (de_lstN rfl (de_varB 2) T.tm_list)) da_nil)) (lenC (lenC lenN)))) (dg_tup rfl (dgs_cons (dg_name 3 sc_steps_of.nd) (dgs_cons (dg_name 6 sc_steps_of.nd) dgs_nil)))
 (dss_one (ds_setdN 2 (NW.h (w := w)) hr.units (de_var 3) (de_tup (da_cons (de_var 3) (da_cons (de_var 5) (da_cons (de_var 6) da_nil))))))))))))
 (dss_one (ds_weak (o2 := []) (ds_ret (de_var 2)) (by decide)))))))
theorem Txt.ok_comes : FnOk P w K mg base (L2.CX P w) 7 T.ta_comes T.td_comes ["rules", "book"] (spD K (cvOf mg) 2 f_comes) :=
  fn_ok (k := 6) (n := 3) (m := 2) (own := []) (t := b_comes) T.tF_comes sc_comes fun cdv A outer s H B E tab nb hce hr =>
  (dss_cons (ds_set 2 sc_comes.nd (de_call (n := 1) (T.ok_checked_book (w := w)) (hr.mono (by decide)) T.tg_checked_book T.tF_checked_book.kp T.tb_checked_book (takes_of rfl rfl rfl rfl) (da_cons (de_var 1) da_nil) (lenC lenN)))
 (dss_cons (ds_expr (de_call (n := 2) (T.ok_need_rules (w := w)) (hr.mono (by decide)) T.tg_need_rules T.tF_need_rules.kp T.tb_need_rules (takes_of rfl rfl rfl rfl) (da_cons (de_var 0) (da_cons (de_var 2) da_nil)) (lenC (lenC lenN))))
 (dss_one (ds_ret (de_frz (de_sortN rfl (units66 hr) (de_loan (de_call (n := 2) (T.ok_steps_of (w := w)) (hr.mono (by decide)) T.tg_steps_of T.tF_steps_of.kp T.tb_steps_of (takes_of rfl rfl rfl rfl) (da_cons (de_var 0) (da_cons (de_var 2) da_nil)) (lenC (lenC lenN)))) T.tm_sorted))))))
theorem Txt.ok_why : FnOk P w K mg base (L2.CX P w) 7 T.ta_why T.td_why ["rules", "book", "fact"] (spD K (cvOf mg) 3 f_why) :=
  fn_ok (k := 6) (n := 9) (m := 3) (own := [6, 5]) (t := b_why) T.tF_why sc_why fun cdv A outer s H B E tab nb hce hr =>
  (dss_cons (ds_set 3 sc_why.nd (de_call (n := 1) (T.ok_checked_book (w := w)) (hr.mono (by decide)) T.tg_checked_book T.tF_checked_book.kp T.tb_checked_book (takes_of rfl rfl rfl rfl) (da_cons (de_var 1) da_nil) (lenC lenN)))
 (dss_cons (ds_expr (de_call (n := 2) (T.ok_need_rules (w := w)) (hr.mono (by decide)) T.tg_need_rules T.tF_need_rules.kp T.tb_need_rules (takes_of rfl rfl rfl rfl) (da_cons (de_var 0) (da_cons (de_var 3) da_nil)) (lenC (lenC lenN))))
 (dss_cons (ds_set 4 sc_why.nd (de_call (n := 2) (T.ok_steps_of (w := w)) (hr.mono (by decide)) T.tg_steps_of T.tF_steps_of.kp T.tb_steps_of (takes_of rfl rfl rfl rfl) (da_cons (de_var 0) (da_cons (de_var 3) da_nil)) (lenC (lenC lenN))))
 (dss_cons (ds_if (o2 := []) (dt_cmpr (op_nnin (NW.h (w := w)) hr.units) opd_nnin (de_varB 2) (de_varB 4))
 (dss_one (ds_ret de_non))
 dss_nil)
 (dss_cons (ds_setO 5 sc_why.nd (de_dispN (NW.h (w := w)) hr.units (de_var 2) de_bl))
 (dss_cons (ds_setO 6 sc_why.nd (de_lst da_nil))
 (dss_cons (ds_for (own := [6, 5]) (passes_of rfl) rfl (di_rev (de_frz (de_lstN rfl (de_varB 4) T.tm_list)) T.tm_reversed) (dg_name 7 sc_why.nd)
 (dss_one (ds_if (o2 := [6, 5]) (dt_cmpr (op_nin (NW.h (w := w)) hr.units) opd_nin (de_varB 7) (de_varB 5))
 (dss_cons (ds_append 6 (de_nix (NW.h (w := w)) hr.units (de_varB 4) (de_varB 7)))
 (dss_one (ds_for (own := [6, 5]) (passes_of rfl) rfl (di_seq (de_ix (de_loan (de_nix (NW.h (w := w)) hr.units (de_varB 4) (de_varB 7))) (de_loan de_int))) (dg_name 8 sc_why.nd)
 (dss_one (ds_dputN 5 (NW.h (w := w)) hr.units (de_var 8) de_bl)))))
 dss_nil)))
 (dss_one (ds_ret (de_frz (de_revL (de_varB 6))))))))))))
theorem Txt.ok_shared : FnOk P w K mg base (L2.CX P w) 2 T.ta_shared T.td_shared ["atoms", "left", "place"] (spD K (cvOf mg) 3 f_shared) :=
  fn_ok (k := 1) (n := 6) (m := 3) (own := []) (t := b_shared) T.tF_shared sc_shared fun cdv A outer s H B E tab nb hce hr =>
  (dss_cons (ds_setO 3 sc_shared.nd (de_lst da_nil))
 (dss_cons (ds_for (own := [3]) (passes_of rfl) rfl (di_seq (de_call (n := 1) (T.ok_stand_ins (w := w)) (hr.mono (by decide)) T.tg_stand_ins T.tF_stand_ins.kp T.tb_stand_ins (takes_of rfl rfl rfl rfl) (da_cons (de_frz (de_lst (da_cons (de_ix (de_varB 0) (de_varB 2)) da_nil))) da_nil) (lenC lenN))) (dg_name 4 sc_shared.nd)
 (dss_one (ds_if (o2 := [3]) (dt_val (de_loan (de_any rfl (de_loan (de_comp [("other", 5)] rfl sc_shared.nd (dib_seq (de_varB 1)) (blkOk_by (N := n_shared) (sc := defScope s_shared) (by decide +kernel)) (fun _ _ _ _ _ => (dg_name 5 sc_shared.nd)) (fun _ _ _ _ _ => (dts_one (dt_cmpr (op_neP hr.units) opd_datP (de_varB 5) (de_varB 2)))) (fun _ _ _ _ _ => (de_cmp (op_inP hr.units) opd_datP (de_varB 4) (de_loan (de_ix (de_loan (de_ix (de_varB 0) (de_varB 5))) (de_loan de_int))))))) T.tm_any)))
 (dss_one (ds_append 3 (de_var 4)))
 dss_nil)))
 (dss_one (ds_weak (o2 := []) (ds_ret (de_var 3)) (by decide)))))
theorem Txt.ok_above : FnOk P w K mg base (L2.CX P w) 3 T.ta_above T.td_above ["atoms", "left", "place"] (spD K (cvOf mg) 3 f_above) :=
  fn_ok (k := 2) (n := 5) (m := 3) (own := []) (t := b_above) T.tF_above sc_above fun cdv A outer s H B E tab nb hce hr =>
  (dss_cons (ds_for (own := []) (passes_of rfl) rfl (di_seq (de_var 1)) (dg_name 3 sc_above.nd)
 (dss_one (ds_if (o2 := []) (dt_w (dw_and (dt_cmpr (op_neP hr.units) opd_datP (de_varB 3) (de_varB 2)) (dw_and1 (dt_val (de_loan (de_all rfl (de_loan (de_comp [("term", 4)] rfl sc_above.nd (dib_seq (de_loan (de_call (n := 3) (T.ok_shared (w := w)) (hr.mono (by decide)) T.tg_shared T.tF_shared.kp T.tb_shared (takes_of rfl rfl rfl rfl) (da_cons (de_var 0) (da_cons (de_var 1) (da_cons (de_var 2) da_nil))) (lenC (lenC (lenC lenN)))))) (blkOk_by (N := n_above) (sc := defScope s_above) (by decide +kernel)) (fun _ _ _ _ _ => (dg_name 4 sc_above.nd)) (fun _ _ _ _ _ => dts_nil) (fun _ _ _ _ _ => (de_cmp (op_inP hr.units) opd_datP (de_varB 4) (de_loan (de_ix (de_loan (de_ix (de_varB 0) (de_varB 3))) (de_loan de_int))))))) T.tm_all))))))
 (dss_one (ds_ret (de_var 3)))
 dss_nil)))
 (dss_one (ds_ret de_non)))
theorem Txt.ok_taken_off : FnOk P w K mg base (L2.CX P w) 4 T.ta_taken_off T.td_taken_off ["atoms"] (spD K (cvOf mg) 1 f_taken_off) :=
  fn_ok (k := 3) (n := 8) (m := 1) (own := []) (t := b_taken_off) T.tF_taken_off sc_taken_off fun cdv A outer s H B E tab nb hce hr =>
  (dss_cons (ds_set 1 sc_taken_off.nd (de_frz (de_comp [("k", 2)] rfl sc_taken_off.nd (dib_of (di_range1 (de_len (de_varB 0) T.tm_len) T.tm_range)) (blkOk_by (N := n_taken_off) (sc := defScope s_taken_off) (by decide +kernel)) (fun _ _ _ _ _ => (dg_name 2 sc_taken_off.nd)) (fun _ _ _ _ _ => dts_nil) (fun _ _ _ _ _ => (de_var 2)))))
 (dss_cons (ds_setO 3 sc_taken_off.nd (de_lst da_nil))
 (dss_cons (ds_set 4 sc_taken_off.nd de_bl)
 (dss_cons (ds_while (own := [3]) 1000 (passes_of rfl) (dt_w (dw_and (dt_val (de_varB 4)) (dw_and1 (dt_cmpr (op_gtP hr.units) opd_datP (de_loan (de_len (de_varB 1) T.tm_len)) (de_loan de_int)))))
 (dss_cons (ds_set 5 sc_taken_off.nd (de_frz (de_comp [("place", 6)] rfl sc_taken_off.nd (dib_seq (de_varB 1)) (blkOk_by (N := n_taken_off) (sc := defScope s_taken_off) (by decide +kernel)) (fun _ _ _ _ _ => (dg_name 6 sc_taken_off.nd)) (fun _ _ _ _ _ => dts_nil) (fun _ _ _ _ _ => (de_tup (da_cons (de_var 6) (da_cons (de_call (n := 3) (T.ok_above (w := w)) (hr.mono (by decide)) T.tg_above T.tF_above.kp T.tb_above takes_quiet (da_cons (de_var 0) (da_cons (de_var 1) (da_cons (de_var 6) da_nil))) (lenC (lenC (lenC lenN)))) da_nil)))))))
 (dss_cons (ds_set 5 sc_taken_off.nd (de_frz (de_comp [("pair", 7)] rfl sc_taken_off.nd (dib_seq (de_varB 5)) (blkOk_by (N := n_taken_off) (sc := defScope s_taken_off) (by decide +kernel)) (fun _ _ _ _ _ => (dg_name 7 sc_taken_off.nd)) (fun _ _ _ _ _ => (dts_one (dt_cmpr op_notN opd_notN (de_loan (de_ix (de_varB 7) (de_loan de_int))) (de_loan de_non)))) (fun _ _ _ _ _ => (de_var 7)))))
 (dss_cons (ds_set 4 sc_taken_off.nd (de_cmp (op_neP hr.units) opd_datP (de_varB 5) (de_loan (de_lst da_nil))))
 (dss_one (ds_if (o2 := [3]) (dt_val (de_varB 4))
 (dss_cons (ds_append 3 (de_ix (de_varB 5) (de_loan de_int)))
 (dss_one (ds_set 1 sc_taken_off.nd (de_frz (de_comp [("place", 6)] rfl sc_taken_off.nd (dib_seq (de_varB 1)) (blkOk_by (N := n_taken_off) (sc := defScope s_taken_off) (by decide +kernel)) (fun _ _ _ _ _ => (dg_name 6 sc_taken_off.nd)) (fun _ _ _ _ _ => (dts_one (dt_cmpr (op_neP hr.units) opd_datP (de_varB 6) (de_loan (de_ix (de_loan (de_ix (de_varB 5) (de_loan de_int))) (de_loan de_int)))))) (fun _ _ _ _ _ => (de_var 6)))))))
 dss_nil))))))
 (dss_one (ds_weak (o2 := []) (ds_ret (de_tup (da_cons (de_var 3) (da_cons (de_var 1) da_nil)))) (by decide)))))))
theorem Txt.ok_tree : FnOk P w K mg base (L2.CX P w) 7 T.ta_tree T.td_tree ["asking"] (spD K (cvOf mg) 1 f_tree) :=
  fn_ok (k := 6) (n := 7) (m := 1) (own := []) (t := b_tree) T.tF_tree sc_tree fun cdv A outer s H B E tab nb hce hr =>
  (dss_cons (ds_expr (de_call (n := 1) (T.ok_checked_asking (w := w)) (hr.mono (by decide)) T.tg_checked_asking T.tF_checked_asking.kp T.tb_checked_asking (takes_of rfl rfl rfl rfl) (da_cons (de_var 0) da_nil) (lenC lenN)))
 (dss_cons (ds_asg (de_call (n := 1) (T.ok_taken_off (w := w)) (hr.mono (by decide)) T.tg_taken_off T.tF_taken_off.kp T.tb_taken_off (takes_of rfl rfl rfl rfl) (da_cons (de_ix (de_varB 0) (de_loan de_int)) da_nil) (lenC lenN)) (dg_tup rfl (dgs_cons (dg_name 1 sc_tree.nd) (dgs_cons (dg_name 2 sc_tree.nd) dgs_nil))))
 (dss_cons (ds_if (o2 := []) (dt_cmpr (op_gtP hr.units) opd_datP (de_loan (de_len (de_varB 2) T.tm_len)) (de_loan de_int))
 (dss_one (ds_ret (de_tup (da_cons de_str (da_cons (de_var 1) (da_cons (de_var 2) da_nil))))))
 dss_nil)
 (dss_cons (ds_setCO 3 [("atom", 4)] rfl sc_tree.nd (dib_seq (de_loan (de_ix (de_varB 0) (de_loan de_int)))) (blkOk_by (N := n_tree) (sc := defScope s_tree) (by decide +kernel)) (fun _ _ _ _ _ => (dg_name 4 sc_tree.nd)) (fun _ _ _ _ _ => dts_nil) (fun _ _ _ _ _ => de_non))
 (dss_cons (ds_for (own := [3]) (passes_of rfl) rfl (di_seq (de_var 1)) (dg_tup rfl (dgs_cons (dg_name 5 sc_tree.nd) (dgs_cons (dg_name 6 sc_tree.nd) dgs_nil)))
 (dss_one (ds_lput 3 (de_var 6) (de_var 5))))
 (dss_one (ds_weak (o2 := []) (ds_ret (de_tup (da_cons de_str (da_cons (de_var 3) da_nil)))) (by decide))))))))
theorem Txt.ok_agree : FnOk P w K mg base (L2.CX P w) 1 T.ta_agree T.td_agree ["one", "other"] (spD K (cvOf mg) 2 f_agree) :=
  fn_ok (k := 0) (n := 3) (m := 2) (own := []) (t := b_agree) T.tF_agree sc_agree fun cdv A outer s H B E tab nb hce hr =>
  (dss_one (ds_ret (de_all rfl (de_loan (de_compK 0 [("term", 2)] rfl sc_agree.nd (blkOk_by (N := n_agree) (sc := defScope s_agree) (by decide +kernel)) (fun _ _ _ _ _ _ => (dg_name 2 sc_agree.nd)) (fun _ _ _ _ _ _ => dts_nil) (fun _ _ _ _ _ _ => (de_cmp (op_eqP hr.units) opd_datP (de_loan (de_get2 hr.units (de_varB 1) (de_var 2) (de_dix hr.units (de_varB 0) (de_varB 2)))) (de_loan (de_dix hr.units (de_varB 0) (de_varB 2))))))) T.tm_all)))
theorem Txt.ok_joined : FnOk P w K mg base (L2.CX P w) 1 T.ta_joined T.td_joined ["one", "other"] (spD K (cvOf mg) 2 f_joined) :=
  fn_ok (k := 0) (n := 4) (m := 2) (own := []) (t := b_joined) T.tF_joined sc_joined fun cdv A outer s H B E tab nb hce hr =>
  (dss_cons (ds_setO 2 sc_joined.nd (de_dictOf (de_varB 0) T.tm_dict))
 (dss_cons (ds_forK (own := [2]) 1 (passes_of rfl) rfl (fun _ => (dg_name 3 sc_joined.nd))
 (fun _ => (dss_one (ds_dput 2 hr.units (de_var 3) (de_dix hr.units (de_varB 1) (de_varB 3))))))
 (dss_one (ds_weak (o2 := []) (ds_ret (de_var 2)) (by decide)))))
theorem Txt.ok_by_tree : FnOk P w K mg base (L2.CX P w) 7 T.ta_by_tree T.td_by_tree ["asking", "book"] (spD K (cvOf mg) 2 f_by_tree) :=
  fn_ok (k := 6) (n := 13) (m := 2) (own := [5]) (t := b_by_tree) T.tF_by_tree sc_by_tree fun cdv A outer s H B E tab nb hce hr =>
  (dss_cons (ds_expr (de_call (n := 1) (T.ok_checked_asking (w := w)) (hr.mono (by decide)) T.tg_checked_asking T.tF_checked_asking.kp T.tb_checked_asking (takes_of rfl rfl rfl rfl) (da_cons (de_var 0) da_nil) (lenC lenN)))
 (dss_cons (ds_set 2 sc_by_tree.nd (de_call (n := 1) (T.ok_checked_book (w := w)) (hr.mono (by decide)) T.tg_checked_book T.tF_checked_book.kp T.tb_checked_book (takes_of rfl rfl rfl rfl) (da_cons (de_var 1) da_nil) (lenC lenN)))
 (dss_cons (ds_asg (de_call (n := 1) (T.ok_taken_off (w := w)) (hr.mono (by decide)) T.tg_taken_off T.tF_taken_off.kp T.tb_taken_off (takes_of rfl rfl rfl rfl) (da_cons (de_ix (de_varB 0) (de_loan de_int)) da_nil) (lenC lenN)) (dg_tup rfl (dgs_cons (dg_name 3 sc_by_tree.nd) (dgs_cons (dg_name 4 sc_by_tree.nd) dgs_nil))))
 (dss_cons (ds_if (o2 := []) (dt_cmpr (op_gtP hr.units) opd_datP (de_loan (de_len (de_varB 4) T.tm_len)) (de_loan de_int))
 (dss_one (ds_raise PySem.F.excBase_ValueError T.xq_NoTree T.xg_NoTree T.xk_NoTree (raises_own T.xb_NoTree T.xt_NoTree) (cv_of T.xg_NoTree) (takes_of rfl rfl rfl rfl)))
 dss_nil)
 (dss_cons (ds_setO 5 sc_by_tree.nd (de_comp [("atom", 6)] rfl sc_by_tree.nd (dib_seq (de_loan (de_ix (de_varB 0) (de_loan de_int)))) (blkOk_by (N := n_by_tree) (sc := defScope s_by_tree) (by decide +kernel)) (fun _ _ _ _ _ => (dg_name 6 sc_by_tree.nd)) (fun _ _ _ _ _ => dts_nil) (fun _ _ _ _ _ => (de_call (n := 2) (T.ok_all_fitted (w := w)) (hr.mono (by decide)) T.tg_all_fitted T.tF_all_fitted.kp T.tb_all_fitted takes_quiet (da_cons (de_frz (de_lst (da_cons (de_var 6) da_nil))) (da_cons (de_var 2) da_nil)) (lenC (lenC lenN))))))
 (dss_cons (ds_for (own := [5]) (passes_of rfl) rfl (di_seq (de_var 3)) (dg_tup rfl (dgs_cons (dg_name 7 sc_by_tree.nd) (dgs_cons (dg_name 8 sc_by_tree.nd) dgs_nil)))
 (dss_one (ds_lput 5 (de_frz (de_comp [("given", 9)] rfl sc_by_tree.nd (dib_seq (de_loan (de_ix (de_varB 5) (de_varB 8)))) (blkOk_by (N := n_by_tree) (sc := defScope s_by_tree) (by decide +kernel)) (fun _ _ _ _ _ => (dg_name 9 sc_by_tree.nd)) (fun _ _ _ _ _ => (dts_one (dt_val (de_loan (de_any rfl (de_loan (de_comp [("less", 10)] rfl sc_by_tree.nd (dib_seq (de_loan (de_ix (de_varB 5) (de_varB 7)))) (blkOk_by (N := n_by_tree) (by kernel_rfl)) (fun _ _ _ _ _ => (dg_name 10 sc_by_tree.nd)) (fun _ _ _ _ _ => dts_nil) (fun _ _ _ _ _ => (de_call (n := 2) (T.ok_agree (w := w)) (hr.mono (by decide)) T.tg_agree T.tF_agree.kp T.tb_agree takes_quiet (da_cons (de_var 9) (da_cons (de_var 10) da_nil)) (lenC (lenC lenN)))))) T.tm_any))))) (fun _ _ _ _ _ => (de_var 9)))) (de_var 8))))
 (dss_cons (ds_set 11 sc_by_tree.nd (de_ix (de_varB 5) (de_loan (de_ix (de_varB 4) (de_loan de_int)))))
 (dss_cons (ds_for (own := [5]) (passes_of rfl) rfl (di_rev (de_var 3) T.tm_reversed) (dg_tup rfl (dgs_cons (dg_name 7 sc_by_tree.nd) (dgs_cons (dg_name 8 sc_by_tree.nd) dgs_nil)))
 (dss_cons (ds_setO 12 sc_by_tree.nd (de_lst da_nil))
 (dss_cons (ds_for (own := [12, 5]) (passes_of rfl) rfl (di_seq (de_var 11)) (dg_name 9 sc_by_tree.nd)
 (dss_one (ds_extend 12 (de_frz (de_comp [("less", 10)] rfl sc_by_tree.nd (dib_seq (de_loan (de_ix (de_varB 5) (de_varB 7)))) (blkOk_by (N := n_by_tree) (sc := defScope s_by_tree) (by decide +kernel)) (fun _ _ _ _ _ => (dg_name 10 sc_by_tree.nd)) (fun _ _ _ _ _ => (dts_one (dt_val (de_loan (de_call (n := 2) (T.ok_agree (w := w)) (hr.mono (by decide)) T.tg_agree T.tF_agree.kp T.tb_agree takes_quiet (da_cons (de_var 9) (da_cons (de_var 10) da_nil)) (lenC (lenC lenN))))))) (fun _ _ _ _ _ => (de_call (n := 2) (T.ok_joined (w := w)) (hr.mono (by decide)) T.tg_joined T.tF_joined.kp T.tb_joined takes_quiet (da_cons (de_var 9) (da_cons (de_var 10) da_nil)) (lenC (lenC lenN)))))))))
 (dss_one (ds_weak (o2 := [5]) (ds_set 11 sc_by_tree.nd (de_var 12)) (by decide))))))
 (dss_one (ds_ret (de_frz (de_sortSetA rfl (units66 hr) (de_loan (de_comp [("given", 9)] rfl sc_by_tree.nd (dib_seq (de_varB 11)) (blkOk_by (N := n_by_tree) (sc := defScope s_by_tree) (by decide +kernel)) (fun _ _ _ _ _ => (dg_name 9 sc_by_tree.nd)) (fun _ _ _ _ _ => dts_nil) (fun _ _ _ _ _ => (de_call (n := 2) (T.ok_put (w := w)) (hr.mono (by decide)) T.tg_put T.tF_put.kp T.tb_put takes_quiet (da_cons (de_var 9) (da_cons (de_ix (de_varB 0) (de_loan de_int)) da_nil)) (lenC (lenC lenN)))))) T.tm_sorted T.tm_set))))))))))))
theorem Txt.ok_l_cell_at : FnOk P w K mg base (L2.CX P w) 1 T.ta_l_cell_at T.td_l_cell_at ["_law_script", "_law_k"] (spD K (cvOf mg) 2 f_l_cell_at) :=
  fn_ok (k := 0) (n := 2) (m := 2) (own := []) (t := b_l_cell_at) T.tF_l_cell_at sc_l_cell_at fun cdv A outer s H B E tab nb hce hr =>
  (dss_cons (ds_if (o2 := []) (dt_cmpr (op_ltP hr.units) opd_datP (de_varB 1) (de_loan (de_len (de_varB 0) T.tm_len)))
 (dss_one (ds_ret (de_ix (de_varB 0) (de_varB 1))))
 dss_nil)
 (dss_cons (ds_if (o2 := []) (dt_cmpr (op_eqP hr.units) opd_datP (de_varB 0) (de_loan (de_lst da_nil)))
 (dss_one (ds_ret de_int))
 dss_nil)
 (dss_one (ds_ret (de_add (de_loan (de_mulI (de_loan (de_ix (de_varB 0) (de_loan (de_mod (de_varB 1) (de_loan (de_len (de_varB 0) T.tm_len)))))) (de_loan de_int))) (de_varB 1))))))
theorem Txt.ok_l_mixed : FnOk P w K mg base (L2.CX P w) 2 T.ta_l_mixed T.td_l_mixed ["_law_script", "_law_k", "_law_many"] (spD K (cvOf mg) 3 f_l_mixed) :=
  fn_ok (k := 1) (n := 4) (m := 3) (own := []) (t := b_l_mixed) T.tF_l_mixed sc_l_mixed fun cdv A outer s H B E tab nb hce hr =>
  (dss_cons (ds_set 3 sc_l_mixed.nd (de_mod (de_loan (de_mulI (de_loan (de_add (de_loan (de_add (de_loan (de_call (n := 2) (T.ok_l_cell_at (w := w)) (hr.mono (by decide)) T.tg_l_cell_at T.tF_l_cell_at.kp T.tb_l_cell_at (takes_of rfl rfl rfl rfl) (da_cons (de_var 0) (da_cons (de_var 1) da_nil)) (lenC (lenC lenN)))) (de_loan (de_mulI (de_loan de_int) (de_varB 1))))) (de_loan de_int))) (de_loan de_int))) (de_loan de_int)))
 (dss_one (ds_ret (de_mod (de_loan (de_mod (de_loan (de_add (de_loan (de_add (de_loan (de_mulI (de_varB 3) (de_varB 3))) (de_loan (de_mulI (de_loan de_int) (de_varB 3))))) (de_varB 1))) (de_loan de_int))) (de_varB 2)))))
theorem Txt.ok_l_good : FnOk P w K mg base (L2.CX P w) 1 T.ta_l_good T.td_l_good [] (spD K (cvOf mg) 0 f_l_good) :=
  fn_ok (k := 0) (n := 0) (m := 0) (own := []) (t := b_l_good) T.tF_l_good sc_l_good fun cdv A outer s H B E tab nb hce hr =>
  (dss_one (ds_ret (de_tup (da_cons (de_tup (da_cons de_str da_nil)) (da_cons (de_tup (da_cons (de_tup (da_cons de_str (da_cons (de_tup (da_cons de_str (da_cons de_str da_nil))) da_nil))) da_nil)) da_nil)))))
theorem Txt.ok_l_with_asking : FnOk P w K mg base (L2.CX P w) 9 T.ta_l_with_asking T.td_l_with_asking ["_law_what", "_law_bad_here", "_law_beside"] (spD K (cvOf mg) 3 f_l_with_asking) :=
  fn_ok (k := 8) (n := 3) (m := 3) (own := []) (t := b_l_with_asking) T.tF_l_with_asking sc_l_with_asking fun cdv A outer s H B E tab nb hce hr =>
  (dss_cons (ds_if (o2 := []) (dt_cmpr (op_eqP hr.units) opd_datP (de_varB 0) (de_loan de_int))
 (dss_one (ds_ret (de_call (n := 2) (T.ok_answers (w := w)) (hr.mono (by decide)) T.tg_answers T.tF_answers.kp T.tb_answers (takes_of rfl rfl rfl rfl) (da_cons (de_var 1) (da_cons (de_var 2) da_nil)) (lenC (lenC lenN)))))
 dss_nil)
 (dss_cons (ds_if (o2 := []) (dt_cmpr (op_eqP hr.units) opd_datP (de_varB 0) (de_loan de_int))
 (dss_one (ds_ret (de_call (n := 2) (T.ok_within (w := w)) (hr.mono (by decide)) T.tg_within T.tF_within.kp T.tb_within (takes_of rfl rfl rfl rfl) (da_cons (de_var 1) (da_cons (de_call0 (T.ok_l_good (w := w)) (hr.mono (by decide)) T.tg_l_good T.tF_l_good.kp T.tb_l_good (takes_of rfl rfl rfl rfl)) da_nil)) (lenC (lenC lenN)))))
 dss_nil)
 (dss_cons (ds_if (o2 := []) (dt_cmpr (op_eqP hr.units) opd_datP (de_varB 0) (de_loan de_int))
 (dss_one (ds_ret (de_call (n := 2) (T.ok_within (w := w)) (hr.mono (by decide)) T.tg_within T.tF_within.kp T.tb_within (takes_of rfl rfl rfl rfl) (da_cons (de_call0 (T.ok_l_good (w := w)) (hr.mono (by decide)) T.tg_l_good T.tF_l_good.kp T.tb_l_good (takes_of rfl rfl rfl rfl)) (da_cons (de_var 1) da_nil)) (lenC (lenC lenN)))))
 dss_nil)
 (dss_cons (ds_if (o2 := []) (dt_cmpr (op_eqP hr.units) opd_datP (de_varB 0) (de_loan de_int))
 (dss_one (ds_ret (de_call (n := 2) (T.ok_alike (w := w)) (hr.mono (by decide)) T.tg_alike T.tF_alike.kp T.tb_alike (takes_of rfl rfl rfl rfl) (da_cons (de_var 1) (da_cons (de_call0 (T.ok_l_good (w := w)) (hr.mono (by decide)) T.tg_l_good T.tF_l_good.kp T.tb_l_good (takes_of rfl rfl rfl rfl)) da_nil)) (lenC (lenC lenN)))))
 dss_nil)
 (dss_cons (ds_if (o2 := []) (dt_cmpr (op_eqP hr.units) opd_datP (de_varB 0) (de_loan de_int))
 (dss_one (ds_ret (de_call (n := 2) (T.ok_needless (w := w)) (hr.mono (by decide)) T.tg_needless T.tF_needless.kp T.tb_needless (takes_of rfl rfl rfl rfl) (da_cons (de_var 1) (da_cons de_int da_nil)) (lenC (lenC lenN)))))
 dss_nil)
 (dss_cons (ds_if (o2 := []) (dt_cmpr (op_eqP hr.units) opd_datP (de_varB 0) (de_loan de_int))
 (dss_one (ds_ret (de_call (n := 1) (T.ok_lean (w := w)) (hr.mono (by decide)) T.tg_lean T.tF_lean.kp T.tb_lean (takes_of rfl rfl rfl rfl) (da_cons (de_var 1) da_nil) (lenC lenN))))
 dss_nil)
 (dss_cons (ds_if (o2 := []) (dt_cmpr (op_eqP hr.units) opd_datP (de_varB 0) (de_loan de_int))
 (dss_one (ds_ret (de_call (n := 1) (T.ok_tree (w := w)) (hr.mono (by decide)) T.tg_tree T.tF_tree.kp T.tb_tree (takes_of rfl rfl rfl rfl) (da_cons (de_var 1) da_nil) (lenC lenN))))
 dss_nil)
 (dss_cons (ds_if (o2 := []) (dt_cmpr (op_eqP hr.units) opd_datP (de_varB 0) (de_loan de_int))
 (dss_one (ds_ret (de_call (n := 2) (T.ok_by_tree (w := w)) (hr.mono (by decide)) T.tg_by_tree T.tF_by_tree.kp T.tb_by_tree (takes_of rfl rfl rfl rfl) (da_cons (de_var 1) (da_cons (de_var 2) da_nil)) (lenC (lenC lenN)))))
 dss_nil)
 (dss_one (ds_ret (de_call (n := 2) (T.ok_alike (w := w)) (hr.mono (by decide)) T.tg_alike T.tF_alike.kp T.tb_alike (takes_of rfl rfl rfl rfl) (da_cons (de_call0 (T.ok_l_good (w := w)) (hr.mono (by decide)) T.tg_l_good T.tF_l_good.kp T.tb_l_good (takes_of rfl rfl rfl rfl)) (da_cons (de_var 1) da_nil)) (lenC (lenC lenN)))))))))))))
theorem Txt.ok_l_with_book : FnOk P w K mg base (L2.CX P w) 8 T.ta_l_with_book T.td_l_with_book ["_law_what", "_law_bad_here", "_law_beside"] (spD K (cvOf mg) 3 f_l_with_book) :=
  fn_ok (k := 7) (n := 4) (m := 3) (own := []) (t := b_l_with_book) T.tF_l_with_book sc_l_with_book fun cdv A outer s H B E tab nb hce hr =>
  (dss_cons (ds_if (o2 := []) (dt_cmpr (op_eqP hr.units) opd_datP (de_varB 0) (de_loan de_int))
 (dss_one (ds_ret (de_call (n := 2) (T.ok_answers (w := w)) (hr.mono (by decide)) T.tg_answers T.tF_answers.kp T.tb_answers (takes_of rfl rfl rfl rfl) (da_cons (de_call0 (T.ok_l_good (w := w)) (hr.mono (by decide)) T.tg_l_good T.tF_l_good.kp T.tb_l_good (takes_of rfl rfl rfl rfl)) (da_cons (de_var 1) da_nil)) (lenC (lenC lenN)))))
 dss_nil)
 (dss_cons (ds_if (o2 := []) (dt_cmpr (op_eqP hr.units) opd_datP (de_varB 0) (de_loan de_int))
 (dss_cons (ds_set 3 sc_l_with_book.nd (de_call0 (T.ok_l_good (w := w)) (hr.mono (by decide)) T.tg_l_good T.tF_l_good.kp T.tb_l_good (takes_of rfl rfl rfl rfl)))
 (dss_cons (ds_if (o2 := []) (dt_cmpr op_isN opd_isN (de_varB 2) (de_loan de_non))
 (dss_one (ds_set 3 sc_l_with_book.nd (de_tup (da_cons (de_tup da_nil) (da_cons (de_tup (da_cons (de_tup (da_cons de_str (da_cons (de_tup (da_cons de_str (da_cons de_str da_nil))) da_nil))) (da_cons (de_tup (da_cons de_str (da_cons (de_tup (da_cons de_str (da_cons de_str da_nil))) da_nil))) (da_cons (de_tup (da_cons de_str (da_cons (de_tup (da_cons de_str (da_cons de_str da_nil))) da_nil))) da_nil)))) da_nil)))))
 dss_nil)
 (dss_one (ds_ret (de_call (n := 2) (T.ok_by_tree (w := w)) (hr.mono (by decide)) T.tg_by_tree T.tF_by_tree.kp T.tb_by_tree (takes_of rfl rfl rfl rfl) (da_cons (de_var 3) (da_cons (de_var 1) da_nil)) (lenC (lenC lenN)))))))
 dss_nil)
 (dss_cons (ds_if (o2 := []) (dt_cmpr (op_eqP hr.units) opd_datP (de_varB 0) (de_loan de_int))
 (dss_one (ds_ret (de_call (n := 2) (T.ok_comes (w := w)) (hr.mono (by decide)) T.tg_comes T.tF_comes.kp T.tb_comes (takes_of rfl rfl rfl rfl) (da_cons (de_var 2) (da_cons (de_var 1) da_nil)) (lenC (lenC lenN)))))
 dss_nil)
 (dss_one (ds_ret (de_call (n := 3) (T.ok_why (w := w)) (hr.mono (by decide)) T.tg_why T.tF_why.kp T.tb_why (takes_of rfl rfl rfl rfl) (da_cons (de_var 2) (da_cons (de_var 1) (da_cons (de_tup (da_cons de_str (da_cons (de_tup (da_cons de_int (da_cons de_int da_nil))) da_nil))) da_nil))) (lenC (lenC (lenC lenN)))))))))
theorem Txt.ok_l_with_rules : FnOk P w K mg base (L2.CX P w) 8 T.ta_l_with_rules T.td_l_with_rules ["_law_what", "_law_bad_here"] (spD K (cvOf mg) 2 f_l_with_rules) :=
  fn_ok (k := 7) (n := 2) (m := 2) (own := []) (t := b_l_with_rules) T.tF_l_with_rules sc_l_with_rules fun cdv A outer s H B E tab nb hce hr =>
  (dss_cons (ds_if (o2 := []) (dt_cmpr (op_eqP hr.units) opd_datP (de_varB 0) (de_loan de_int))
 (dss_one (ds_ret (de_call (n := 2) (T.ok_comes (w := w)) (hr.mono (by decide)) T.tg_comes T.tF_comes.kp T.tb_comes (takes_of rfl rfl rfl rfl) (da_cons (de_var 1) (da_cons (de_frz (de_lst (da_cons (de_tup (da_cons de_str (da_cons (de_tup (da_cons de_int (da_cons de_int da_nil))) da_nil))) da_nil))) da_nil)) (lenC (lenC lenN)))))
 dss_nil)
 (dss_one (ds_ret (de_call (n := 3) (T.ok_why (w := w)) (hr.mono (by decide)) T.tg_why T.tF_why.kp T.tb_why (takes_of rfl rfl rfl rfl) (da_cons (de_var 1) (da_cons (de_frz (de_lst (da_cons (de_tup (da_cons de_str (da_cons (de_tup (da_cons de_int (da_cons de_int da_nil))) da_nil))) da_nil))) (da_cons (de_tup (da_cons de_str (da_cons (de_tup (da_cons de_int (da_cons de_int da_nil))) da_nil))) da_nil))) (lenC (lenC (lenC lenN)))))))
theorem Txt.ok_l_asked : FnOk P w K mg base (L2.CX P w) 10 T.ta_l_asked T.td_l_asked ["_law_kind_here", "_law_what", "_law_bad_here"] (spD K (cvOf mg) 3 f_l_asked) :=
  fn_ok (k := 9) (n := 4) (m := 3) (own := []) (t := b_l_asked) T.tF_l_asked sc_l_asked fun cdv A outer s H B E tab nb hce hr =>
  (dss_cons (ds_set 3 sc_l_asked.nd (de_ix (de_loan (de_lst (da_cons (de_frz (de_lst da_nil)) (da_cons de_non da_nil)))) (de_loan (de_fdiv (de_varB 1) (de_loan de_int)))))
 (dss_cons (ds_if (o2 := []) (dt_cmpr (op_eqP hr.units) opd_datP (de_varB 0) (de_loan de_int))
 (dss_one (ds_ret (de_call (n := 3) (T.ok_l_with_asking (w := w)) (hr.mono (by decide)) T.tg_l_with_asking T.tF_l_with_asking.kp T.tb_l_with_asking (takes_of rfl rfl rfl rfl) (da_cons (de_mod (de_varB 1) (de_loan de_int)) (da_cons (de_var 2) (da_cons (de_var 3) da_nil))) (lenC (lenC (lenC lenN))))))
 dss_nil)
 (dss_cons (ds_if (o2 := []) (dt_cmpr (op_eqP hr.units) opd_datP (de_varB 0) (de_loan de_int))
 (dss_one (ds_ret (de_call (n := 3) (T.ok_l_with_book (w := w)) (hr.mono (by decide)) T.tg_l_with_book T.tF_l_with_book.kp T.tb_l_with_book (takes_of rfl rfl rfl rfl) (da_cons (de_mod (de_varB 1) (de_loan de_int)) (da_cons (de_var 2) (da_cons (de_var 3) da_nil))) (lenC (lenC (lenC lenN))))))
 dss_nil)
 (dss_cons (ds_if (o2 := []) (dt_cmpr (op_eqP hr.units) opd_datP (de_varB 0) (de_loan de_int))
 (dss_one (ds_ret (de_call (n := 2) (T.ok_l_with_rules (w := w)) (hr.mono (by decide)) T.tg_l_with_rules T.tF_l_with_rules.kp T.tb_l_with_rules (takes_of rfl rfl rfl rfl) (da_cons (de_mod (de_varB 1) (de_loan de_int)) (da_cons (de_var 2) da_nil)) (lenC (lenC lenN)))))
 dss_nil)
 (dss_cons (ds_if (o2 := []) (dt_cmpr (op_eqP hr.units) opd_datP (de_loan (de_mod (de_varB 1) (de_loan de_int))) (de_loan de_int))
 (dss_one (ds_ret (de_call (n := 2) (T.ok_within (w := w)) (hr.mono (by decide)) T.tg_within T.tF_within.kp T.tb_within (takes_of rfl rfl rfl rfl) (da_cons (de_call0 (T.ok_l_good (w := w)) (hr.mono (by decide)) T.tg_l_good T.tF_l_good.kp T.tb_l_good (takes_of rfl rfl rfl rfl)) (da_cons (de_var 2) da_nil)) (lenC (lenC lenN)))))
 dss_nil)
 (dss_one (ds_ret (de_call (n := 2) (T.ok_alike (w := w)) (hr.mono (by decide)) T.tg_alike T.tF_alike.kp T.tb_alike (takes_of rfl rfl rfl rfl) (da_cons (de_var 2) (da_cons (de_call0 (T.ok_l_good (w := w)) (hr.mono (by decide)) T.tg_l_good T.tF_l_good.kp T.tb_l_good (takes_of rfl rfl rfl rfl)) da_nil)) (lenC (lenC lenN))))))))))
theorem Txt.ok_l_kind : FnOk P w K mg base (L2.CX P w) 11 T.ta_l_kind T.td_l_kind ["_law_kind_here", "_law_what", "_law_bad_here"] (spD K (cvOf mg) 3 f_l_kind) :=
  fn_ok (k := 10) (n := 6) (m := 3) (own := []) (t := b_l_kind) T.tF_l_kind sc_l_kind fun cdv A outer s H B E tab nb hce hr =>
  (dss_cons (ds_tryK44 3 4 5 (T := "ValueError") (p := (fun y => decide (y ∈ (["NoAsking", "NoBook", "NoRules", "NoTree", "Unlike"] : List Str)))) (v1 := (fun y => [decide (y ∈ (["NoAsking"] : List Str)), decide (y ∈ (["NoBook"] : List Str)), decide (y ∈ (["NoRules"] : List Str)), decide (y ∈ (["Unlike"] : List Str))])) (v2 := (fun y => [decide (y ∈ ([] : List Str)), decide (y ∈ ([] : List Str)), decide (y ∈ (["NoTree"] : List Str)), decide (y ∈ ([] : List Str))])) (vb := (fun y => decide (y ∈ (["NoAsking", "NoBook", "NoRules", "NoTree", "Unlike"] : List Str)))) (tw := (xAndT (xT (x2 eqD (xCount (x2 addD (xVar 4) (xVar 5)) (xC (.bool true))) (xC (.int 1)))) (xT (x2 inD (xC (.bool true)) (xVar 4))))) (tb := (sRet (xIndex (xVar 4) (xC (.bool true))))) ["NoAsking", "NoBook", "NoRules", "NoTree", "Unlike"] rfl rfl (takes_of rfl rfl rfl rfl) sc_l_kind.nd (fun W pn xe tk' => (de_call (n := 3) (T.ok_l_asked (w := w)) (hr.mono (by decide)) T.tg_l_asked T.tF_l_asked.kp T.tb_l_asked tk' (da_cons (de_var 0) (da_cons (de_var 1) (da_cons (de_var 2) da_nil))) (lenC (lenC (lenC lenN))))) ⟨rfl, by decide, .inl T.xg_AskError⟩ (List.forall_mem_cons.mpr ⟨exm_of (cv_of T.xg_NoAsking) T.xm_NoAsking_AskError (by decide), (List.forall_mem_cons.mpr ⟨exm_of (cv_of T.xg_NoBook) T.xm_NoBook_AskError (by decide), (List.forall_mem_cons.mpr ⟨exm_of (cv_of T.xg_NoRules) T.xm_NoRules_AskError (by decide), (List.forall_mem_cons.mpr ⟨exm_of (cv_of T.xg_NoTree) T.xm_NoTree_AskError (by decide), (List.forall_mem_cons.mpr ⟨exm_of (cv_of T.xg_Unlike) T.xm_Unlike_AskError (by decide), (fun y hy => nomatch hy)⟩)⟩)⟩)⟩)⟩) (List.forall_mem_cons.mpr ⟨fun _ => ⟨T.xa_NoAsking, cv_of T.xg_NoAsking, T.xe_NoAsking, (kl4 (T.xo_NoAsking_NoAsking.trans (congrArg some (by decide))) (T.xo_NoAsking_NoBook.trans (congrArg some (by decide))) (T.xo_NoAsking_NoRules.trans (congrArg some (by decide))) (T.xo_NoAsking_Unlike.trans (congrArg some (by decide)))), (kl4 (T.xo_NoAsking_NoBonds.trans (congrArg some (by decide))) (T.xo_NoAsking_NoColumns.trans (congrArg some (by decide))) (T.xo_NoAsking_NoTree.trans (congrArg some (by decide))) (T.xo_NoAsking_NoText.trans (congrArg some (by decide)))), T.xi_NoAsking_ValueError.trans (congrArg some (by decide))⟩, (List.forall_mem_cons.mpr ⟨fun _ => ⟨T.xa_NoBook, cv_of T.xg_NoBook, T.xe_NoBook, (kl4 (T.xo_NoBook_NoAsking.trans (congrArg some (by decide))) (T.xo_NoBook_NoBook.trans (congrArg some (by decide))) (T.xo_NoBook_NoRules.trans (congrArg some (by decide))) (T.xo_NoBook_Unlike.trans (congrArg some (by decide)))), (kl4 (T.xo_NoBook_NoBonds.trans (congrArg some (by decide))) (T.xo_NoBook_NoColumns.trans (congrArg some (by decide))) (T.xo_NoBook_NoTree.trans (congrArg some (by decide))) (T.xo_NoBook_NoText.trans (congrArg some (by decide)))), T.xi_NoBook_ValueError.trans (congrArg some (by decide))⟩, (List.forall_mem_cons.mpr ⟨fun _ => ⟨T.xa_NoRules, cv_of T.xg_NoRules, T.xe_NoRules, (kl4 (T.xo_NoRules_NoAsking.trans (congrArg some (by decide))) (T.xo_NoRules_NoBook.trans (congrArg some (by decide))) (T.xo_NoRules_NoRules.trans (congrArg some (by decide))) (T.xo_NoRules_Unlike.trans (congrArg some (by decide)))), (kl4 (T.xo_NoRules_NoBonds.trans (congrArg some (by decide))) (T.xo_NoRules_NoColumns.trans (congrArg some (by decide))) (T.xo_NoRules_NoTree.trans (congrArg some (by decide))) (T.xo_NoRules_NoText.trans (congrArg some (by decide)))), T.xi_NoRules_ValueError.trans (congrArg some (by decide))⟩, (List.forall_mem_cons.mpr ⟨fun _ => ⟨T.xa_NoTree, cv_of T.xg_NoTree, T.xe_NoTree, (kl4 (T.xo_NoTree_NoAsking.trans (congrArg some (by decide))) (T.xo_NoTree_NoBook.trans (congrArg some (by decide))) (T.xo_NoTree_NoRules.trans (congrArg some (by decide))) (T.xo_NoTree_Unlike.trans (congrArg some (by decide)))), (kl4 (T.xo_NoTree_NoBonds.trans (congrArg some (by decide))) (T.xo_NoTree_NoColumns.trans (congrArg some (by decide))) (T.xo_NoTree_NoTree.trans (congrArg some (by decide))) (T.xo_NoTree_NoText.trans (congrArg some (by decide)))), T.xi_NoTree_ValueError.trans (congrArg some (by decide))⟩, (List.forall_mem_cons.mpr ⟨fun _ => ⟨T.xa_Unlike, cv_of T.xg_Unlike, T.xe_Unlike, (kl4 (T.xo_Unlike_NoAsking.trans (congrArg some (by decide))) (T.xo_Unlike_NoBook.trans (congrArg some (by decide))) (T.xo_Unlike_NoRules.trans (congrArg some (by decide))) (T.xo_Unlike_Unlike.trans (congrArg some (by decide)))), (kl4 (T.xo_Unlike_NoBonds.trans (congrArg some (by decide))) (T.xo_Unlike_NoColumns.trans (congrArg some (by decide))) (T.xo_Unlike_NoTree.trans (congrArg some (by decide))) (T.xo_Unlike_NoText.trans (congrArg some (by decide)))), T.xi_Unlike_ValueError.trans (congrArg some (by decide))⟩, (fun y hy => nomatch hy)⟩)⟩)⟩)⟩)⟩) T.tm_isinstance T.tm_ValueError rfl T.xg_NoAsking T.xg_NoBook T.xg_NoRules T.xg_Unlike T.xg_NoBonds T.xg_NoColumns T.xg_NoTree T.xg_NoText (fun a oe pn => (dw_and (dt_cmpr (op_eqP hr.units) opd_datP (de_loan (de_count (units65 hr :) (de_loan (de_add (de_varB 4) (de_varB 5))) (de_loan de_bl))) (de_loan de_int)) (dw_and1 (dt_cmpr (op_inP hr.units) opd_datP (de_loan de_bl) (de_varB 4))))) (fun a oe pn => (dss_one (ds_ret (de_index (units65 hr :) (de_varB 4) (de_loan de_bl))))))
 (dss_one (ds_ret (de_neg (de_loan de_int)))))
theorem Txt.ok_l_bad : FnOk P w K mg base (L2.CX P w) 1 T.ta_l_bad T.td_l_bad ["_law_kind_here", "_law_cell"] (spD K (cvOf mg) 2 f_l_bad) :=
  fn_ok (k := 0) (n := 4) (m := 2) (own := []) (t := b_l_bad) T.tF_l_bad sc_l_bad fun cdv A outer s H B E tab nb hce hr =>
  (dss_cons (ds_set 2 sc_l_bad.nd (de_tup (da_cons de_str (da_cons (de_tup (da_cons de_str (da_cons de_str da_nil))) da_nil))))
 (dss_cons (ds_if (o2 := []) (dt_cmpr (op_eqP hr.units) opd_datP (de_varB 0) (de_loan de_int))
 (dss_cons (ds_setO 3 sc_l_bad.nd (de_lst (da_cons de_non (da_cons (de_frz (de_lst (da_cons (de_tup (da_cons de_str da_nil)) (da_cons (de_tup (da_cons (de_var 2) da_nil)) da_nil)))) (da_cons (de_tup (da_cons (de_tup (da_cons de_str da_nil)) (da_cons (de_tup da_nil) da_nil))) (da_cons (de_tup (da_cons (de_tup (da_cons de_str da_nil)) (da_cons (de_tup (da_cons (de_var 2) da_nil)) da_nil))) da_nil))))))
 (dss_cons (ds_extend 3 (de_frz (de_lst (da_cons (de_tup (da_cons (de_tup (da_cons de_str da_nil)) (da_cons (de_frz (de_lst (da_cons (de_var 2) da_nil))) da_nil))) (da_cons (de_tup (da_cons (de_tup (da_cons de_str da_nil)) (da_cons (de_tup (da_cons (de_tup (da_cons de_str (da_cons (de_tup (da_cons de_str (da_cons de_int da_nil))) da_nil))) da_nil)) da_nil))) da_nil)))))
 (dss_one (ds_ret (de_ix (de_varB 3) (de_loan (de_mod (de_varB 1) (de_loan de_int))))))))
 dss_nil)
 (dss_cons (ds_if (o2 := []) (dt_cmpr (op_eqP hr.units) opd_datP (de_varB 0) (de_loan de_int))
 (dss_cons (ds_setO 3 sc_l_bad.nd (de_lst (da_cons de_non (da_cons (de_frz (de_lst (da_cons (de_tup (da_cons de_str (da_cons (de_tup (da_cons de_int (da_cons de_int da_nil))) da_nil))) (da_cons (de_tup (da_cons de_str (da_cons (de_tup (da_cons de_int (da_cons de_int da_nil))) da_nil))) da_nil)))) (da_cons (de_frz (de_lst (da_cons (de_frz (de_lst (da_cons de_str (da_cons (de_tup (da_cons de_int (da_cons de_int da_nil))) da_nil)))) da_nil))) da_nil)))))
 (dss_cons (ds_extend 3 (de_frz (de_lst (da_cons (de_frz (de_lst (da_cons (de_tup (da_cons de_str (da_cons (de_frz (de_lst (da_cons de_int (da_cons de_int da_nil)))) da_nil))) da_nil))) (da_cons (de_frz (de_lst (da_cons (de_tup (da_cons de_str (da_cons (de_tup (da_cons de_int da_nil)) da_nil))) (da_cons (de_tup (da_cons de_str (da_cons (de_tup (da_cons de_int (da_cons de_int da_nil))) da_nil))) da_nil)))) da_nil)))))
 (dss_one (ds_ret (de_ix (de_varB 3) (de_loan (de_mod (de_varB 1) (de_loan de_int))))))))
 dss_nil)
 (dss_cons (ds_if (o2 := []) (dt_cmpr (op_eqP hr.units) opd_datP (de_varB 0) (de_loan de_int))
 (dss_cons (ds_setO 3 sc_l_bad.nd (de_lst (da_cons de_non (da_cons (de_tup da_nil) (da_cons (de_frz (de_rep (de_lst (da_cons (de_tup (da_cons (de_var 2) (da_cons (de_tup (da_cons (de_var 2) da_nil)) da_nil))) da_nil)) de_int)) (da_cons (de_frz (de_lst (da_cons (de_frz (de_lst (da_cons (de_var 2) (da_cons (de_tup (da_cons (de_var 2) da_nil)) da_nil)))) da_nil))) (da_cons (de_frz (de_lst (da_cons (de_tup (da_cons (de_var 2) (da_cons (de_tup da_nil) da_nil))) da_nil))) (da_cons (de_frz (de_lst (da_cons (de_tup (da_cons (de_var 2) (da_cons (de_mulT (de_loan (de_tup (da_cons (de_var 2) da_nil))) (de_loan de_int)) da_nil))) da_nil))) da_nil))))))))
 (dss_cons (ds_extend 3 (de_frz (de_lst (da_cons (de_frz (de_lst (da_cons (de_tup (da_cons (de_tup (da_cons de_str (da_cons (de_tup (da_cons de_str (da_cons de_str da_nil))) da_nil))) (da_cons (de_tup (da_cons (de_var 2) da_nil)) da_nil))) da_nil))) (da_cons (de_frz (de_lst (da_cons (de_tup (da_cons (de_tup (da_cons de_str (da_cons (de_tup (da_cons de_str da_nil)) da_nil))) (da_cons (de_tup (da_cons (de_var 2) da_nil)) da_nil))) da_nil))) da_nil)))))
 (dss_cons (ds_append 3 (de_frz (de_lst (da_cons (de_tup (da_cons (de_tup (da_cons de_str (da_cons (de_tup (da_cons de_str da_nil)) da_nil))) (da_cons (de_tup (da_cons (de_tup (da_cons de_str (da_cons (de_tup (da_cons de_str (da_cons de_str da_nil))) da_nil))) da_nil)) da_nil))) da_nil))))
 (dss_cons (ds_append 3 (de_frz (de_lst (da_cons (de_tup (da_cons (de_tup (da_cons de_str (da_cons (de_tup (da_cons de_str da_nil)) da_nil))) (da_cons (de_tup (da_cons (de_tup (da_cons de_str (da_cons (de_tup (da_cons de_str da_nil)) da_nil))) da_nil)) da_nil))) da_nil))))
 (dss_cons (ds_append 3 (de_frz (de_lst (da_cons (de_tup (da_cons (de_tup (da_cons de_str (da_cons (de_tup (da_cons de_str da_nil)) da_nil))) (da_cons (de_tup (da_cons (de_tup (da_cons de_str (da_cons (de_tup (da_cons de_str da_nil)) da_nil))) da_nil)) da_nil))) (da_cons (de_tup (da_cons (de_tup (da_cons de_str (da_cons (de_tup (da_cons de_str da_nil)) da_nil))) (da_cons (de_tup (da_cons (de_tup (da_cons de_str (da_cons (de_tup (da_cons de_str (da_cons de_str da_nil))) da_nil))) da_nil)) da_nil))) da_nil)))))
 (dss_one (ds_ret (de_ix (de_varB 3) (de_loan (de_mod (de_varB 1) (de_loan de_int)))))))))))
 dss_nil)
 (dss_one (ds_ret (de_ix (de_loan (de_lst (da_cons (de_tup (da_cons (de_tup da_nil) (da_cons (de_tup (da_cons (de_var 2) da_nil)) da_nil))) (da_cons (de_tup (da_cons (de_tup (da_cons de_str (da_cons de_str da_nil))) (da_cons (de_tup (da_cons (de_var 2) da_nil)) da_nil))) (da_cons (de_tup (da_cons (de_tup (da_cons de_int (da_cons de_int (da_cons de_int da_nil)))) (da_cons (de_tup (da_cons (de_var 2) da_nil)) da_nil))) da_nil))))) (de_loan (de_mod (de_varB 1) (de_loan de_int))))))))))
theorem Txt.ok_law : FnOk P w K mg base (L2.CX P w) 12 T.ta_law T.td_law ["_law_script"] (spD K (cvOf mg) 1 f_law) :=
  fn_ok (k := 11) (n := 5) (m := 1) (own := []) (t := b_law) T.tF_law sc_law fun cdv A outer s H B E tab nb hce hr =>
  (dss_cons (ds_set 1 sc_law.nd (de_call (n := 3) (T.ok_l_mixed (w := w)) (hr.mono (by decide)) T.tg_l_mixed T.tF_l_mixed.kp T.tb_l_mixed (takes_of rfl rfl rfl rfl) (da_cons (de_var 0) (da_cons de_int (da_cons de_int da_nil))) (lenC (lenC (lenC lenN)))))
 (dss_cons (ds_set 2 sc_law.nd (de_call (n := 3) (T.ok_l_mixed (w := w)) (hr.mono (by decide)) T.tg_l_mixed T.tF_l_mixed.kp T.tb_l_mixed (takes_of rfl rfl rfl rfl) (da_cons (de_var 0) (da_cons de_int (da_cons de_int da_nil))) (lenC (lenC (lenC lenN)))))
 (dss_cons (ds_set 3 sc_law.nd (de_call (n := 2) (T.ok_l_bad (w := w)) (hr.mono (by decide)) T.tg_l_bad T.tF_l_bad.kp T.tb_l_bad (takes_of rfl rfl rfl rfl) (da_cons (de_var 1) (da_cons (de_call (n := 3) (T.ok_l_mixed (w := w)) (hr.mono (by decide)) T.tg_l_mixed T.tF_l_mixed.kp T.tb_l_mixed (takes_of rfl rfl rfl rfl) (da_cons (de_var 0) (da_cons de_int (da_cons (de_pow (de_loan de_int) (de_loan de_int)) da_nil))) (lenC (lenC (lenC lenN)))) da_nil)) (lenC (lenC lenN))))
 (dss_cons (ds_set 4 sc_law.nd (de_tup (da_cons (de_tup (da_cons de_str (da_cons (de_tup (da_cons de_str (da_cons de_str da_nil))) da_nil))) (da_cons (de_tup (da_cons (de_tup (da_cons de_str (da_cons (de_tup (da_cons de_str (da_cons de_str da_nil))) da_nil))) da_nil)) da_nil))))
 (dss_cons (ds_if (o2 := []) (dt_cmpr (op_neP hr.units) opd_datP (de_loan (de_call (n := 2) (T.ok_comes (w := w)) (hr.mono (by decide)) T.tg_comes T.tF_comes.kp T.tb_comes (takes_of rfl rfl rfl rfl) (da_cons (de_frz (de_rep (de_lst (da_cons (de_var 4) da_nil)) de_int)) (da_cons (de_frz (de_lst (da_cons (de_tup (da_cons de_str (da_cons (de_tup (da_cons de_int (da_cons de_int da_nil))) da_nil))) da_nil))) da_nil)) (lenC (lenC lenN)))) (de_loan (de_lst (da_cons (de_tup (da_cons de_str (da_cons (de_tup (da_cons de_int (da_cons de_int da_nil))) da_nil))) (da_cons (de_tup (da_cons de_str (da_cons (de_tup (da_cons de_int (da_cons de_int da_nil))) da_nil))) da_nil)))))
 (dss_one (ds_ret de_bl))
 dss_nil)
 (dss_one (ds_ret (de_cmp (op_eqP hr.units) opd_datP (de_loan (de_call (n := 3) (T.ok_l_kind (w := w)) (hr.mono (by decide)) T.tg_l_kind T.tF_l_kind.kp T.tb_l_kind (takes_of rfl rfl rfl rfl) (da_cons (de_var 1) (da_cons (de_var 2) (da_cons (de_var 3) da_nil))) (lenC (lenC (lenC lenN))))) (de_varB 1)))))))))
end
theorem law_facts {l : PySem.W.OpenLaw} {w : World} {K : PySem.W.Frag} {h : Heap} {mg : Str → Option Value} {fa : Addr} (X : K.In h) (G : h.Ns mainGlobals mg) (hfa : mg "law" = some (.ref fa)) (T : Txt K mg) :
    ∃ fd : FuncData, (∀ (s : Shared) (v : Value), BindsTo s fd ⟨[v], []⟩ [("_law_script", v)]) ∧ ∀ base : Heap, K.In base → base.Ns mainGlobals mg → FnOk l.prog w K mg base (L2.CX l.prog w) 12 fa fd ["_law_script"] (spLaw K 63) := by
  have e := hfa.symm.trans T.tg_law
  cases e
  refine ⟨T.td_law, fun s v => ?_, fun base _ _ => (letI : WCx := ⟨some w⟩; haveI : NW w := ⟨rfl⟩; law_imp T.ok_law law_true)⟩
  obtain ⟨oc, od, kV, doc, pm, an, cdv, ct, osl, hfd, lk, hcd⟩ := T.tF_law.ex
  rw [hfd]
  exact .of_eq rfl

def txt_mk {K : PySem.W.Frag} {h : Heap} {mg : Str → Option Value} (X : K.In h) (G : h.Ns mainGlobals mg)  {ty0 : Nat} {h0 : Addr} {h1 : Addr} {h2 : Addr} {h3 : Addr} {e0 : Addr} {e1 : Addr} {e2 : Addr} {e3 : Addr} {e4 : Addr} {f0 f1 f2 f3 f4 f5 f6 f7 f8 f9 f10 f11 f12 f13 f14 f15 f16 f17 f18 f19 f20 f21 f22 f23 f24 f25 f26 f27 f28 f29 f30 f31 f32 f33 f34 f35 f36 f37 f38 f39 f40 f41 f42 f43 f44 f45 f46 f47 f48 : Addr} {od0 an0 od1 an1 od2 an2 od3 an3 od4 an4 od5 an5 od6 an6 od7 an7 od8 an8 od9 an9 od10 an10 od11 an11 od12 an12 od13 an13 od14 an14 od15 an15 od16 an16 od17 an17 od18 an18 od19 an19 od20 an20 od21 an21 od22 an22 od23 an23 od24 an24 od25 an25 od26 an26 od27 an27 od28 an28 od29 an29 od30 an30 od31 an31 od32 an32 od33 an33 od34 an34 od35 an35 od36 an36 od37 an37 od38 an38 od39 an39 od40 an40 od41 an41 od42 an42 od43 an43 od44 an44 od45 an45 od46 an46 od47 an47 od48 an48 : Option Addr} {sl0 sl1 sl2 sl3 sl4 sl5 sl6 sl7 sl8 sl9 sl10 sl11 sl12 sl13 sl14 sl15 sl16 sl17 sl18 sl19 sl20 sl21 sl22 sl23 sl24 sl25 sl26 sl27 sl28 sl29 sl30 sl31 sl32 sl33 sl34 sl35 sl36 sl37 sl38 sl39 sl40 sl41 sl42 sl43 sl44 sl45 sl46 sl47 sl48 : Array (Option Value)} {oc0 kV0 dc0 pm0 cd0 ct0 oc1 kV1 dc1 pm1 cd1 ct1 oc2 kV2 dc2 pm2 cd2 ct2 oc3 kV3 dc3 pm3 cd3 ct3 oc4 kV4 dc4 pm4 cd4 ct4 oc5 kV5 dc5 pm5 cd5 ct5 oc6 kV6 dc6 pm6 cd6 ct6 oc7 kV7 dc7 pm7 cd7 ct7 oc8 kV8 dc8 pm8 cd8 ct8 oc9 kV9 dc9 pm9 cd9 ct9 oc10 kV10 dc10 pm10 cd10 ct10 oc11 kV11 dc11 pm11 cd11 ct11 oc12 kV12 dc12 pm12 cd12 ct12 oc13 kV13 dc13 pm13 cd13 ct13 oc14 kV14 dc14 pm14 cd14 ct14 oc15 kV15 dc15 pm15 cd15 ct15 oc16 kV16 dc16 pm16 cd16 ct16 oc17 kV17 dc17 pm17 cd17 ct17 oc18 kV18 dc18 pm18 cd18 ct18 oc19 kV19 dc19 pm19 cd19 ct19 oc20 kV20 dc20 pm20 cd20 ct20 oc21 kV21 dc21 pm21 cd21 ct21 oc22 kV22 dc22 pm22 cd22 ct22 oc23 kV23 dc23 pm23 cd23 ct23 oc24 kV24 dc24 pm24 cd24 ct24 oc25 kV25 dc25 pm25 cd25 ct25 oc26 kV26 dc26 pm26 cd26 ct26 oc27 kV27 dc27 pm27 cd27 ct27 oc28 kV28 dc28 pm28 cd28 ct28 oc29 kV29 dc29 pm29 cd29 ct29 oc30 kV30 dc30 pm30 cd30 ct30 oc31 kV31 dc31 pm31 cd31 ct31 oc32 kV32 dc32 pm32 cd32 ct32 oc33 kV33 dc33 pm33 cd33 ct33 oc34 kV34 dc34 pm34 cd34 ct34 oc35 kV35 dc35 pm35 cd35 ct35 oc36 kV36 dc36 pm36 cd36 ct36 oc37 kV37 dc37 pm37 cd37 ct37 oc38 kV38 dc38 pm38 cd38 ct38 oc39 kV39 dc39 pm39 cd39 ct39 oc40 kV40 dc40 pm40 cd40 ct40 oc41 kV41 dc41 pm41 cd41 ct41 oc42 kV42 dc42 pm42 cd42 ct42 oc43 kV43 dc43 pm43 cd43 ct43 oc44 kV44 dc44 pm44 cd44 ct44 oc45 kV45 dc45 pm45 cd45 ct45 oc46 kV46 dc46 pm46 cd46 ct46 oc47 kV47 dc47 pm47 cd47 ct47 oc48 kV48 dc48 pm48 cd48 ct48 : Value}
    (a0 : PySem.W.nsIn K mainGlobals "is_whole" = some (some (.ref f0))) (l0 : K.lookup f0 = some ⟨oc0, od0, .func (PySem.W.fnOf "is_whole" "is_whole" (defArgs s_is_whole) (defBody s_is_whole) (defScope s_is_whole) .none kV0 dc0 pm0 an0 cd0 ct0), sl0⟩) (c0 : PySem.W.codeIn K cd0 "is_whole" = true) (k0 : PySem.W.keepIn K (.ref f0) = true)
    (a1 : PySem.W.nsIn K mainGlobals "is_name" = some (some (.ref f1))) (l1 : K.lookup f1 = some ⟨oc1, od1, .func (PySem.W.fnOf "is_name" "is_name" (defArgs s_is_name) (defBody s_is_name) (defScope s_is_name) .none kV1 dc1 pm1 an1 cd1 ct1), sl1⟩) (c1 : PySem.W.codeIn K cd1 "is_name" = true) (k1 : PySem.W.keepIn K (.ref f1) = true)
    (a2 : PySem.W.nsIn K mainGlobals "is_term" = some (some (.ref f2))) (l2 : K.lookup f2 = some ⟨oc2, od2, .func (PySem.W.fnOf "is_term" "is_term" (defArgs s_is_term) (defBody s_is_term) (defScope s_is_term) .none kV2 dc2 pm2 an2 cd2 ct2), sl2⟩) (c2 : PySem.W.codeIn K cd2 "is_term" = true) (k2 : PySem.W.keepIn K (.ref f2) = true)
    (a3 : PySem.W.nsIn K mainGlobals "is_fact" = some (some (.ref f3))) (l3 : K.lookup f3 = some ⟨oc3, od3, .func (PySem.W.fnOf "is_fact" "is_fact" (defArgs s_is_fact) (defBody s_is_fact) (defScope s_is_fact) .none kV3 dc3 pm3 an3 cd3 ct3), sl3⟩) (c3 : PySem.W.codeIn K cd3 "is_fact" = true) (k3 : PySem.W.keepIn K (.ref f3) = true)
    (a4 : PySem.W.nsIn K mainGlobals "is_atom" = some (some (.ref f4))) (l4 : K.lookup f4 = some ⟨oc4, od4, .func (PySem.W.fnOf "is_atom" "is_atom" (defArgs s_is_atom) (defBody s_is_atom) (defScope s_is_atom) .none kV4 dc4 pm4 an4 cd4 ct4), sl4⟩) (c4 : PySem.W.codeIn K cd4 "is_atom" = true) (k4 : PySem.W.keepIn K (.ref f4) = true)
    (a5 : PySem.W.nsIn K mainGlobals "alike_long" = some (some (.ref f5))) (l5 : K.lookup f5 = some ⟨oc5, od5, .func (PySem.W.fnOf "alike_long" "alike_long" (defArgs s_alike_long) (defBody s_alike_long) (defScope s_alike_long) .none kV5 dc5 pm5 an5 cd5 ct5), sl5⟩) (c5 : PySem.W.codeIn K cd5 "alike_long" = true) (k5 : PySem.W.keepIn K (.ref f5) = true)
    (a6 : PySem.W.nsIn K mainGlobals "are_facts" = some (some (.ref f6))) (l6 : K.lookup f6 = some ⟨oc6, od6, .func (PySem.W.fnOf "are_facts" "are_facts" (defArgs s_are_facts) (defBody s_are_facts) (defScope s_are_facts) .none kV6 dc6 pm6 an6 cd6 ct6), sl6⟩) (c6 : PySem.W.codeIn K cd6 "are_facts" = true) (k6 : PySem.W.keepIn K (.ref f6) = true)
    (a7 : PySem.W.nsIn K mainGlobals "checked_book" = some (some (.ref f7))) (l7 : K.lookup f7 = some ⟨oc7, od7, .func (PySem.W.fnOf "checked_book" "checked_book" (defArgs s_checked_book) (defBody s_checked_book) (defScope s_checked_book) .none kV7 dc7 pm7 an7 cd7 ct7), sl7⟩) (c7 : PySem.W.codeIn K cd7 "checked_book" = true) (k7 : PySem.W.keepIn K (.ref f7) = true)
    (a8 : PySem.W.nsIn K mainGlobals "are_atoms" = some (some (.ref f8))) (l8 : K.lookup f8 = some ⟨oc8, od8, .func (PySem.W.fnOf "are_atoms" "are_atoms" (defArgs s_are_atoms) (defBody s_are_atoms) (defScope s_are_atoms) .none kV8 dc8 pm8 an8 cd8 ct8), sl8⟩) (c8 : PySem.W.codeIn K cd8 "are_atoms" = true) (k8 : PySem.W.keepIn K (.ref f8) = true)
    (a9 : PySem.W.nsIn K mainGlobals "stand_ins" = some (some (.ref f9))) (l9 : K.lookup f9 = some ⟨oc9, od9, .func (PySem.W.fnOf "stand_ins" "stand_ins" (defArgs s_stand_ins) (defBody s_stand_ins) (defScope s_stand_ins) .none kV9 dc9 pm9 an9 cd9 ct9), sl9⟩) (c9 : PySem.W.codeIn K cd9 "stand_ins" = true) (k9 : PySem.W.keepIn K (.ref f9) = true)
    (a10 : PySem.W.nsIn K mainGlobals "is_asking" = some (some (.ref f10))) (l10 : K.lookup f10 = some ⟨oc10, od10, .func (PySem.W.fnOf "is_asking" "is_asking" (defArgs s_is_asking) (defBody s_is_asking) (defScope s_is_asking) .none kV10 dc10 pm10 an10 cd10 ct10), sl10⟩) (c10 : PySem.W.codeIn K cd10 "is_asking" = true) (k10 : PySem.W.keepIn K (.ref f10) = true)
    (a11 : PySem.W.nsIn K mainGlobals "checked_asking" = some (some (.ref f11))) (l11 : K.lookup f11 = some ⟨oc11, od11, .func (PySem.W.fnOf "checked_asking" "checked_asking" (defArgs s_checked_asking) (defBody s_checked_asking) (defScope s_checked_asking) .none kV11 dc11 pm11 an11 cd11 ct11), sl11⟩) (c11 : PySem.W.codeIn K cd11 "checked_asking" = true) (k11 : PySem.W.keepIn K (.ref f11) = true)
    (a12 : PySem.W.nsIn K mainGlobals "fitted" = some (some (.ref f12))) (l12 : K.lookup f12 = some ⟨oc12, od12, .func (PySem.W.fnOf "fitted" "fitted" (defArgs s_fitted) (defBody s_fitted) (defScope s_fitted) .none kV12 dc12 pm12 an12 cd12 ct12), sl12⟩) (c12 : PySem.W.codeIn K cd12 "fitted" = true) (k12 : PySem.W.keepIn K (.ref f12) = true)
    (a13 : PySem.W.nsIn K mainGlobals "all_fitted" = some (some (.ref f13))) (l13 : K.lookup f13 = some ⟨oc13, od13, .func (PySem.W.fnOf "all_fitted" "all_fitted" (defArgs s_all_fitted) (defBody s_all_fitted) (defScope s_all_fitted) .none kV13 dc13 pm13 an13 cd13 ct13), sl13⟩) (c13 : PySem.W.codeIn K cd13 "all_fitted" = true) (k13 : PySem.W.keepIn K (.ref f13) = true)
    (a14 : PySem.W.nsIn K mainGlobals "put" = some (some (.ref f14))) (l14 : K.lookup f14 = some ⟨oc14, od14, .func (PySem.W.fnOf "put" "put" (defArgs s_put) (defBody s_put) (defScope s_put) .none kV14 dc14 pm14 an14 cd14 ct14), sl14⟩) (c14 : PySem.W.codeIn K cd14 "put" = true) (k14 : PySem.W.keepIn K (.ref f14) = true)
    (a15 : PySem.W.nsIn K mainGlobals "answers" = some (some (.ref f15))) (l15 : K.lookup f15 = some ⟨oc15, od15, .func (PySem.W.fnOf "answers" "answers" (defArgs s_answers) (defBody s_answers) (defScope s_answers) .none kV15 dc15 pm15 an15 cd15 ct15), sl15⟩) (c15 : PySem.W.codeIn K cd15 "answers" = true) (k15 : PySem.W.keepIn K (.ref f15) = true)
    (a16 : PySem.W.nsIn K mainGlobals "ways" = some (some (.ref f16))) (l16 : K.lookup f16 = some ⟨oc16, od16, .func (PySem.W.fnOf "ways" "ways" (defArgs s_ways) (defBody s_ways) (defScope s_ways) .none kV16 dc16 pm16 an16 cd16 ct16), sl16⟩) (c16 : PySem.W.codeIn K cd16 "ways" = true) (k16 : PySem.W.keepIn K (.ref f16) = true)
    (a17 : PySem.W.nsIn K mainGlobals "need_two" = some (some (.ref f17))) (l17 : K.lookup f17 = some ⟨oc17, od17, .func (PySem.W.fnOf "need_two" "need_two" (defArgs s_need_two) (defBody s_need_two) (defScope s_need_two) .none kV17 dc17 pm17 an17 cd17 ct17), sl17⟩) (c17 : PySem.W.codeIn K cd17 "need_two" = true) (k17 : PySem.W.keepIn K (.ref f17) = true)
    (a18 : PySem.W.nsIn K mainGlobals "numbers_in" = some (some (.ref f18))) (l18 : K.lookup f18 = some ⟨oc18, od18, .func (PySem.W.fnOf "numbers_in" "numbers_in" (defArgs s_numbers_in) (defBody s_numbers_in) (defScope s_numbers_in) .none kV18 dc18 pm18 an18 cd18 ct18), sl18⟩) (c18 : PySem.W.codeIn K cd18 "numbers_in" = true) (k18 : PySem.W.keepIn K (.ref f18) = true)
    (a19 : PySem.W.nsIn K mainGlobals "frozen" = some (some (.ref f19))) (l19 : K.lookup f19 = some ⟨oc19, od19, .func (PySem.W.fnOf "frozen" "frozen" (defArgs s_frozen) (defBody s_frozen) (defScope s_frozen) .none kV19 dc19 pm19 an19 cd19 ct19), sl19⟩) (c19 : PySem.W.codeIn K cd19 "frozen" = true) (k19 : PySem.W.keepIn K (.ref f19) = true)
    (a20 : PySem.W.nsIn K mainGlobals "within" = some (some (.ref f20))) (l20 : K.lookup f20 = some ⟨oc20, od20, .func (PySem.W.fnOf "within" "within" (defArgs s_within) (defBody s_within) (defScope s_within) .none kV20 dc20 pm20 an20 cd20 ct20), sl20⟩) (c20 : PySem.W.codeIn K cd20 "within" = true) (k20 : PySem.W.keepIn K (.ref f20) = true)
    (a21 : PySem.W.nsIn K mainGlobals "alike" = some (some (.ref f21))) (l21 : K.lookup f21 = some ⟨oc21, od21, .func (PySem.W.fnOf "alike" "alike" (defArgs s_alike) (defBody s_alike) (defScope s_alike) .none kV21 dc21 pm21 an21 cd21 ct21), sl21⟩) (c21 : PySem.W.codeIn K cd21 "alike" = true) (k21 : PySem.W.keepIn K (.ref f21) = true)
    (a22 : PySem.W.nsIn K mainGlobals "without" = some (some (.ref f22))) (l22 : K.lookup f22 = some ⟨oc22, od22, .func (PySem.W.fnOf "without" "without" (defArgs s_without) (defBody s_without) (defScope s_without) .none kV22 dc22 pm22 an22 cd22 ct22), sl22⟩) (c22 : PySem.W.codeIn K cd22 "without" = true) (k22 : PySem.W.keepIn K (.ref f22) = true)
    (a23 : PySem.W.nsIn K mainGlobals "is_needless" = some (some (.ref f23))) (l23 : K.lookup f23 = some ⟨oc23, od23, .func (PySem.W.fnOf "is_needless" "is_needless" (defArgs s_is_needless) (defBody s_is_needless) (defScope s_is_needless) .none kV23 dc23 pm23 an23 cd23 ct23), sl23⟩) (c23 : PySem.W.codeIn K cd23 "is_needless" = true) (k23 : PySem.W.keepIn K (.ref f23) = true)
    (a24 : PySem.W.nsIn K mainGlobals "needless" = some (some (.ref f24))) (l24 : K.lookup f24 = some ⟨oc24, od24, .func (PySem.W.fnOf "needless" "needless" (defArgs s_needless) (defBody s_needless) (defScope s_needless) .none kV24 dc24 pm24 an24 cd24 ct24), sl24⟩) (c24 : PySem.W.codeIn K cd24 "needless" = true) (k24 : PySem.W.keepIn K (.ref f24) = true)
    (a25 : PySem.W.nsIn K mainGlobals "lean" = some (some (.ref f25))) (l25 : K.lookup f25 = some ⟨oc25, od25, .func (PySem.W.fnOf "lean" "lean" (defArgs s_lean) (defBody s_lean) (defScope s_lean) .none kV25 dc25 pm25 an25 cd25 ct25), sl25⟩) (c25 : PySem.W.codeIn K cd25 "lean" = true) (k25 : PySem.W.keepIn K (.ref f25) = true)
    (a26 : PySem.W.nsIn K mainGlobals "is_rule" = some (some (.ref f26))) (l26 : K.lookup f26 = some ⟨oc26, od26, .func (PySem.W.fnOf "is_rule" "is_rule" (defArgs s_is_rule) (defBody s_is_rule) (defScope s_is_rule) .none kV26 dc26 pm26 an26 cd26 ct26), sl26⟩) (c26 : PySem.W.codeIn K cd26 "is_rule" = true) (k26 : PySem.W.keepIn K (.ref f26) = true)
    (a27 : PySem.W.nsIn K mainGlobals "need_rules" = some (some (.ref f27))) (l27 : K.lookup f27 = some ⟨oc27, od27, .func (PySem.W.fnOf "need_rules" "need_rules" (defArgs s_need_rules) (defBody s_need_rules) (defScope s_need_rules) .none kV27 dc27 pm27 an27 cd27 ct27), sl27⟩) (c27 : PySem.W.codeIn K cd27 "need_rules" = true) (k27 : PySem.W.keepIn K (.ref f27) = true)
    (a28 : PySem.W.nsIn K mainGlobals "made_by" = some (some (.ref f28))) (l28 : K.lookup f28 = some ⟨oc28, od28, .func (PySem.W.fnOf "made_by" "made_by" (defArgs s_made_by) (defBody s_made_by) (defScope s_made_by) .none kV28 dc28 pm28 an28 cd28 ct28), sl28⟩) (c28 : PySem.W.codeIn K cd28 "made_by" = true) (k28 : PySem.W.keepIn K (.ref f28) = true)
    (a29 : PySem.W.nsIn K mainGlobals "steps_of" = some (some (.ref f29))) (l29 : K.lookup f29 = some ⟨oc29, od29, .func (PySem.W.fnOf "steps_of" "steps_of" (defArgs s_steps_of) (defBody s_steps_of) (defScope s_steps_of) .none kV29 dc29 pm29 an29 cd29 ct29), sl29⟩) (c29 : PySem.W.codeIn K cd29 "steps_of" = true) (k29 : PySem.W.keepIn K (.ref f29) = true)
    (a30 : PySem.W.nsIn K mainGlobals "comes" = some (some (.ref f30))) (l30 : K.lookup f30 = some ⟨oc30, od30, .func (PySem.W.fnOf "comes" "comes" (defArgs s_comes) (defBody s_comes) (defScope s_comes) .none kV30 dc30 pm30 an30 cd30 ct30), sl30⟩) (c30 : PySem.W.codeIn K cd30 "comes" = true) (k30 : PySem.W.keepIn K (.ref f30) = true)
    (a31 : PySem.W.nsIn K mainGlobals "why" = some (some (.ref f31))) (l31 : K.lookup f31 = some ⟨oc31, od31, .func (PySem.W.fnOf "why" "why" (defArgs s_why) (defBody s_why) (defScope s_why) .none kV31 dc31 pm31 an31 cd31 ct31), sl31⟩) (c31 : PySem.W.codeIn K cd31 "why" = true) (k31 : PySem.W.keepIn K (.ref f31) = true)
    (a32 : PySem.W.nsIn K mainGlobals "shared" = some (some (.ref f32))) (l32 : K.lookup f32 = some ⟨oc32, od32, .func (PySem.W.fnOf "shared" "shared" (defArgs s_shared) (defBody s_shared) (defScope s_shared) .none kV32 dc32 pm32 an32 cd32 ct32), sl32⟩) (c32 : PySem.W.codeIn K cd32 "shared" = true) (k32 : PySem.W.keepIn K (.ref f32) = true)
    (a33 : PySem.W.nsIn K mainGlobals "above" = some (some (.ref f33))) (l33 : K.lookup f33 = some ⟨oc33, od33, .func (PySem.W.fnOf "above" "above" (defArgs s_above) (defBody s_above) (defScope s_above) .none kV33 dc33 pm33 an33 cd33 ct33), sl33⟩) (c33 : PySem.W.codeIn K cd33 "above" = true) (k33 : PySem.W.keepIn K (.ref f33) = true)
    (a34 : PySem.W.nsIn K mainGlobals "taken_off" = some (some (.ref f34))) (l34 : K.lookup f34 = some ⟨oc34, od34, .func (PySem.W.fnOf "taken_off" "taken_off" (defArgs s_taken_off) (defBody s_taken_off) (defScope s_taken_off) .none kV34 dc34 pm34 an34 cd34 ct34), sl34⟩) (c34 : PySem.W.codeIn K cd34 "taken_off" = true) (k34 : PySem.W.keepIn K (.ref f34) = true)
    (a35 : PySem.W.nsIn K mainGlobals "tree" = some (some (.ref f35))) (l35 : K.lookup f35 = some ⟨oc35, od35, .func (PySem.W.fnOf "tree" "tree" (defArgs s_tree) (defBody s_tree) (defScope s_tree) .none kV35 dc35 pm35 an35 cd35 ct35), sl35⟩) (c35 : PySem.W.codeIn K cd35 "tree" = true) (k35 : PySem.W.keepIn K (.ref f35) = true)
    (a36 : PySem.W.nsIn K mainGlobals "agree" = some (some (.ref f36))) (l36 : K.lookup f36 = some ⟨oc36, od36, .func (PySem.W.fnOf "agree" "agree" (defArgs s_agree) (defBody s_agree) (defScope s_agree) .none kV36 dc36 pm36 an36 cd36 ct36), sl36⟩) (c36 : PySem.W.codeIn K cd36 "agree" = true) (k36 : PySem.W.keepIn K (.ref f36) = true)
    (a37 : PySem.W.nsIn K mainGlobals "joined" = some (some (.ref f37))) (l37 : K.lookup f37 = some ⟨oc37, od37, .func (PySem.W.fnOf "joined" "joined" (defArgs s_joined) (defBody s_joined) (defScope s_joined) .none kV37 dc37 pm37 an37 cd37 ct37), sl37⟩) (c37 : PySem.W.codeIn K cd37 "joined" = true) (k37 : PySem.W.keepIn K (.ref f37) = true)
    (a38 : PySem.W.nsIn K mainGlobals "by_tree" = some (some (.ref f38))) (l38 : K.lookup f38 = some ⟨oc38, od38, .func (PySem.W.fnOf "by_tree" "by_tree" (defArgs s_by_tree) (defBody s_by_tree) (defScope s_by_tree) .none kV38 dc38 pm38 an38 cd38 ct38), sl38⟩) (c38 : PySem.W.codeIn K cd38 "by_tree" = true) (k38 : PySem.W.keepIn K (.ref f38) = true)
    (a39 : PySem.W.nsIn K mainGlobals "_law_cell_at" = some (some (.ref f39))) (l39 : K.lookup f39 = some ⟨oc39, od39, .func (PySem.W.fnOf "_law_cell_at" "_law_cell_at" (defArgs s_l_cell_at) (defBody s_l_cell_at) (defScope s_l_cell_at) .none kV39 dc39 pm39 an39 cd39 ct39), sl39⟩) (c39 : PySem.W.codeIn K cd39 "_law_cell_at" = true) (k39 : PySem.W.keepIn K (.ref f39) = true)
    (a40 : PySem.W.nsIn K mainGlobals "_law_mixed" = some (some (.ref f40))) (l40 : K.lookup f40 = some ⟨oc40, od40, .func (PySem.W.fnOf "_law_mixed" "_law_mixed" (defArgs s_l_mixed) (defBody s_l_mixed) (defScope s_l_mixed) .none kV40 dc40 pm40 an40 cd40 ct40), sl40⟩) (c40 : PySem.W.codeIn K cd40 "_law_mixed" = true) (k40 : PySem.W.keepIn K (.ref f40) = true)
    (a41 : PySem.W.nsIn K mainGlobals "_law_good" = some (some (.ref f41))) (l41 : K.lookup f41 = some ⟨oc41, od41, .func (PySem.W.fnOf "_law_good" "_law_good" (defArgs s_l_good) (defBody s_l_good) (defScope s_l_good) .none kV41 dc41 pm41 an41 cd41 ct41), sl41⟩) (c41 : PySem.W.codeIn K cd41 "_law_good" = true) (k41 : PySem.W.keepIn K (.ref f41) = true)
    (a42 : PySem.W.nsIn K mainGlobals "_law_with_asking" = some (some (.ref f42))) (l42 : K.lookup f42 = some ⟨oc42, od42, .func (PySem.W.fnOf "_law_with_asking" "_law_with_asking" (defArgs s_l_with_asking) (defBody s_l_with_asking) (defScope s_l_with_asking) .none kV42 dc42 pm42 an42 cd42 ct42), sl42⟩) (c42 : PySem.W.codeIn K cd42 "_law_with_asking" = true) (k42 : PySem.W.keepIn K (.ref f42) = true)
    (a43 : PySem.W.nsIn K mainGlobals "_law_with_book" = some (some (.ref f43))) (l43 : K.lookup f43 = some ⟨oc43, od43, .func (PySem.W.fnOf "_law_with_book" "_law_with_book" (defArgs s_l_with_book) (defBody s_l_with_book) (defScope s_l_with_book) .none kV43 dc43 pm43 an43 cd43 ct43), sl43⟩) (c43 : PySem.W.codeIn K cd43 "_law_with_book" = true) (k43 : PySem.W.keepIn K (.ref f43) = true)
    (a44 : PySem.W.nsIn K mainGlobals "_law_with_rules" = some (some (.ref f44))) (l44 : K.lookup f44 = some ⟨oc44, od44, .func (PySem.W.fnOf "_law_with_rules" "_law_with_rules" (defArgs s_l_with_rules) (defBody s_l_with_rules) (defScope s_l_with_rules) .none kV44 dc44 pm44 an44 cd44 ct44), sl44⟩) (c44 : PySem.W.codeIn K cd44 "_law_with_rules" = true) (k44 : PySem.W.keepIn K (.ref f44) = true)
    (a45 : PySem.W.nsIn K mainGlobals "_law_asked" = some (some (.ref f45))) (l45 : K.lookup f45 = some ⟨oc45, od45, .func (PySem.W.fnOf "_law_asked" "_law_asked" (defArgs s_l_asked) (defBody s_l_asked) (defScope s_l_asked) .none kV45 dc45 pm45 an45 cd45 ct45), sl45⟩) (c45 : PySem.W.codeIn K cd45 "_law_asked" = true) (k45 : PySem.W.keepIn K (.ref f45) = true)
    (a46 : PySem.W.nsIn K mainGlobals "_law_kind" = some (some (.ref f46))) (l46 : K.lookup f46 = some ⟨oc46, od46, .func (PySem.W.fnOf "_law_kind" "_law_kind" (defArgs s_l_kind) (defBody s_l_kind) (defScope s_l_kind) .none kV46 dc46 pm46 an46 cd46 ct46), sl46⟩) (c46 : PySem.W.codeIn K cd46 "_law_kind" = true) (k46 : PySem.W.keepIn K (.ref f46) = true)
    (a47 : PySem.W.nsIn K mainGlobals "_law_bad" = some (some (.ref f47))) (l47 : K.lookup f47 = some ⟨oc47, od47, .func (PySem.W.fnOf "_law_bad" "_law_bad" (defArgs s_l_bad) (defBody s_l_bad) (defScope s_l_bad) .none kV47 dc47 pm47 an47 cd47 ct47), sl47⟩) (c47 : PySem.W.codeIn K cd47 "_law_bad" = true) (k47 : PySem.W.keepIn K (.ref f47) = true)
    (a48 : PySem.W.nsIn K mainGlobals "law" = some (some (.ref f48))) (l48 : K.lookup f48 = some ⟨oc48, od48, .func (PySem.W.fnOf "law" "law" (defArgs s_law) (defBody s_law) (defScope s_law) .none kV48 dc48 pm48 an48 cd48 ct48), sl48⟩) (c48 : PySem.W.codeIn K cd48 "law" = true) (k48 : PySem.W.keepIn K (.ref f48) = true)
    (z0 : PySem.W.nsIn K mainGlobals "ValueError" = some none)
    (z1 : PySem.W.nsIn K mainGlobals "all" = some none)
    (z2 : PySem.W.nsIn K mainGlobals "any" = some none)
    (z3 : PySem.W.nsIn K mainGlobals "bool" = some none)
    (z4 : PySem.W.nsIn K mainGlobals "dict" = some none)
    (z5 : PySem.W.nsIn K mainGlobals "int" = some none)
    (z6 : PySem.W.nsIn K mainGlobals "isinstance" = some none)
    (z7 : PySem.W.nsIn K mainGlobals "len" = some none)
    (z8 : PySem.W.nsIn K mainGlobals "list" = some none)
    (z9 : PySem.W.nsIn K mainGlobals "max" = some none)
    (z10 : PySem.W.nsIn K mainGlobals "range" = some none)
    (z11 : PySem.W.nsIn K mainGlobals "reversed" = some none)
    (z12 : PySem.W.nsIn K mainGlobals "set" = some none)
    (z13 : PySem.W.nsIn K mainGlobals "sorted" = some none)
    (z14 : PySem.W.nsIn K mainGlobals "str" = some none)
    (z15 : PySem.W.nsIn K mainGlobals "tuple" = some none)
    (z16 : PySem.W.nsIn K mainGlobals "zip" = some none)
    (xg0 : PySem.W.nsIn K mainGlobals "NoAsking" = some (some (.ref e0))) (xq0 : PySem.W.excIn K e0 [.type "ValueError", .type "Exception", .type "BaseException", .type "object"] "ValueError.__new__" = true) (xk0 : PySem.W.keepIn K (.ref e0) = true) (xb0 : PySem.W.subIn K (.ref e0) (.type "BaseException") = some true) (xt0 : PySem.W.typeIn K (.ref e0) = some (.type "type"))
    (xg1 : PySem.W.nsIn K mainGlobals "NoBook" = some (some (.ref e1))) (xq1 : PySem.W.excIn K e1 [.type "ValueError", .type "Exception", .type "BaseException", .type "object"] "ValueError.__new__" = true) (xk1 : PySem.W.keepIn K (.ref e1) = true) (xb1 : PySem.W.subIn K (.ref e1) (.type "BaseException") = some true) (xt1 : PySem.W.typeIn K (.ref e1) = some (.type "type"))
    (xg2 : PySem.W.nsIn K mainGlobals "NoRules" = some (some (.ref e2))) (xq2 : PySem.W.excIn K e2 [.type "ValueError", .type "Exception", .type "BaseException", .type "object"] "ValueError.__new__" = true) (xk2 : PySem.W.keepIn K (.ref e2) = true) (xb2 : PySem.W.subIn K (.ref e2) (.type "BaseException") = some true) (xt2 : PySem.W.typeIn K (.ref e2) = some (.type "type"))
    (xg3 : PySem.W.nsIn K mainGlobals "NoTree" = some (some (.ref e3))) (xq3 : PySem.W.excIn K e3 [.type "ValueError", .type "Exception", .type "BaseException", .type "object"] "ValueError.__new__" = true) (xk3 : PySem.W.keepIn K (.ref e3) = true) (xb3 : PySem.W.subIn K (.ref e3) (.type "BaseException") = some true) (xt3 : PySem.W.typeIn K (.ref e3) = some (.type "type"))
    (xg4 : PySem.W.nsIn K mainGlobals "Unlike" = some (some (.ref e4))) (xq4 : PySem.W.excIn K e4 [.type "ValueError", .type "Exception", .type "BaseException", .type "object"] "ValueError.__new__" = true) (xk4 : PySem.W.keepIn K (.ref e4) = true) (xb4 : PySem.W.subIn K (.ref e4) (.type "BaseException") = some true) (xt4 : PySem.W.typeIn K (.ref e4) = some (.type "type"))
    (hg0 : PySem.W.nsIn K mainGlobals "AskError" = some (some (.ref h0)))
    (hg1 : PySem.W.nsIn K mainGlobals "NoBonds" = some (some (.ref h1)))
    (hg2 : PySem.W.nsIn K mainGlobals "NoColumns" = some (some (.ref h2)))
    (hg3 : PySem.W.nsIn K mainGlobals "NoText" = some (some (.ref h3)))
    (ee0_0 : PySem.W.findIn K (.ref e0) "__getattribute__" = some (some (.builtin "BaseException.__getattribute__")))
    (ee0_1 : PySem.W.findIn K (.ref e0) "__getattr__" = some none)
    (ee0_2 : PySem.W.subIn K (.ref e0) (.type "BaseException") = some true)
    (ee0_3 : PySem.W.hasDictIn K e0 = true)
    (ee0_4 : PySem.W.findIn K (.ref e0) "__class__" = some (some (.builtin "object.__class__")))
    (ee0_5 : PySem.W.specialIn K (.builtin "object.__class__") "__get__" = some (some (.builtin "getset_descriptor.__get__")))
    (ee0_6 : PySem.W.takesIn K (.builtin "object.__class__") = some true)
    (ee0_7 : PySem.W.mroIn K e0 (.type "object") = some true)
    (ee1_0 : PySem.W.findIn K (.ref e1) "__getattribute__" = some (some (.builtin "BaseException.__getattribute__")))
    (ee1_1 : PySem.W.findIn K (.ref e1) "__getattr__" = some none)
    (ee1_2 : PySem.W.subIn K (.ref e1) (.type "BaseException") = some true)
    (ee1_3 : PySem.W.hasDictIn K e1 = true)
    (ee1_4 : PySem.W.findIn K (.ref e1) "__class__" = some (some (.builtin "object.__class__")))
    (ee1_5 : PySem.W.specialIn K (.builtin "object.__class__") "__get__" = some (some (.builtin "getset_descriptor.__get__")))
    (ee1_6 : PySem.W.takesIn K (.builtin "object.__class__") = some true)
    (ee1_7 : PySem.W.mroIn K e1 (.type "object") = some true)
    (ee2_0 : PySem.W.findIn K (.ref e2) "__getattribute__" = some (some (.builtin "BaseException.__getattribute__")))
    (ee2_1 : PySem.W.findIn K (.ref e2) "__getattr__" = some none)
    (ee2_2 : PySem.W.subIn K (.ref e2) (.type "BaseException") = some true)
    (ee2_3 : PySem.W.hasDictIn K e2 = true)
    (ee2_4 : PySem.W.findIn K (.ref e2) "__class__" = some (some (.builtin "object.__class__")))
    (ee2_5 : PySem.W.specialIn K (.builtin "object.__class__") "__get__" = some (some (.builtin "getset_descriptor.__get__")))
    (ee2_6 : PySem.W.takesIn K (.builtin "object.__class__") = some true)
    (ee2_7 : PySem.W.mroIn K e2 (.type "object") = some true)
    (ee3_0 : PySem.W.findIn K (.ref e3) "__getattribute__" = some (some (.builtin "BaseException.__getattribute__")))
    (ee3_1 : PySem.W.findIn K (.ref e3) "__getattr__" = some none)
    (ee3_2 : PySem.W.subIn K (.ref e3) (.type "BaseException") = some true)
    (ee3_3 : PySem.W.hasDictIn K e3 = true)
    (ee3_4 : PySem.W.findIn K (.ref e3) "__class__" = some (some (.builtin "object.__class__")))
    (ee3_5 : PySem.W.specialIn K (.builtin "object.__class__") "__get__" = some (some (.builtin "getset_descriptor.__get__")))
    (ee3_6 : PySem.W.takesIn K (.builtin "object.__class__") = some true)
    (ee3_7 : PySem.W.mroIn K e3 (.type "object") = some true)
    (ee4_0 : PySem.W.findIn K (.ref e4) "__getattribute__" = some (some (.builtin "BaseException.__getattribute__")))
    (ee4_1 : PySem.W.findIn K (.ref e4) "__getattr__" = some none)
    (ee4_2 : PySem.W.subIn K (.ref e4) (.type "BaseException") = some true)
    (ee4_3 : PySem.W.hasDictIn K e4 = true)
    (ee4_4 : PySem.W.findIn K (.ref e4) "__class__" = some (some (.builtin "object.__class__")))
    (ee4_5 : PySem.W.specialIn K (.builtin "object.__class__") "__get__" = some (some (.builtin "getset_descriptor.__get__")))
    (ee4_6 : PySem.W.takesIn K (.builtin "object.__class__") = some true)
    (ee4_7 : PySem.W.mroIn K e4 (.type "object") = some true)
    (ei0 : PySem.W.kitOne K (.ref e0) (.type "ValueError") = some true)
    (ei1 : PySem.W.kitOne K (.ref e1) (.type "ValueError") = some true)
    (ei2 : PySem.W.kitOne K (.ref e2) (.type "ValueError") = some true)
    (ei3 : PySem.W.kitOne K (.ref e3) (.type "ValueError") = some true)
    (ei4 : PySem.W.kitOne K (.ref e4) (.type "ValueError") = some true)
    (eo0 : PySem.W.kitOne K (.ref e0) (.ref e0) = some true)
    (eo1 : PySem.W.kitOne K (.ref e0) (.ref h1) = some false)
    (eo2 : PySem.W.kitOne K (.ref e0) (.ref e1) = some false)
    (eo3 : PySem.W.kitOne K (.ref e0) (.ref h2) = some false)
    (eo4 : PySem.W.kitOne K (.ref e0) (.ref e2) = some false)
    (eo5 : PySem.W.kitOne K (.ref e0) (.ref h3) = some false)
    (eo6 : PySem.W.kitOne K (.ref e0) (.ref e3) = some false)
    (eo7 : PySem.W.kitOne K (.ref e0) (.ref e4) = some false)
    (eo8 : PySem.W.kitOne K (.ref e1) (.ref e0) = some false)
    (eo9 : PySem.W.kitOne K (.ref e1) (.ref h1) = some false)
    (eo10 : PySem.W.kitOne K (.ref e1) (.ref e1) = some true)
    (eo11 : PySem.W.kitOne K (.ref e1) (.ref h2) = some false)
    (eo12 : PySem.W.kitOne K (.ref e1) (.ref e2) = some false)
    (eo13 : PySem.W.kitOne K (.ref e1) (.ref h3) = some false)
    (eo14 : PySem.W.kitOne K (.ref e1) (.ref e3) = some false)
    (eo15 : PySem.W.kitOne K (.ref e1) (.ref e4) = some false)
    (eo16 : PySem.W.kitOne K (.ref e2) (.ref e0) = some false)
    (eo17 : PySem.W.kitOne K (.ref e2) (.ref h1) = some false)
    (eo18 : PySem.W.kitOne K (.ref e2) (.ref e1) = some false)
    (eo19 : PySem.W.kitOne K (.ref e2) (.ref h2) = some false)
    (eo20 : PySem.W.kitOne K (.ref e2) (.ref e2) = some true)
    (eo21 : PySem.W.kitOne K (.ref e2) (.ref h3) = some false)
    (eo22 : PySem.W.kitOne K (.ref e2) (.ref e3) = some false)
    (eo23 : PySem.W.kitOne K (.ref e2) (.ref e4) = some false)
    (eo24 : PySem.W.kitOne K (.ref e3) (.ref e0) = some false)
    (eo25 : PySem.W.kitOne K (.ref e3) (.ref h1) = some false)
    (eo26 : PySem.W.kitOne K (.ref e3) (.ref e1) = some false)
    (eo27 : PySem.W.kitOne K (.ref e3) (.ref h2) = some false)
    (eo28 : PySem.W.kitOne K (.ref e3) (.ref e2) = some false)
    (eo29 : PySem.W.kitOne K (.ref e3) (.ref h3) = some false)
    (eo30 : PySem.W.kitOne K (.ref e3) (.ref e3) = some true)
    (eo31 : PySem.W.kitOne K (.ref e3) (.ref e4) = some false)
    (eo32 : PySem.W.kitOne K (.ref e4) (.ref e0) = some false)
    (eo33 : PySem.W.kitOne K (.ref e4) (.ref h1) = some false)
    (eo34 : PySem.W.kitOne K (.ref e4) (.ref e1) = some false)
    (eo35 : PySem.W.kitOne K (.ref e4) (.ref h2) = some false)
    (eo36 : PySem.W.kitOne K (.ref e4) (.ref e2) = some false)
    (eo37 : PySem.W.kitOne K (.ref e4) (.ref h3) = some false)
    (eo38 : PySem.W.kitOne K (.ref e4) (.ref e3) = some false)
    (eo39 : PySem.W.kitOne K (.ref e4) (.ref e4) = some true)
    (em0 : PySem.W.exmOne K (.ref e0) (.ref h0) = some true)
    (em1 : PySem.W.exmOne K (.ref e1) (.ref h0) = some true)
    (em2 : PySem.W.exmOne K (.ref e2) (.ref h0) = some true)
    (em3 : PySem.W.exmOne K (.ref e3) (.ref h0) = some true)
    (em4 : PySem.W.exmOne K (.ref e4) (.ref h0) = some true)
    (y0 : PySem.W.nsIn K mainGlobals "LETTERS" = some (some (.str (PySem.Str.ofString "abcdefghijklmnopqrstuvwxyz") ty0))) : Txt K mg where
  ta_is_whole := f0
  td_is_whole := _
  tF_is_whole := fun_mk (st := s_is_whole) l0 c0 k0
  tg_is_whole := PySem.W.mg_of X G a0
  tb_is_whole := (fun_mk (st := s_is_whole) l0 c0 k0).binds (ps := ["thing"]) fun _ _ _ _ _ _ us hl => match us, hl with | [_], _ => rfl
  ta_is_name := f1
  td_is_name := _
  tF_is_name := fun_mk (st := s_is_name) l1 c1 k1
  tg_is_name := PySem.W.mg_of X G a1
  tb_is_name := (fun_mk (st := s_is_name) l1 c1 k1).binds (ps := ["thing"]) fun _ _ _ _ _ _ us hl => match us, hl with | [_], _ => rfl
  ta_is_term := f2
  td_is_term := _
  tF_is_term := fun_mk (st := s_is_term) l2 c2 k2
  tg_is_term := PySem.W.mg_of X G a2
  tb_is_term := (fun_mk (st := s_is_term) l2 c2 k2).binds (ps := ["thing"]) fun _ _ _ _ _ _ us hl => match us, hl with | [_], _ => rfl
  ta_is_fact := f3
  td_is_fact := _
  tF_is_fact := fun_mk (st := s_is_fact) l3 c3 k3
  tg_is_fact := PySem.W.mg_of X G a3
  tb_is_fact := (fun_mk (st := s_is_fact) l3 c3 k3).binds (ps := ["thing"]) fun _ _ _ _ _ _ us hl => match us, hl with | [_], _ => rfl
  ta_is_atom := f4
  td_is_atom := _
  tF_is_atom := fun_mk (st := s_is_atom) l4 c4 k4
  tg_is_atom := PySem.W.mg_of X G a4
  tb_is_atom := (fun_mk (st := s_is_atom) l4 c4 k4).binds (ps := ["thing"]) fun _ _ _ _ _ _ us hl => match us, hl with | [_], _ => rfl
  ta_alike_long := f5
  td_alike_long := _
  tF_alike_long := fun_mk (st := s_alike_long) l5 c5 k5
  tg_alike_long := PySem.W.mg_of X G a5
  tb_alike_long := (fun_mk (st := s_alike_long) l5 c5 k5).binds (ps := ["rows"]) fun _ _ _ _ _ _ us hl => match us, hl with | [_], _ => rfl
  ta_are_facts := f6
  td_are_facts := _
  tF_are_facts := fun_mk (st := s_are_facts) l6 c6 k6
  tg_are_facts := PySem.W.mg_of X G a6
  tb_are_facts := (fun_mk (st := s_are_facts) l6 c6 k6).binds (ps := ["thing"]) fun _ _ _ _ _ _ us hl => match us, hl with | [_], _ => rfl
  ta_checked_book := f7
  td_checked_book := _
  tF_checked_book := fun_mk (st := s_checked_book) l7 c7 k7
  tg_checked_book := PySem.W.mg_of X G a7
  tb_checked_book := (fun_mk (st := s_checked_book) l7 c7 k7).binds (ps := ["book"]) fun _ _ _ _ _ _ us hl => match us, hl with | [_], _ => rfl
  ta_are_atoms := f8
  td_are_atoms := _
  tF_are_atoms := fun_mk (st := s_are_atoms) l8 c8 k8
  tg_are_atoms := PySem.W.mg_of X G a8
  tb_are_atoms := (fun_mk (st := s_are_atoms) l8 c8 k8).binds (ps := ["thing", "least", "most"]) fun _ _ _ _ _ _ us hl => match us, hl with | [_, _, _], _ => rfl
  ta_stand_ins := f9
  td_stand_ins := _
  tF_stand_ins := fun_mk (st := s_stand_ins) l9 c9 k9
  tg_stand_ins := PySem.W.mg_of X G a9
  tb_stand_ins := (fun_mk (st := s_stand_ins) l9 c9 k9).binds (ps := ["atoms"]) fun _ _ _ _ _ _ us hl => match us, hl with | [_], _ => rfl
  ta_is_asking := f10
  td_is_asking := _
  tF_is_asking := fun_mk (st := s_is_asking) l10 c10 k10
  tg_is_asking := PySem.W.mg_of X G a10
  tb_is_asking := (fun_mk (st := s_is_asking) l10 c10 k10).binds (ps := ["thing"]) fun _ _ _ _ _ _ us hl => match us, hl with | [_], _ => rfl
  ta_checked_asking := f11
  td_checked_asking := _
  tF_checked_asking := fun_mk (st := s_checked_asking) l11 c11 k11
  tg_checked_asking := PySem.W.mg_of X G a11
  tb_checked_asking := (fun_mk (st := s_checked_asking) l11 c11 k11).binds (ps := ["asking"]) fun _ _ _ _ _ _ us hl => match us, hl with | [_], _ => rfl
  ta_fitted := f12
  td_fitted := _
  tF_fitted := fun_mk (st := s_fitted) l12 c12 k12
  tg_fitted := PySem.W.mg_of X G a12
  tb_fitted := (fun_mk (st := s_fitted) l12 c12 k12).binds (ps := ["given", "terms", "values"]) fun _ _ _ _ _ _ us hl => match us, hl with | [_, _, _], _ => rfl
  ta_all_fitted := f13
  td_all_fitted := _
  tF_all_fitted := fun_mk (st := s_all_fitted) l13 c13 k13
  tg_all_fitted := PySem.W.mg_of X G a13
  tb_all_fitted := (fun_mk (st := s_all_fitted) l13 c13 k13).binds (ps := ["atoms", "facts"]) fun _ _ _ _ _ _ us hl => match us, hl with | [_, _], _ => rfl
  ta_put := f14
  td_put := _
  tF_put := fun_mk (st := s_put) l14 c14 k14
  tg_put := PySem.W.mg_of X G a14
  tb_put := (fun_mk (st := s_put) l14 c14 k14).binds (ps := ["given", "terms"]) fun _ _ _ _ _ _ us hl => match us, hl with | [_, _], _ => rfl
  ta_answers := f15
  td_answers := _
  tF_answers := fun_mk (st := s_answers) l15 c15 k15
  tg_answers := PySem.W.mg_of X G a15
  tb_answers := (fun_mk (st := s_answers) l15 c15 k15).binds (ps := ["asking", "book"]) fun _ _ _ _ _ _ us hl => match us, hl with | [_, _], _ => rfl
  ta_ways := f16
  td_ways := _
  tF_ways := fun_mk (st := s_ways) l16 c16 k16
  tg_ways := PySem.W.mg_of X G a16
  tb_ways := (fun_mk (st := s_ways) l16 c16 k16).binds (ps := ["one", "other"]) fun _ _ _ _ _ _ us hl => match us, hl with | [_, _], _ => rfl
  ta_need_two := f17
  td_need_two := _
  tF_need_two := fun_mk (st := s_need_two) l17 c17 k17
  tg_need_two := PySem.W.mg_of X G a17
  tb_need_two := (fun_mk (st := s_need_two) l17 c17 k17).binds (ps := ["one", "other"]) fun _ _ _ _ _ _ us hl => match us, hl with | [_, _], _ => rfl
  ta_numbers_in := f18
  td_numbers_in := _
  tF_numbers_in := fun_mk (st := s_numbers_in) l18 c18 k18
  tg_numbers_in := PySem.W.mg_of X G a18
  tb_numbers_in := (fun_mk (st := s_numbers_in) l18 c18 k18).binds (ps := ["asking"]) fun _ _ _ _ _ _ us hl => match us, hl with | [_], _ => rfl
  ta_frozen := f19
  td_frozen := _
  tF_frozen := fun_mk (st := s_frozen) l19 c19 k19
  tg_frozen := PySem.W.mg_of X G a19
  tb_frozen := (fun_mk (st := s_frozen) l19 c19 k19).binds (ps := ["asking", "first"]) fun _ _ _ _ _ _ us hl => match us, hl with | [_, _], _ => rfl
  ta_within := f20
  td_within := _
  tF_within := fun_mk (st := s_within) l20 c20 k20
  tg_within := PySem.W.mg_of X G a20
  tb_within := (fun_mk (st := s_within) l20 c20 k20).binds (ps := ["one", "other"]) fun _ _ _ _ _ _ us hl => match us, hl with | [_, _], _ => rfl
  ta_alike := f21
  td_alike := _
  tF_alike := fun_mk (st := s_alike) l21 c21 k21
  tg_alike := PySem.W.mg_of X G a21
  tb_alike := (fun_mk (st := s_alike) l21 c21 k21).binds (ps := ["one", "other"]) fun _ _ _ _ _ _ us hl => match us, hl with | [_, _], _ => rfl
  ta_without := f22
  td_without := _
  tF_without := fun_mk (st := s_without) l22 c22 k22
  tg_without := PySem.W.mg_of X G a22
  tb_without := (fun_mk (st := s_without) l22 c22 k22).binds (ps := ["asking", "place"]) fun _ _ _ _ _ _ us hl => match us, hl with | [_, _], _ => rfl
  ta_is_needless := f23
  td_is_needless := _
  tF_is_needless := fun_mk (st := s_is_needless) l23 c23 k23
  tg_is_needless := PySem.W.mg_of X G a23
  tb_is_needless := (fun_mk (st := s_is_needless) l23 c23 k23).binds (ps := ["asking", "place"]) fun _ _ _ _ _ _ us hl => match us, hl with | [_, _], _ => rfl
  ta_needless := f24
  td_needless := _
  tF_needless := fun_mk (st := s_needless) l24 c24 k24
  tg_needless := PySem.W.mg_of X G a24
  tb_needless := (fun_mk (st := s_needless) l24 c24 k24).binds (ps := ["asking", "place"]) fun _ _ _ _ _ _ us hl => match us, hl with | [_, _], _ => rfl
  ta_lean := f25
  td_lean := _
  tF_lean := fun_mk (st := s_lean) l25 c25 k25
  tg_lean := PySem.W.mg_of X G a25
  tb_lean := (fun_mk (st := s_lean) l25 c25 k25).binds (ps := ["asking"]) fun _ _ _ _ _ _ us hl => match us, hl with | [_], _ => rfl
  ta_is_rule := f26
  td_is_rule := _
  tF_is_rule := fun_mk (st := s_is_rule) l26 c26 k26
  tg_is_rule := PySem.W.mg_of X G a26
  tb_is_rule := (fun_mk (st := s_is_rule) l26 c26 k26).binds (ps := ["thing"]) fun _ _ _ _ _ _ us hl => match us, hl with | [_], _ => rfl
  ta_need_rules := f27
  td_need_rules := _
  tF_need_rules := fun_mk (st := s_need_rules) l27 c27 k27
  tg_need_rules := PySem.W.mg_of X G a27
  tb_need_rules := (fun_mk (st := s_need_rules) l27 c27 k27).binds (ps := ["rules", "facts"]) fun _ _ _ _ _ _ us hl => match us, hl with | [_, _], _ => rfl
  ta_made_by := f28
  td_made_by := _
  tF_made_by := fun_mk (st := s_made_by) l28 c28 k28
  tg_made_by := PySem.W.mg_of X G a28
  tb_made_by := (fun_mk (st := s_made_by) l28 c28 k28).binds (ps := ["rule", "facts"]) fun _ _ _ _ _ _ us hl => match us, hl with | [_, _], _ => rfl
  ta_steps_of := f29
  td_steps_of := _
  tF_steps_of := fun_mk (st := s_steps_of) l29 c29 k29
  tg_steps_of := PySem.W.mg_of X G a29
  tb_steps_of := (fun_mk (st := s_steps_of) l29 c29 k29).binds (ps := ["rules", "facts"]) fun _ _ _ _ _ _ us hl => match us, hl with | [_, _], _ => rfl
  ta_comes := f30
  td_comes := _
  tF_comes := fun_mk (st := s_comes) l30 c30 k30
  tg_comes := PySem.W.mg_of X G a30
  tb_comes := (fun_mk (st := s_comes) l30 c30 k30).binds (ps := ["rules", "book"]) fun _ _ _ _ _ _ us hl => match us, hl with | [_, _], _ => rfl
  ta_why := f31
  td_why := _
  tF_why := fun_mk (st := s_why) l31 c31 k31
  tg_why := PySem.W.mg_of X G a31
  tb_why := (fun_mk (st := s_why) l31 c31 k31).binds (ps := ["rules", "book", "fact"]) fun _ _ _ _ _ _ us hl => match us, hl with | [_, _, _], _ => rfl
  ta_shared := f32
  td_shared := _
  tF_shared := fun_mk (st := s_shared) l32 c32 k32
  tg_shared := PySem.W.mg_of X G a32
  tb_shared := (fun_mk (st := s_shared) l32 c32 k32).binds (ps := ["atoms", "left", "place"]) fun _ _ _ _ _ _ us hl => match us, hl with | [_, _, _], _ => rfl
  ta_above := f33
  td_above := _
  tF_above := fun_mk (st := s_above) l33 c33 k33
  tg_above := PySem.W.mg_of X G a33
  tb_above := (fun_mk (st := s_above) l33 c33 k33).binds (ps := ["atoms", "left", "place"]) fun _ _ _ _ _ _ us hl => match us, hl with | [_, _, _], _ => rfl
  ta_taken_off := f34
  td_taken_off := _
  tF_taken_off := fun_mk (st := s_taken_off) l34 c34 k34
  tg_taken_off := PySem.W.mg_of X G a34
  tb_taken_off := (fun_mk (st := s_taken_off) l34 c34 k34).binds (ps := ["atoms"]) fun _ _ _ _ _ _ us hl => match us, hl with | [_], _ => rfl
  ta_tree := f35
  td_tree := _
  tF_tree := fun_mk (st := s_tree) l35 c35 k35
  tg_tree := PySem.W.mg_of X G a35
  tb_tree := (fun_mk (st := s_tree) l35 c35 k35).binds (ps := ["asking"]) fun _ _ _ _ _ _ us hl => match us, hl with | [_], _ => rfl
  ta_agree := f36
  td_agree := _
  tF_agree := fun_mk (st := s_agree) l36 c36 k36
  tg_agree := PySem.W.mg_of X G a36
  tb_agree := (fun_mk (st := s_agree) l36 c36 k36).binds (ps := ["one", "other"]) fun _ _ _ _ _ _ us hl => match us, hl with | [_, _], _ => rfl
  ta_joined := f37
  td_joined := _
  tF_joined := fun_mk (st := s_joined) l37 c37 k37
  tg_joined := PySem.W.mg_of X G a37
  tb_joined := (fun_mk (st := s_joined) l37 c37 k37).binds (ps := ["one", "other"]) fun _ _ _ _ _ _ us hl => match us, hl with | [_, _], _ => rfl
  ta_by_tree := f38
  td_by_tree := _
  tF_by_tree := fun_mk (st := s_by_tree) l38 c38 k38
  tg_by_tree := PySem.W.mg_of X G a38
  tb_by_tree := (fun_mk (st := s_by_tree) l38 c38 k38).binds (ps := ["asking", "book"]) fun _ _ _ _ _ _ us hl => match us, hl with | [_, _], _ => rfl
  ta_l_cell_at := f39
  td_l_cell_at := _
  tF_l_cell_at := fun_mk (st := s_l_cell_at) l39 c39 k39
  tg_l_cell_at := PySem.W.mg_of X G a39
  tb_l_cell_at := (fun_mk (st := s_l_cell_at) l39 c39 k39).binds (ps := ["_law_script", "_law_k"]) fun _ _ _ _ _ _ us hl => match us, hl with | [_, _], _ => rfl
  ta_l_mixed := f40
  td_l_mixed := _
  tF_l_mixed := fun_mk (st := s_l_mixed) l40 c40 k40
  tg_l_mixed := PySem.W.mg_of X G a40
  tb_l_mixed := (fun_mk (st := s_l_mixed) l40 c40 k40).binds (ps := ["_law_script", "_law_k", "_law_many"]) fun _ _ _ _ _ _ us hl => match us, hl with | [_, _, _], _ => rfl
  ta_l_good := f41
  td_l_good := _
  tF_l_good := fun_mk (st := s_l_good) l41 c41 k41
  tg_l_good := PySem.W.mg_of X G a41
  tb_l_good := (fun_mk (st := s_l_good) l41 c41 k41).binds (ps := []) fun _ _ _ _ _ _ us hl => match us, hl with | [], _ => rfl
  ta_l_with_asking := f42
  td_l_with_asking := _
  tF_l_with_asking := fun_mk (st := s_l_with_asking) l42 c42 k42
  tg_l_with_asking := PySem.W.mg_of X G a42
  tb_l_with_asking := (fun_mk (st := s_l_with_asking) l42 c42 k42).binds (ps := ["_law_what", "_law_bad_here", "_law_beside"]) fun _ _ _ _ _ _ us hl => match us, hl with | [_, _, _], _ => rfl
  ta_l_with_book := f43
  td_l_with_book := _
  tF_l_with_book := fun_mk (st := s_l_with_book) l43 c43 k43
  tg_l_with_book := PySem.W.mg_of X G a43
  tb_l_with_book := (fun_mk (st := s_l_with_book) l43 c43 k43).binds (ps := ["_law_what", "_law_bad_here", "_law_beside"]) fun _ _ _ _ _ _ us hl => match us, hl with | [_, _, _], _ => rfl
  ta_l_with_rules := f44
  td_l_with_rules := _
  tF_l_with_rules := fun_mk (st := s_l_with_rules) l44 c44 k44
  tg_l_with_rules := PySem.W.mg_of X G a44
  tb_l_with_rules := (fun_mk (st := s_l_with_rules) l44 c44 k44).binds (ps := ["_law_what", "_law_bad_here"]) fun _ _ _ _ _ _ us hl => match us, hl with | [_, _], _ => rfl
  ta_l_asked := f45
  td_l_asked := _
  tF_l_asked := fun_mk (st := s_l_asked) l45 c45 k45
  tg_l_asked := PySem.W.mg_of X G a45
  tb_l_asked := (fun_mk (st := s_l_asked) l45 c45 k45).binds (ps := ["_law_kind_here", "_law_what", "_law_bad_here"]) fun _ _ _ _ _ _ us hl => match us, hl with | [_, _, _], _ => rfl
  ta_l_kind := f46
  td_l_kind := _
  tF_l_kind := fun_mk (st := s_l_kind) l46 c46 k46
  tg_l_kind := PySem.W.mg_of X G a46
  tb_l_kind := (fun_mk (st := s_l_kind) l46 c46 k46).binds (ps := ["_law_kind_here", "_law_what", "_law_bad_here"]) fun _ _ _ _ _ _ us hl => match us, hl with | [_, _, _], _ => rfl
  ta_l_bad := f47
  td_l_bad := _
  tF_l_bad := fun_mk (st := s_l_bad) l47 c47 k47
  tg_l_bad := PySem.W.mg_of X G a47
  tb_l_bad := (fun_mk (st := s_l_bad) l47 c47 k47).binds (ps := ["_law_kind_here", "_law_cell"]) fun _ _ _ _ _ _ us hl => match us, hl with | [_, _], _ => rfl
  ta_law := f48
  td_law := _
  tF_law := fun_mk (st := s_law) l48 c48 k48
  tg_law := PySem.W.mg_of X G a48
  tb_law := (fun_mk (st := s_law) l48 c48 k48).binds (ps := ["_law_script"]) fun _ _ _ _ _ _ us hl => match us, hl with | [_], _ => rfl
  tm_ValueError := PySem.W.mg_none_of X G z0
  tm_all := PySem.W.mg_none_of X G z1
  tm_any := PySem.W.mg_none_of X G z2
  tm_bool := PySem.W.mg_none_of X G z3
  tm_dict := PySem.W.mg_none_of X G z4
  tm_int := PySem.W.mg_none_of X G z5
  tm_isinstance := PySem.W.mg_none_of X G z6
  tm_len := PySem.W.mg_none_of X G z7
  tm_list := PySem.W.mg_none_of X G z8
  tm_max := PySem.W.mg_none_of X G z9
  tm_range := PySem.W.mg_none_of X G z10
  tm_reversed := PySem.W.mg_none_of X G z11
  tm_set := PySem.W.mg_none_of X G z12
  tm_sorted := PySem.W.mg_none_of X G z13
  tm_str := PySem.W.mg_none_of X G z14
  tm_tuple := PySem.W.mg_none_of X G z15
  tm_zip := PySem.W.mg_none_of X G z16
  xa_NoAsking := e0
  xg_NoAsking := PySem.W.mg_of X G xg0
  xq_NoAsking := xq0
  xk_NoAsking := xk0
  xb_NoAsking := xb0
  xt_NoAsking := xt0
  xa_NoBook := e1
  xg_NoBook := PySem.W.mg_of X G xg1
  xq_NoBook := xq1
  xk_NoBook := xk1
  xb_NoBook := xb1
  xt_NoBook := xt1
  xa_NoRules := e2
  xg_NoRules := PySem.W.mg_of X G xg2
  xq_NoRules := xq2
  xk_NoRules := xk2
  xb_NoRules := xb2
  xt_NoRules := xt2
  xa_NoTree := e3
  xg_NoTree := PySem.W.mg_of X G xg3
  xq_NoTree := xq3
  xk_NoTree := xk3
  xb_NoTree := xb3
  xt_NoTree := xt3
  xa_Unlike := e4
  xg_Unlike := PySem.W.mg_of X G xg4
  xq_Unlike := xq4
  xk_Unlike := xk4
  xb_Unlike := xb4
  xt_Unlike := xt4
  xa_AskError := h0
  xg_AskError := PySem.W.mg_of X G hg0
  xa_NoBonds := h1
  xg_NoBonds := PySem.W.mg_of X G hg1
  xa_NoColumns := h2
  xg_NoColumns := PySem.W.mg_of X G hg2
  xa_NoText := h3
  xg_NoText := PySem.W.mg_of X G hg3
  xe_NoAsking := ⟨ee0_0, ee0_1, ee0_2, ee0_3, ee0_4, ee0_5, ee0_6, ee0_7⟩
  xe_NoBook := ⟨ee1_0, ee1_1, ee1_2, ee1_3, ee1_4, ee1_5, ee1_6, ee1_7⟩
  xe_NoRules := ⟨ee2_0, ee2_1, ee2_2, ee2_3, ee2_4, ee2_5, ee2_6, ee2_7⟩
  xe_NoTree := ⟨ee3_0, ee3_1, ee3_2, ee3_3, ee3_4, ee3_5, ee3_6, ee3_7⟩
  xe_Unlike := ⟨ee4_0, ee4_1, ee4_2, ee4_3, ee4_4, ee4_5, ee4_6, ee4_7⟩
  xi_NoAsking_ValueError := ei0
  xi_NoBook_ValueError := ei1
  xi_NoRules_ValueError := ei2
  xi_NoTree_ValueError := ei3
  xi_Unlike_ValueError := ei4
  xo_NoAsking_NoAsking := eo0
  xo_NoAsking_NoBonds := eo1
  xo_NoAsking_NoBook := eo2
  xo_NoAsking_NoColumns := eo3
  xo_NoAsking_NoRules := eo4
  xo_NoAsking_NoText := eo5
  xo_NoAsking_NoTree := eo6
  xo_NoAsking_Unlike := eo7
  xo_NoBook_NoAsking := eo8
  xo_NoBook_NoBonds := eo9
  xo_NoBook_NoBook := eo10
  xo_NoBook_NoColumns := eo11
  xo_NoBook_NoRules := eo12
  xo_NoBook_NoText := eo13
  xo_NoBook_NoTree := eo14
  xo_NoBook_Unlike := eo15
  xo_NoRules_NoAsking := eo16
  xo_NoRules_NoBonds := eo17
  xo_NoRules_NoBook := eo18
  xo_NoRules_NoColumns := eo19
  xo_NoRules_NoRules := eo20
  xo_NoRules_NoText := eo21
  xo_NoRules_NoTree := eo22
  xo_NoRules_Unlike := eo23
  xo_NoTree_NoAsking := eo24
  xo_NoTree_NoBonds := eo25
  xo_NoTree_NoBook := eo26
  xo_NoTree_NoColumns := eo27
  xo_NoTree_NoRules := eo28
  xo_NoTree_NoText := eo29
  xo_NoTree_NoTree := eo30
  xo_NoTree_Unlike := eo31
  xo_Unlike_NoAsking := eo32
  xo_Unlike_NoBonds := eo33
  xo_Unlike_NoBook := eo34
  xo_Unlike_NoColumns := eo35
  xo_Unlike_NoRules := eo36
  xo_Unlike_NoText := eo37
  xo_Unlike_NoTree := eo38
  xo_Unlike_Unlike := eo39
  xm_NoAsking_AskError := em0
  xm_NoBook_AskError := em1
  xm_NoRules_AskError := em2
  xm_NoTree_AskError := em3
  xm_Unlike_AskError := em4
  tt_LETTERS := ty0
  tc_LETTERS := PySem.W.mg_of X G y0
end My
open PySem PySem.W PyProof.Rows
set_option maxHeartbeats 0 in
theorem PySem.Challenge.cw_askbook_k21_askings_refused_holds : PySem.Challenge.rw_askbook_k21_askings_refused.Holds := by
  w_on; o_law; k_head; (case hw => w_witness2)
  k_fill
  refine L2.walk_of (l := PySem.Challenge.rw_askbook_k21_askings_refused) (n := 63) (k := 12) (x := "_law_script") (CX := fun w => L2.CX PySem.Challenge.rw_askbook_k21_askings_refused.prog w) (sp := fun w => DL.spLaw _ 63) rfl (by decide) rfl ⟨rfl, by decide, by decide⟩ (fun w h Y => PySem.W.kIn_of Y) ?F (fun _ _ a ns hl _ hS => ⟨a, ns, rfl, hS, hl, (fun p hp => nomatch hp), fun _ => rfl⟩) (fun _ _ _ _ _ h => DL.cx_false h)
  case F =>
    intro w mg fa h KX G hmg
    refine' My.law_facts KX G hmg (My.txt_mk KX G ?a0 ?l0 ?c0 ?k0 ?a1 ?l1 ?c1 ?k1 ?a2 ?l2 ?c2 ?k2 ?a3 ?l3 ?c3 ?k3 ?a4 ?l4 ?c4 ?k4 ?a5 ?l5 ?c5 ?k5 ?a6 ?l6 ?c6 ?k6 ?a7 ?l7 ?c7 ?k7 ?a8 ?l8 ?c8 ?k8 ?a9 ?l9 ?c9 ?k9 ?a10 ?l10 ?c10 ?k10 ?a11 ?l11 ?c11 ?k11 ?a12 ?l12 ?c12 ?k12 ?a13 ?l13 ?c13 ?k13 ?a14 ?l14 ?c14 ?k14 ?a15 ?l15 ?c15 ?k15 ?a16 ?l16 ?c16 ?k16 ?a17 ?l17 ?c17 ?k17 ?a18 ?l18 ?c18 ?k18 ?a19 ?l19 ?c19 ?k19 ?a20 ?l20 ?c20 ?k20 ?a21 ?l21 ?c21 ?k21 ?a22 ?l22 ?c22 ?k22 ?a23 ?l23 ?c23 ?k23 ?a24 ?l24 ?c24 ?k24 ?a25 ?l25 ?c25 ?k25 ?a26 ?l26 ?c26 ?k26 ?a27 ?l27 ?c27 ?k27 ?a28 ?l28 ?c28 ?k28 ?a29 ?l29 ?c29 ?k29 ?a30 ?l30 ?c30 ?k30 ?a31 ?l31 ?c31 ?k31 ?a32 ?l32 ?c32 ?k32 ?a33 ?l33 ?c33 ?k33 ?a34 ?l34 ?c34 ?k34 ?a35 ?l35 ?c35 ?k35 ?a36 ?l36 ?c36 ?k36 ?a37 ?l37 ?c37 ?k37 ?a38 ?l38 ?c38 ?k38 ?a39 ?l39 ?c39 ?k39 ?a40 ?l40 ?c40 ?k40 ?a41 ?l41 ?c41 ?k41 ?a42 ?l42 ?c42 ?k42 ?a43 ?l43 ?c43 ?k43 ?a44 ?l44 ?c44 ?k44 ?a45 ?l45 ?c45 ?k45 ?a46 ?l46 ?c46 ?k46 ?a47 ?l47 ?c47 ?k47 ?a48 ?l48 ?c48 ?k48 ?z0 ?z1 ?z2 ?z3 ?z4 ?z5 ?z6 ?z7 ?z8 ?z9 ?z10 ?z11 ?z12 ?z13 ?z14 ?z15 ?z16 ?xg0 ?xq0 ?xk0 ?xb0 ?xt0 ?xg1 ?xq1 ?xk1 ?xb1 ?xt1 ?xg2 ?xq2 ?xk2 ?xb2 ?xt2 ?xg3 ?xq3 ?xk3 ?xb3 ?xt3 ?xg4 ?xq4 ?xk4 ?xb4 ?xt4 ?hg0 ?hg1 ?hg2 ?hg3 ?ee0_0 ?ee0_1 ?ee0_2 ?ee0_3 ?ee0_4 ?ee0_5 ?ee0_6 ?ee0_7 ?ee1_0 ?ee1_1 ?ee1_2 ?ee1_3 ?ee1_4 ?ee1_5 ?ee1_6 ?ee1_7 ?ee2_0 ?ee2_1 ?ee2_2 ?ee2_3 ?ee2_4 ?ee2_5 ?ee2_6 ?ee2_7 ?ee3_0 ?ee3_1 ?ee3_2 ?ee3_3 ?ee3_4 ?ee3_5 ?ee3_6 ?ee3_7 ?ee4_0 ?ee4_1 ?ee4_2 ?ee4_3 ?ee4_4 ?ee4_5 ?ee4_6 ?ee4_7 ?ei0 ?ei1 ?ei2 ?ei3 ?ei4 ?eo0 ?eo1 ?eo2 ?eo3 ?eo4 ?eo5 ?eo6 ?eo7 ?eo8 ?eo9 ?eo10 ?eo11 ?eo12 ?eo13 ?eo14 ?eo15 ?eo16 ?eo17 ?eo18 ?eo19 ?eo20 ?eo21 ?eo22 ?eo23 ?eo24 ?eo25 ?eo26 ?eo27 ?eo28 ?eo29 ?eo30 ?eo31 ?eo32 ?eo33 ?eo34 ?eo35 ?eo36 ?eo37 ?eo38 ?eo39 ?em0 ?em1 ?em2 ?em3 ?em4 ?y0)
    (case a0 => k_is); (case l0 => k_is); (case c0 => k_is); (case k0 => k_is); (case a1 => k_is); (case l1 => k_is); (case c1 => k_is); (case k1 => k_is); (case a2 => k_is); (case l2 => k_is); (case c2 => k_is); (case k2 => k_is); (case a3 => k_is); (case l3 => k_is); (case c3 => k_is); (case k3 => k_is); (case a4 => k_is); (case l4 => k_is); (case c4 => k_is); (case k4 => k_is); (case a5 => k_is); (case l5 => k_is); (case c5 => k_is); (case k5 => k_is); (case a6 => k_is); (case l6 => k_is); (case c6 => k_is); (case k6 => k_is); (case a7 => k_is); (case l7 => k_is); (case c7 => k_is); (case k7 => k_is); (case a8 => k_is); (case l8 => k_is); (case c8 => k_is); (case k8 => k_is); (case a9 => k_is); (case l9 => k_is); (case c9 => k_is); (case k9 => k_is); (case a10 => k_is); (case l10 => k_is); (case c10 => k_is); (case k10 => k_is); (case a11 => k_is); (case l11 => k_is); (case c11 => k_is); (case k11 => k_is); (case a12 => k_is); (case l12 => k_is); (case c12 => k_is); (case k12 => k_is); (case a13 => k_is); (case l13 => k_is); (case c13 => k_is); (case k13 => k_is); (case a14 => k_is); (case l14 => k_is); (case c14 => k_is); (case k14 => k_is); (case a15 => k_is); (case l15 => k_is); (case c15 => k_is); (case k15 => k_is); (case a16 => k_is); (case l16 => k_is); (case c16 => k_is); (case k16 => k_is); (case a17 => k_is); (case l17 => k_is); (case c17 => k_is); (case k17 => k_is); (case a18 => k_is); (case l18 => k_is); (case c18 => k_is); (case k18 => k_is); (case a19 => k_is); (case l19 => k_is); (case c19 => k_is); (case k19 => k_is); (case a20 => k_is); (case l20 => k_is); (case c20 => k_is); (case k20 => k_is); (case a21 => k_is); (case l21 => k_is); (case c21 => k_is); (case k21 => k_is); (case a22 => k_is); (case l22 => k_is); (case c22 => k_is); (case k22 => k_is); (case a23 => k_is); (case l23 => k_is); (case c23 => k_is); (case k23 => k_is); (case a24 => k_is); (case l24 => k_is); (case c24 => k_is); (case k24 => k_is); (case a25 => k_is); (case l25 => k_is); (case c25 => k_is); (case k25 => k_is); (case a26 => k_is); (case l26 => k_is); (case c26 => k_is); (case k26 => k_is); (case a27 => k_is); (case l27 => k_is); (case c27 => k_is); (case k27 => k_is); (case a28 => k_is); (case l28 => k_is); (case c28 => k_is); (case k28 => k_is); (case a29 => k_is); (case l29 => k_is); (case c29 => k_is); (case k29 => k_is); (case a30 => k_is); (case l30 => k_is); (case c30 => k_is); (case k30 => k_is); (case a31 => k_is); (case l31 => k_is); (case c31 => k_is); (case k31 => k_is); (case a32 => k_is); (case l32 => k_is); (case c32 => k_is); (case k32 => k_is); (case a33 => k_is); (case l33 => k_is); (case c33 => k_is); (case k33 => k_is); (case a34 => k_is); (case l34 => k_is); (case c34 => k_is); (case k34 => k_is); (case a35 => k_is); (case l35 => k_is); (case c35 => k_is); (case k35 => k_is); (case a36 => k_is); (case l36 => k_is); (case c36 => k_is); (case k36 => k_is); (case a37 => k_is); (case l37 => k_is); (case c37 => k_is); (case k37 => k_is); (case a38 => k_is); (case l38 => k_is); (case c38 => k_is); (case k38 => k_is); (case a39 => k_is); (case l39 => k_is); (case c39 => k_is); (case k39 => k_is); (case a40 => k_is); (case l40 => k_is); (case c40 => k_is); (case k40 => k_is); (case a41 => k_is); (case l41 => k_is); (case c41 => k_is); (case k41 => k_is); (case a42 => k_is); (case l42 => k_is); (case c42 => k_is); (case k42 => k_is); (case a43 => k_is); (case l43 => k_is); (case c43 => k_is); (case k43 => k_is); (case a44 => k_is); (case l44 => k_is); (case c44 => k_is); (case k44 => k_is); (case a45 => k_is); (case l45 => k_is); (case c45 => k_is); (case k45 => k_is); (case a46 => k_is); (case l46 => k_is); (case c46 => k_is); (case k46 => k_is); (case a47 => k_is); (case l47 => k_is); (case c47 => k_is); (case k47 => k_is); (case a48 => k_is); (case l48 => k_is); (case c48 => k_is); (case k48 => k_is); (case z0 => k_is); (case z1 => k_is); (case z2 => k_is); (case z3 => k_is); (case z4 => k_is); (case z5 => k_is); (case z6 => k_is); (case z7 => k_is); (case z8 => k_is); (case z9 => k_is); (case z10 => k_is); (case z11 => k_is); (case z12 => k_is); (case z13 => k_is); (case z14 => k_is); (case z15 => k_is); (case z16 => k_is); (case xg0 => k_is); (case xq0 => k_exc); (case xk0 => k_is); (case xb0 => k_is); (case xt0 => k_is); (case xg1 => k_is); (case xq1 => k_exc); (case xk1 => k_is); (case xb1 => k_is); (case xt1 => k_is); (case xg2 => k_is); (case xq2 => k_exc); (case xk2 => k_is); (case xb2 => k_is); (case xt2 => k_is); (case xg3 => k_is); (case xq3 => k_exc); (case xk3 => k_is); (case xb3 => k_is); (case xt3 => k_is); (case xg4 => k_is); (case xq4 => k_exc); (case xk4 => k_is); (case xb4 => k_is); (case xt4 => k_is); (case hg0 => k_is); (case hg1 => k_is); (case hg2 => k_is); (case hg3 => k_is); (case ee0_0 => k_is); (case ee0_1 => k_is); (case ee0_2 => k_is); (case ee0_3 => k_is); (case ee0_4 => k_is); (case ee0_5 => k_is); (case ee0_6 => k_is); (case ee0_7 => k_is); (case ee1_0 => k_is); (case ee1_1 => k_is); (case ee1_2 => k_is); (case ee1_3 => k_is); (case ee1_4 => k_is); (case ee1_5 => k_is); (case ee1_6 => k_is); (case ee1_7 => k_is); (case ee2_0 => k_is); (case ee2_1 => k_is); (case ee2_2 => k_is); (case ee2_3 => k_is); (case ee2_4 => k_is); (case ee2_5 => k_is); (case ee2_6 => k_is); (case ee2_7 => k_is); (case ee3_0 => k_is); (case ee3_1 => k_is); (case ee3_2 => k_is); (case ee3_3 => k_is); (case ee3_4 => k_is); (case ee3_5 => k_is); (case ee3_6 => k_is); (case ee3_7 => k_is); (case ee4_0 => k_is); (case ee4_1 => k_is); (case ee4_2 => k_is); (case ee4_3 => k_is); (case ee4_4 => k_is); (case ee4_5 => k_is); (case ee4_6 => k_is); (case ee4_7 => k_is); (case ei0 => kernel_rfl); (case ei1 => kernel_rfl); (case ei2 => kernel_rfl); (case ei3 => kernel_rfl); (case ei4 => kernel_rfl); (case eo0 => kernel_rfl); (case eo1 => kernel_rfl); (case eo2 => kernel_rfl); (case eo3 => kernel_rfl); (case eo4 => kernel_rfl); (case eo5 => kernel_rfl); (case eo6 => kernel_rfl); (case eo7 => kernel_rfl); (case eo8 => kernel_rfl); (case eo9 => kernel_rfl); (case eo10 => kernel_rfl); (case eo11 => kernel_rfl); (case eo12 => kernel_rfl); (case eo13 => kernel_rfl); (case eo14 => kernel_rfl); (case eo15 => kernel_rfl); (case eo16 => kernel_rfl); (case eo17 => kernel_rfl); (case eo18 => kernel_rfl); (case eo19 => kernel_rfl); (case eo20 => kernel_rfl); (case eo21 => kernel_rfl); (case eo22 => kernel_rfl); (case eo23 => kernel_rfl); (case eo24 => kernel_rfl); (case eo25 => kernel_rfl); (case eo26 => kernel_rfl); (case eo27 => kernel_rfl); (case eo28 => kernel_rfl); (case eo29 => kernel_rfl); (case eo30 => kernel_rfl); (case eo31 => kernel_rfl); (case eo32 => kernel_rfl); (case eo33 => kernel_rfl); (case eo34 => kernel_rfl); (case eo35 => kernel_rfl); (case eo36 => kernel_rfl); (case eo37 => kernel_rfl); (case eo38 => kernel_rfl); (case eo39 => kernel_rfl); (case em0 => kernel_rfl); (case em1 => kernel_rfl); (case em2 => kernel_rfl); (case em3 => kernel_rfl); (case em4 => kernel_rfl); (case y0 => k_is)

