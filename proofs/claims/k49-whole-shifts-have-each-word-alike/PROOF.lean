import PyProof.Rows.All
import Wide.All
import OpenK.AllK
import Wide.FinOn
import HandS.ForMost
import HandS.Exc
import HandS.ExcInit
import HandS.ExcOwn
import HandS.CallSlots
import HandS.Walk
import HandS.EndTab
import HandS.EndBits
import HandS.WordsExc
import HandS.AnyAll
import HandS.TupAny
import HandS.TupMul
import HandS.TupLe
import HandS.Codes
import HandS.Deep
import HandS.IsInst
import HandS.Conv
import HandS.Zip
import KE.GoesMore
import PyProof.EnumMake
import HandS.More
import HandS.FStr
import HandS.Text
import KE.SortData
import HandS.DictTup
import PyProof.DictMoreH
import HandS.OwnEq
import HandS.Words
import HandS.SortInts
import KE.DataFind
import HandS.SetFor
import PySem.Challenge.RW_keptandsaid_k49_whole_shifts_have_each_w
import PyProof.EqAt
import PyProof.EqKinds
import PyProof.TupleCall
import Open.SpecLaws
import KE.OsGo
set_option Elab.async false
set_option linter.all false
set_option maxRecDepth 100000
set_option maxHeartbeats 4000000
/-! KS: values by content, frames, denotations, the relation between a frame and the abstract heap. -/
namespace KS
open PySem PySem.Spec L2
/-- a value by its content; var i: the list (dict, object) that slot i owns -/
inductive D where
  | non | bl (b : Bool) | int (i : Int) | str (x : Str)
  | tup (ds : List D) | lst (ds : List D) | scr (ns : List Int)
  | obj (c : Nat) (ns : List Nat) (fs : List D)
  | dct (ks vs : List D)
  | var (i : Nat)
abbrev Fr := List (Option D)
/-- an end: a value, an exception (its class's number, its fields), or what is not told -/
inductive Res (σ α : Type) where
  | ok (a : α) (s : σ) | exc (c : Nat) (fs : List D) (s : σ) | bad
inductive Fl where
  | nx | brk | cnt | ret (d : D)
abbrev Ev := Fr → Res Fr D
abbrev Av := Fr → Res Fr (List D)
abbrev Bv := Fr → Res Fr Bool
abbrev Sv := Fr → Res Fr Fl
abbrev Fn := List D → Res (List D) D
def Res.bind {σ α β : Type} (r : Res σ α) (k : α → σ → Res σ β) : Res σ β :=
  match r with
  | .ok a s => k a s
  | .exc c fs s => .exc c fs s
  | .bad => .bad
/-- what is known of the text as it stands: classes by number, fields by number, tables of code objects -/
structure SE where
  P : Program
  w : World
  K : PySem.W.Frag
  mg : Str → Option Value
  base : Heap
  tabs : List Addr
  cls : Nat → Addr
  fld : Nat → Str
  ecls : Nat → Addr
  efld : Nat → List Str
def kD : Key → D
  | .inl i => .int i
  | .inr x => .str x
/-- a dict at a: its keys by content, its values -/
def DctAt (H : Hp) (a : Addr) (ks : List D) (us : List V) : Prop :=
  (∃ kvs : List (List Key × V), H a = some (.dT kvs) ∧ ks = D.bl true :: kvs.map (fun p => D.tup (p.1.map kD)) ∧ us = kvs.map (·.2)) ∨
  (∃ kvs : List (Key × V), H a = some (.dK kvs) ∧ ks = D.bl false :: kvs.map (fun p => kD p.1) ∧ us = kvs.map (·.2))
theorem DctAt.at {H H' : Hp} {a : Addr} {ks : List D} {us : List V} (h : DctAt H a ks us) (k : ∀ o, H a = some o → H' a = some o) : DctAt H' a ks us := by
  rcases h with ⟨kvs, e, r⟩ | ⟨kvs, e, r⟩
  · exact .inl ⟨kvs, k _ e, r⟩
  · exact .inr ⟨kvs, k _ e, r⟩
mutual
/-- the value v bears the content d in the heap Hv (that nothing changes) -/
def Rep (G : SE) (Hv : Hp) : D → V → Prop
  | .non, v => v = .non
  | .bl b, v => v = .bl b
  | .int i, v => v = .int i
  | .str x, v => v = .str x
  | .tup ds, v => ∃ a vs, v = .ref a ∧ Hv a = some (.tup vs) ∧ RepL G Hv ds vs
  | .lst ds, v => ∃ a vs, v = .ref a ∧ Hv a = some (.lst vs) ∧ RepL G Hv ds vs
  | .scr ns, v => ∃ a, v = .ref a ∧ SqL G.K Hv a (ns.map V.int)
  | .obj c ns fs, v => ∃ a dx vs, v = .ref a ∧ Hv a = some (.ins (G.cls c) dx ((ns.map G.fld).zip vs)) ∧ ns.length = vs.length ∧ RepL G Hv fs vs
  | .dct ks ds, v => ∃ a us, v = .ref a ∧ DctAt Hv a ks us ∧ RepL G Hv ds us
  | .var _, _ => False
def RepL (G : SE) (Hv : Hp) : List D → List V → Prop
  | [], vs => vs = []
  | d :: ds, vs => ∃ v r, vs = v :: r ∧ Rep G Hv d v ∧ RepL G Hv ds r
end
def Sub (H H' : Hp) : Prop := ∀ b o, H b = some o → H' b = some o
theorem Sub.refl (H : Hp) : Sub H H := fun _ _ h => h
theorem Sub.trans {H H1 H2 : Hp} (a : Sub H H1) (b : Sub H1 H2) : Sub H H2 := fun c o h => b c o (a c o h)
theorem Sub.sqt {K : PySem.W.Frag} {H H' : Hp} (s : Sub H H') {a : Addr} {xs : List V} (h : SqT K H a xs) : SqT K H' a xs := by
  rcases h with (h | ⟨o, h⟩) | h
  · exact .inl (.inl (s _ _ h))
  · exact .inl (.inr ⟨o, s _ _ h⟩)
  · exact .inr h
theorem Sub.sql {K : PySem.W.Frag} {H H' : Hp} (s : Sub H H') {a : Addr} {xs : List V} (h : SqL K H a xs) : SqL K H' a xs := by
  rcases h with (h | ⟨o, h⟩) | h
  · exact .inl (.inl (s _ _ h))
  · exact .inl (.inr ⟨o, s _ _ h⟩)
  · exact .inr h
theorem Sub.put {H H' : Hp} (s : Sub H H') {a : Addr} {o : HO} (hn : H a = none) : Sub H (upd H' a o) := fun b u h => by
  rw [upd_ne (ne_of_none h hn)]
  exact s b u h
theorem Sub.put2 {H H' : Hp} (s : Sub H H') {a : Addr} {o : HO} : Sub (upd H a o) (upd H' a o) := fun b u h => by
  by_cases e : b = a
  · subst e
    rw [upd_same] at h ⊢
    exact h
  · rw [upd_ne e] at h ⊢
    exact s b u h
mutual
theorem Rep.mono {G : SE} {H H' : Hp} (s : Sub H H') : ∀ (d : D) (v : V), Rep G H d v → Rep G H' d v
  | .non, _, h => h
  | .bl _, _, h => h
  | .int _, _, h => h
  | .str _, _, h => h
  | .tup ds, v, h => by
    simp only [Rep] at h ⊢
    obtain ⟨a, vs, e, q, r⟩ := h
    exact ⟨a, vs, e, s _ _ q, RepL.mono s ds vs r⟩
  | .lst ds, v, h => by
    simp only [Rep] at h ⊢
    obtain ⟨a, vs, e, q, r⟩ := h
    exact ⟨a, vs, e, s _ _ q, RepL.mono s ds vs r⟩
  | .scr ns, v, h => by
    simp only [Rep] at h ⊢
    obtain ⟨a, e, q⟩ := h
    exact ⟨a, e, s.sql q⟩
  | .obj c ns fs, v, h => by
    simp only [Rep] at h ⊢
    obtain ⟨a, dx, vs, e, q, l, r⟩ := h
    exact ⟨a, dx, vs, e, s _ _ q, l, RepL.mono s fs vs r⟩
  | .dct ks ds, v, h => by
    simp only [Rep] at h ⊢
    obtain ⟨a, us, e, q, r⟩ := h
    exact ⟨a, us, e, q.at fun o => s a o, RepL.mono s ds us r⟩
  | .var _, _, h => by simp only [Rep] at h
theorem RepL.mono {G : SE} {H H' : Hp} (s : Sub H H') : ∀ (ds : List D) (vs : List V), RepL G H ds vs → RepL G H' ds vs
  | [], _, h => by simp only [RepL] at h ⊢; exact h
  | d :: ds, vs, h => by
    simp only [RepL] at h ⊢
    obtain ⟨v, r, e, h1, h2⟩ := h
    exact ⟨v, r, e, Rep.mono s d v h1, RepL.mono s ds r h2⟩
end
section
variable {G : SE} {H : Hp}
theorem RepL.nil : RepL G H [] [] := by simp only [RepL]
theorem RepL.cons {d : D} {v : V} {ds : List D} {vs : List V} (h : Rep G H d v) (t : RepL G H ds vs) : RepL G H (d :: ds) (v :: vs) := by
  simp only [RepL]
  exact ⟨v, vs, rfl, h, t⟩
theorem RepL.nil_inv {vs : List V} (h : RepL G H [] vs) : vs = [] := by simpa only [RepL] using h
theorem RepL.cons_inv {d : D} {ds : List D} {vs : List V} (h : RepL G H (d :: ds) vs) : ∃ v r, vs = v :: r ∧ Rep G H d v ∧ RepL G H ds r := by simpa only [RepL] using h
theorem RepL.length : ∀ {ds : List D} {vs : List V}, RepL G H ds vs → vs.length = ds.length
  | [], vs, h => by rw [h.nil_inv]; rfl
  | d :: ds, vs, h => by
    obtain ⟨v, r, e, _, t⟩ := h.cons_inv
    rw [e, List.length_cons, List.length_cons, RepL.length t]
theorem RepL.get : ∀ {ds : List D} {vs : List V}, RepL G H ds vs → ∀ {i : Nat} {d : D}, ds[i]? = some d → ∃ v, vs[i]? = some v ∧ Rep G H d v
  | [], _, _, i, d, e => by simp at e
  | d :: ds, vs, h, 0, d', e => by
    obtain ⟨v, r, ev, h1, t⟩ := h.cons_inv
    have e' : d = d' := by simpa using e
    subst e'
    exact ⟨v, by rw [ev]; rfl, h1⟩
  | d :: ds, vs, h, i + 1, d', e => by
    obtain ⟨v, r, ev, h1, t⟩ := h.cons_inv
    obtain ⟨u, e1, e2⟩ := RepL.get t (i := i) (d := d') (by simpa using e)
    exact ⟨u, by rw [ev]; simpa using e1, e2⟩
theorem RepL.getV : ∀ {ds : List D} {vs : List V}, RepL G H ds vs → ∀ {i : Nat} {v : V}, vs[i]? = some v → ∃ d, ds[i]? = some d ∧ Rep G H d v
  | [], vs, h, i, v, e => by rw [h.nil_inv] at e; simp at e
  | d :: ds, vs, h, 0, v', e => by
    obtain ⟨v, r, ev, h1, t⟩ := h.cons_inv
    rw [ev] at e
    have e' : v = v' := by simpa using e
    subst e'
    exact ⟨d, rfl, h1⟩
  | d :: ds, vs, h, i + 1, v', e => by
    obtain ⟨v, r, ev, h1, t⟩ := h.cons_inv
    rw [ev] at e
    obtain ⟨u, e1, e2⟩ := RepL.getV t (i := i) (v := v') (by simpa using e)
    exact ⟨u, by simpa using e1, e2⟩
theorem RepL.append : ∀ {ds : List D} {vs : List V} {es : List D} {us : List V}, RepL G H ds vs → RepL G H es us → RepL G H (ds ++ es) (vs ++ us)
  | [], vs, es, us, h, q => by rw [h.nil_inv]; exact q
  | d :: ds, vs, es, us, h, q => by
    obtain ⟨v, r, e, h1, t⟩ := h.cons_inv
    subst e
    exact .cons h1 (RepL.append t q)
theorem RepL.take : ∀ {ds : List D} {vs : List V} (n : Nat), RepL G H ds vs → RepL G H (ds.take n) (vs.take n)
  | [], vs, n, h => by rw [h.nil_inv]; simp only [List.take_nil]; exact .nil
  | d :: ds, vs, 0, h => by simp only [List.take_zero]; exact .nil
  | d :: ds, vs, n + 1, h => by
    obtain ⟨v, r, e, h1, t⟩ := h.cons_inv
    subst e
    exact .cons h1 (RepL.take n t)
theorem RepL.drop : ∀ {ds : List D} {vs : List V} (n : Nat), RepL G H ds vs → RepL G H (ds.drop n) (vs.drop n)
  | [], vs, n, h => by rw [h.nil_inv]; simp only [List.drop_nil]; exact .nil
  | d :: ds, vs, 0, h => h
  | d :: ds, vs, n + 1, h => by
    obtain ⟨v, r, e, h1, t⟩ := h.cons_inv
    subst e
    exact RepL.drop n t
theorem RepL.set : ∀ {ds : List D} {vs : List V} {d : D} {v : V} (n : Nat), RepL G H ds vs → Rep G H d v → RepL G H (ds.set n d) (vs.set n v)
  | [], vs, d, v, n, h, _ => by rw [h.nil_inv]; exact .nil
  | d :: ds, vs, d', v', 0, h, q => by
    obtain ⟨v, r, e, h1, t⟩ := h.cons_inv
    subst e
    exact .cons q t
  | d :: ds, vs, d', v', n + 1, h, q => by
    obtain ⟨v, r, e, h1, t⟩ := h.cons_inv
    subst e
    exact .cons h1 (RepL.set n t q)
theorem RepL.reverse {ds : List D} {vs : List V} (h : RepL G H ds vs) : RepL G H ds.reverse vs.reverse := by
  induction ds generalizing vs with
  | nil => rw [h.nil_inv]; exact .nil
  | cons d ds ih =>
    obtain ⟨v, r, e, h1, t⟩ := h.cons_inv
    subst e
    rw [List.reverse_cons, List.reverse_cons]
    exact (ih t).append (.cons h1 .nil)
theorem RepL.eraseIdx : ∀ {ds : List D} {vs : List V} (n : Nat), RepL G H ds vs → RepL G H (ds.eraseIdx n) (vs.eraseIdx n)
  | [], vs, n, h => by rw [h.nil_inv]; exact .nil
  | d :: ds, vs, 0, h => by
    obtain ⟨v, r, e, h1, t⟩ := h.cons_inv
    subst e
    exact t
  | d :: ds, vs, n + 1, h => by
    obtain ⟨v, r, e, h1, t⟩ := h.cons_inv
    subst e
    exact .cons h1 (RepL.eraseIdx n t)
theorem RepL.dropLast {ds : List D} {vs : List V} (h : RepL G H ds vs) : RepL G H ds.dropLast vs.dropLast := by
  rw [List.dropLast_eq_take, List.dropLast_eq_take, h.length]
  exact h.take _
theorem Rep.tup {ds : List D} {vs : List V} {a : Addr} (q : H a = some (.tup vs)) (r : RepL G H ds vs) : Rep G H (.tup ds) (.ref a) := by
  simp only [Rep]
  exact ⟨a, vs, rfl, q, r⟩
theorem Rep.lst {ds : List D} {vs : List V} {a : Addr} (q : H a = some (.lst vs)) (r : RepL G H ds vs) : Rep G H (.lst ds) (.ref a) := by
  simp only [Rep]
  exact ⟨a, vs, rfl, q, r⟩
theorem Rep.obj {c : Nat} {ns : List Nat} {fs : List D} {vs : List V} {a dx : Addr} (q : H a = some (.ins (G.cls c) dx ((ns.map G.fld).zip vs))) (l : ns.length = vs.length) (r : RepL G H fs vs) : Rep G H (.obj c ns fs) (.ref a) := by
  simp only [Rep]
  exact ⟨a, dx, vs, rfl, q, l, r⟩
theorem Rep.non_iff {v : V} : Rep G H .non v ↔ v = .non := by simp only [Rep]
theorem Rep.bl_iff {b : Bool} {v : V} : Rep G H (.bl b) v ↔ v = .bl b := by simp only [Rep]
theorem Rep.int_iff {i : Int} {v : V} : Rep G H (.int i) v ↔ v = .int i := by simp only [Rep]
theorem Rep.str_iff {x : Str} {v : V} : Rep G H (.str x) v ↔ v = .str x := by simp only [Rep]
theorem Rep.tup_at {ds : List D} {v : V} (h : Rep G H (.tup ds) v) : ∃ a vs, v = .ref a ∧ H a = some (.tup vs) ∧ RepL G H ds vs := by simpa only [Rep] using h
theorem Rep.tup_inv {ds : List D} {v : V} (h : Rep G H (.tup ds) v) : ∃ a vs, v = .ref a ∧ SqT G.K H a vs ∧ RepL G H ds vs := by
  obtain ⟨a, vs, e, q, r⟩ := h.tup_at
  exact ⟨a, vs, e, .inl (.inl q), r⟩
theorem Rep.lst_inv {ds : List D} {v : V} (h : Rep G H (.lst ds) v) : ∃ a vs, v = .ref a ∧ H a = some (.lst vs) ∧ RepL G H ds vs := by simpa only [Rep] using h
theorem Rep.scr_inv {ns : List Int} {v : V} (h : Rep G H (.scr ns) v) : ∃ a, v = .ref a ∧ SqL G.K H a (ns.map V.int) := by simpa only [Rep] using h
theorem Rep.obj_inv {c : Nat} {ns : List Nat} {fs : List D} {v : V} (h : Rep G H (.obj c ns fs) v) : ∃ a dx vs, v = .ref a ∧ H a = some (.ins (G.cls c) dx ((ns.map G.fld).zip vs)) ∧ ns.length = vs.length ∧ RepL G H fs vs := by simpa only [Rep] using h
theorem Rep.no_var {i : Nat} {v : V} (h : Rep G H (.var i) v) : False := by simp only [Rep] at h
theorem Rep.dct_inv {ks ds : List D} {v : V} (h : Rep G H (.dct ks ds) v) : ∃ a us, v = .ref a ∧ DctAt H a ks us ∧ RepL G H ds us := by simpa only [Rep] using h
theorem Rep.dct {ks ds : List D} {us : List V} {a : Addr} (q : DctAt H a ks us) (r : RepL G H ds us) : Rep G H (.dct ks ds) (.ref a) := by
  simp only [Rep]
  exact ⟨a, us, rfl, q, r⟩
end
end KS
namespace KS
open PySem PySem.Spec L2
/-- what a def's running body is told by: its owned slots, the slots that were handed in to be changed, the heap at the entry -/
structure Bd where
  G : SE
  M : List Nat
  io : List (Nat × Addr)
  H0 : Hp
  Hv0 : Hp
/-- the object at a, owned, bears d -/
def Cell (G : SE) (H Hv : Hp) (a : Addr) : D → Prop
  | .lst ds => ∃ vs, H a = some (.lst vs) ∧ RepL G Hv ds vs
  | .obj c ns fs => ∃ dx vs, H a = some (.ins (G.cls c) dx ((ns.map G.fld).zip vs)) ∧ ns.length = vs.length ∧ RepL G Hv fs vs
  | .dct ks ds => ∃ us, DctAt H a ks us ∧ RepL G Hv ds us
  | _ => False
def isCell : D → Bool
  | .lst _ => true
  | .obj _ _ _ => true
  | .dct _ _ => true
  | _ => false
theorem Cell.isCell {G : SE} {H Hv : Hp} {a : Addr} {d : D} (h : Cell G H Hv a d) : isCell d = true := by
  cases d <;> first | rfl | exact h.elim
def Own (B : Bd) (fr : Fr) (σ : St) (a : Addr) : Prop := ∃ i d, i ∈ B.M ∧ (fr[i]? = some (some d) ∧ isCell d = true) ∧ σ[i]? = some (some (.ref a))
def Keep (B : Bd) (fr : Fr) (σ : St) (H H' : Hp) : Prop := ∀ b o, H b = some o → ¬ Own B fr σ b → b ∉ B.G.tabs → H' b = some o
/-- a table of a code object -/
def TabH (H : Hp) (P : Addr) : Prop := GxR.TabG H P
/-- new at the entry, or a tuple (that nothing owns) -/
def NewOk (H : Hp) (b : Addr) (o : HO) : Prop := H b = none ∨ ∃ vs, o = .tup vs
structure Rel (B : Bd) (fr : Fr) (σ : St) (H Hv : Hp) : Prop where
  sub : Sub Hv H
  ext0 : Sub B.Hv0 Hv
  new : ∀ b o, Hv b = some o → B.Hv0 b = some o ∨ NewOk B.H0 b o
  keep : ∀ b o, B.H0 b = some o → (∀ p ∈ B.io, p.2 ≠ b) → b ∉ B.G.tabs → H b = some o
  len : fr.length = σ.length
  val : ∀ i d, fr[i]? = some (some d) → i ∉ B.M → ∃ v, σ[i]? = some (some v) ∧ Rep B.G Hv d v
  box : ∀ i d, fr[i]? = some (some d) → isCell d = false → i ∈ B.M → ∃ e v, d = .tup [e] ∧ σ[i]? = some (some v) ∧ Rep B.G Hv e v
  own : ∀ i d, (fr[i]? = some (some d) ∧ isCell d = true) → i ∈ B.M → ∃ a, σ[i]? = some (some (.ref a)) ∧ Hv a = none ∧ ((∃ p ∈ B.io, p.2 = a) ∨ B.H0 a = none) ∧ Cell B.G H Hv a d
  sep : ∀ i j a di dj, i ∈ B.M → j ∈ B.M → i ≠ j → (fr[i]? = some (some di) ∧ isCell di = true) → (fr[j]? = some (some dj) ∧ isCell dj = true) → σ[i]? = some (some (.ref a)) → σ[j]? ≠ some (some (.ref a))
  io : ∀ p ∈ B.io, p.1 ∈ B.M ∧ (∃ d, fr[p.1]? = some (some d) ∧ isCell d = true) ∧ σ[p.1]? = some (some (.ref p.2))
  tab : ∀ P ∈ B.G.tabs, TabH H P ∧ Hv P = none
/-- a value at an expression's end: by content, or the object of an owned slot -/
def RepW (B : Bd) (σ : St) (Hv : Hp) (d : D) (v : V) : Prop :=
  match d with
  | .var i => i ∈ B.M ∧ σ[i]? = some (some v)
  | d => Rep B.G Hv d v
def look (fr : Fr) (d : D) : Option D :=
  match d with
  | .var i => match fr[i]? with
    | some (some d) => if isCell d = true then some d else none
    | _ => none
  | d => some d
def Shr (B : Bd) (fr fr' : Fr) : Prop := ∀ i d, i ∈ B.M → (fr'[i]? = some (some d) ∧ isCell d = true) → ∃ d0, fr[i]? = some (some d0) ∧ isCell d0 = true
structure Nxt (B : Bd) (fr : Fr) (σ : St) (H Hv : Hp) (fr' : Fr) (H' Hv' : Hp) : Prop where
  rel : Rel B fr' σ H' Hv'
  ext : Sub Hv Hv'
  keep : Keep B fr σ H H'
  shp : Shr B fr fr'
  alive : ∀ b o, H b = some o → ∃ o', H' b = some o'
  newv : ∀ b o, Hv' b = some o → Hv b = some o ∨ NewOk H b o ∨ Own B fr σ b
theorem own_shp {B : Bd} {fr fr' : Fr} {σ : St} {a : Addr} (h : Shr B fr fr') (o : Own B fr' σ a) : Own B fr σ a := by
  obtain ⟨i, d, hi, hf, hs⟩ := o
  obtain ⟨d', hd'⟩ := h i d hi hf
  exact ⟨i, d', hi, hd', hs⟩
theorem Shr.refl (B : Bd) (fr : Fr) : Shr B fr fr := fun i d _ h => ⟨d, h⟩
theorem Shr.trans {B : Bd} {fr fr1 fr2 : Fr} (a : Shr B fr fr1) (b : Shr B fr1 fr2) : Shr B fr fr2 := fun i d hi h => by
  obtain ⟨d1, h1⟩ := b i d hi h
  exact a i d1 hi h1
section
variable {B : Bd} {fr fr1 fr2 : Fr} {σ : St} {H H1 H2 Hv Hv1 Hv2 : Hp}
theorem Nxt.refl (R : Rel B fr σ H Hv) : Nxt B fr σ H Hv fr H Hv := ⟨R, .refl _, fun _ _ h _ _ => h, .refl _ _, fun _ o h => ⟨o, h⟩, fun _ _ h => .inl h⟩
theorem Nxt.trans (a : Nxt B fr σ H Hv fr1 H1 Hv1) (b : Nxt B fr1 σ H1 Hv1 fr2 H2 Hv2) : Nxt B fr σ H Hv fr2 H2 Hv2 :=
  ⟨b.rel, a.ext.trans b.ext, fun c o h no nt => b.keep c o (a.keep c o h no nt) (fun q => no (own_shp a.shp q)) nt, a.shp.trans b.shp, fun c o h => (a.alive c o h).elim fun o1 h1 => b.alive c o1 h1, fun c o h => by
    rcases b.newv c o h with z | z | z
    · exact a.newv c o z
    · refine .inr (.inl ?_)
      refine z.imp (fun z => ?_) id
      cases e : H c with
      | none => rfl
      | some u =>
        obtain ⟨u', h'⟩ := a.alive c u e
        rw [z] at h'; cases h'
    · exact .inr (.inr (own_shp a.shp z))⟩
theorem RepW.mono {d : D} {v : V} (s : Sub Hv Hv1) (h : RepW B σ Hv d v) : RepW B σ Hv1 d v := by
  cases d with
  | var i => exact h
  | _ => exact Rep.mono s _ _ h
theorem RepW.of {d : D} {v : V} (h : Rep B.G Hv d v) : RepW B σ Hv d v := by
  cases d with
  | var i => exact h.no_var.elim
  | _ => exact h
theorem RepW.rep {d : D} {v : V} (h : RepW B σ Hv d v) (hd : ∀ i, d ≠ .var i) : Rep B.G Hv d v := by
  cases d with
  | var i => exact absurd rfl (hd i)
  | _ => exact h
/-- the sizes of the tracked address: what stands at a tracked address stands in the heap -/
theorem Rel.own_some (R : Rel B fr σ H Hv) {a : Addr} (o : Own B fr σ a) : (∃ u, H a = some u) ∧ Hv a = none ∧ a ∉ B.G.tabs := by
  obtain ⟨i, d, hi, hf, hs⟩ := o
  obtain ⟨a', hs', hv, _, hc⟩ := R.own i d hf hi
  rw [hs] at hs'
  cases hs'
  have e : ∃ u, H a = some u ∧ ∀ ps, u ≠ .tbl ps := by
    cases d with
    | lst ds => obtain ⟨vs, e, _⟩ := hc; exact ⟨_, e, fun ps z => by cases z⟩
    | obj c ns fs => obtain ⟨dx, vs, e, _⟩ := hc; exact ⟨_, e, fun ps z => by cases z⟩
    | dct ks vs =>
      obtain ⟨us, ⟨kvs, e, _⟩ | ⟨kvs, e, _⟩, _⟩ := hc
      · exact ⟨_, e, fun ps z => by cases z⟩
      · exact ⟨_, e, fun ps z => by cases z⟩
    | _ => exact hc.elim
  obtain ⟨u, e, ne⟩ := e
  refine ⟨⟨u, e⟩, hv, fun ht => ?_⟩
  obtain ⟨⟨ps, et, _⟩, _⟩ := R.tab a ht
  rw [e] at et
  exact ne ps (Option.some.inj et)
/-- the value heap's contents stay -/
theorem Rel.hv_not_own (R : Rel B fr σ H Hv) {a : Addr} {o : HO} (h : Hv a = some o) : ¬ Own B fr σ a := fun q => by
  have := (R.own_some q).2.1
  rw [h] at this
  cases this
theorem Rel.hv_not_tab (R : Rel B fr σ H Hv) {a : Addr} {o : HO} (h : Hv a = some o) : a ∉ B.G.tabs := fun q => by
  have := (R.tab a q).2
  rw [h] at this
  cases this
theorem Cell.mono {G : SE} {a : Addr} {d : D} (s : Sub Hv Hv1) (e : H1 a = H a) (h : Cell G H Hv a d) : Cell G H1 Hv1 a d := by
  cases d with
  | lst ds => obtain ⟨vs, q, r⟩ := h; exact ⟨vs, by rw [e]; exact q, RepL.mono s _ _ r⟩
  | obj c ns fs => obtain ⟨dx, vs, q, l, r⟩ := h; exact ⟨dx, vs, by rw [e]; exact q, l, RepL.mono s _ _ r⟩
  | dct ks vs =>
    obtain ⟨us, q, r⟩ := h
    exact ⟨us, q.at fun o z => by rw [e]; exact z, RepL.mono s _ _ r⟩
  | _ => exact h.elim
/-- a new object laid, owned by nothing as yet -/
theorem Rel.lay (R : Rel B fr σ H Hv) {p : Addr} {o : HO} (hp : H p = none) : Rel B fr σ (upd H p o) Hv where
  sub := fun b u h => by
    have := R.sub b u h
    rw [upd_ne (ne_of_none this hp)]
    exact this
  ext0 := R.ext0
  new := R.new
  keep := fun b u h hi ht => by
    have := R.keep b u h hi ht
    rw [upd_ne (ne_of_none this hp)]
    exact this
  len := R.len
  val := R.val
  box := R.box
  own := fun i d hf hm => by
    obtain ⟨a, hs, hv, hn, hc⟩ := R.own i d hf hm
    obtain ⟨⟨u, hu⟩, _⟩ := R.own_some ⟨i, d, hm, hf, hs⟩
    exact ⟨a, hs, hv, hn, hc.mono (.refl _) (upd_ne (ne_of_none hu hp))⟩
  sep := R.sep
  io := R.io
  tab := fun P hP => by
    obtain ⟨⟨ps, e, t⟩, v⟩ := R.tab P hP
    exact ⟨⟨ps, by rw [upd_ne (ne_of_none e hp)]; exact e, t⟩, v⟩
theorem Rel.h0_none (R : Rel B fr σ H Hv) {p : Addr} (hp : H p = none) : B.H0 p = none := by
  cases e : B.H0 p with
  | none => rfl
  | some o =>
    by_cases hi : ∀ q ∈ B.io, q.2 ≠ p
    · by_cases ht : p ∈ B.G.tabs
      · obtain ⟨⟨ps, e', _⟩, _⟩ := R.tab p ht
        rw [hp] at e'
        cases e'
      · have := R.keep p o e hi ht
        rw [hp] at this
        cases this
    · have : ∃ q ∈ B.io, q.2 = p := by
        refine Classical.byContradiction fun n => hi fun q hq z => n ⟨q, hq, z⟩
      obtain ⟨q, hq, rfl⟩ := this
      obtain ⟨hm, ⟨d, hd⟩, hs⟩ := R.io q hq
      obtain ⟨⟨u, hu⟩, _⟩ := R.own_some ⟨q.1, d, hm, hd, hs⟩
      rw [hp] at hu
      cases hu
theorem Rel.hv_none (R : Rel B fr σ H Hv) {p : Addr} (hp : H p = none) : Hv p = none := by
  cases e : Hv p with
  | none => rfl
  | some o =>
    have := R.sub p o e
    rw [hp] at this
    cases this
/-- an object that is owned by nothing becomes a value -/
theorem Rel.freeze (R : Rel B fr σ H Hv) {p : Addr} {o : HO} (hp : H p = some o) (h0 : NewOk B.H0 p o) (ht : ∀ ps, o ≠ .tbl ps) (no : ¬ Own B fr σ p) : Rel B fr σ H (upd Hv p o) where
  sub := fun b u h => by
    by_cases e : b = p
    · subst e
      rw [upd_same] at h
      cases h
      exact hp
    · rw [upd_ne e] at h
      exact R.sub b u h
  ext0 := fun b u h => by
    by_cases e : b = p
    · subst e
      have h1 := R.sub b u (R.ext0 b u h)
      rw [hp] at h1
      cases h1
      exact upd_same
    · rw [upd_ne e]
      exact R.ext0 b u h
  new := fun b u h => by
    by_cases e : b = p
    · subst e
      rw [upd_same] at h
      cases h
      exact .inr h0
    · rw [upd_ne e] at h
      exact R.new b u h
  keep := R.keep
  len := R.len
  val := fun i d hf hm => by
    obtain ⟨v, hs, hr⟩ := R.val i d hf hm
    refine ⟨v, hs, Rep.mono (fun b u h => ?_) _ _ hr⟩
    by_cases e : b = p
    · subst e
      have h1 := R.sub b u h
      rw [hp] at h1
      cases h1
      exact upd_same
    · rw [upd_ne e]
      exact h
  box := fun i d hf hc hm => by
    obtain ⟨e, v, h1, hs, hr⟩ := R.box i d hf hc hm
    refine ⟨e, v, h1, hs, Rep.mono (fun b u h => ?_) _ _ hr⟩
    by_cases e : b = p
    · subst e
      have h1 := R.sub b u h
      rw [hp] at h1
      cases h1
      exact upd_same
    · rw [upd_ne e]
      exact h
  own := fun i d hf hm => by
    obtain ⟨a, hs, hv, hn, hc⟩ := R.own i d hf hm
    have ne : a ≠ p := fun e => no (by rw [← e]; exact ⟨i, d, hm, hf, hs⟩)
    refine ⟨a, hs, by rw [upd_ne ne]; exact hv, hn, hc.mono (fun b u h => ?_) rfl⟩
    by_cases e : b = p
    · subst e
      have h1 := R.sub b u h
      rw [hp] at h1
      cases h1
      exact upd_same
    · rw [upd_ne e]
      exact h
  sep := R.sep
  io := R.io
  tab := fun P hP => by
    obtain ⟨⟨ps, e, t⟩, v⟩ := R.tab P hP
    have ne : P ≠ p := fun q => by
      rw [q, hp] at e
      exact ht ps (Option.some.inj e)
    exact ⟨⟨ps, e, t⟩, by rw [upd_ne ne]; exact v⟩
theorem sub_freeze (R : Rel B fr σ H Hv) {p : Addr} {o : HO} (hp : H p = some o) : Sub Hv (upd Hv p o) := fun b u h => by
  by_cases e : b = p
  · subst e
    have h1 := R.sub b u h
    rw [hp] at h1
    cases h1
    exact upd_same
  · rw [upd_ne e]
    exact h
/-- a new value laid -/
theorem Rel.layV (R : Rel B fr σ H Hv) {p : Addr} {o : HO} (hp : H p = none) (ht : ∀ ps, o ≠ .tbl ps) : Rel B fr σ (upd H p o) (upd Hv p o) := by
  refine (R.lay hp).freeze upd_same (.inl (R.h0_none hp)) ht fun q => ?_
  obtain ⟨⟨u, hu⟩, _⟩ := R.own_some (a := p) (by obtain ⟨i, d, a, b, c⟩ := q; exact ⟨i, d, a, b, c⟩)
  rw [hp] at hu
  cases hu
theorem Nxt.layV (R : Rel B fr σ H Hv) {p : Addr} {o : HO} (hp : H p = none) (ht : ∀ ps, o ≠ .tbl ps) : Nxt B fr σ H Hv fr (upd H p o) (upd Hv p o) :=
  ⟨R.layV hp ht, (Sub.refl Hv).put (R.hv_none hp), fun b u h _ _ => by rw [upd_ne (ne_of_none h hp)]; exact h, .refl _ _, fun b u h => ⟨u, by rw [upd_ne (ne_of_none h hp)]; exact h⟩, fun b u h => by
    by_cases e : b = p
    · exact .inr (.inl (.inl (e ▸ hp)))
    · rw [upd_ne e] at h; exact .inl h⟩
/-- what stands behind an owned slot, or a value -/
theorem look_var {i : Nat} {d : D} (h : look fr (.var i) = some d) : fr[i]? = some (some d) ∧ isCell d = true := by
  unfold look at h
  dsimp only at h
  split at h
  · next d' e =>
    split at h
    · next c => cases h; exact ⟨e, c⟩
    · cases h
  · cases h
/-- a list that may be read now -/
theorem Rel.list_of (R : Rel B fr σ H Hv) {d : D} {v : V} {ds : List D} (h : RepW B σ Hv d v) (hl : look fr d = some (.lst ds)) : ∃ a vs, v = .ref a ∧ H a = some (.lst vs) ∧ RepL B.G Hv ds vs := by
  cases d with
  | var i =>
    obtain ⟨hm, hs⟩ := h
    obtain ⟨a, hs', hv, _, vs, e, r⟩ := R.own i _ (look_var hl) hm
    rw [hs] at hs'
    cases hs'
    exact ⟨a, vs, rfl, e, r⟩
  | lst ds' =>
    have e : D.lst ds' = .lst ds := Option.some.inj hl
    cases e
    obtain ⟨a, vs, e, q, r⟩ := Rep.lst_inv h
    exact ⟨a, vs, e, R.sub _ _ q, r⟩
  | _ => cases hl
theorem Rel.tup_of (R : Rel B fr σ H Hv) {d : D} {v : V} {ds : List D} (h : RepW B σ Hv d v) (hl : look fr d = some (.tup ds)) : ∃ a vs, v = .ref a ∧ SqT B.G.K H a vs ∧ Hv a = some (.tup vs) ∧ RepL B.G Hv ds vs := by
  cases d with
  | var i =>
    obtain ⟨hm, hs⟩ := h
    obtain ⟨a, hs', hv, _, hc⟩ := R.own i _ (look_var hl) hm
    exact hc.elim
  | tup ds' =>
    have e : D.tup ds' = .tup ds := Option.some.inj hl
    cases e
    obtain ⟨a, vs, e, q, r⟩ := Rep.tup_at h
    exact ⟨a, vs, e, .inl (.inl (R.sub _ _ q)), q, r⟩
  | _ => cases hl
theorem look_scalar {d e : D} (R : Rel B fr σ H Hv) {v : V} (h : RepW B σ Hv d v) (hl : look fr d = some e) (hs : isCell e = false) : Rep B.G Hv e v := by
  cases d with
  | var i =>
    obtain ⟨hm, _⟩ := h
    obtain ⟨a, _, _, _, hc⟩ := R.own i _ (look_var hl) hm
    cases e <;> first
      | exact hc.elim
      | cases hs
  | _ =>
    cases hl
    exact h
theorem Rel.int_of (R : Rel B fr σ H Hv) {d : D} {v : V} {i : Int} (h : RepW B σ Hv d v) (hl : look fr d = some (.int i)) : v = .int i := Rep.int_iff.mp (look_scalar R h hl rfl)
theorem Rel.bl_of (R : Rel B fr σ H Hv) {d : D} {v : V} {i : Bool} (h : RepW B σ Hv d v) (hl : look fr d = some (.bl i)) : v = .bl i := Rep.bl_iff.mp (look_scalar R h hl rfl)
theorem Rel.str_of (R : Rel B fr σ H Hv) {d : D} {v : V} {i : Str} (h : RepW B σ Hv d v) (hl : look fr d = some (.str i)) : v = .str i := Rep.str_iff.mp (look_scalar R h hl rfl)
theorem Rel.non_of (R : Rel B fr σ H Hv) {d : D} {v : V} (h : RepW B σ Hv d v) (hl : look fr d = some .non) : v = .non := Rep.non_iff.mp (look_scalar R h hl rfl)
end
/-! ### readings -/
/-- an exception's dict at dd bears the fields fs of the class c -/
def ExcAt (G : SE) (H Hv : Hp) (c : Nat) (fs : List D) (dd : Addr) : Prop :=
  ∃ l, H dd = some (.xd l) ∧ fs.length = (G.efld c).length ∧ ∀ (k : Nat) (n : Str) (d : D), (G.efld c)[k]? = some n → fs[k]? = some d → ∃ v, l.lookup n = some v ∧ Rep G Hv d v
def PostE (B : Bd) (W : WX) (fr : Fr) (σ : St) (H Hv : Hp) (r : Res Fr D) (Q : VK) : Prop :=
  match r with
  | .ok d fr' => ∀ v H' Hv', Nxt B fr σ H Hv fr' H' Hv' → RepW B σ Hv' d v → Q v H'
  | .exc c fs fr' => ∀ dd H' Hv', Nxt B fr σ H Hv fr' H' Hv' → ExcAt B.G H' Hv' c fs dd → W (.ref (B.G.ecls c)) (some dd) σ H'
  | .bad => False
def dTE (B : Bd) (W : WX) (f : Ev) : TE := fun σ H Q => ∃ fr Hv, Rel B fr σ H Hv ∧ PostE B W fr σ H Hv (f fr) Q
/-- the end is a new list, owned by nothing as yet -/
def PostF (B : Bd) (W : WX) (fr : Fr) (σ : St) (H Hv : Hp) (r : Res Fr D) (Q : VK) : Prop :=
  match r with
  | .ok d fr' => ∀ p H' Hv', Nxt B fr σ H Hv fr' H' Hv' → H p = none → Hv' p = none → Cell B.G H' Hv' p d → Q (.ref p) H'
  | .exc c fs fr' => ∀ dd H' Hv', Nxt B fr σ H Hv fr' H' Hv' → ExcAt B.G H' Hv' c fs dd → W (.ref (B.G.ecls c)) (some dd) σ H'
  | .bad => False
def dTF (B : Bd) (W : WX) (f : Ev) : TE := fun σ H Q => ∃ fr Hv, Rel B fr σ H Hv ∧ PostF B W fr σ H Hv (f fr) Q
def RepWs (B : Bd) (σ : St) (Hv : Hp) : List D → List V → Prop
  | [], vs => vs = []
  | d :: ds, vs => ∃ v r, vs = v :: r ∧ RepW B σ Hv d v ∧ RepWs B σ Hv ds r
def PostA (B : Bd) (W : WX) (fr : Fr) (σ : St) (H Hv : Hp) (r : Res Fr (List D)) (Q : List V → Hp → Prop) : Prop :=
  match r with
  | .ok ds fr' => ∀ vs H' Hv', Nxt B fr σ H Hv fr' H' Hv' → RepWs B σ Hv' ds vs → Q vs H'
  | .exc c fs fr' => ∀ dd H' Hv', Nxt B fr σ H Hv fr' H' Hv' → ExcAt B.G H' Hv' c fs dd → W (.ref (B.G.ecls c)) (some dd) σ H'
  | .bad => False
def dTA (B : Bd) (W : WX) (f : Av) : TA := fun σ H Q => ∃ fr Hv, Rel B fr σ H Hv ∧ PostA B W fr σ H Hv (f fr) Q
def PostB (B : Bd) (W : WX) (fr : Fr) (σ : St) (H Hv : Hp) (r : Res Fr Bool) (Q : Bool → Hp → Prop) : Prop :=
  match r with
  | .ok b fr' => ∀ H' Hv', Nxt B fr σ H Hv fr' H' Hv' → Q b H'
  | .exc c fs fr' => ∀ dd H' Hv', Nxt B fr σ H Hv fr' H' Hv' → ExcAt B.G H' Hv' c fs dd → W (.ref (B.G.ecls c)) (some dd) σ H'
  | .bad => False
def dTT (B : Bd) (W : WX) (f : Bv) : TT := fun σ H Q => ∃ fr Hv, Rel B fr σ H Hv ∧ PostB B W fr σ H Hv (f fr) Q
/-! ### judgements -/
def DE (X : Cx) (B : Bd) (W : WX) (e : Expr) (f : Ev) : Prop := PE X e (dTE B W f)
def DF (X : Cx) (B : Bd) (W : WX) (e : Expr) (f : Ev) : Prop := PE X e (dTF B W f)
def DA (X : Cx) (B : Bd) (W : WX) (es : List Expr) (f : Av) : Prop := PA X es (dTA B W f)
def DT (X : Cx) (B : Bd) (W : WX) (e : Expr) (f : Bv) : Prop := PT X e (dTT B W f)
def DW (X : Cx) (B : Bd) (W : WX) (e : Expr) (f : Bv) : Prop := PW X e (dTT B W f)
theorem pe_imp {X : Cx} {e : Expr} {t t' : TE} (h : PE X e t) (i : ∀ σ H Q, t' σ H Q → t σ H Q) : PE X e t' := ⟨fun pins s σ H Q I hw => h.run pins s σ H Q I (i σ H Q hw)⟩
theorem pt_imp {X : Cx} {e : Expr} {t t' : TT} (h : PT X e t) (i : ∀ σ H Q, t' σ H Q → t σ H Q) : PT X e t' := ⟨fun pins s σ H Q I hw => h.run pins s σ H Q I (i σ H Q hw)⟩
theorem pw_imp {X : Cx} {e : Expr} {t t' : TT} (h : PW X e t) (i : ∀ σ H Q, t' σ H Q → t σ H Q) : PW X e t' := ⟨fun wh pins s σ H Q I hw => h.run wh pins s σ H Q I (i σ H Q hw)⟩
theorem pa_imp {X : Cx} {es : List Expr} {t t' : TA} (h : PA X es t) (i : ∀ σ H Q, t' σ H Q → t σ H Q) : PA X es t' := ⟨fun pos pins s σ H Q I hw => h.run pos pins s σ H Q I (i σ H Q hw)⟩
theorem ps_imp {X : Cx} {st : Stmt} {t t' : TS} (h : PS X st t) (i : ∀ D σ H, t' D σ H → t D σ H) : PS X st t' := ⟨fun pins s σ H D I hw => h.run pins s σ H D I (i D σ H hw)⟩
theorem pss_imp {X : Cx} {st : List Stmt} {t t' : TS} (h : PSs X st t) (i : ∀ D σ H, t' D σ H → t D σ H) : PSs X st t' := ⟨fun pins s σ H D I hw => h.run pins s σ H D I (i D σ H hw)⟩
section
variable {B : Bd} {W : WX} {fr fr1 : Fr} {σ : St} {H H1 Hv Hv1 : Hp}
/-- a first step, then the rest -/
theorem PostE.step {r : Res Fr D} {Q : VK} (n : Nxt B fr σ H Hv fr1 H1 Hv1) (h : PostE B W fr σ H Hv r Q) : PostE B W fr1 σ H1 Hv1 r Q := by
  cases r with
  | ok d fr' => exact fun v H' Hv' m => h v H' Hv' (n.trans m)
  | exc c fs fr' => exact fun dd H' Hv' m => h dd H' Hv' (n.trans m)
  | bad => exact h
theorem PostB.step {r : Res Fr Bool} {Q : Bool → Hp → Prop} (n : Nxt B fr σ H Hv fr1 H1 Hv1) (h : PostB B W fr σ H Hv r Q) : PostB B W fr1 σ H1 Hv1 r Q := by
  cases r with
  | ok d fr' => exact fun H' Hv' m => h H' Hv' (n.trans m)
  | exc c fs fr' => exact fun dd H' Hv' m => h dd H' Hv' (n.trans m)
  | bad => exact h
theorem PostA.step {r : Res Fr (List D)} {Q : List V → Hp → Prop} (n : Nxt B fr σ H Hv fr1 H1 Hv1) (h : PostA B W fr σ H Hv r Q) : PostA B W fr1 σ H1 Hv1 r Q := by
  cases r with
  | ok d fr' => exact fun v H' Hv' m => h v H' Hv' (n.trans m)
  | exc c fs fr' => exact fun dd H' Hv' m => h dd H' Hv' (n.trans m)
  | bad => exact h
/-- what is new behind a step was new ahead of it -/
theorem Nxt.none (n : Nxt B fr σ H Hv fr1 H1 Hv1) (R : Rel B fr σ H Hv) {p : Addr} (hp : H1 p = none) : H p = none := by
  cases e : H p with
  | none => rfl
  | some o =>
    obtain ⟨o', h'⟩ := n.alive p o e
    rw [hp] at h'
    cases h'
theorem PostF.step {r : Res Fr D} {Q : VK} (n : Nxt B fr σ H Hv fr1 H1 Hv1) (R : Rel B fr σ H Hv) (h : PostF B W fr σ H Hv r Q) : PostF B W fr1 σ H1 Hv1 r Q := by
  cases r with
  | ok d fr' => exact fun p H' Hv' m hp => h p H' Hv' (n.trans m) (n.none R hp)
  | exc c fs fr' => exact fun dd H' Hv' m => h dd H' Hv' (n.trans m)
  | bad => exact h
end
end KS
namespace KS
open PySem PySem.Spec L2
/-! ### names and constants -/
def eVar (i : Nat) : Ev := fun fr => match fr[i]? with
  | some (some d) => .ok d fr
  | _ => .bad
def ePl (i : Nat) : Ev := fun fr => match fr[i]? with
  | some (some d) => if isCell d = true then .ok (.var i) fr else (match d with
    | .tup [e] => .ok e fr
    | _ => .bad)
  | _ => .bad
/-- the object of the slot is a value from now on -/
def eFz (i : Nat) : Ev := fun fr => match fr[i]? with
  | some (some d) => if isCell d = true then .ok d (fr.set i (some (.tup [d]))) else (match d with
    | .tup [e] => .ok e fr
    | _ => .bad)
  | _ => .bad
section
variable {B : Bd} {fr : Fr} {σ : L2.St} {H Hv : Hp}
theorem get_set {fr : Fr} {i j : Nat} {o : Option D} {x : Option D} (h : (fr.set i o)[j]? = some x) : (j = i ∧ x = o) ∨ (j ≠ i ∧ fr[j]? = some x) := by
  by_cases e : j = i
  · subst e
    rw [List.getElem?_set] at h
    simp only [if_true] at h
    split at h
    · cases h; exact .inl ⟨rfl, rfl⟩
    · cases h
  · rw [List.getElem?_set_ne (Ne.symm e)] at h
    exact .inr ⟨e, h⟩
/-- a slot is let go -/
theorem Rel.drop (R : Rel B fr σ H Hv) {i : Nat} (hio : ∀ p ∈ B.io, p.1 ≠ i) : Rel B (fr.set i none) σ H Hv where
  sub := R.sub
  ext0 := R.ext0
  new := R.new
  keep := R.keep
  len := by rw [List.length_set]; exact R.len
  val := fun j d h hm => by
    rcases get_set h with ⟨_, e⟩ | ⟨_, e⟩
    · cases e
    · exact R.val j d e hm
  box := fun j d h hc hm => by
    rcases get_set h with ⟨_, e⟩ | ⟨_, e⟩
    · cases e
    · exact R.box j d e hc hm
  own := fun j d h hm => by
    rcases get_set h.1 with ⟨_, e⟩ | ⟨_, e⟩
    · cases e
    · exact R.own j d ⟨e, h.2⟩ hm
  sep := fun j k a dj dk hj hk hjk e1 e2 => by
    rcases get_set e1.1 with ⟨_, e⟩ | ⟨_, e⟩
    · cases e
    rcases get_set e2.1 with ⟨_, f⟩ | ⟨_, f⟩
    · cases f
    exact R.sep j k a dj dk hj hk hjk ⟨e, e1.2⟩ ⟨f, e2.2⟩
  io := fun p hp => by
    obtain ⟨h1, ⟨d, h2, h3⟩, h4⟩ := R.io p hp
    exact ⟨h1, ⟨d, by rw [List.getElem?_set_ne (Ne.symm (hio p hp))]; exact h2, h3⟩, h4⟩
  tab := R.tab
theorem Rel.boxed (R : Rel B (fr.set i none) σ H Hv) {d : D} {v : V} (hi : i ∈ B.M) (hs : σ[i]? = some (some v)) (hr : Rep B.G Hv d v) : Rel B (fr.set i (some (.tup [d]))) σ H Hv where
  sub := R.sub
  ext0 := R.ext0
  new := R.new
  keep := R.keep
  len := by rw [List.length_set, ← R.len, List.length_set]
  val := fun j e h hm => by
    rcases get_set h with ⟨z, _⟩ | ⟨n, z⟩
    · subst z; exact absurd hi hm
    · exact R.val j e (by rw [List.getElem?_set_ne (Ne.symm n)]; exact z) hm
  box := fun j e h hc hm => by
    rcases get_set h with ⟨z, q⟩ | ⟨n, z⟩
    · subst z
      cases q
      exact ⟨d, v, rfl, hs, hr⟩
    · exact R.box j e (by rw [List.getElem?_set_ne (Ne.symm n)]; exact z) hc hm
  own := fun j e h hm => by
    rcases get_set h.1 with ⟨z, q⟩ | ⟨n, z⟩
    · cases q; cases h.2
    · exact R.own j e ⟨by rw [List.getElem?_set_ne (Ne.symm n)]; exact z, h.2⟩ hm
  sep := fun j k a dj dk hj hk hjk e1 e2 => by
    rcases get_set e1.1 with ⟨_, e⟩ | ⟨n1, e⟩
    · cases e; cases e1.2
    rcases get_set e2.1 with ⟨_, f⟩ | ⟨n2, f⟩
    · cases f; cases e2.2
    exact R.sep j k a dj dk hj hk hjk ⟨by rw [List.getElem?_set_ne (Ne.symm n1)]; exact e, e1.2⟩ ⟨by rw [List.getElem?_set_ne (Ne.symm n2)]; exact f, e2.2⟩
  io := fun p hp => by
    obtain ⟨h1, ⟨e, h2, h3⟩, h4⟩ := R.io p hp
    have n : p.1 ≠ i := fun z => by
      rcases get_set h2 with ⟨_, e⟩ | ⟨n, _⟩
      · cases e
      · exact n z
    rcases get_set h2 with ⟨_, e⟩ | ⟨_, e⟩
    · cases e
    exact ⟨h1, ⟨_, by rw [List.getElem?_set_ne (Ne.symm n)]; exact e, h3⟩, h4⟩
  tab := R.tab
theorem Cell.ob {G : SE} {a : Addr} {d : D} (h : Cell G H Hv a d) : ∃ o, H a = some o ∧ (∀ ps, o ≠ .tbl ps) ∧ (∀ H2 : Hp, H2 a = some o → Cell G H2 Hv a d) ∧ (∀ Hv2 : Hp, Sub Hv Hv2 → Hv2 a = some o → Rep G Hv2 d (.ref a)) := by
  cases d with
  | lst ds =>
    obtain ⟨vs, e, r⟩ := h
    exact ⟨_, e, (fun ps z => by cases z), fun H2 q => ⟨vs, q, r⟩, fun Hv2 s q => Rep.lst q (RepL.mono s _ _ r)⟩
  | obj c ns fs =>
    obtain ⟨dx, vs, e, l, r⟩ := h
    exact ⟨_, e, (fun ps z => by cases z), fun H2 q => ⟨dx, vs, q, l, r⟩, fun Hv2 s q => Rep.obj q l (RepL.mono s _ _ r)⟩
  | dct ks ds =>
    obtain ⟨us, q, r⟩ := h
    rcases q with ⟨kvs, e, q⟩ | ⟨kvs, e, q⟩
    · exact ⟨_, e, (fun ps z => by cases z), fun H2 z => ⟨us, .inl ⟨kvs, z, q⟩, r⟩, fun Hv2 s z => Rep.dct (.inl ⟨kvs, z, q⟩) (RepL.mono s _ _ r)⟩
    · exact ⟨_, e, (fun ps z => by cases z), fun H2 z => ⟨us, .inr ⟨kvs, z, q⟩, r⟩, fun Hv2 s z => Rep.dct (.inr ⟨kvs, z, q⟩) (RepL.mono s _ _ r)⟩
  | _ => exact h.elim
theorem Cell.not_tup {G : SE} {a : Addr} {d : D} {ws : List V} (h : Cell G H Hv a d) (e : H a = some (.tup ws)) : False := by
  cases d with
  | lst ds => obtain ⟨vs, q, _⟩ := h; rw [e] at q; cases q
  | obj c ns fs => obtain ⟨dx, vs, q, _⟩ := h; rw [e] at q; cases q
  | dct ks ds =>
    obtain ⟨us, ⟨kvs, q, _⟩ | ⟨kvs, q, _⟩, _⟩ := h
    · rw [e] at q; cases q
    · rw [e] at q; cases q
  | _ => exact h.elim
theorem Rel.own_h0 (R : Rel B fr σ H Hv) {i : Nat} {a : Addr} {d : D} (hi : i ∈ B.M) (e : fr[i]? = some (some d) ∧ isCell d = true) (hs : σ[i]? = some (some (.ref a))) (hio : ∀ p ∈ B.io, p.1 ≠ i) : B.H0 a = none := by
  obtain ⟨a', hs', hva, hn, hc⟩ := R.own i d e hi
  rw [hs] at hs'
  cases hs'
  rcases hn with ⟨p, hp, z⟩ | hn
  · obtain ⟨h1, ⟨d', hd'⟩, h3⟩ := R.io p hp
    rw [z] at h3
    exact absurd hs (R.sep p.1 i a d' d h1 hi (hio p hp) hd' e h3)
  · exact hn
theorem Rel.fz (R : Rel B fr σ H Hv) {i : Nat} {d : D} (hi : i ∈ B.M) (e : fr[i]? = some (some d) ∧ isCell d = true) (hio : ∀ p ∈ B.io, p.1 ≠ i) :
    ∃ a Hv', σ[i]? = some (some (.ref a)) ∧ Nxt B fr σ H Hv (fr.set i (some (.tup [d]))) H Hv' ∧ Rep B.G Hv' d (.ref a) := by
  obtain ⟨a, hs, hva, _, hc⟩ := R.own i d e hi
  obtain ⟨o, ho, nt, _, rep⟩ := hc.ob
  have h0 := R.own_h0 hi e hs hio
  have no : ¬ Own B (fr.set i none) σ a := by
    rintro ⟨j, dj, hj, ⟨ej, cj⟩, sj⟩
    rcases get_set ej with ⟨_, z⟩ | ⟨n, z⟩
    · cases z
    · exact R.sep j i a dj d hj hi n ⟨z, cj⟩ e sj hs
  have s := sub_freeze R ho
  have R1 := (R.drop hio).freeze ho (.inl h0) nt no
  have rr := rep (upd Hv a o) s upd_same
  refine ⟨a, upd Hv a o, hs, ⟨R1.boxed hi hs rr, s, fun b u h _ _ => h, fun j dj hj ej => ?_, fun b u h => ⟨u, h⟩, fun b u h => ?_⟩, rr⟩
  · rcases get_set ej.1 with ⟨_, z⟩ | ⟨_, z⟩
    · cases z; cases ej.2
    · exact ⟨dj, z, ej.2⟩
  · by_cases eb : b = a
    · exact .inr (.inr ⟨i, d, hi, e, eb ▸ hs⟩)
    · rw [upd_ne eb] at h; exact .inl h
end
def eC (d : D) : Ev := fun fr => .ok d fr
section
variable {X : Cx} {B : Bd} {W : WX}
theorem d_var {i : Nat} {x : Str} {pos : Pos} (hi : i ∉ B.M) (hN : X.N[i]? = some x := by rfl) (hv : Vis X.env.scope x := by first | exact Or.inl rfl | exact Or.inr (Or.inl rfl) | exact Or.inr (Or.inr rfl)) (hd : (x == ("__debug__" : Str)) = false := by decide)
    (hcd : (x == ("__classdict__" : Str)) = false := by decide) : DE X B W (.Name x pos) (eVar i) := by
  refine pe_imp (pe_var hN hv hd hcd) fun σ H Q h => ?_
  obtain ⟨fr, Hv, R, h⟩ := h
  unfold eVar at h
  split at h
  · next d e =>
    obtain ⟨v, hs, hr⟩ := R.val i d e hi
    exact ⟨v, hs, h v H Hv (.refl R) (.of hr)⟩
  · exact h.elim
theorem d_pl {i : Nat} {x : Str} {pos : Pos} (hi : i ∈ B.M) (hN : X.N[i]? = some x := by rfl) (hv : Vis X.env.scope x := by first | exact Or.inl rfl | exact Or.inr (Or.inl rfl) | exact Or.inr (Or.inr rfl)) (hd : (x == ("__debug__" : Str)) = false := by decide)
    (hcd : (x == ("__classdict__" : Str)) = false := by decide) : DE X B W (.Name x pos) (ePl i) := by
  refine pe_imp (pe_var hN hv hd hcd) fun σ H Q h => ?_
  obtain ⟨fr, Hv, R, h⟩ := h
  unfold ePl at h
  split at h
  · next d e =>
    split at h
    · next c =>
      obtain ⟨a, hs, _⟩ := R.own i d ⟨e, c⟩ hi
      exact ⟨_, hs, h _ H Hv (.refl R) ⟨hi, hs⟩⟩
    · next c =>
      obtain ⟨e', v, rfl, hs, hr⟩ := R.box i d e (by simpa using c) hi
      exact ⟨v, hs, h v H Hv (.refl R) (.of hr)⟩
  · exact h.elim
theorem d_fz {i : Nat} {x : Str} {pos : Pos} (hi : i ∈ B.M) (hio : ∀ p ∈ B.io, p.1 ≠ i) (hN : X.N[i]? = some x := by rfl) (hv : Vis X.env.scope x := by first | exact Or.inl rfl | exact Or.inr (Or.inl rfl) | exact Or.inr (Or.inr rfl)) (hd : (x == ("__debug__" : Str)) = false := by decide)
    (hcd : (x == ("__classdict__" : Str)) = false := by decide) : DE X B W (.Name x pos) (eFz i) := by
  refine pe_imp (pe_var hN hv hd hcd) fun σ H Q h => ?_
  obtain ⟨fr, Hv, R, h⟩ := h
  unfold eFz at h
  split at h
  · next d e =>
    split at h
    · next c =>
      obtain ⟨a, Hv', hs, n, r⟩ := R.fz hi ⟨e, c⟩ hio
      exact ⟨_, hs, h _ H Hv' n (.of r)⟩
    · next c =>
      obtain ⟨e', v, rfl, hs, hr⟩ := R.box i d e (by simpa using c) hi
      exact ⟨v, hs, h v H Hv (.refl R) (.of hr)⟩
  · exact h.elim
theorem de_const {e : Expr} {v : V} {d : D} (hp : PE X e (tC v)) (hr : Rep B.G (fun _ => none) d v) : DE X B W e (eC d) := by
  refine pe_imp hp fun σ H Q h => ?_
  obtain ⟨fr, Hv, R, h⟩ := h
  exact h v H Hv (.refl R) (.of (Rep.mono (fun _ _ z => by cases z) _ _ hr))
theorem d_int {i j pos} : DE X B W (.Constant (.int i) j pos) (eC (.int i)) := de_const pe_int (Rep.int_iff.mpr rfl)
theorem d_bl {b j pos} : DE X B W (.Constant (.bool b) j pos) (eC (.bl b)) := de_const pe_bl (Rep.bl_iff.mpr rfl)
theorem d_non {j pos} : DE X B W (.Constant .none j pos) (eC .non) := de_const pe_non (Rep.non_iff.mpr rfl)
theorem d_str {x j pos} : DE X B W (.Constant (.str x) j pos) (eC (.str x)) := de_const pe_str (Rep.str_iff.mpr rfl)
/-- a module's constant -/
theorem d_glob {x : Str} {v : V} {u : Value} {d : D} {pos : Pos} (hr : Rep B.G (fun _ => none) d v) (hm : X.mg x = some u) (r : RelV v u) (hg : Gl X x := by rfl) (hd : (x == ("__debug__" : Str)) = false := by decide) : DE X B W (.Name x pos) (eC d) :=
  de_const (pe_glob hg hm r hd) hr
end
/-! ### operators -/
def ofO (o : Option D) (fr : Fr) : Res Fr D := match o with
  | some d => .ok d fr
  | none => .bad
def eOp2 (F : D → D → Option D) (f g : Ev) : Ev := fun fr => (f fr).bind fun x fr1 => (g fr1).bind fun y fr2 => match look fr2 x, look fr2 y with
  | some a, some b => ofO (F a b) fr2
  | _, _ => .bad
def eOp1 (F : D → Option D) (f : Ev) : Ev := fun fr => (f fr).bind fun x fr1 => match look fr1 x with
  | some a => ofO (F a) fr1
  | _ => .bad
/-- what an operation on two values gives: a value that stays -/
def OpS (B : Bd) (r : R2) (F : D → D → Option D) : Prop := ∀ fr σ H Hv x y dx dy a b z (Q : VK), Rel B fr σ H Hv → RepW B σ Hv dx x → RepW B σ Hv dy y → look fr dx = some a → look fr dy = some b → F a b = some z →
  (∀ v H' Hv', Nxt B fr σ H Hv fr H' Hv' → Rep B.G Hv' z v → Q v H') → r x y H Q
def OpF (B : Bd) (r : R2) (F : D → D → Option D) : Prop := ∀ fr σ H Hv x y dx dy a b z (Q : VK), Rel B fr σ H Hv → RepW B σ Hv dx x → RepW B σ Hv dy y → look fr dx = some a → look fr dy = some b → F a b = some z →
  (∀ p H' Hv', Nxt B fr σ H Hv fr H' Hv' → H p = none → Hv' p = none → Cell B.G H' Hv' p z → Q (.ref p) H') → r x y H Q
def UnS (B : Bd) (r : V → Hp → VK → Prop) (F : D → Option D) : Prop := ∀ fr σ H Hv x dx a z (Q : VK), Rel B fr σ H Hv → RepW B σ Hv dx x → look fr dx = some a → F a = some z →
  (∀ v H' Hv', Nxt B fr σ H Hv fr H' Hv' → Rep B.G Hv' z v → Q v H') → r x H Q
section
variable {X : Cx} {B : Bd} {W : WX} {f g : Ev} {σ : L2.St} {H : Hp} {Q : VK} {F : D → D → Option D} {r : R2}
theorem ofO_ok {o : Option D} {fr fr' : Fr} {d : D} (h : ofO o fr = .ok d fr') : o = some d ∧ fr' = fr := by
  unfold ofO at h
  split at h
  · cases h; exact ⟨rfl, rfl⟩
  · cases h
theorem ent2 (hr : OpS B r F) (h : dTE B W (eOp2 F f g) σ H Q) : tOp r (dTE B W f) (dTE B W g) σ H Q := by
  obtain ⟨fr, Hv, R, h⟩ := h
  refine ⟨fr, Hv, R, ?_⟩
  unfold eOp2 at h
  cases hf : f fr with
  | bad => rw [hf] at h; exact h.elim
  | exc c fs fr1 => rw [hf] at h; exact h
  | ok x fr1 =>
    rw [hf] at h
    dsimp only [Res.bind] at h
    intro vx H1 Hv1 n1 r1
    refine ⟨fr1, Hv1, n1.rel, ?_⟩
    cases hg : g fr1 with
    | bad => rw [hg] at h; exact h.elim
    | exc c fs fr2 =>
      rw [hg] at h
      exact fun dd H' Hv' n => h dd H' Hv' (n1.trans n)
    | ok y fr2 =>
      rw [hg] at h
      dsimp only at h
      intro vy H2 Hv2 n2 r2
      cases hx : look fr2 x with
      | none => rw [hx] at h; exact h.elim
      | some a =>
        cases hy : look fr2 y with
        | none => rw [hx, hy] at h; exact h.elim
        | some b =>
          rw [hx, hy] at h
          dsimp only at h
          cases hz : F a b with
          | none => rw [hz] at h; exact h.elim
          | some z =>
            rw [hz] at h
            exact hr fr2 σ H2 Hv2 vx vy x y a b z Q n2.rel (r1.mono n2.ext) r2 hx hy hz fun v H' Hv' n q => h v H' Hv' ((n1.trans n2).trans n) (.of q)
theorem ent2F (hr : OpF B r F) (h : dTF B W (eOp2 F f g) σ H Q) : tOp r (dTE B W f) (dTE B W g) σ H Q := by
  obtain ⟨fr, Hv, R, h⟩ := h
  refine ⟨fr, Hv, R, ?_⟩
  unfold eOp2 at h
  cases hf : f fr with
  | bad => rw [hf] at h; exact h.elim
  | exc c fs fr1 => rw [hf] at h; exact h
  | ok x fr1 =>
    rw [hf] at h
    dsimp only [Res.bind] at h
    intro vx H1 Hv1 n1 r1
    refine ⟨fr1, Hv1, n1.rel, ?_⟩
    cases hg : g fr1 with
    | bad => rw [hg] at h; exact h.elim
    | exc c fs fr2 =>
      rw [hg] at h
      exact fun dd H' Hv' n => h dd H' Hv' (n1.trans n)
    | ok y fr2 =>
      rw [hg] at h
      dsimp only at h
      intro vy H2 Hv2 n2 r2
      cases hx : look fr2 x with
      | none => rw [hx] at h; exact h.elim
      | some a =>
        cases hy : look fr2 y with
        | none => rw [hx, hy] at h; exact h.elim
        | some b =>
          rw [hx, hy] at h
          dsimp only at h
          cases hz : F a b with
          | none => rw [hz] at h; exact h.elim
          | some z =>
            rw [hz] at h
            exact hr fr2 σ H2 Hv2 vx vy x y a b z Q n2.rel (r1.mono n2.ext) r2 hx hy hz fun p H' Hv' n hp q => h p H' Hv' ((n1.trans n2).trans n) ((n1.trans n2).none R hp) q
theorem ent1 {r : V → Hp → VK → Prop} {F : D → Option D} (hr : UnS B r F) (h : dTE B W (eOp1 F f) σ H Q) : tUn r (dTE B W f) σ H Q := by
  obtain ⟨fr, Hv, R, h⟩ := h
  refine ⟨fr, Hv, R, ?_⟩
  unfold eOp1 at h
  cases hf : f fr with
  | bad => rw [hf] at h; exact h.elim
  | exc c fs fr1 => rw [hf] at h; exact h
  | ok x fr1 =>
    rw [hf] at h
    dsimp only [Res.bind] at h
    intro vx H1 Hv1 n1 r1
    cases hx : look fr1 x with
    | none => rw [hx] at h; exact h.elim
    | some a =>
      rw [hx] at h
      dsimp only at h
      cases hz : F a with
      | none => rw [hz] at h; exact h.elim
      | some z =>
        rw [hz] at h
        exact hr fr1 σ H1 Hv1 vx x a z Q n1.rel r1 hx hz fun v H' Hv' n q => h v H' Hv' (n1.trans n) (.of q)
/-- a new list as a value -/
theorem df_de {f : Ev} {σ : L2.St} {H : Hp} {Q : VK} (h : dTE B W f σ H Q) : dTF B W f σ H Q := by
  obtain ⟨fr, Hv, R, h⟩ := h
  refine ⟨fr, Hv, R, ?_⟩
  cases hf : f fr with
  | bad => rw [hf] at h; exact h.elim
  | exc c fs fr1 => rw [hf] at h; exact h
  | ok d fr1 =>
    rw [hf] at h
    intro p H' Hv' n hp hvp hc
    have no : ¬ Own B fr1 σ p := fun o => by
      have o' : Own B fr σ p := own_shp n.shp o
      obtain ⟨⟨u, hu⟩, _⟩ := R.own_some o'
      rw [hp] at hu
      cases hu
    have h0 := R.h0_none hp
    have nv : ∀ {o : HO} (b : Addr) (u : HO), upd Hv' p o b = some u → Hv b = some u ∨ NewOk H b u ∨ Own B fr σ b := fun {o} b u h => by
      by_cases e : b = p
      · exact .inr (.inl (.inl (e ▸ hp)))
      · rw [upd_ne e] at h; exact n.newv b u h
    cases d with
    | lst ds =>
      obtain ⟨vs, e1, r⟩ := hc
      have nt : ∀ ps, HO.lst vs ≠ .tbl ps := fun ps z => by cases z
      have s := sub_freeze n.rel e1
      exact h (.ref p) H' (upd Hv' p (.lst vs)) ⟨n.rel.freeze e1 (.inl h0) nt no, n.ext.trans s, n.keep, n.shp, n.alive, nv⟩ (.of (Rep.lst upd_same (RepL.mono s _ _ r)))
    | obj c ns fs =>
      obtain ⟨dx, vs, e1, l, r⟩ := hc
      have nt : ∀ ps, HO.ins (B.G.cls c) dx ((ns.map B.G.fld).zip vs) ≠ .tbl ps := fun ps z => by cases z
      have s := sub_freeze n.rel e1
      exact h (.ref p) H' (upd Hv' p (.ins (B.G.cls c) dx ((ns.map B.G.fld).zip vs))) ⟨n.rel.freeze e1 (.inl h0) nt no, n.ext.trans s, n.keep, n.shp, n.alive, nv⟩ (.of (Rep.obj upd_same l (RepL.mono s _ _ r)))
    | dct ks ds =>
      obtain ⟨us, q, r⟩ := hc
      obtain ⟨o, e1, nt⟩ : ∃ o, H' p = some o ∧ ∀ ps, o ≠ .tbl ps := by
        rcases q with ⟨kvs, e, _⟩ | ⟨kvs, e, _⟩
        · exact ⟨_, e, fun ps z => by cases z⟩
        · exact ⟨_, e, fun ps z => by cases z⟩
      have s := sub_freeze n.rel e1
      exact h (.ref p) H' (upd Hv' p o) ⟨n.rel.freeze e1 (.inl h0) nt no, n.ext.trans s, n.keep, n.shp, n.alive, nv⟩ (.of (Rep.dct (q.at fun u z => by rw [e1] at z; cases z; exact upd_same) (RepL.mono s _ _ r)))
    | _ => exact hc.elim
theorem DF.de {e : Expr} {f : Ev} (h : DF X B W e f) : DE X B W e f := pe_imp h fun _ _ _ h => df_de h
end
end KS
namespace KS
open PySem PySem.Spec L2
/-! ### arithmetic -/
def addF : D → D → Option D
  | .int i, .int j => some (.int (i + j))
  | .str x, .str y => if x.length + y.length ≤ sizeLine then some (.str (x ++ y)) else none
  | .tup a, .tup b => if a.length + b.length ≤ sizeLine then some (.tup (a ++ b)) else none
  | .lst a, .lst b => if a.length + b.length ≤ sizeLine then some (.lst (a ++ b)) else none
  | _, _ => none
def catF : D → D → Option D
  | .lst a, .lst b => if a.length + b.length ≤ sizeLine then some (.lst (a ++ b)) else none
  | _, _ => none
def subF : D → D → Option D
  | .int i, .int j => some (.int (i - j))
  | _, _ => none
def mulF : D → D → Option D
  | .int i, .int j => if (-(2 ^ 64) < i ∧ i < 2 ^ 64) ∨ (-(2 ^ 64) < j ∧ j < 2 ^ 64) then some (.int (i * j)) else none
  | _, _ => none
def fdivF : D → D → Option D
  | .int i, .int j => if 0 < j ∧ j < 1073741824 then some (.int (i / j)) else none
  | _, _ => none
def modF : D → D → Option D
  | .int i, .int j => if 0 < j then some (.int (i % j)) else none
  | _, _ => none
def powF : D → D → Option D
  | .int i, .int j => if 0 ≤ j ∧ j ≤ 1000000 ∧ i.natAbs < 2 ^ 64 then some (.int (i ^ j.toNat)) else none
  | _, _ => none
def negF : D → Option D
  | .int i => some (.int (-i))
  | _ => none
section
variable {B : Bd} {fr : Fr} {σ : L2.St} {H Hv : Hp}
/-- a value laid and at once a value -/
theorem lay_tup (R : Rel B fr σ H Hv) {p : Addr} {xs : List V} {ds : List D} (hp : H p = none) (r : RepL B.G Hv ds xs) {Q : VK}
    (k : ∀ v H' Hv', Nxt B fr σ H Hv fr H' Hv' → Rep B.G Hv' (.tup ds) v → Q v H') : Q (.ref p) (upd H p (.tup xs)) :=
  have nt : ∀ ps, HO.tup xs ≠ .tbl ps := fun ps z => by cases z
  k _ _ _ (Nxt.layV R hp nt) (Rep.tup upd_same (RepL.mono ((Sub.refl Hv).put (R.hv_none hp)) _ _ r))
theorem lay_lst (R : Rel B fr σ H Hv) {p : Addr} {xs : List V} {ds : List D} (hp : H p = none) (r : RepL B.G Hv ds xs) {Q : VK}
    (k : ∀ v H' Hv', Nxt B fr σ H Hv fr H' Hv' → Rep B.G Hv' (.lst ds) v → Q v H') : Q (.ref p) (upd H p (.lst xs)) :=
  have nt : ∀ ps, HO.lst xs ≠ .tbl ps := fun ps z => by cases z
  k _ _ _ (Nxt.layV R hp nt) (Rep.lst upd_same (RepL.mono ((Sub.refl Hv).put (R.hv_none hp)) _ _ r))
/-- a new list, owned by nothing as yet -/
theorem lay_own (R : Rel B fr σ H Hv) {p : Addr} {xs : List V} {ds : List D} (hp : H p = none) (r : RepL B.G Hv ds xs) {Q : VK}
    (k : ∀ p H' Hv', Nxt B fr σ H Hv fr H' Hv' → H p = none → Hv' p = none → Cell B.G H' Hv' p (.lst ds) → Q (.ref p) H') : Q (.ref p) (upd H p (.lst xs)) :=
  k _ _ Hv ⟨R.lay hp, .refl _, fun b u h _ _ => by rw [upd_ne (ne_of_none h hp)]; exact h, .refl _ _, fun b u h => ⟨u, by rw [upd_ne (ne_of_none h hp)]; exact h⟩, fun b u h => .inl h⟩ hp (R.hv_none hp) ⟨xs, upd_same, r⟩
end
section
variable {X : Cx} {B : Bd} {W : WX} {a b : Expr} {f g : Ev} {pos : Pos}
theorem ops_ints {r : R2} {F : D → D → Option D} (hF : ∀ x y z, F x y = some z → ∃ i j, x = .int i ∧ y = .int j) (hr : ∀ i j z H Q, F (.int i) (.int j) = some z → (∀ v, Rep B.G (fun _ => none) z v → Q v H) → r (.int i) (.int j) H Q) : OpS B r F := by
  intro fr σ H Hv x y dx dy a b z Q R rx ry hx hy hz k
  obtain ⟨i, j, rfl, rfl⟩ := hF _ _ _ hz
  rw [R.int_of rx hx, R.int_of ry hy]
  exact hr i j z H Q hz fun v hv => k v H Hv (.refl R) (Rep.mono (fun _ _ z => by cases z) _ _ hv)
theorem repI {G : SE} {H : Hp} {i : Int} : Rep G H (.int i) (.int i) := Rep.int_iff.mpr rfl
theorem repB {G : SE} {H : Hp} {i : Bool} : Rep G H (.bl i) (.bl i) := Rep.bl_iff.mpr rfl
theorem repS {G : SE} {H : Hp} {i : Str} : Rep G H (.str i) (.str i) := Rep.str_iff.mpr rfl
theorem repN {G : SE} {H : Hp} : Rep G H .non .non := Rep.non_iff.mpr rfl
theorem ints_of {F : D → D → Option D} (h : ∀ x y, (∀ i j, ¬ (x = .int i ∧ y = .int j)) → F x y = none) : ∀ x y z, F x y = some z → ∃ i j, x = .int i ∧ y = .int j := fun x y z e => by
  refine Classical.byContradiction fun n => ?_
  rw [h x y fun i j q => n ⟨i, j, q⟩] at e
  cases e
theorem ops_sub : OpS B (rI0 fun i j => .int (i - j)) subF := ops_ints (ints_of fun x y h => by cases x <;> cases y <;> first | rfl | exact absurd ⟨rfl, rfl⟩ (h _ _)) fun i j z H Q e k => by
  cases e
  exact ⟨i, j, rfl, rfl, k _ repI⟩
theorem ops_mul : OpS B (rI CMul fun i j => .int (i * j)) mulF := ops_ints (ints_of fun x y h => by cases x <;> cases y <;> first | rfl | exact absurd ⟨rfl, rfl⟩ (h _ _)) fun i j z H Q e k => by
  unfold mulF at e
  dsimp only at e
  split at e
  · next c => cases e; exact ⟨i, j, rfl, rfl, c, k _ repI⟩
  · cases e
theorem ops_fdiv : OpS B (rI CDiv fun i j => .int (i / j)) fdivF := ops_ints (ints_of fun x y h => by cases x <;> cases y <;> first | rfl | exact absurd ⟨rfl, rfl⟩ (h _ _)) fun i j z H Q e k => by
  unfold fdivF at e
  dsimp only at e
  split at e
  · next c => cases e; exact ⟨i, j, rfl, rfl, c, k _ repI⟩
  · cases e
theorem ops_mod : OpS B (rI (fun _ j => 0 < j) fun i j => .int (i % j)) modF := ops_ints (ints_of fun x y h => by cases x <;> cases y <;> first | rfl | exact absurd ⟨rfl, rfl⟩ (h _ _)) fun i j z H Q e k => by
  unfold modF at e
  dsimp only at e
  split at e
  · next c => cases e; exact ⟨i, j, rfl, rfl, c, k _ repI⟩
  · cases e
theorem ops_pow : OpS B (rI CPow fun i j => .int (i ^ j.toNat)) powF := ops_ints (ints_of fun x y h => by cases x <;> cases y <;> first | rfl | exact absurd ⟨rfl, rfl⟩ (h _ _)) fun i j z H Q e k => by
  unfold powF at e
  dsimp only at e
  split at e
  · next c => cases e; exact ⟨i, j, rfl, rfl, c, k _ repI⟩
  · cases e
theorem d_sub (ha : DE X B W a f) (hb : DE X B W b g) : DE X B W (.BinOp a .Sub b pos) (eOp2 subF f g) := pe_imp (pe_op op_sub ha hb) fun _ _ _ h => ent2 ops_sub h
theorem d_mul (ha : DE X B W a f) (hb : DE X B W b g) : DE X B W (.BinOp a .Mult b pos) (eOp2 mulF f g) := pe_imp (pe_op op_mul ha hb) fun _ _ _ h => ent2 ops_mul h
theorem d_fdiv (ha : DE X B W a f) (hb : DE X B W b g) : DE X B W (.BinOp a .FloorDiv b pos) (eOp2 fdivF f g) := pe_imp (pe_op op_fdiv ha hb) fun _ _ _ h => ent2 ops_fdiv h
theorem d_mod (ha : DE X B W a f) (hb : DE X B W b g) : DE X B W (.BinOp a .Mod b pos) (eOp2 modF f g) := pe_imp (pe_op op_mod ha hb) fun _ _ _ h => ent2 ops_mod h
theorem d_pow (ha : DE X B W a f) (hb : DE X B W b g) : DE X B W (.BinOp a .Pow b pos) (eOp2 powF f g) := pe_imp (pe_op op_pow ha hb) fun _ _ _ h => ent2 ops_pow h
theorem ops_add (hK : X.K = B.G.K) : OpS B (fun x y H Q => (∃ i j, x = .int i ∧ y = .int j ∧ Q (.int (i + j)) H) ∨ ((∃ i j, x = .str i ∧ y = .str j ∧ i.length + j.length ≤ sizeLine ∧ Q (.str (i ++ j)) H) ∨ (rCatA X.K x y H Q ∨ rCat x y H Q))) addF := by
  intro fr σ H Hv x y dx dy a b z Q R rx ry hx hy hz k
  unfold addF at hz
  split at hz
  · cases hz
    rw [R.int_of rx hx, R.int_of ry hy]
    exact .inl ⟨_, _, rfl, rfl, k _ H Hv (.refl R) repI⟩
  · split at hz
    · next c =>
      cases hz
      rw [R.str_of rx hx, R.str_of ry hy]
      exact .inr (.inl ⟨_, _, rfl, rfl, c, k _ H Hv (.refl R) repS⟩)
    · cases hz
  · split at hz
    · next c =>
      cases hz
      obtain ⟨p, vs, rfl, q1, q1v, r1⟩ := R.tup_of rx hx
      obtain ⟨q, us, rfl, q2, q2v, r2⟩ := R.tup_of ry hy
      refine .inr (.inr (.inl ⟨p, q, vs, us, rfl, rfl, by rw [hK]; exact q1, by rw [hK]; exact q2, by rw [r1.length, r2.length]; exact c, fun e => ?_, fun e1 e2 => ?_, fun e1 e2 t ht => ?_⟩))
      · subst e
        have e1 := List.eq_nil_of_length_eq_zero r1.length.symm
        subst e1
        exact k _ H Hv (.refl R) (by simpa using Rep.tup q2v r2)
      · subst e2
        have e2' := List.eq_nil_of_length_eq_zero r2.length.symm
        subst e2'
        exact k _ H Hv (.refl R) (by simpa using Rep.tup q1v r1)
      · exact lay_tup R ht (r1.append r2) k
    · cases hz
  · split at hz
    · next c =>
      cases hz
      obtain ⟨p, vs, rfl, q1, r1⟩ := R.list_of rx hx
      obtain ⟨q, us, rfl, q2, r2⟩ := R.list_of ry hy
      exact .inr (.inr (.inr ⟨p, q, vs, us, rfl, rfl, q1, q2, by rw [r1.length, r2.length]; exact c, fun t ht => lay_lst R ht (r1.append r2) k⟩))
    · cases hz
  · cases hz
theorem d_add (ha : DE X B W a f) (hb : DE X B W b g) (hK : X.K = B.G.K := by rfl) : DE X B W (.BinOp a .Add b pos) (eOp2 addF f g) :=
  pe_imp (pe_op (op_add.or (op_add_str.or (op_catA.or op_cat))) ha hb) fun _ _ _ h => ent2 (ops_add hK) h
theorem opf_cat : OpF B rCat catF := by
  intro fr σ H Hv x y dx dy a b z Q R rx ry hx hy hz k
  unfold catF at hz
  split at hz
  · split at hz
    · next c =>
      cases hz
      obtain ⟨p, vs, rfl, q1, r1⟩ := R.list_of rx hx
      obtain ⟨q, us, rfl, q2, r2⟩ := R.list_of ry hy
      exact ⟨p, q, vs, us, rfl, rfl, q1, q2, by rw [r1.length, r2.length]; exact c, fun t ht => lay_own R ht (r1.append r2) k⟩
    · cases hz
  · cases hz
theorem d_catF (ha : DE X B W a f) (hb : DE X B W b g) : DF X B W (.BinOp a .Add b pos) (eOp2 catF f g) := pe_imp (pe_op op_cat ha hb) fun _ _ _ h => ent2F opf_cat h
theorem uns_neg : UnS B (rU fun i => .int (-i)) negF := by
  intro fr σ H Hv x dx a z Q R rx hx hz k
  unfold negF at hz
  split at hz
  · cases hz
    rw [R.int_of rx hx]
    exact ⟨_, rfl, k _ H Hv (.refl R) repI⟩
  · cases hz
theorem d_neg (ha : DE X B W a f) : DE X B W (.UnaryOp .USub a pos) (eOp1 negF f) := pe_imp (pe_un un_neg ha) fun _ _ _ h => ent1 uns_neg h
end
/-! ### comparisons -/
mutual
def pyOf : D → Option PyData
  | .non => some .none
  | .bl b => some (.bool b)
  | .int i => some (.int i)
  | .str x => some (.str x)
  | .tup ds => (pyOfL ds).map .tuple
  | .lst ds => (pyOfL ds).map .list
  | _ => none
def pyOfL : List D → Option (List PyData)
  | [] => some []
  | d :: ds => match pyOf d, pyOfL ds with
    | some p, some ps => some (p :: ps)
    | _, _ => none
end
mutual
theorem dp_of {G : SE} {H Hv : Hp} (s : Sub Hv H) : ∀ (d : D) (v : V) (p : PyData), Rep G Hv d v → pyOf d = some p → Dp G.K H v p
  | .non, v, p, h, e => by
    rw [Rep.non_iff.mp h]
    simp only [pyOf] at e
    cases e
    exact .non
  | .bl b, v, p, h, e => by
    rw [Rep.bl_iff.mp h]
    simp only [pyOf] at e
    cases e
    exact .bl _
  | .int i, v, p, h, e => by
    rw [Rep.int_iff.mp h]
    simp only [pyOf] at e
    cases e
    exact .int _
  | .str x, v, p, h, e => by
    rw [Rep.str_iff.mp h]
    simp only [pyOf] at e
    cases e
    exact .str _
  | .tup ds, v, p, h, e => by
    obtain ⟨a, vs, rfl, q, r⟩ := Rep.tup_inv h
    simp only [pyOf, Option.map_eq_some_iff] at e
    obtain ⟨ps, e1, rfl⟩ := e
    exact .tup (s.sqt q) (dpL_of s ds vs ps r e1)
  | .lst ds, v, p, h, e => by
    obtain ⟨a, vs, rfl, q, r⟩ := Rep.lst_inv h
    simp only [pyOf, Option.map_eq_some_iff] at e
    obtain ⟨ps, e1, rfl⟩ := e
    exact .lst (SqL.of (s _ _ q)) (dpL_of s ds vs ps r e1)
  | .scr _, _, _, _, e => by simp only [pyOf] at e; cases e
  | .obj _ _ _, _, _, _, e => by simp only [pyOf] at e; cases e
  | .dct _ _, _, _, _, e => by simp only [pyOf] at e; cases e
  | .var _, _, _, _, e => by simp only [pyOf] at e; cases e
theorem dpL_of {G : SE} {H Hv : Hp} (s : Sub Hv H) : ∀ (ds : List D) (vs : List V) (ps : List PyData), RepL G Hv ds vs → pyOfL ds = some ps → DpAll G.K H vs ps
  | [], vs, ps, h, e => by
    rw [h.nil_inv]
    simp only [pyOfL] at e
    cases e
    exact .nil
  | d :: ds, vs, ps, h, e => by
    obtain ⟨v, r, rfl, h1, h2⟩ := h.cons_inv
    simp only [pyOfL] at e
    split at e
    · next p qs e1 e2 =>
      cases e
      exact .cons (dp_of s d v p h1 e1) (dpL_of s ds r qs h2 e2)
    · cases e
end
theorem dp_look {B : Bd} {fr : Fr} {σ : L2.St} {H Hv : Hp} (R : Rel B fr σ H Hv) {d e : D} {v : V} {p : PyData} (h : RepW B σ Hv d v) (hl : look fr d = some e) (hp : pyOf e = some p) : Dp B.G.K H v p := by
  cases d with
  | var i =>
    cases e with
    | lst ds =>
      obtain ⟨a, vs, rfl, q, r⟩ := R.list_of h hl
      simp only [pyOf, Option.map_eq_some_iff] at hp
      obtain ⟨ps, e1, rfl⟩ := hp
      exact .lst (SqL.of q) (dpL_of R.sub ds vs ps r e1)
    | obj _ _ _ => simp only [pyOf] at hp; cases hp
    | dct _ _ => simp only [pyOf] at hp; cases hp
    | _ => exact dp_of R.sub _ _ _ (look_scalar R h hl rfl) hp
  | _ =>
    cases hl
    exact dp_of R.sub _ _ _ h hp
/-- the scalars that == tells apart as data does -/
def scalE : D → D → Option Bool
  | .non, .non => some true | .non, .int _ => some false | .int _, .non => some false | .non, .bl _ => some false | .bl _, .non => some false | .non, .str _ => some false | .str _, .non => some false
  | .int i, .int j => some (decide (i = j)) | .bl i, .bl j => some (decide (i = j)) | .str i, .str j => some (decide (i = j))
  | .int _, .str _ => some false | .str _, .int _ => some false | .bl _, .str _ => some false | .str _, .bl _ => some false
  | _, _ => none
def eqB (a b : D) : Option Bool := match scalE a b with
  | some k => some k
  | none => match pyOf a, pyOf b with
    | some p, some q => if SeqAt.shaped p && SeqAt.shaped q then some (PyData.eqv p q) else none
    | _, _ => none
def eqF (a b : D) : Option D := (eqB a b).map D.bl
def neF (a b : D) : Option D := (eqB a b).map fun k => D.bl (!k)
def inB (a b : D) : Option Bool := match pyOf a, pyOf b with
  | some p, some (.list qs) => if SeqAt.shaped p && SeqAt.shaped (.list qs) then some (qs.any fun z => PyData.eqv z p) else none
  | _, _ => none
section
variable {X : Cx} {B : Bd} {W : WX} {a b c : Expr} {f g h : Ev} {pos : Pos}
theorem scal_of {a b : D} {k : Bool} {x y : V} {G : SE} {H : Hp} (e : scalE a b = some k) (hx : Rep G H a x) (hy : Rep G H b y) : scal x y = true ∧ decide (x = y) = k := by
  unfold scalE at e
  split at e <;> first
    | (cases e
       simp only [Rep] at hx hy
       subst hx hy
       exact ⟨rfl, by simp⟩)
    | cases e
theorem scalE_cell {a b : D} {k : Bool} (e : scalE a b = some k) : isCell a = false ∧ isCell b = false := by
  unfold scalE at e
  split at e <;> first
    | exact ⟨rfl, rfl⟩
    | cases e
theorem ops_eqg {r : Bool → V} (hK : X.K = B.G.K) (rr : Bool → D) (hr : ∀ k H, Rep B.G H (rr k) (r k)) : OpS B (fun x y H Q => (scal x y = true ∧ Q (r (decide (x = y))) H) ∨ ∃ d e, Dp X.K H x d ∧ Dp X.K H y e ∧ SeqAt.shaped d = true ∧ SeqAt.shaped e = true ∧ Q (r (PyData.eqv d e)) H) (fun a b => (eqB a b).map rr) := by
  intro fr σ H Hv x y dx dy a b z Q R rx ry hx hy hz k
  simp only [Option.map_eq_some_iff] at hz
  obtain ⟨m, hz, rfl⟩ := hz
  unfold eqB at hz
  split at hz
  · next kk e =>
    cases hz
    obtain ⟨c1, c2⟩ := scalE_cell e
    obtain ⟨h1, h2⟩ := scal_of e (look_scalar R rx hx c1) (look_scalar R ry hy c2)
    refine .inl ⟨h1, ?_⟩
    rw [h2]
    exact k _ H Hv (.refl R) (hr _ _)
  · split at hz
    · next p q ep eq =>
      split at hz
      · next c =>
        cases hz
        have c' := Bool.and_eq_true_iff.mp c
        refine .inr ⟨p, q, ?_, ?_, c'.1, c'.2, k _ H Hv (.refl R) (hr _ _)⟩
        · rw [hK]; exact dp_look R rx hx ep
        · rw [hK]; exact dp_look R ry hy eq
      · cases hz
    · cases hz
theorem ops_eq (hK : X.K = B.G.K) : OpS B (fun x y H Q => rEq x y H Q ∨ rEqD X.K x y H Q) eqF := ops_eqg (r := V.bl) hK D.bl fun _ _ => repB
theorem ops_ne (hK : X.K = B.G.K) : OpS B (fun x y H Q => rNe x y H Q ∨ rNeD X.K x y H Q) neF := ops_eqg (r := fun k => V.bl (!k)) hK (fun k => D.bl (!k)) fun _ _ => repB
/-- order of ints -/
def ltF : D → D → Option D
  | .int i, .int j => some (.bl (decide (i < j)))
  | _, _ => none
def leF : D → D → Option D
  | .int i, .int j => some (.bl (decide (i ≤ j)))
  | _, _ => none
def gtF : D → D → Option D
  | .int i, .int j => some (.bl (decide (j < i)))
  | _, _ => none
def geF : D → D → Option D
  | .int i, .int j => some (.bl (decide (j ≤ i)))
  | _, _ => none
def isNon : D → Bool
  | .non => true
  | _ => false
def isNF : D → D → Option D
  | a, .non => some (.bl (isNon a))
  | _, _ => none
def notNF : D → D → Option D
  | a, .non => some (.bl (!isNon a))
  | _, _ => none
def inF (a b : D) : Option D := (inB a b).map D.bl
def notInF (a b : D) : Option D := (inB a b).map fun k => D.bl (!k)
theorem ops_lt : OpS B (rI0 fun i j => .bl (decide (i < j))) ltF := ops_ints (ints_of fun x y h => by cases x <;> cases y <;> first | rfl | exact absurd ⟨rfl, rfl⟩ (h _ _)) fun i j z H Q e k => by
  cases e
  exact ⟨i, j, rfl, rfl, k _ repB⟩
theorem ops_le : OpS B (rI0 fun i j => .bl (decide (i ≤ j))) leF := ops_ints (ints_of fun x y h => by cases x <;> cases y <;> first | rfl | exact absurd ⟨rfl, rfl⟩ (h _ _)) fun i j z H Q e k => by
  cases e
  exact ⟨i, j, rfl, rfl, k _ repB⟩
theorem ops_gt : OpS B (rI0 fun i j => .bl (decide (j < i))) gtF := ops_ints (ints_of fun x y h => by cases x <;> cases y <;> first | rfl | exact absurd ⟨rfl, rfl⟩ (h _ _)) fun i j z H Q e k => by
  cases e
  exact ⟨i, j, rfl, rfl, k _ repB⟩
theorem ops_ge : OpS B (rI0 fun i j => .bl (decide (j ≤ i))) geF := ops_ints (ints_of fun x y h => by cases x <;> cases y <;> first | rfl | exact absurd ⟨rfl, rfl⟩ (h _ _)) fun i j z H Q e k => by
  cases e
  exact ⟨i, j, rfl, rfl, k _ repB⟩
theorem non_look {fr : Fr} {σ : L2.St} {H Hv : Hp} (R : Rel B fr σ H Hv) {d e : D} {v : V} (h : RepW B σ Hv d v) (hl : look fr d = some e) : decide (v = .non) = isNon e := by
  cases e with
  | non => rw [R.non_of h hl]; rfl
  | bl i => rw [R.bl_of h hl]; rfl
  | int i => rw [R.int_of h hl]; rfl
  | str i => rw [R.str_of h hl]; rfl
  | tup ds =>
    obtain ⟨a, vs, rfl, _⟩ := R.tup_of h hl
    rfl
  | lst ds =>
    obtain ⟨a, vs, rfl, _⟩ := R.list_of h hl
    rfl
  | scr ns =>
    obtain ⟨a, rfl, _⟩ := Rep.scr_inv (look_scalar R h hl rfl)
    rfl
  | var i => exact (Rep.no_var (look_scalar R h hl rfl)).elim
  | obj c ns fs =>
    cases d with
    | var i =>
      obtain ⟨hm, hs⟩ := h
      obtain ⟨a, hs', _⟩ := R.own i _ (look_var hl) hm
      rw [hs] at hs'
      cases hs'
      rfl
    | obj c' ns' fs' =>
      obtain ⟨a, dx, vs, rfl, _⟩ := Rep.obj_inv h
      rfl
    | _ => cases hl
  | dct ks ds =>
    cases d with
    | var i =>
      obtain ⟨hm, hs⟩ := h
      obtain ⟨a, hs', _⟩ := R.own i _ (look_var hl) hm
      rw [hs] at hs'
      cases hs'
      rfl
    | dct ks' ds' =>
      obtain ⟨a, us, rfl, _⟩ := Rep.dct_inv h
      rfl
    | _ => cases hl
theorem ops_isN : OpS B (fun x y H Q => y = .non ∧ Q (.bl (decide (x = .non))) H) isNF := by
  intro fr σ H Hv x y dx dy a b z Q R rx ry hx hy hz k
  cases b <;> first | cases hz | skip
  refine ⟨R.non_of ry hy, ?_⟩
  rw [non_look R rx hx]
  exact k _ H Hv (.refl R) repB
theorem ops_notN : OpS B (fun x y H Q => y = .non ∧ Q (.bl (!decide (x = .non))) H) notNF := by
  intro fr σ H Hv x y dx dy a b z Q R rx ry hx hy hz k
  cases b <;> first | cases hz | skip
  refine ⟨R.non_of ry hy, ?_⟩
  rw [non_look R rx hx]
  exact k _ H Hv (.refl R) repB
theorem ops_ing (hK : X.K = B.G.K) (r : Bool → V) (rr : Bool → D) (hr : ∀ k H, Rep B.G H (rr k) (r k)) : OpS B (fun x y H Q => ∃ d ds, Dp X.K H x d ∧ Dp X.K H y (.list ds) ∧ SeqAt.shaped d = true ∧ SeqAt.shaped (.list ds) = true ∧ Q (r (ds.any fun z => PyData.eqv z d)) H) (fun a b => (inB a b).map rr) := by
  intro fr σ H Hv x y dx dy a b z Q R rx ry hx hy hz k
  simp only [Option.map_eq_some_iff] at hz
  obtain ⟨m, hz, rfl⟩ := hz
  unfold inB at hz
  split at hz
  · next p qs ep eq =>
    split at hz
    · next c =>
      cases hz
      have c' := Bool.and_eq_true_iff.mp c
      refine ⟨p, qs, ?_, ?_, c'.1, c'.2, k _ H Hv (.refl R) (hr _ _)⟩
      · rw [hK]; exact dp_look R rx hx ep
      · rw [hK]; exact dp_look R ry hy eq
    · cases hz
  · cases hz
end
end KS
namespace KS
open PySem PySem.Spec L2
/-! ### comparisons as values and as tests -/
def bE (e : Ev) : Bv := fun fr => (e fr).bind fun d fr1 => match d with
  | .bl b => .ok b fr1
  | _ => .bad
def bAnd (f g : Bv) : Bv := fun fr => (f fr).bind fun b fr1 => if b then g fr1 else .ok false fr1
def bOr (f g : Bv) : Bv := fun fr => (f fr).bind fun b fr1 => if b then .ok true fr1 else g fr1
def bNot (f : Bv) : Bv := fun fr => (f fr).bind fun b fr1 => .ok (!b) fr1
def eAnd (f g : Ev) : Ev := fun fr => (f fr).bind fun d fr1 => match d with
  | .bl true => g fr1
  | .bl false => .ok (.bl false) fr1
  | _ => .bad
def eOr (f g : Ev) : Ev := fun fr => (f fr).bind fun d fr1 => match d with
  | .bl false => g fr1
  | .bl true => .ok (.bl true) fr1
  | _ => .bad
def eNot (f : Ev) : Ev := fun fr => (f fr).bind fun d fr1 => match d with
  | .bl b => .ok (.bl (!b)) fr1
  | _ => .bad
def eIf (t : Bv) (f g : Ev) : Ev := fun fr => (t fr).bind fun b fr1 => if b then f fr1 else g fr1
def truB : D → Option Bool
  | .non => some false
  | .bl b => some b
  | .int i => some (i != 0)
  | .str x => if x.length ≤ sizeLine then some ((x.length : Int) != 0) else none
  | .tup ds => some (!ds.isEmpty)
  | .lst ds => some (!ds.isEmpty)
  | _ => none
def bTru (f : Ev) : Bv := fun fr => (f fr).bind fun d fr1 => match look fr1 d with
  | some a => match truB a with
    | some b => .ok b fr1
    | none => .bad
  | none => .bad
/-- a op1 b op2 c -/
def eChain (F F' : D → D → Option D) (f g h : Ev) : Ev := fun fr => (f fr).bind fun x fr1 => (g fr1).bind fun y fr2 => match look fr2 x, look fr2 y with
  | some a, some b => match F a b with
    | some (.bl true) => (h fr2).bind fun z fr3 => match look fr3 y, look fr3 z with
      | some b', some c => ofO (F' b' c) fr3
      | _, _ => .bad
    | some (.bl false) => .ok (.bl false) fr2
    | _ => .bad
  | _, _ => .bad
section
variable {X : Cx} {B : Bd} {W : WX} {a b c : Expr} {f g h : Ev} {t u : Bv} {pos : Pos} {rest : List Expr}
theorem d_cmp {op : CmpOp} {r : R2} {F : D → D → Option D} (hr : OpS B r F) (ho : OpR X (compareOp op) r) (ha : DE X B W a f) (hb : DE X B W b g) (hm : behindInMarks op b = false) : DE X B W (.Compare a [op] [b] pos) (eOp2 F f g) :=
  pe_imp (pe_cmpR ho ha hb hm) fun _ _ _ h => ent2 hr h
/-- a bool's reading, from a value's -/
theorem postB_E {fr : Fr} {σ : L2.St} {H Hv : Hp} {r : Res Fr D} {Q : Bool → Hp → Prop} (h : PostB B W fr σ H Hv (r.bind fun d fr1 => match d with | .bl b => .ok b fr1 | _ => .bad) Q) :
    PostE B W fr σ H Hv r (fun x H' => ∃ k, x = .bl k ∧ Q k H') := by
  cases r with
  | bad => exact h.elim
  | exc c fs fr1 => exact h
  | ok d fr1 =>
    dsimp only [Res.bind] at h
    cases d with
    | bl k => exact fun v H' Hv' n hv => ⟨k, Rep.bl_iff.mp (hv.rep fun i z => by cases z), h H' Hv' n⟩
    | _ => exact h.elim
theorem dt_cmp {op : CmpOp} {r : R2} {F : D → D → Option D} (hr : OpS B r F) (ho : OpR X (compareOp op) r) (ha : DE X B W a f) (hb : DE X B W b g) (hm : behindInMarks op b = false) : DT X B W (.Compare a [op] [b] pos) (bE (eOp2 F f g)) :=
  pt_imp (pt_cmpR ho ha hb hm) fun σ H Q ⟨fr, Hv, R, h⟩ => ent2 hr ⟨fr, Hv, R, postB_E h⟩
/-- an expression whose value is a bool, as a test -/
theorem dt_val (ha : DE X B W a f) (he : ∀ whole, isTrue a X.env whole = (do let v ← whole; standAt a.pos; holding [v] (truthy v)) := by intro _; rfl) : DT X B W a (bE f) :=
  pt_imp (pt_val ha he) fun σ H Q ⟨fr, Hv, R, h⟩ => ⟨fr, Hv, R, postB_E h⟩
theorem tru_look (hK : X.K = B.G.K) {fr : Fr} {σ : L2.St} {H Hv : Hp} (R : Rel B fr σ H Hv) {d e : D} {v : V} {k : Bool} (h : RepW B σ Hv d v) (hl : look fr d = some e) (ht : truB e = some k) : TruV X.K v H k := by
  cases e with
  | non => rw [R.non_of h hl]; cases ht; rfl
  | bl i => rw [R.bl_of h hl]; cases ht; rfl
  | int i => rw [R.int_of h hl]; cases ht; rfl
  | str x =>
    rw [R.str_of h hl]
    unfold truB at ht
    dsimp only at ht
    split at ht
    · next c => cases ht; exact ⟨c, rfl⟩
    · cases ht
  | tup ds =>
    obtain ⟨a, vs, rfl, q, _, r⟩ := R.tup_of h hl
    cases ht
    refine .inr (.inl ⟨vs, by rw [hK]; exact q, ?_⟩)
    cases ds with
    | nil => rw [r.nil_inv]; rfl
    | cons d ds => obtain ⟨v, t, rfl, _⟩ := r.cons_inv; rfl
  | lst ds =>
    obtain ⟨a, vs, rfl, q, r⟩ := R.list_of h hl
    cases ht
    refine .inl ⟨vs, SqL.of q, ?_⟩
    cases ds with
    | nil => rw [r.nil_inv]; rfl
    | cons d ds => obtain ⟨v, t, rfl, _⟩ := r.cons_inv; rfl
  | _ => cases ht
/-- any value, as a test -/
theorem dt_tru (ha : DE X B W a f) (hK : X.K = B.G.K := by rfl) (he : ∀ whole, isTrue a X.env whole = (do let v ← whole; standAt a.pos; holding [v] (truthy v)) := by intro _; rfl) : DT X B W a (bTru f) := by
  refine pt_imp (pt_truth ha he) fun σ H Q h => ?_
  obtain ⟨fr, Hv, R, h⟩ := h
  refine ⟨fr, Hv, R, ?_⟩
  unfold bTru at h
  cases hf : f fr with
  | bad => rw [hf] at h; exact h.elim
  | exc c fs fr1 => rw [hf] at h; exact h
  | ok d fr1 =>
    rw [hf] at h
    dsimp only [Res.bind] at h
    intro v H1 Hv1 n r
    cases hl : look fr1 d with
    | none => rw [hl] at h; exact h.elim
    | some e =>
      rw [hl] at h
      dsimp only at h
      cases ht : truB e with
      | none => rw [ht] at h; exact h.elim
      | some k =>
        rw [ht] at h
        exact ⟨k, tru_look hK n.rel r hl ht, h H1 Hv1 n⟩
theorem dw_and1 (ha : DT X B W a t) : DW X B W (.BoolOp .And [a] pos) t := pw_and1 ha
theorem dw_or1 (ha : DT X B W a t) : DW X B W (.BoolOp .Or [a] pos) t := pw_or1 ha
theorem bnd2 {σ : L2.St} {H : Hp} {f : Bv} {k : Bool → Bv} {Q : Bool → Hp → Prop} (h : dTT B W (fun fr => (f fr).bind fun b fr1 => k b fr1) σ H Q) : dTT B W f σ H fun b H1 => dTT B W (k b) σ H1 Q := by
  obtain ⟨fr, Hv, R, h⟩ := h
  refine ⟨fr, Hv, R, ?_⟩
  dsimp only at h
  cases hf : f fr with
  | bad => rw [hf] at h; exact h.elim
  | exc c fs fr1 => rw [hf] at h; exact h
  | ok b fr1 =>
    rw [hf] at h
    exact fun H1 Hv1 n => ⟨fr1, Hv1, n.rel, h.step n⟩
theorem dtt_ok {σ : L2.St} {H : Hp} {b : Bool} {Q : Bool → Hp → Prop} (h : dTT B W (fun fr => .ok b fr) σ H Q) : Q b H := by
  obtain ⟨fr, Hv, R, h⟩ := h
  exact h H Hv (.refl R)
theorem dw_and (ha : DT X B W a t) (hb : DW X B W (.BoolOp .And (b :: rest) pos) u) : DW X B W (.BoolOp .And (a :: b :: rest) pos) (bAnd t u) := by
  refine pw_imp (pw_and ha hb) fun σ H Q h => ?_
  obtain ⟨fr, Hv, R, h⟩ := bnd2 (k := fun b => fun fr1 => if b then u fr1 else .ok false fr1) h
  refine ⟨fr, Hv, R, ?_⟩
  cases hf : t fr with
  | bad => rw [hf] at h; exact h.elim
  | exc c fs fr1 => rw [hf] at h; exact h
  | ok k fr1 =>
    rw [hf] at h
    intro H1 Hv1 n
    have q := h H1 Hv1 n
    cases k with
    | true =>
      rw [if_pos rfl]
      exact q
    | false =>
      rw [if_neg Bool.false_ne_true]
      exact dtt_ok q
theorem dw_or (ha : DT X B W a t) (hb : DW X B W (.BoolOp .Or (b :: rest) pos) u) : DW X B W (.BoolOp .Or (a :: b :: rest) pos) (bOr t u) := by
  refine pw_imp (pw_or ha hb) fun σ H Q h => ?_
  obtain ⟨fr, Hv, R, h⟩ := bnd2 (k := fun b => fun fr1 => if b then .ok true fr1 else u fr1) h
  refine ⟨fr, Hv, R, ?_⟩
  cases hf : t fr with
  | bad => rw [hf] at h; exact h.elim
  | exc c fs fr1 => rw [hf] at h; exact h
  | ok k fr1 =>
    rw [hf] at h
    intro H1 Hv1 n
    have q := h H1 Hv1 n
    cases k with
    | true =>
      rw [if_pos rfl]
      exact dtt_ok q
    | false =>
      rw [if_neg Bool.false_ne_true]
      exact q
theorem DW.dt (h : DW X B W a t) : DT X B W a t := PW.pt h
theorem dt_not (ha : DT X B W a t) : DT X B W (.UnaryOp .Not a pos) (bNot t) := by
  refine pt_imp (pt_not ha) fun σ H Q h => ?_
  obtain ⟨fr, Hv, R, h⟩ := bnd2 (k := fun b => fun fr1 => .ok (!b) fr1) h
  refine ⟨fr, Hv, R, ?_⟩
  cases hf : t fr with
  | bad => rw [hf] at h; exact h.elim
  | exc c fs fr1 => rw [hf] at h; exact h
  | ok k fr1 =>
    rw [hf] at h
    exact fun H1 Hv1 n => dtt_ok (h H1 Hv1 n)
theorem d_one {op} (ha : DE X B W a f) : DE X B W (.BoolOp op [a] pos) f := pe_one ha
theorem d_and (ha : DE X B W a f) (hb : DE X B W (.BoolOp .And (b :: rest) pos) g) : DE X B W (.BoolOp .And (a :: b :: rest) pos) (eAnd f g) := by
  refine pe_imp (pe_and ha hb) fun σ H Q h => ?_
  obtain ⟨fr, Hv, R, h⟩ := h
  refine ⟨fr, Hv, R, ?_⟩
  unfold eAnd at h
  cases hf : f fr with
  | bad => rw [hf] at h; exact h.elim
  | exc c fs fr1 => rw [hf] at h; exact h
  | ok d fr1 =>
    rw [hf] at h
    dsimp only [Res.bind] at h
    intro v H1 Hv1 n r
    cases d with
    | bl k =>
      refine ⟨k, Rep.bl_iff.mp (r.rep fun i z => by cases z), ?_⟩
      cases k with
      | true =>
        rw [if_pos rfl]
        exact ⟨fr1, Hv1, n.rel, PostE.step n h⟩
      | false =>
        rw [if_neg Bool.false_ne_true]
        exact h _ H1 Hv1 n (.of repB)
    | _ => exact h.elim
theorem d_or (ha : DE X B W a f) (hb : DE X B W (.BoolOp .Or (b :: rest) pos) g) : DE X B W (.BoolOp .Or (a :: b :: rest) pos) (eOr f g) := by
  refine pe_imp (pe_or ha hb) fun σ H Q h => ?_
  obtain ⟨fr, Hv, R, h⟩ := h
  refine ⟨fr, Hv, R, ?_⟩
  unfold eOr at h
  cases hf : f fr with
  | bad => rw [hf] at h; exact h.elim
  | exc c fs fr1 => rw [hf] at h; exact h
  | ok d fr1 =>
    rw [hf] at h
    dsimp only [Res.bind] at h
    intro v H1 Hv1 n r
    cases d with
    | bl k =>
      refine ⟨k, Rep.bl_iff.mp (r.rep fun i z => by cases z), ?_⟩
      cases k with
      | true =>
        rw [if_pos rfl]
        exact h _ H1 Hv1 n (.of repB)
      | false =>
        rw [if_neg Bool.false_ne_true]
        exact ⟨fr1, Hv1, n.rel, PostE.step n h⟩
    | _ => exact h.elim
theorem d_not (ha : DE X B W a f) : DE X B W (.UnaryOp .Not a pos) (eNot f) := by
  refine pe_imp (pe_not ha) fun σ H Q h => ?_
  obtain ⟨fr, Hv, R, h⟩ := h
  refine ⟨fr, Hv, R, ?_⟩
  unfold eNot at h
  cases hf : f fr with
  | bad => rw [hf] at h; exact h.elim
  | exc c fs fr1 => rw [hf] at h; exact h
  | ok d fr1 =>
    rw [hf] at h
    dsimp only [Res.bind] at h
    intro v H1 Hv1 n r
    cases d with
    | bl k => exact ⟨k, Rep.bl_iff.mp (r.rep fun i z => by cases z), h _ H1 Hv1 n (.of repB)⟩
    | _ => exact h.elim
theorem d_if (hc : DT X B W c t) (ha : DE X B W a f) (hb : DE X B W b g) : DE X B W (.IfExp c a b pos) (eIf t f g) := by
  refine pe_imp (pe_ifExp hc ha hb) fun σ H Q h => ?_
  obtain ⟨fr, Hv, R, h⟩ := h
  refine ⟨fr, Hv, R, ?_⟩
  unfold eIf at h
  cases hf : t fr with
  | bad => rw [hf] at h; exact h.elim
  | exc c fs fr1 => rw [hf] at h; exact h
  | ok k fr1 =>
    rw [hf] at h
    dsimp only [Res.bind] at h
    intro H1 Hv1 n
    cases k with
    | true =>
      rw [if_pos rfl]
      exact ⟨fr1, Hv1, n.rel, PostE.step n h⟩
    | false =>
      rw [if_neg Bool.false_ne_true]
      exact ⟨fr1, Hv1, n.rel, PostE.step n h⟩
theorem entC {r r' : R2} {F F' : D → D → Option D} {σ : L2.St} {H : Hp} {Q : VK} (hr : OpS B r F) (hr' : OpS B r' F') (hh : dTE B W (eChain F F' f g h) σ H Q) : tChain r r' (dTE B W f) (dTE B W g) (dTE B W h) σ H Q := by
  obtain ⟨fr, Hv, R, hh⟩ := hh
  refine ⟨fr, Hv, R, ?_⟩
  unfold eChain at hh
  cases hf : f fr with
  | bad => rw [hf] at hh; exact hh.elim
  | exc c fs fr1 => rw [hf] at hh; exact hh
  | ok x fr1 =>
    rw [hf] at hh
    dsimp only [Res.bind] at hh
    intro vx H1 Hv1 n1 r1
    refine ⟨fr1, Hv1, n1.rel, ?_⟩
    cases hg : g fr1 with
    | bad => rw [hg] at hh; exact hh.elim
    | exc c fs fr2 =>
      rw [hg] at hh
      exact fun dd H' Hv' n => hh dd H' Hv' (n1.trans n)
    | ok y fr2 =>
      rw [hg] at hh
      dsimp only at hh
      intro vy H2 Hv2 n2 r2
      cases hx : look fr2 x with
      | none => rw [hx] at hh; exact hh.elim
      | some a =>
        cases hy : look fr2 y with
        | none => rw [hx, hy] at hh; exact hh.elim
        | some b =>
          rw [hx, hy] at hh
          dsimp only at hh
          cases hz : F a b with
          | none => rw [hz] at hh; exact hh.elim
          | some z =>
            rw [hz] at hh
            refine hr fr2 σ H2 Hv2 vx vy x y a b z _ n2.rel (r1.mono n2.ext) r2 hx hy hz fun v H3 Hv3 n3 q => ?_
            cases z with
            | bl k =>
              refine ⟨k, Rep.bl_iff.mp q, ?_⟩
              have n := (n1.trans n2).trans n3
              cases k with
              | false =>
                rw [if_neg Bool.false_ne_true]
                exact hh _ H3 Hv3 n (.of repB)
              | true =>
                rw [if_pos rfl]
                dsimp only at hh
                refine ⟨fr2, Hv3, n3.rel, ?_⟩
                cases hhh : h fr2 with
                | bad => rw [hhh] at hh; exact hh.elim
                | exc c fs fr3 =>
                  rw [hhh] at hh
                  exact fun dd H' Hv' m => hh dd H' Hv' (n.trans m)
                | ok w fr3 =>
                  rw [hhh] at hh
                  dsimp only at hh
                  intro vw H4 Hv4 n4 r4
                  cases hy3 : look fr3 y with
                  | none => rw [hy3] at hh; exact hh.elim
                  | some b' =>
                    cases hw3 : look fr3 w with
                    | none => rw [hy3, hw3] at hh; exact hh.elim
                    | some c' =>
                      rw [hy3, hw3] at hh
                      dsimp only at hh
                      cases hz2 : F' b' c' with
                      | none => rw [hz2] at hh; exact hh.elim
                      | some z2 =>
                        rw [hz2] at hh
                        exact hr' fr3 σ H4 Hv4 vy vw y w b' c' z2 Q n4.rel ((r2.mono n3.ext).mono n4.ext) r4 hy3 hw3 hz2 fun v5 H5 Hv5 n5 q5 => hh v5 H5 Hv5 ((n.trans n4).trans n5) (.of q5)
            | _ => exact hh.elim
theorem d_chain {op op' : CmpOp} {r r' : R2} {F F' : D → D → Option D} (hr : OpS B r F) (hr' : OpS B r' F') (ho : OpR X (compareOp op) r) (ho' : OpR X (compareOp op') r') (ha : DE X B W a f) (hb : DE X B W b g) (hc : DE X B W c h)
    (hm : lastMarks [op, op'] [b, c] = false := by with_unfolding_all rfl) : DE X B W (.Compare a [op, op'] [b, c] pos) (eChain F F' f g h) := pe_imp (pe_chain ho ho' ha hb hc hm) fun _ _ _ h => entC hr hr' h
theorem dt_chain {op op' : CmpOp} {r r' : R2} {F F' : D → D → Option D} (hr : OpS B r F) (hr' : OpS B r' F') (ho : OpR X (compareOp op) r) (ho' : OpR X (compareOp op') r') (ha : DE X B W a f) (hb : DE X B W b g) (hc : DE X B W c h)
    (hm : lastMarks [op, op'] [b, c] = false := by with_unfolding_all rfl) : DT X B W (.Compare a [op, op'] [b, c] pos) (bE (eChain F F' f g h)) := pt_imp (pt_chain ho ho' ha hb hc hm) fun _ _ _ ⟨fr, Hv, R, h⟩ => entC hr hr' ⟨fr, Hv, R, postB_E h⟩
end
/-! ### arguments, displays -/
def aNil : Av := fun fr => .ok [] fr
def aCons (f : Ev) (g : Av) : Av := fun fr => (f fr).bind fun d fr1 => (g fr1).bind fun ds fr2 => .ok (d :: ds) fr2
def pers : D → Bool
  | .var _ => false
  | _ => true
def eTup (g : Av) : Ev := fun fr => (g fr).bind fun ds fr1 => if ds.length ≤ sizeLine ∧ ds.all pers = true then .ok (.tup ds) fr1 else .bad
def eLst (g : Av) : Ev := fun fr => (g fr).bind fun ds fr1 => if ds.length ≤ sizeLine ∧ ds.all pers = true then .ok (.lst ds) fr1 else .bad
section
variable {X : Cx} {B : Bd} {W : WX} {e : Expr} {es : List Expr} {f : Ev} {g : Av} {pos : Pos}
theorem repWs_mono {σ : L2.St} {Hv Hv1 : Hp} (s : Sub Hv Hv1) : ∀ {ds : List D} {vs : List V}, RepWs B σ Hv ds vs → RepWs B σ Hv1 ds vs
  | [], _, h => h
  | d :: ds, _, ⟨v, r, e, h1, h2⟩ => ⟨v, r, e, h1.mono s, repWs_mono s h2⟩
theorem repWs_repL {σ : L2.St} {Hv : Hp} : ∀ {ds : List D} {vs : List V}, RepWs B σ Hv ds vs → ds.all pers = true → RepL B.G Hv ds vs
  | [], vs, h, _ => by
    have h' : vs = [] := h
    rw [h']
    exact .nil
  | d :: ds, _, ⟨v, r, e, h1, h2⟩, p => by
    subst e
    rw [List.all_cons, Bool.and_eq_true] at p
    exact .cons (h1.rep fun i z => by rw [z] at p; cases p.1) (repWs_repL h2 p.2)
theorem repWs_length {σ : L2.St} {Hv : Hp} : ∀ {ds : List D} {vs : List V}, RepWs B σ Hv ds vs → vs.length = ds.length
  | [], vs, h => by
    have h' : vs = [] := h
    rw [h']
    rfl
  | d :: ds, _, ⟨v, r, e, _, h2⟩ => by rw [e, List.length_cons, List.length_cons, repWs_length h2]
theorem a_nil : DA X B W [] aNil := pa_imp pa_nil fun σ H Q ⟨fr, Hv, R, h⟩ => h [] H Hv (.refl R) rfl
theorem a_cons (ha : DE X B W e f) (hr : DA X B W es g) (hs : starEach (e :: es) X.env = (false, eval e X.env) :: starEach es X.env := by rfl) : DA X B W (e :: es) (aCons f g) := by
  refine pa_imp (pa_cons ha hr hs) fun σ H Q h => ?_
  obtain ⟨fr, Hv, R, h⟩ := h
  refine ⟨fr, Hv, R, ?_⟩
  unfold aCons at h
  cases hf : f fr with
  | bad => rw [hf] at h; exact h.elim
  | exc c fs fr1 => rw [hf] at h; exact h
  | ok d fr1 =>
    rw [hf] at h
    dsimp only [Res.bind] at h
    intro v H1 Hv1 n1 r1
    refine ⟨fr1, Hv1, n1.rel, ?_⟩
    cases hg : g fr1 with
    | bad => rw [hg] at h; exact h.elim
    | exc c fs fr2 =>
      rw [hg] at h
      exact fun dd H' Hv' n => h dd H' Hv' (n1.trans n)
    | ok ds fr2 =>
      rw [hg] at h
      exact fun vs H2 Hv2 n2 r2 => h (v :: vs) H2 Hv2 (n1.trans n2) ⟨v, vs, rfl, r1.mono n2.ext, r2⟩
theorem d_tup {x1} (ha : DA X B W es g) : DE X B W (.Tuple es x1 pos) (eTup g) := by
  refine pe_imp (pe_tup ha) fun σ H Q h => ?_
  obtain ⟨fr, Hv, R, h⟩ := h
  refine ⟨fr, Hv, R, ?_⟩
  unfold eTup at h
  cases hg : g fr with
  | bad => rw [hg] at h; exact h.elim
  | exc c fs fr1 => rw [hg] at h; exact h
  | ok ds fr1 =>
    rw [hg] at h
    dsimp only [Res.bind] at h
    split at h
    · next c =>
      intro vs H1 Hv1 n r
      exact ⟨by rw [repWs_length r]; exact c.1, fun p hp => lay_tup n.rel hp (repWs_repL r c.2) fun v H' Hv' m q => h v H' Hv' (n.trans m) (.of q)⟩
    · exact h.elim
theorem d_lst (ha : DA X B W es g) : DF X B W (.List es pos) (eLst g) := by
  refine pe_imp (pe_lst ha) fun σ H Q h => ?_
  obtain ⟨fr, Hv, R, h⟩ := h
  refine ⟨fr, Hv, R, ?_⟩
  unfold eLst at h
  cases hg : g fr with
  | bad => rw [hg] at h; exact h.elim
  | exc c fs fr1 => rw [hg] at h; exact h
  | ok ds fr1 =>
    rw [hg] at h
    dsimp only [Res.bind] at h
    split at h
    · next c =>
      intro vs H1 Hv1 n r
      exact ⟨by rw [repWs_length r]; exact c.1, fun p hp => lay_own n.rel hp (repWs_repL r c.2) fun q H' Hv' m hq => h q H' Hv' (n.trans m) (n.none R hq)⟩
    · exact h.elim
end
end KS
namespace KS
open PySem PySem.Spec L2
/-! ### subscripts and slices -/
def ixF : D → D → Option D
  | .lst ds, .int i => atI ds i
  | .tup ds, .int i => atI ds i
  | .scr ns, .int i => (atI ns i).map D.int
  | .str x, .int i => if x.length ≤ sizeLine then (atI x.cps.toList i).map fun c => .str ⟨#[c]⟩ else none
  | _, _ => none
def cutD {α : Type} (xs : List α) (lo hi : Option Int) : List α := (xs.drop (HT.sIx xs.length 0 lo)).take (HT.sIx xs.length xs.length hi - HT.sIx xs.length 0 lo)
def slF : D → Option Int → Option Int → Option D
  | .lst ds, lo, hi => some (.lst (cutD ds lo hi))
  | .tup ds, lo, hi => some (.tup (cutD ds lo hi))
  | .str x, lo, hi => if x.length ≤ sizeLine then some (.str (cutS x lo hi)) else none
  | _, _, _ => none
abbrev Ov := Fr → Res Fr (Option Int)
def oNone : Ov := fun fr => .ok none fr
def oSome (f : Ev) : Ov := fun fr => (f fr).bind fun d fr1 => match look fr1 d with
  | some (.int i) => .ok (some i) fr1
  | _ => .bad
def eSl (f : Ev) (lo hi : Ov) : Ev := fun fr => (f fr).bind fun x fr1 => (lo fr1).bind fun l fr2 => (hi fr2).bind fun u fr3 => match look fr3 x with
  | some a => ofO (slF a l u) fr3
  | none => .bad
def slFL : D → Option Int → Option Int → Option D
  | .lst ds, lo, hi => some (.lst (cutD ds lo hi))
  | _, _, _ => none
def eSlF (f : Ev) (lo hi : Ov) : Ev := fun fr => (f fr).bind fun x fr1 => (lo fr1).bind fun l fr2 => (hi fr2).bind fun u fr3 => match look fr3 x with
  | some a => ofO (slFL a l u) fr3
  | none => .bad
def PostO (B : Bd) (W : WX) (fr : Fr) (σ : L2.St) (H Hv : Hp) (r : Res Fr (Option Int)) (Q : Option Int → Hp → Prop) : Prop :=
  match r with
  | .ok o fr' => ∀ H' Hv', Nxt B fr σ H Hv fr' H' Hv' → Q o H'
  | .exc c fs fr' => ∀ dd H' Hv', Nxt B fr σ H Hv fr' H' Hv' → ExcAt B.G H' Hv' c fs dd → W (.ref (B.G.ecls c)) (some dd) σ H'
  | .bad => False
def dTO (B : Bd) (W : WX) (f : Ov) : TO := fun σ H Q => ∃ fr Hv, Rel B fr σ H Hv ∧ PostO B W fr σ H Hv (f fr) Q
def DO (X : Cx) (B : Bd) (W : WX) (e : Option Expr) (f : Ov) : Prop := PO X e (dTO B W f)
theorem cut_whole {α : Type} {xs : List α} {lo hi : Option Int} (c : HT.sIx xs.length 0 lo = 0 ∧ HT.sIx xs.length xs.length hi = xs.length) : cutD xs lo hi = xs := by
  unfold cutD
  rw [c.1, c.2, List.drop_zero, Nat.sub_zero, List.take_length]
theorem atI_repL {G : SE} {H : Hp} {ds : List D} {vs : List V} {i : Int} {d : D} (r : RepL G H ds vs) (h : atI ds i = some d) : ∃ v, atI vs i = some v ∧ Rep G H d v := by
  unfold atI at h ⊢
  rw [r.length]
  cases e : ixN ds.length i with
  | none => rw [e] at h; cases h
  | some j =>
    rw [e] at h
    exact r.get h
theorem atI_map {α β : Type} (f : α → β) {xs : List α} {i : Int} : atI (xs.map f) i = (atI xs i).map f := by
  unfold atI
  rw [List.length_map]
  cases ixN xs.length i with
  | none => rfl
  | some j => simp
theorem cut_repL {G : SE} {H : Hp} {ds : List D} {vs : List V} {lo hi : Option Int} (r : RepL G H ds vs) : RepL G H (cutD ds lo hi) (cutV vs lo hi) := by
  unfold cutD cutV
  rw [r.length]
  exact (r.drop _).take _
section
variable {X : Cx} {B : Bd} {W : WX} {a b : Expr} {lo hi : Option Expr} {f g : Ev} {l u : Ov} {pos p2 : Pos}
theorem ops_ix (hK : X.K = B.G.K) : OpS B (fun x y H Q => rIxL X.K x y H Q ∨ (rIxT X.K x y H Q ∨ rIxS x y H Q)) ixF := by
  intro fr σ H Hv x y dx dy a b z Q R rx ry hx hy hz k
  unfold ixF at hz
  split at hz
  · obtain ⟨p, vs, rfl, q, r⟩ := R.list_of rx hx
    rw [R.int_of ry hy]
    obtain ⟨v, e1, e2⟩ := atI_repL r hz
    exact .inl ⟨p, vs, _, v, rfl, rfl, SqL.of q, e1, k v H Hv (.refl R) e2⟩
  · obtain ⟨p, vs, rfl, q, _, r⟩ := R.tup_of rx hx
    rw [R.int_of ry hy]
    obtain ⟨v, e1, e2⟩ := atI_repL r hz
    exact .inr (.inl ⟨p, vs, _, v, rfl, rfl, by rw [hK]; exact q, e1, k v H Hv (.refl R) e2⟩)
  · obtain ⟨p, rfl, q⟩ := Rep.scr_inv (look_scalar R rx hx rfl)
    rw [R.int_of ry hy]
    simp only [Option.map_eq_some_iff] at hz
    obtain ⟨n, e1, rfl⟩ := hz
    exact .inl ⟨p, _, _, .int n, rfl, rfl, by rw [hK]; exact R.sub.sql q, by rw [atI_map, e1]; rfl, k _ H Hv (.refl R) repI⟩
  · split at hz
    · next c =>
      rw [R.str_of rx hx, R.int_of ry hy]
      simp only [Option.map_eq_some_iff] at hz
      obtain ⟨n, e1, rfl⟩ := hz
      exact .inr (.inr ⟨_, _, n, rfl, rfl, c, e1, k _ H Hv (.refl R) repS⟩)
    · cases hz
  · cases hz
theorem d_ix (ha : DE X B W a f) (hb : DE X B W b g) (hs : PlainIx b := by exact fun _ _ => rfl) (hK : X.K = B.G.K := by rfl) : DE X B W (.Subscript a b pos) (eOp2 ixF f g) :=
  pe_imp (pe_ix ix_seq ha hb hs) fun _ _ _ h => ent2 (ops_ix hK) h
theorem do_none : DO X B W none oNone := ⟨fun pins s σ H Q I ⟨fr, Hv, R, h⟩ => po_none.run pins s σ H Q I (h H Hv (.refl R))⟩
theorem po_imp {e : Option Expr} {t t' : TO} (h : PO X e t) (i : ∀ σ H Q, t' σ H Q → t σ H Q) : PO X e t' := ⟨fun pins s σ H Q I hw => h.run pins s σ H Q I (i σ H Q hw)⟩
theorem do_some (ha : DE X B W a f) : DO X B W (some a) (oSome f) := by
  refine po_imp (po_some ha) fun σ H Q h => ?_
  obtain ⟨fr, Hv, R, h⟩ := h
  refine ⟨fr, Hv, R, ?_⟩
  unfold oSome at h
  cases hf : f fr with
  | bad => rw [hf] at h; exact h.elim
  | exc c fs fr1 => rw [hf] at h; exact h
  | ok d fr1 =>
    rw [hf] at h
    dsimp only [Res.bind] at h
    intro v H1 Hv1 n r
    split at h
    · next i e => exact ⟨i, n.rel.int_of r e, h H1 Hv1 n⟩
    · exact h.elim
theorem entSl {r : V → Option Int → Option Int → Hp → VK → Prop} {post : Fr → L2.St → Hp → Hp → D → Fr → VK → Prop} {σ : L2.St} {H : Hp} {Q : VK} {fr : Fr} {Hv : Hp} (R : Rel B fr σ H Hv) {k : D → Option Int → Option Int → Fr → Res Fr D} {P : Res Fr D → Prop}
    (hex : ∀ c fs fr', P (.exc c fs fr') → ∀ dd H' Hv', Nxt B fr σ H Hv fr' H' Hv' → ExcAt B.G H' Hv' c fs dd → W (.ref (B.G.ecls c)) (some dd) σ H') (hb : ¬ P .bad)
    (h : P ((f fr).bind fun x fr1 => (l fr1).bind fun l fr2 => (u fr2).bind fun u fr3 => k x l u fr3))
    (hk : ∀ x lo hi fr3 v H3 Hv3, Nxt B fr σ H Hv fr3 H3 Hv3 → RepW B σ Hv3 x v → P (k x lo hi fr3) → r v lo hi H3 Q) : tSl r (dTE B W f) (dTO B W l) (dTO B W u) σ H Q := by
  refine ⟨fr, Hv, R, ?_⟩
  cases hf : f fr with
  | bad => rw [hf] at h; exact (hb h).elim
  | exc c fs fr1 => rw [hf] at h; exact hex _ _ _ h
  | ok x fr1 =>
    rw [hf] at h
    dsimp only [Res.bind] at h
    intro vx H1 Hv1 n1 r1
    refine ⟨fr1, Hv1, n1.rel, ?_⟩
    cases hg : l fr1 with
    | bad => rw [hg] at h; exact (hb h).elim
    | exc c fs fr2 =>
      rw [hg] at h
      exact fun dd H' Hv' n => hex _ _ _ h dd H' Hv' (n1.trans n)
    | ok lo fr2 =>
      rw [hg] at h
      dsimp only at h
      intro H2 Hv2 n2
      refine ⟨fr2, Hv2, n2.rel, ?_⟩
      cases hu : u fr2 with
      | bad => rw [hu] at h; exact (hb h).elim
      | exc c fs fr3 =>
        rw [hu] at h
        exact fun dd H' Hv' n => hex _ _ _ h dd H' Hv' ((n1.trans n2).trans n)
      | ok hi fr3 =>
        rw [hu] at h
        exact fun H3 Hv3 n3 => hk x lo hi fr3 vx H3 Hv3 ((n1.trans n2).trans n3) ((r1.mono n2.ext).mono n3.ext) h
theorem d_sl (ha : DE X B W a f) (hl : DO X B W lo l) (hu : DO X B W hi u) (hK : X.K = B.G.K := by rfl) : DE X B W (.Subscript a (.Slice lo hi none p2) pos) (eSl f l u) := by
  refine pe_imp (pe_slice (sl_list.or (sl_tupA.or sl_str)) ha hl hu) fun σ H Q h => ?_
  obtain ⟨fr, Hv, R, h⟩ := h
  refine entSl (post := fun _ _ _ _ _ _ _ => True) R (P := fun r => PostE B W fr σ H Hv r Q) (fun c fs fr' h => h) (fun h => h) h fun x lo hi fr3 v H3 Hv3 n rx h => ?_
  split at h
  · next a ea =>
    cases hz : slF a lo hi with
    | none => rw [hz] at h; exact h.elim
    | some z =>
      rw [hz] at h
      unfold slF at hz
      split at hz
      · cases hz
        obtain ⟨p, vs, rfl, q, r⟩ := n.rel.list_of rx ea
        exact .inl ⟨p, vs, rfl, SqL.of q, fun t ht => lay_lst n.rel ht (cut_repL r) fun v H' Hv' m q => h v H' Hv' (n.trans m) (.of q)⟩
      · cases hz
        obtain ⟨p, vs, rfl, q, qv, r⟩ := n.rel.tup_of rx ea
        refine .inr (.inl ⟨p, vs, rfl, by rw [hK]; exact q, fun c => ?_, fun c t ht => lay_tup n.rel ht (cut_repL r) fun v H' Hv' m q => h v H' Hv' (n.trans m) (.of q)⟩)
        refine h _ H3 Hv3 n (.of ?_)
        rw [cut_whole (by rw [r.length] at c; exact c)]
        exact Rep.tup qv r
      · split at hz
        · next c =>
          cases hz
          rw [n.rel.str_of rx ea]
          exact .inr (.inr ⟨_, rfl, c, h _ H3 Hv3 n (.of repS)⟩)
        · cases hz
      · cases hz
  · exact h.elim
theorem d_slF (ha : DE X B W a f) (hl : DO X B W lo l) (hu : DO X B W hi u) (hK : X.K = B.G.K := by rfl) : DF X B W (.Subscript a (.Slice lo hi none p2) pos) (eSlF f l u) := by
  refine pe_imp (pe_slice sl_list ha hl hu) fun σ H Q h => ?_
  obtain ⟨fr, Hv, R, h⟩ := h
  refine entSl (post := fun _ _ _ _ _ _ _ => True) R (P := fun r => PostF B W fr σ H Hv r Q) (fun c fs fr' h => h) (fun h => h) h fun x lo hi fr3 v H3 Hv3 n rx h => ?_
  split at h
  · next a ea =>
    cases hz : slFL a lo hi with
    | none => rw [hz] at h; exact h.elim
    | some z =>
      rw [hz] at h
      unfold slFL at hz
      split at hz
      · cases hz
        obtain ⟨p, vs, rfl, q, r⟩ := n.rel.list_of rx ea
        exact ⟨p, vs, rfl, SqL.of q, fun t ht => lay_own n.rel ht (cut_repL r) fun q H' Hv' m hq => h q H' Hv' (n.trans m) (n.none R hq)⟩
      · cases hz
  · exact h.elim
end
/-! ### attributes of objects -/
def idx (n : Nat) : List Nat → List D → Option D
  | m :: ns, d :: ds => if m = n then some d else idx n ns ds
  | _, _ => none
def eAttr (cs : List Nat) (n : Nat) (f : Ev) : Ev := eOp1 (fun d => match d with
  | .obj c ns fs => if c ∈ cs then idx n ns fs else none
  | _ => none) f
theorem idx_lookup {G : SE} {H : Hp} {n : Nat} (inj : ∀ m, G.fld m = G.fld n → m = n) : ∀ {ns : List Nat} {fs : List D} {vs : List V} {d : D}, RepL G H fs vs → idx n ns fs = some d → ∃ v, ((ns.map G.fld).zip vs).lookup (G.fld n) = some v ∧ Rep G H d v
  | [], _, _, _, _, h => by simp [idx] at h
  | m :: ns, [], _, _, _, h => by simp [idx] at h
  | m :: ns, d' :: fs, vs, d, r, h => by
    obtain ⟨v, t, rfl, h1, h2⟩ := r.cons_inv
    rw [idx] at h
    by_cases e : m = n
    · rw [if_pos e] at h
      cases h
      refine ⟨v, ?_, h1⟩
      rw [List.map_cons, List.zip_cons_cons, e]
      simp [List.lookup]
    · rw [if_neg e] at h
      obtain ⟨v', e1, e2⟩ := idx_lookup inj h2 h
      refine ⟨v', ?_, e2⟩
      rw [List.map_cons, List.zip_cons_cons]
      have ne : (G.fld n == G.fld m) = false := by
        rw [beq_eq_false_iff_ne]
        exact fun z => e (inj m z.symm)
      simp only [List.lookup, ne]
      exact e1
section
variable {X : Cx} {B : Bd} {W : WX} {a : Expr} {f : Ev} {pos : Pos}
theorem obj_of {fr : Fr} {σ : L2.St} {H Hv : Hp} (R : Rel B fr σ H Hv) {d : D} {v : V} {c : Nat} {ns : List Nat} {fs : List D} (h : RepW B σ Hv d v) (hl : look fr d = some (.obj c ns fs)) :
    ∃ p dx vs, v = .ref p ∧ H p = some (.ins (B.G.cls c) dx ((ns.map B.G.fld).zip vs)) ∧ ns.length = vs.length ∧ RepL B.G Hv fs vs := by
  cases d with
  | var i =>
    obtain ⟨hm, hs⟩ := h
    obtain ⟨p, hs', hv, _, dx, vs, e, l, r⟩ := R.own i _ (look_var hl) hm
    rw [hs] at hs'
    cases hs'
    exact ⟨p, dx, vs, rfl, e, l, r⟩
  | obj c' ns' fs' =>
    have e : D.obj c' ns' fs' = .obj c ns fs := Option.some.inj hl
    cases e
    obtain ⟨p, dx, vs, rfl, q, l, r⟩ := Rep.obj_inv h
    exact ⟨p, dx, vs, rfl, R.sub _ _ q, l, r⟩
  | _ => cases hl
theorem d_attr {n : Nat} {x : Str} {cs : List Nat} (ha : DE X B W a f) (hx : x = B.G.fld n) (inj : ∀ m, B.G.fld m = B.G.fld n → m = n) (hc : ∀ c ∈ cs, Cls X.K (B.G.cls c) ∧ NoAttr X.K (B.G.cls c) x)
    (hb : attributeBase a x X.env (eval a X.env) = eval a X.env := by rfl) : DE X B W (.Attribute a x pos) (eAttr cs n f) := by
  refine pe_imp (pe_fld ha hb) fun σ H Q h => ?_
  have e := ent1 (r := fun x1 H1 Q => ∃ p C dx fs v, x1 = .ref p ∧ H1 p = some (.ins C dx fs) ∧ Cls X.K C ∧ NoAttr X.K C x ∧ fs.lookup x = some v ∧ Q v H1) ?_ h
  · exact e
  · intro fr σ H Hv y dy b z Q R ry hy hz k
    cases b with
    | obj c ns fs =>
      dsimp only at hz
      split at hz
      · next hcc =>
        obtain ⟨p, dx, vs, rfl, q, l, r⟩ := obj_of R ry hy
        obtain ⟨v, e1, e2⟩ := idx_lookup inj r hz
        obtain ⟨c1, c2⟩ := hc c hcc
        exact ⟨p, _, dx, _, v, rfl, q, c1, c2, by rw [hx]; exact e1, k v H Hv (.refl R) e2⟩
      · cases hz
    | _ => cases hz
end
/-! ### calls of built-ins -/
def CaS1 (B : Bd) (r : List V → Hp → VK → Prop) (F : D → Option D) : Prop := UnS B (fun x => r [x]) F
def CaF1 (B : Bd) (r : List V → Hp → VK → Prop) (F : D → Option D) : Prop := ∀ fr σ H Hv x dx a z (Q : VK), Rel B fr σ H Hv → RepW B σ Hv dx x → look fr dx = some a → F a = some z →
  (∀ p H' Hv', Nxt B fr σ H Hv fr H' Hv' → H p = none → Hv' p = none → Cell B.G H' Hv' p z → Q (.ref p) H') → r [x] H Q
def CaS2 (B : Bd) (r : List V → Hp → VK → Prop) (F : D → D → Option D) : Prop := OpS B (fun x y => r [x, y]) F
section
variable {X : Cx} {B : Bd} {W : WX} {a b : Expr} {f g : Ev} {pos p : Pos} {x : Str} {idn T : String} {r : List V → Hp → VK → Prop} {F : D → Option D} {F2 : D → D → Option D}
theorem entF1 {σ : L2.St} {H : Hp} {Q : VK} (hr : CaF1 B r F) (h : dTF B W (eOp1 F f) σ H Q) : tUn (fun x => r [x]) (dTE B W f) σ H Q := by
  obtain ⟨fr, Hv, R, h⟩ := h
  refine ⟨fr, Hv, R, ?_⟩
  unfold eOp1 at h
  cases hf : f fr with
  | bad => rw [hf] at h; exact h.elim
  | exc c fs fr1 => rw [hf] at h; exact h
  | ok x fr1 =>
    rw [hf] at h
    dsimp only [Res.bind] at h
    intro vx H1 Hv1 n1 r1
    cases hx : look fr1 x with
    | none => rw [hx] at h; exact h.elim
    | some a =>
      rw [hx] at h
      dsimp only at h
      cases hz : F a with
      | none => rw [hz] at h; exact h.elim
      | some z =>
        rw [hz] at h
        exact hr fr1 σ H1 Hv1 vx x a z Q n1.rel r1 hx hz fun p H' Hv' n hp q => h p H' Hv' (n1.trans n) (n1.none R hp) q
theorem d_b1 (hs : CaS1 B r F) (hc : CallR X (.builtin idn) r) (hm : X.mg x = none) (ha : DE X B W a f) (hv : bootBuiltins x = some (.builtin idn) := by decide +kernel) (hg : Gl X x := by rfl) (hn : x ≠ "__name__" := by decide) (hdb : (x == ("__debug__" : Str)) = false := by decide)
    (he : starEach [a] X.env = (false, eval a X.env) :: starEach [] X.env := by rfl) (hpl : (backTo pos (starEach [] X.env)).any (·.1) = false := by rfl) : DE X B W (.Call (.Name x p) [a] [] pos) (eOp1 F f) :=
  pe_imp (pe_callB hc hg hm hv (pa_cons ha pa_nil he) hn hdb he hpl) fun _ _ _ h => ent1 hs h
theorem d_t1 (hs : CaS1 B r F) (hc : CallR X (.type T) r) (hm : X.mg x = none) (ha : DE X B W a f) (hv : bootBuiltins x = some (.type T) := by decide +kernel) (hg : Gl X x := by rfl) (hn : x ≠ "__name__" := by decide) (hdb : (x == ("__debug__" : Str)) = false := by decide)
    (he : starEach [a] X.env = (false, eval a X.env) :: starEach [] X.env := by rfl) (hpl : (backTo pos (starEach [] X.env)).any (·.1) = false := by rfl) : DE X B W (.Call (.Name x p) [a] [] pos) (eOp1 F f) :=
  pe_imp (pe_callTy hc hg hm hv (pa_cons ha pa_nil he) hn hdb he hpl) fun _ _ _ h => ent1 hs h
theorem d_b1F (hs : CaF1 B r F) (hc : CallR X (.builtin idn) r) (hm : X.mg x = none) (ha : DE X B W a f) (hv : bootBuiltins x = some (.builtin idn) := by decide +kernel) (hg : Gl X x := by rfl) (hn : x ≠ "__name__" := by decide) (hdb : (x == ("__debug__" : Str)) = false := by decide)
    (he : starEach [a] X.env = (false, eval a X.env) :: starEach [] X.env := by rfl) (hpl : (backTo pos (starEach [] X.env)).any (·.1) = false := by rfl) : DF X B W (.Call (.Name x p) [a] [] pos) (eOp1 F f) :=
  pe_imp (pe_callB hc hg hm hv (pa_cons ha pa_nil he) hn hdb he hpl) fun _ _ _ h => entF1 hs h
theorem d_t1F (hs : CaF1 B r F) (hc : CallR X (.type T) r) (hm : X.mg x = none) (ha : DE X B W a f) (hv : bootBuiltins x = some (.type T) := by decide +kernel) (hg : Gl X x := by rfl) (hn : x ≠ "__name__" := by decide) (hdb : (x == ("__debug__" : Str)) = false := by decide)
    (he : starEach [a] X.env = (false, eval a X.env) :: starEach [] X.env := by rfl) (hpl : (backTo pos (starEach [] X.env)).any (·.1) = false := by rfl) : DF X B W (.Call (.Name x p) [a] [] pos) (eOp1 F f) :=
  pe_imp (pe_callTy hc hg hm hv (pa_cons ha pa_nil he) hn hdb he hpl) fun _ _ _ h => entF1 hs h
theorem d_b2 (hs : CaS2 B r F2) (hc : CallR X (.builtin idn) r) (hm : X.mg x = none) (ha : DE X B W a f) (hb : DE X B W b g) (hv : bootBuiltins x = some (.builtin idn) := by decide +kernel) (hg : Gl X x := by rfl) (hn : x ≠ "__name__" := by decide) (hdb : (x == ("__debug__" : Str)) = false := by decide)
    (he2 : starEach [b] X.env = (false, eval b X.env) :: starEach [] X.env := by rfl) (he : starEach [a, b] X.env = (false, eval a X.env) :: starEach [b] X.env := by rfl) (hpl : (backTo pos (starEach [b] X.env)).any (·.1) = false := by rfl) : DE X B W (.Call (.Name x p) [a, b] [] pos) (eOp2 F2 f g) :=
  pe_imp (pe_callB hc hg hm hv (pa_cons ha (pa_cons hb pa_nil he2) he) hn hdb he hpl) fun _ _ _ h => ent2 hs h
def lenF : D → Option D
  | .str x => if x.length ≤ sizeLine then some (.int x.length) else none
  | .tup ds => some (.int ds.length)
  | .lst ds => some (.int ds.length)
  | .scr ns => some (.int ns.length)
  | _ => none
theorem cas_len (hK : X.K = B.G.K) : CaS1 B (fun xs H Q => ∃ x n, xs = [x] ∧ LenV X.K x H n ∧ Q (.int n) H) lenF := by
  intro fr σ H Hv x dx a z Q R rx hx hz k
  unfold lenF at hz
  split at hz
  · split at hz
    · next c =>
      cases hz
      rw [R.str_of rx hx]
      exact ⟨_, _, rfl, ⟨c, rfl⟩, k _ H Hv (.refl R) repI⟩
    · cases hz
  · cases hz
    obtain ⟨p, vs, rfl, q, _, r⟩ := R.tup_of rx hx
    refine ⟨_, _, rfl, .inr ⟨vs, by rw [hK]; exact q, rfl⟩, k _ H Hv (.refl R) (by rw [r.length]; exact repI)⟩
  · cases hz
    obtain ⟨p, vs, rfl, q, r⟩ := R.list_of rx hx
    refine ⟨_, _, rfl, .inl ⟨vs, SqL.of q, rfl⟩, k _ H Hv (.refl R) (by rw [r.length]; exact repI)⟩
  · cases hz
    obtain ⟨p, rfl, q⟩ := Rep.scr_inv (look_scalar R rx hx rfl)
    refine ⟨_, _, rfl, .inl ⟨_, by rw [hK]; exact R.sub.sql q, rfl⟩, k _ H Hv (.refl R) (by rw [List.length_map]; exact repI)⟩
  · cases hz
def intF : D → Option D
  | .int i => some (.int i)
  | .bl b => some (.int (if b then 1 else 0))
  | .str x => if x.length ≤ 640 then (PySem.intText? x).map D.int else none
  | _ => none
theorem cas_int : CaS1 B (fun xs H Q => ((∃ i, xs = [.int i] ∧ Q (.int i) H) ∨ ∃ k, xs = [.bl k] ∧ Q (.int (if k then 1 else 0)) H) ∨ ∃ a n, xs = [.str a] ∧ PySem.intText? a = some n ∧ a.length ≤ 640 ∧ Q (.int n) H) intF := by
  intro fr σ H Hv x dx a z Q R rx hx hz k
  unfold intF at hz
  split at hz
  · cases hz
    rw [R.int_of rx hx]
    exact .inl (.inl ⟨_, rfl, k _ H Hv (.refl R) repI⟩)
  · cases hz
    rw [R.bl_of rx hx]
    exact .inl (.inr ⟨_, rfl, k _ H Hv (.refl R) repI⟩)
  · split at hz
    · next c =>
      simp only [Option.map_eq_some_iff] at hz
      obtain ⟨n, e, rfl⟩ := hz
      rw [R.str_of rx hx]
      exact .inr ⟨_, n, rfl, e, c, k _ H Hv (.refl R) repI⟩
    · cases hz
  · cases hz
theorem call_intA : CallR X (.type "int") (fun xs H Q => ((∃ i, xs = [.int i] ∧ Q (.int i) H) ∨ ∃ k, xs = [.bl k] ∧ Q (.int (if k then 1 else 0)) H) ∨ ∃ a n, xs = [.str a] ∧ PySem.intText? a = some n ∧ a.length ≤ 640 ∧ Q (.int n) H) := by
  intro pins s σ H xs us Q I r h
  rcases h with h | h
  · exact call_int1 pins s σ H xs us Q I r h
  · exact call_int_str pins s σ H xs us Q I r h
def absF : D → Option D
  | .int i => some (.int (if i < 0 then -i else i))
  | _ => none
theorem cas_abs : CaS1 B (fun xs H Q => ∃ i, xs = [.int i] ∧ Q (.int (if i < 0 then -i else i)) H) absF := by
  intro fr σ H Hv x dx a z Q R rx hx hz k
  unfold absF at hz
  split at hz
  · cases hz
    rw [R.int_of rx hx]
    exact ⟨_, rfl, k _ H Hv (.refl R) repI⟩
  · cases hz
def min2F : D → D → Option D
  | .int i, .int j => some (.int (if j < i then j else i))
  | _, _ => none
def max2F : D → D → Option D
  | .int i, .int j => some (.int (if j > i then j else i))
  | _, _ => none
theorem cas_min2 : CaS2 B (fun xs H Q => ∃ i j, xs = [.int i, .int j] ∧ Q (.int (if j < i then j else i)) H) min2F := ops_ints (ints_of fun x y h => by cases x <;> cases y <;> first | rfl | exact absurd ⟨rfl, rfl⟩ (h _ _)) fun i j z H Q e k => by
  cases e
  exact ⟨i, j, rfl, k _ repI⟩
theorem cas_max2 : CaS2 B (fun xs H Q => ∃ i j, xs = [.int i, .int j] ∧ Q (.int (if j > i then j else i)) H) max2F := ops_ints (ints_of fun x y h => by cases x <;> cases y <;> first | rfl | exact absurd ⟨rfl, rfl⟩ (h _ _)) fun i j z H Q e k => by
  cases e
  exact ⟨i, j, rfl, k _ repI⟩
def strF : D → Option D
  | .int i => if i.natAbs.log2 < 1920 then some (.str (toString i)) else none
  | _ => none
theorem cas_str : CaS1 B (fun xs H Q => ∃ i, xs = [.int i] ∧ i.natAbs.log2 < 1920 ∧ Q (.str (toString i)) H) strF := by
  intro fr σ H Hv x dx a z Q R rx hx hz k
  unfold strF at hz
  split at hz
  · split at hz
    · next c =>
      cases hz
      rw [R.int_of rx hx]
      exact ⟨_, rfl, c, k _ H Hv (.refl R) repS⟩
    · cases hz
  · cases hz
def tupF : D → Option D
  | .lst ds => some (.tup ds)
  | .tup ds => some (.tup ds)
  | _ => none
theorem cas_tup (hK : X.K = B.G.K) : CaS1 B (fun xs H Q => ∃ p ys, xs = [.ref p] ∧ ((SqL X.K H p ys ∧ ∀ l, H l = none → Q (.ref l) (upd H l (.tup ys))) ∨ (SqT X.K H p ys ∧ Q (.ref p) H))) tupF := by
  intro fr σ H Hv x dx a z Q R rx hx hz k
  unfold tupF at hz
  split at hz
  · cases hz
    obtain ⟨p, vs, rfl, q, r⟩ := R.list_of rx hx
    exact ⟨p, vs, rfl, .inl ⟨SqL.of q, fun t ht => lay_tup R ht r k⟩⟩
  · cases hz
    obtain ⟨p, vs, rfl, q, qv, r⟩ := R.tup_of rx hx
    exact ⟨p, vs, rfl, .inr ⟨by rw [hK]; exact q, k _ H Hv (.refl R) (Rep.tup qv r)⟩⟩
  · cases hz
def lstF : D → Option D
  | .lst ds => some (.lst ds)
  | .tup ds => some (.lst ds)
  | _ => none
theorem caf_lst (hK : X.K = B.G.K) : CaF1 B (fun xs H Q => ∃ p ys, xs = [.ref p] ∧ (SqL X.K H p ys ∨ SqT X.K H p ys) ∧ ∀ l, H l = none → Q (.ref l) (upd H l (.lst ys))) lstF := by
  intro fr σ H Hv x dx a z Q R rx hx hz k
  unfold lstF at hz
  split at hz
  · cases hz
    obtain ⟨p, vs, rfl, q, r⟩ := R.list_of rx hx
    exact ⟨p, vs, rfl, .inl (SqL.of q), fun t ht => lay_own R ht r k⟩
  · cases hz
    obtain ⟨p, vs, rfl, q, qv, r⟩ := R.tup_of rx hx
    exact ⟨p, vs, rfl, .inr (by rw [hK]; exact q), fun t ht => lay_own R ht r k⟩
  · cases hz
def blsOf : List D → Option (List Bool)
  | [] => some []
  | .bl b :: ds => (blsOf ds).map (b :: ·)
  | _ => none
theorem bls_rep {G : SE} {H : Hp} : ∀ {ds : List D} {vs : List V} {bs : List Bool}, RepL G H ds vs → blsOf ds = some bs → vs = bs.map V.bl
  | [], vs, bs, r, e => by
    rw [r.nil_inv]
    cases e
    rfl
  | d :: ds, vs, bs, r, e => by
    obtain ⟨v, t, rfl, h1, h2⟩ := r.cons_inv
    cases d with
    | bl b =>
      simp only [blsOf, Option.map_eq_some_iff] at e
      obtain ⟨cs, e1, rfl⟩ := e
      rw [Rep.bl_iff.mp h1, bls_rep h2 e1]
      rfl
    | _ => simp [blsOf] at e
def allF : D → Option D
  | .lst ds => (blsOf ds).map fun bs => .bl (bs.all id)
  | _ => none
def anyF : D → Option D
  | .lst ds => (blsOf ds).map fun bs => .bl (bs.any id)
  | _ => none
theorem cas_all (hK : X.K = B.G.K) : CaS1 B (rAll X.K) allF := by
  intro fr σ H Hv x dx a z Q R rx hx hz k
  unfold allF at hz
  split at hz
  · simp only [Option.map_eq_some_iff] at hz
    obtain ⟨bs, e, rfl⟩ := hz
    obtain ⟨p, vs, rfl, q, r⟩ := R.list_of rx hx
    have ev := bls_rep r e
    subst ev
    exact ⟨p, bs, rfl, SqL.of q, k _ H Hv (.refl R) repB⟩
  · cases hz
theorem cas_any (hK : X.K = B.G.K) : CaS1 B (rAny X.K) anyF := by
  intro fr σ H Hv x dx a z Q R rx hx hz k
  unfold anyF at hz
  split at hz
  · simp only [Option.map_eq_some_iff] at hz
    obtain ⟨bs, e, rfl⟩ := hz
    obtain ⟨p, vs, rfl, q, r⟩ := R.list_of rx hx
    have ev := bls_rep r e
    subst ev
    exact ⟨p, bs, rfl, SqL.of q, k _ H Hv (.refl R) repB⟩
  · cases hz
def intsOf : List D → Option (List Int)
  | [] => some []
  | .int b :: ds => (intsOf ds).map (b :: ·)
  | _ => none
theorem ints_rep {G : SE} {H : Hp} : ∀ {ds : List D} {vs : List V} {bs : List Int}, RepL G H ds vs → intsOf ds = some bs → vs = bs.map V.int
  | [], vs, bs, r, e => by
    rw [r.nil_inv]
    cases e
    rfl
  | d :: ds, vs, bs, r, e => by
    obtain ⟨v, t, rfl, h1, h2⟩ := r.cons_inv
    cases d with
    | int b =>
      simp only [intsOf, Option.map_eq_some_iff] at e
      obtain ⟨cs, e1, rfl⟩ := e
      rw [Rep.int_iff.mp h1, ints_rep h2 e1]
      rfl
    | _ => simp [intsOf] at e
def sumF : D → Option D
  | .lst ds => (intsOf ds).map fun bs => .int bs.sum
  | _ => none
theorem cas_sum (hK : X.K = B.G.K) : CaS1 B (rSum X.K) sumF := by
  intro fr σ H Hv x dx a z Q R rx hx hz k
  unfold sumF at hz
  split at hz
  · simp only [Option.map_eq_some_iff] at hz
    obtain ⟨bs, e, rfl⟩ := hz
    obtain ⟨p, vs, rfl, q, r⟩ := R.list_of rx hx
    have ev := ints_rep r e
    subst ev
    exact ⟨p, bs, rfl, SqL.of q, k _ H Hv (.refl R) repI⟩
  · cases hz
end
end KS
namespace KS
open PySem PySem.Spec L2
/-! ### what a def promises -/
def ioA (ms : List Bool) (vs : List V) (a : Addr) : Prop := ∃ i : Nat, ms[i]? = some true ∧ vs[i]? = some (V.ref a)
structure Start (G : SE) (ms : List Bool) (ds : List D) (vs : List V) (H Hv : Hp) : Prop where
  sub : Sub Hv H
  tab : ∀ P ∈ G.tabs, TabH H P ∧ Hv P = none
  lend : ds.length = ms.length
  lenv : vs.length = ms.length
  val : ∀ (i : Nat) (d : D), ms[i]? = some false → ds[i]? = some d → ∃ v, vs[i]? = some v ∧ Rep G Hv d v
  own : ∀ (i : Nat) (d : D), ms[i]? = some true → ds[i]? = some d → ∃ a, vs[i]? = some (.ref a) ∧ Hv a = none ∧ Cell G H Hv a d
  sep : ∀ (i j : Nat) (a : Addr), i ≠ j → ms[i]? = some true → ms[j]? = some true → vs[i]? = some (.ref a) → vs[j]? ≠ some (.ref a)
structure FinC (G : SE) (ms : List Bool) (outs : List D) (vs : List V) (H Hv H' Hv' : Hp) : Prop where
  sub : Sub Hv' H'
  ext : Sub Hv Hv'
  new : ∀ b o, Hv' b = some o → Hv b = some o ∨ NewOk H b o
  keep : ∀ b o, H b = some o → ¬ ioA ms vs b → b ∉ G.tabs → H' b = some o
  tab : ∀ P ∈ G.tabs, TabH H' P ∧ Hv' P = none
  io : ∀ (i : Nat) (a : Addr), ms[i]? = some true → vs[i]? = some (.ref a) → Hv' a = none ∧ ∃ d, outs[i]? = some d ∧ Cell G H' Hv' a d
def RetR (rf : Bool) (G : SE) (H H' Hv' : Hp) (d : D) (v : V) : Prop :=
  if rf = true then ∃ p, v = .ref p ∧ H p = none ∧ Hv' p = none ∧ Cell G H' Hv' p d else Rep G Hv' d v
def PostC (G : SE) (ms : List Bool) (rf : Bool) (vs : List V) (H Hv : Hp) (r : Res (List D) D) (Q : VK) (E : XK) : Prop :=
  match r with
  | .ok d outs => ∀ v H' Hv', FinC G ms outs vs H Hv H' Hv' → RetR rf G H H' Hv' d v → Q v H'
  | .exc c fs outs => ∀ dd H' Hv', FinC G ms outs vs H Hv H' Hv' → ExcAt G H' Hv' c fs dd → E (.ref (G.ecls c)) (some dd) H'
  | .bad => False
def spOf (G : SE) (ms : List Bool) (rf : Bool) (F : Fn) : Sp := fun vs H Q E => ∃ ds Hv, Start G ms ds vs H Hv ∧ PostC G ms rf vs H Hv (F ds) Q E
/-! ### a call -/
def argC (fr : Fr) : List Bool → List D → Option (List D)
  | [], [] => some []
  | true :: ms, .var i :: ds => match fr[i]? with
    | some (some c) => if isCell c = true then (argC fr ms ds).map (c :: ·) else none
    | _ => none
  | false :: ms, d :: ds => if pers d = true then (argC fr ms ds).map (d :: ·) else none
  | _, _ => none
def ioV : List Bool → List D → List Nat
  | true :: ms, .var i :: ds => i :: ioV ms ds
  | _ :: ms, _ :: ds => ioV ms ds
  | _, _ => []
def ioP : List Bool → List D → List D → List (Nat × D)
  | true :: ms, .var i :: ds, o :: os => (i, o) :: ioP ms ds os
  | _ :: ms, _ :: ds, _ :: os => ioP ms ds os
  | _, _, _ => []
def setP (fr : Fr) : List (Nat × D) → Fr
  | [] => fr
  | (i, d) :: r => setP (fr.set i (some d)) r
def eCall (ms : List Bool) (F : Fn) (g : Av) : Ev := fun fr => (g fr).bind fun ds fr1 => match argC fr1 ms ds with
  | none => .bad
  | some cs => if (ioV ms ds).Nodup then (match F cs with
    | .ok d outs => if outs.length = ms.length then .ok d (setP fr1 (ioP ms ds outs)) else .bad
    | .exc c fs outs => if outs.length = ms.length then .exc c fs (setP fr1 (ioP ms ds outs)) else .bad
    | .bad => .bad) else .bad
theorem setP_length : ∀ {ps : List (Nat × D)} {fr : Fr}, (setP fr ps).length = fr.length
  | [], _ => rfl
  | (i, d) :: r, fr => by rw [setP, setP_length, List.length_set]
theorem setP_out : ∀ {ps : List (Nat × D)} {fr : Fr} {j : Nat}, j ∉ ps.map (·.1) → (setP fr ps)[j]? = fr[j]?
  | [], _, _, _ => rfl
  | (i, d) :: r, fr, j, h => by
    rw [List.map_cons, List.mem_cons, not_or] at h
    rw [setP, setP_out h.2, List.getElem?_set_ne (Ne.symm h.1)]
theorem setP_in : ∀ {ps : List (Nat × D)} {fr : Fr} {j : Nat} {d : D}, (ps.map (·.1)).Nodup → (j, d) ∈ ps → j < fr.length → (setP fr ps)[j]? = some (some d)
  | [], _, _, _, _, h, _ => by cases h
  | (i, e) :: r, fr, j, d, nd, h, hl => by
    rw [List.map_cons, List.nodup_cons] at nd
    rw [setP]
    rcases List.mem_cons.mp h with q | q
    · cases q
      rw [setP_out nd.1, List.getElem?_set_self hl]
    · exact setP_in nd.2 q (by rw [List.length_set]; exact hl)
theorem argC_length {fr : Fr} : ∀ {ms : List Bool} {ds cs : List D}, argC fr ms ds = some cs → ds.length = ms.length ∧ cs.length = ms.length
  | [], [], cs, h => by cases h; exact ⟨rfl, rfl⟩
  | [], d :: ds, cs, h => by simp [argC] at h
  | true :: ms, [], cs, h => by simp [argC] at h
  | false :: ms, [], cs, h => by simp [argC] at h
  | true :: ms, d :: ds, cs, h => by
    cases d with
    | var i =>
      simp only [argC] at h
      split at h
      · split at h
        · simp only [Option.map_eq_some_iff] at h
          obtain ⟨cs', e, rfl⟩ := h
          obtain ⟨a, b⟩ := argC_length e
          exact ⟨by rw [List.length_cons, List.length_cons, a], by rw [List.length_cons, List.length_cons, b]⟩
        · cases h
      · cases h
    | _ => simp [argC] at h
  | false :: ms, d :: ds, cs, h => by
    simp only [argC] at h
    split at h
    · simp only [Option.map_eq_some_iff] at h
      obtain ⟨cs', e, rfl⟩ := h
      obtain ⟨a, b⟩ := argC_length e
      exact ⟨by rw [List.length_cons, List.length_cons, a], by rw [List.length_cons, List.length_cons, b]⟩
    · cases h
theorem argC_get {fr : Fr} : ∀ {ms : List Bool} {ds cs : List D}, argC fr ms ds = some cs → ∀ {k : Nat} {d : D}, ds[k]? = some d →
    (ms[k]? = some true → ∃ i c, d = .var i ∧ (fr[i]? = some (some c) ∧ isCell c = true) ∧ cs[k]? = some c) ∧ (ms[k]? = some false → pers d = true ∧ cs[k]? = some d)
  | [], [], cs, h, k, d, e => by simp at e
  | [], d :: ds, cs, h, _, _, _ => by simp [argC] at h
  | true :: ms, [], cs, h, _, _, _ => by simp [argC] at h
  | false :: ms, [], cs, h, _, _, _ => by simp [argC] at h
  | true :: ms, d :: ds, cs, h, k, d', e => by
    cases d with
    | var i =>
      simp only [argC] at h
      split at h
      · next c hc =>
        split at h
        · next cc =>
          simp only [Option.map_eq_some_iff] at h
          obtain ⟨cs', e', rfl⟩ := h
          cases k with
          | zero =>
            have : D.var i = d' := by simpa using e
            subst this
            exact ⟨fun _ => ⟨i, c, rfl, ⟨hc, cc⟩, rfl⟩, fun z => by simp at z⟩
          | succ k => simpa using argC_get e' (k := k) (d := d') (by simpa using e)
        · cases h
      · cases h
    | _ => simp [argC] at h
  | false :: ms, d :: ds, cs, h, k, d', e => by
    simp only [argC] at h
    split at h
    · next c =>
      simp only [Option.map_eq_some_iff] at h
      obtain ⟨cs', e', rfl⟩ := h
      cases k with
      | zero =>
        have : d = d' := by simpa using e
        subst this
        exact ⟨fun z => by simp at z, fun _ => ⟨c, rfl⟩⟩
      | succ k => simpa using argC_get e' (k := k) (d := d') (by simpa using e)
    · cases h
theorem ioP_map : ∀ {ms : List Bool} {ds os : List D}, os.length = ms.length → (ioP ms ds os).map (·.1) = ioV ms ds
  | [], [], _, _ => by simp [ioP, ioV]
  | [], _ :: _, _, _ => by simp [ioP, ioV]
  | true :: ms, [], os, h => by cases os <;> simp [ioP, ioV]
  | false :: ms, [], os, h => by cases os <;> simp [ioP, ioV]
  | m :: ms, d :: ds, [], h => by simp at h
  | true :: ms, d :: ds, o :: os, h => by
    have ih := ioP_map (ms := ms) (ds := ds) (os := os) (by simpa using h)
    cases d <;> simp [ioP, ioV, ih]
  | false :: ms, d :: ds, o :: os, h => by
    have ih := ioP_map (ms := ms) (ds := ds) (os := os) (by simpa using h)
    cases d <;> simp [ioP, ioV, ih]
theorem ioP_mem : ∀ {ms : List Bool} {ds os : List D} {i : Nat} {o : D}, (i, o) ∈ ioP ms ds os → ∃ k : Nat, ms[k]? = some true ∧ ds[k]? = some (.var i) ∧ os[k]? = some o
  | [], _, _, _, _, h => by simp [ioP] at h
  | m :: ms, [], os, i, o, h => by
    cases m <;> cases os <;> simp [ioP] at h
  | m :: ms, d :: ds, [], i, o, h => by
    cases m <;> cases d <;> simp [ioP] at h
  | false :: ms, d :: ds, o' :: os, i, o, h => by
    have h' : (i, o) ∈ ioP ms ds os := by cases d <;> simpa [ioP] using h
    obtain ⟨k, a, b, c⟩ := ioP_mem h'
    exact ⟨k + 1, by simpa using a, by simpa using b, by simpa using c⟩
  | true :: ms, d :: ds, o' :: os, i, o, h => by
    have sub : (i, o) ∈ ioP ms ds os → ∃ k : Nat, (true :: ms)[k]? = some true ∧ (d :: ds)[k]? = some (.var i) ∧ (o' :: os)[k]? = some o := fun h' => by
      obtain ⟨k, a, b, c⟩ := ioP_mem h'
      exact ⟨k + 1, by simpa using a, by simpa using b, by simpa using c⟩
    cases d with
    | var j =>
      simp only [ioP, List.mem_cons] at h
      rcases h with q | q
      · cases q
        exact ⟨0, rfl, rfl, rfl⟩
      · exact sub q
    | _ => exact sub (by simpa [ioP] using h)
theorem ioV_mem : ∀ {ms : List Bool} {ds : List D} {i : Nat}, i ∈ ioV ms ds ↔ ∃ k : Nat, ms[k]? = some true ∧ ds[k]? = some (.var i)
  | [], ds, i => by simp [ioV]
  | m :: ms, [], i => by cases m <;> simp [ioV]
  | false :: ms, d :: ds, i => by
    have ih := ioV_mem (ms := ms) (ds := ds) (i := i)
    have e : ioV (false :: ms) (d :: ds) = ioV ms ds := by cases d <;> rfl
    rw [e, ih]
    constructor
    · rintro ⟨k, a, b⟩; exact ⟨k + 1, by simpa using a, by simpa using b⟩
    · rintro ⟨k, a, b⟩
      cases k with
      | zero => simp at a
      | succ k => exact ⟨k, by simpa using a, by simpa using b⟩
  | true :: ms, d :: ds, i => by
    have ih := ioV_mem (ms := ms) (ds := ds) (i := i)
    have up : (∃ k : Nat, (true :: ms)[k]? = some true ∧ (d :: ds)[k]? = some (.var i)) ↔ d = .var i ∨ ∃ k : Nat, ms[k]? = some true ∧ ds[k]? = some (.var i) := by
      constructor
      · rintro ⟨k, a, b⟩
        cases k with
        | zero => exact .inl (by simpa using b)
        | succ k => exact .inr ⟨k, by simpa using a, by simpa using b⟩
      · rintro (e | ⟨k, a, b⟩)
        · exact ⟨0, rfl, by simp [e]⟩
        · exact ⟨k + 1, by simpa using a, by simpa using b⟩
    rw [up, ← ih]
    cases d with
    | var j =>
      simp only [ioV, List.mem_cons, D.var.injEq]
      constructor
      · rintro (e | e)
        · exact .inl e.symm
        · exact .inr e
      · rintro (e | e)
        · exact .inl e.symm
        · exact .inr e
    | _ => simp [ioV]
theorem repWs_get {B : Bd} {σ : L2.St} {Hv : Hp} : ∀ {ds : List D} {vs : List V}, RepWs B σ Hv ds vs → ∀ {k : Nat} {d : D}, ds[k]? = some d → ∃ v, vs[k]? = some v ∧ RepW B σ Hv d v
  | [], _, _, k, d, e => by simp at e
  | d :: ds, _, ⟨v, r, e, h1, h2⟩, 0, d', e' => by
    have : d = d' := by simpa using e'
    subst this
    exact ⟨v, by rw [e]; rfl, h1⟩
  | d :: ds, _, ⟨v, r, e, h1, h2⟩, k + 1, d', e' => by
    obtain ⟨u, a, b⟩ := repWs_get h2 (k := k) (d := d') (by simpa using e')
    exact ⟨u, by rw [e]; simpa using a, b⟩
section
variable {B : Bd} {fr : Fr} {σ : L2.St} {H Hv H' Hv' : Hp} {ms : List Bool} {ds cs outs : List D} {vs : List V}
theorem start_of (R : Rel B fr σ H Hv) (r : RepWs B σ Hv ds vs) (ha : argC fr ms ds = some cs) (nd : (ioV ms ds).Nodup) : Start B.G ms cs vs H Hv where
  sub := R.sub
  tab := R.tab
  lend := (argC_length ha).2
  lenv := by rw [repWs_length r, (argC_length ha).1]
  val := fun k d hm hd => by
    have hk : k < ds.length := by
      rw [(argC_length ha).1]
      exact (List.getElem?_eq_some_iff.mp hm).1
    have e1 : ds[k]? = some ds[k] := List.getElem?_eq_getElem hk
    obtain ⟨p, q⟩ := (argC_get ha e1).2 hm
    rw [hd] at q
    cases q
    obtain ⟨v, a, b⟩ := repWs_get r e1
    exact ⟨v, a, b.rep fun i z => by rw [z] at p; cases p⟩
  own := fun k d hm hd => by
    have hk : k < ds.length := by
      rw [(argC_length ha).1]
      exact (List.getElem?_eq_some_iff.mp hm).1
    have e1 : ds[k]? = some ds[k] := List.getElem?_eq_getElem hk
    obtain ⟨i, c, ei, hc, q⟩ := (argC_get ha e1).1 hm
    rw [hd] at q
    cases q
    obtain ⟨v, a, b⟩ := repWs_get r e1
    rw [ei] at b
    obtain ⟨hi, hs⟩ := b
    obtain ⟨p, hs', hv, _, hcell⟩ := R.own i _ hc hi
    rw [hs] at hs'
    cases hs'
    exact ⟨p, a, hv, hcell⟩
  sep := fun k l p hkl hk hl e1 e2 => by
    have hk' : k < ds.length := by
      rw [(argC_length ha).1]
      exact (List.getElem?_eq_some_iff.mp hk).1
    have hl' : l < ds.length := by
      rw [(argC_length ha).1]
      exact (List.getElem?_eq_some_iff.mp hl).1
    have d1 : ds[k]? = some ds[k] := List.getElem?_eq_getElem hk'
    have d2 : ds[l]? = some ds[l] := List.getElem?_eq_getElem hl'
    obtain ⟨i, c, ei, hc, _⟩ := (argC_get ha d1).1 hk
    obtain ⟨j, c2, ej, hc2, _⟩ := (argC_get ha d2).1 hl
    obtain ⟨v, a, b⟩ := repWs_get r d1
    obtain ⟨v2, a2, b2⟩ := repWs_get r d2
    rw [e1] at a
    cases a
    rw [e2] at a2
    cases a2
    rw [ei] at b d1
    rw [ej] at b2 d2
    have hij : i ≠ j := fun z => by
      subst z
      -- the same slot twice
      have key : ∀ {ms : List Bool} {ds : List D} {k l : Nat}, (ioV ms ds).Nodup → k ≠ l → ms[k]? = some true → ms[l]? = some true → ds[k]? = some (.var i) → ds[l]? = some (.var i) → False := by
        intro ms
        induction ms with
        | nil => intro ds k l _ _ h; simp at h
        | cons m ms ih =>
          intro ds k l nd hne hk hl h1 h2
          cases ds with
          | nil => simp at h1
          | cons d ds =>
            have nd2 : (ioV ms ds).Nodup := by
              cases m with
              | false => cases d <;> exact nd
              | true =>
                cases d with
                | var q => exact (List.nodup_cons.mp nd).2
                | _ => exact nd
            cases k with
            | zero =>
              cases l with
              | zero => exact hne rfl
              | succ l =>
                have em : m = true := by simpa using hk
                have ed : d = .var i := by simpa using h1
                subst em ed
                exact (List.nodup_cons.mp nd).1 (ioV_mem.mpr ⟨l, by simpa using hl, by simpa using h2⟩)
            | succ k =>
              cases l with
              | zero =>
                have em : m = true := by simpa using hl
                have ed : d = .var i := by simpa using h2
                subst em ed
                exact (List.nodup_cons.mp nd).1 (ioV_mem.mpr ⟨k, by simpa using hk, by simpa using h1⟩)
              | succ l => exact ih nd2 (fun z => hne (congrArg Nat.succ z)) (by simpa using hk) (by simpa using hl) (by simpa using h1) (by simpa using h2)
      exact key nd hkl hk hl d1 d2
    exact R.sep i j p c c2 b.1 b2.1 hij hc hc2 b.2 b2.2
theorem ioA_own (R : Rel B fr σ H Hv) (r : RepWs B σ Hv ds vs) (ha : argC fr ms ds = some cs) {b : Addr} (h : ioA ms vs b) : ∃ (k i : Nat) (c : D), ms[k]? = some true ∧ ds[k]? = some (D.var i) ∧ vs[k]? = some (.ref b) ∧ i ∈ B.M ∧ (fr[i]? = some (some c) ∧ isCell c = true) ∧ σ[i]? = some (some (.ref b)) := by
  obtain ⟨k, hm, hv⟩ := h
  have hk : k < ds.length := by
    rw [(argC_length ha).1]
    exact (List.getElem?_eq_some_iff.mp hm).1
  have e1 : ds[k]? = some ds[k] := List.getElem?_eq_getElem hk
  obtain ⟨i, c, ei, hc, _⟩ := (argC_get ha e1).1 hm
  obtain ⟨v, a, b⟩ := repWs_get r e1
  rw [hv] at a
  cases a
  rw [ei] at b e1
  exact ⟨k, i, c, hm, e1, hv, b.1, hc, b.2⟩
theorem nxt_call (R : Rel B fr σ H Hv) (r : RepWs B σ Hv ds vs) (ha : argC fr ms ds = some cs) (nd : (ioV ms ds).Nodup) (hl : outs.length = ms.length) (f : FinC B.G ms outs vs H Hv H' Hv') :
    Nxt B fr σ H Hv (setP fr (ioP ms ds outs)) H' Hv' := by
  have hmap := ioP_map (ds := ds) hl
  have ndp : ((ioP ms ds outs).map (·.1)).Nodup := by rw [hmap]; exact nd
  have assigned : ∀ {i : Nat}, i ∈ ioV ms ds → i ∈ B.M ∧ ∃ c, fr[i]? = some (some c) ∧ isCell c = true := fun {i} hi => by
    obtain ⟨k, hm, hd⟩ := ioV_mem.mp hi
    obtain ⟨j, c, ej, hc, _⟩ := (argC_get ha hd).1 hm
    cases ej
    obtain ⟨v, _, b⟩ := repWs_get r hd
    exact ⟨b.1, c, hc⟩
  have get : ∀ {i : Nat} {d : D}, (setP fr (ioP ms ds outs))[i]? = some (some d) → (∃ k : Nat, ms[k]? = some true ∧ ds[k]? = some (D.var i) ∧ outs[k]? = some d) ∨ (i ∉ ioV ms ds ∧ fr[i]? = some (some d)) := fun {i d} e => by
    by_cases hi : i ∈ ioV ms ds
    · rw [← hmap] at hi
      obtain ⟨⟨i', o⟩, hp, rfl⟩ := List.mem_map.mp hi
      have hil : i' < fr.length := by
        obtain ⟨_, c, hc⟩ := assigned (by rw [← hmap]; exact hi)
        exact (List.getElem?_eq_some_iff.mp hc.1).1
      rw [setP_in ndp hp hil] at e
      cases e
      exact .inl (ioP_mem hp)
    · refine .inr ⟨hi, ?_⟩
      rw [setP_out (by rw [hmap]; exact hi)] at e
      exact e
  have shape : Shr B fr (setP fr (ioP ms ds outs)) := fun i d hi e => by
    rcases get e.1 with ⟨k, hk, hd, _⟩ | ⟨_, e'⟩
    · obtain ⟨_, c, hc⟩ := assigned (ioV_mem.mpr ⟨k, hk, hd⟩)
      exact ⟨c, hc⟩
    · exact ⟨d, e', e.2⟩
  have notTab : ∀ {b : Addr}, ioA ms vs b → b ∉ B.G.tabs := fun {b} h => by
    obtain ⟨k, i, c, _, _, _, hi, hc, hs⟩ := ioA_own R r ha h
    exact (R.own_some ⟨i, c, hi, hc, hs⟩).2.2
  have notTab' : ∀ {i : Nat} {d : D} {a : Addr}, i ∈ B.M → (fr[i]? = some (some d) ∧ isCell d = true) → σ[i]? = some (some (.ref a)) → a ∉ B.G.tabs := fun {i d a} hi hf hs => (R.own_some ⟨i, d, hi, hf, hs⟩).2.2
  have hvn : ∀ {i : Nat} {d : D} {a : Addr}, i ∈ B.M → (fr[i]? = some (some d) ∧ isCell d = true) → σ[i]? = some (some (.ref a)) → Hv' a = none := fun {i d a} hi hf hs => by
    obtain ⟨⟨u, hu⟩, hv, _⟩ := R.own_some ⟨i, d, hi, hf, hs⟩
    by_cases hio : ioA ms vs a
    · obtain ⟨k, hk, hvk⟩ := hio
      exact (f.io k a hk hvk).1
    have nt := notTab' hi hf hs
    cases e : Hv' a with
    | none => rfl
    | some o =>
      rcases f.new a o e with z | z | ⟨ws, z⟩
      · rw [hv] at z; cases z
      · rw [hu] at z; cases z
      · have h1 := f.sub a o e
        rw [f.keep a u hu hio nt] at h1
        cases h1
        obtain ⟨a', hs', _, _, hc⟩ := R.own i d hf hi
        rw [hs] at hs'
        cases hs'
        obtain ⟨o2, h2, _, h3, _⟩ := hc.ob
        rw [hu] at h2
        cases h2
        rw [z] at hu
        exact (hc.not_tup hu).elim
  refine ⟨?_, f.ext, fun b o h no nt => f.keep b o h (fun q => ?_) nt, shape, fun b o h => ?_, fun b o h => ?_⟩
  · refine ⟨f.sub, R.ext0.trans f.ext, fun b o h => ?_, fun b o h hi ht => ?_, by rw [setP_length]; exact R.len, fun i d e hm => ?_, fun i d e hc hm => ?_, fun i d e hm => ?_, fun i j a di dj hi hj hij e1 e2 s1 s2 => ?_, fun p hp => ?_, f.tab⟩
    · rcases f.new b o h with z | z
      · exact R.new b o z
      · exact .inr (z.imp R.h0_none id)
    · refine f.keep b o (R.keep b o h hi ht) (fun q => ?_) ht
      obtain ⟨k, i, c, _, _, _, hm, hc, hs⟩ := ioA_own R r ha q
      obtain ⟨a', hs', _, hn, _⟩ := R.own i c hc hm
      rw [hs] at hs'
      cases hs'
      rcases hn with ⟨p, hp, e⟩ | hn
      · exact hi p hp e
      · rw [h] at hn; cases hn
    · rcases get e with ⟨k, hk, hd, ho⟩ | ⟨_, e'⟩
      · exact absurd (assigned (ioV_mem.mpr ⟨k, hk, hd⟩)).1 hm
      · obtain ⟨v, hs, hr⟩ := R.val i d e' hm
        exact ⟨v, hs, Rep.mono f.ext _ _ hr⟩
    · rcases get e with ⟨k, hk, hd, ho⟩ | ⟨_, e'⟩
      · obtain ⟨_, c, hc'⟩ := assigned (ioV_mem.mpr ⟨k, hk, hd⟩)
        obtain ⟨a, hs, hv, hn, _⟩ := R.own i c hc' hm
        obtain ⟨v, hvk, b⟩ := repWs_get r hd
        obtain ⟨_, hs2⟩ := b
        rw [hs] at hs2
        cases hs2
        obtain ⟨h1, d', hd', hcell⟩ := f.io k a hk hvk
        rw [ho] at hd'
        cases hd'
        rw [hcell.isCell] at hc
        cases hc
      · obtain ⟨e2, v, z, hs, hr⟩ := R.box i d e' hc hm
        exact ⟨e2, v, z, hs, Rep.mono f.ext _ _ hr⟩
    · rcases get e.1 with ⟨k, hk, hd, ho⟩ | ⟨hni, e'⟩
      · obtain ⟨_, c, hc⟩ := assigned (ioV_mem.mpr ⟨k, hk, hd⟩)
        obtain ⟨a, hs, hv, hn, _⟩ := R.own i c hc hm
        obtain ⟨v, hvk, b⟩ := repWs_get r hd
        obtain ⟨_, hs2⟩ := b
        rw [hs] at hs2
        cases hs2
        obtain ⟨h1, d', hd', hcell⟩ := f.io k a hk hvk
        rw [ho] at hd'
        cases hd'
        exact ⟨a, hs, h1, hn, hcell⟩
      · obtain ⟨a, hs, hv, hn, hc⟩ := R.own i d ⟨e', e.2⟩ hm
        obtain ⟨⟨u, hu⟩, _, ntab⟩ := R.own_some ⟨i, d, hm, ⟨e', e.2⟩, hs⟩
        have nio : ¬ ioA ms vs a := fun q => by
          obtain ⟨k, j, c, hk, hdk, _, hj, hcj, hsj⟩ := ioA_own R r ha q
          by_cases hij : i = j
          · subst hij
            exact hni (ioV_mem.mpr ⟨k, hk, hdk⟩)
          · exact R.sep i j a d c hm hj hij ⟨e', e.2⟩ hcj hs hsj
        exact ⟨a, hs, hvn hm ⟨e', e.2⟩ hs, hn, hc.mono f.ext ((f.keep a u hu nio ntab).trans hu.symm)⟩
    · obtain ⟨di', hdi⟩ := shape i di hi e1
      obtain ⟨dj', hdj⟩ := shape j dj hj e2
      exact R.sep i j a di' dj' hi hj hij hdi hdj s1 s2
    · obtain ⟨h1, ⟨d, h2, hcl⟩, h3⟩ := R.io p hp
      refine ⟨h1, ?_, h3⟩
      by_cases hi : p.1 ∈ ioV ms ds
      · obtain ⟨k, hk, hd⟩ := ioV_mem.mp hi
        obtain ⟨v, hvk, b⟩ := repWs_get r hd
        obtain ⟨_, hs2⟩ := b
        rw [h3] at hs2
        cases hs2
        obtain ⟨_, d', hd', hcell⟩ := f.io k p.2 hk hvk
        rw [← hmap] at hi
        obtain ⟨⟨i', o⟩, hp', e'⟩ := List.mem_map.mp hi
        dsimp only at e'
        subst e'
        obtain ⟨k2, hk2, hd2, ho2⟩ := ioP_mem hp'
        obtain ⟨v2, hvk2, b2⟩ := repWs_get r hd2
        obtain ⟨_, hs3⟩ := b2
        rw [h3] at hs3
        cases hs3
        obtain ⟨_, d2, hd2', hcell2⟩ := f.io k2 p.2 hk2 hvk2
        rw [ho2] at hd2'
        cases hd2'
        exact ⟨o, setP_in ndp hp' (List.getElem?_eq_some_iff.mp h2).1, hcell2.isCell⟩
      · exact ⟨d, by rw [setP_out (by rw [hmap]; exact hi)]; exact h2, hcl⟩
  · obtain ⟨k, i, c, _, _, _, hm, hc, hs⟩ := ioA_own R r ha q
    exact no ⟨i, c, hm, hc, hs⟩
  · by_cases hb : ioA ms vs b
    · obtain ⟨k, hk, hv⟩ := hb
      obtain ⟨_, d, _, hcell⟩ := f.io k b hk hv
      obtain ⟨o2, h2, _⟩ := hcell.ob
      exact ⟨o2, h2⟩
    · by_cases ht : b ∈ B.G.tabs
      · obtain ⟨⟨ps, e, _⟩, _⟩ := f.tab b ht
        exact ⟨_, e⟩
      · exact ⟨o, f.keep b o h hb ht⟩
  · rcases f.new b o h with z | z
    · exact .inl z
    · exact .inr (.inl z)
end
section
variable {X : Cx} {B : Bd} {W : WX} {e : Expr} {es : List Expr} {g : Av} {k : Nat} {f : Addr} {fd : FuncData} {ps : List Str} {ms : List Bool} {F : Fn} {x : Str} {p pos : Pos}
theorem entCall {rf : Bool} {σ : L2.St} {H : Hp} {Q : VK} {P : Fr → Hp → Hp → Res Fr D → Prop} {fr : Fr} {Hv : Hp} (R : Rel B fr σ H Hv)
    (hex : ∀ c fs fr', P fr H Hv (.exc c fs fr') → ∀ dd H' Hv', Nxt B fr σ H Hv fr' H' Hv' → ExcAt B.G H' Hv' c fs dd → W (.ref (B.G.ecls c)) (some dd) σ H') (hb : ¬ P fr H Hv .bad)
    (hok : ∀ d fr', P fr H Hv (.ok d fr') → ∀ v H1 Hv1 H' Hv' fr1, Nxt B fr σ H Hv fr1 H1 Hv1 → Nxt B fr1 σ H1 Hv1 fr' H' Hv' → RetR rf B.G H1 H' Hv' d v → Q v H')
    (h : P fr H Hv (eCall ms F g fr)) : (dTA B W g) σ H fun vs H1 => spOf B.G ms rf F (vs ++ []) H1 Q (WE W σ) := by
  refine ⟨fr, Hv, R, ?_⟩
  unfold eCall at h
  cases hg : g fr with
  | bad => rw [hg] at h; exact (hb h).elim
  | exc c fs fr1 => rw [hg] at h; exact hex _ _ _ h
  | ok ds fr1 =>
    rw [hg] at h
    dsimp only [Res.bind] at h
    intro vs H1 Hv1 n r
    rw [List.append_nil]
    split at h
    · exact (hb h).elim
    · next cs hcs =>
      split at h
      · next nd =>
        refine ⟨cs, Hv1, start_of n.rel r hcs nd, ?_⟩
        cases hF : F cs with
        | bad => rw [hF] at h; exact (hb h).elim
        | exc c fs outs =>
          rw [hF] at h
          dsimp only at h
          split at h
          · next hl => exact fun dd H' Hv' fin ex => hex _ _ _ h dd H' Hv' (n.trans (nxt_call n.rel r hcs nd hl fin)) ex
          · exact (hb h).elim
        | ok d outs =>
          rw [hF] at h
          dsimp only at h
          split at h
          · next hl => exact fun v H' Hv' fin ret => hok _ _ h v H1 Hv1 H' Hv' fr1 n (nxt_call n.rel r hcs nd hl fin) ret
          · exact (hb h).elim
      · exact (hb h).elim
theorem d_call (Fk : FnOk X.prog X.w X.K X.mg X.base (L2.CX X.prog X.w) k f fd ps (spOf B.G ms false F)) (hr : Room k X.A) (hm : X.mg x = some (.ref f)) (hk : PySem.W.keepIn X.K (.ref f) = true) (hb : Binds X.K fd ps []) (tk : ∀ σ, PassesAt (L2.CX X.prog X.w) X σ (WE W σ))
    (ha : DA X B W (e :: es) g) (hg : Gl X x := by rfl) (hdb : (x == ("__debug__" : Str)) = false := by decide) (he : starEach (e :: es) X.env = (false, eval e X.env) :: starEach es X.env := by rfl) (hpl : (backTo pos (starEach es X.env)).any (·.1) = false := by rfl) :
    DE X B W (.Call (.Name x p) (e :: es) [] pos) (eCall ms F g) := by
  refine pe_imp (pe_callSD Fk hr hg hm hk hb .nil tk ha hdb he hpl) fun σ H Q h => ?_
  obtain ⟨fr, Hv, R, h⟩ := h
  exact entCall (P := fun fr H Hv r => PostE B W fr σ H Hv r Q) R (fun c fs fr' h => h) (fun h => h) (fun d fr' h v H1 Hv1 H' Hv' fr1 n m ret => h v H' Hv' (n.trans m) (.of ret)) h
theorem d_callF (Fk : FnOk X.prog X.w X.K X.mg X.base (L2.CX X.prog X.w) k f fd ps (spOf B.G ms true F)) (hr : Room k X.A) (hm : X.mg x = some (.ref f)) (hk : PySem.W.keepIn X.K (.ref f) = true) (hb : Binds X.K fd ps []) (tk : ∀ σ, PassesAt (L2.CX X.prog X.w) X σ (WE W σ))
    (ha : DA X B W (e :: es) g) (hg : Gl X x := by rfl) (hdb : (x == ("__debug__" : Str)) = false := by decide) (he : starEach (e :: es) X.env = (false, eval e X.env) :: starEach es X.env := by rfl) (hpl : (backTo pos (starEach es X.env)).any (·.1) = false := by rfl) :
    DF X B W (.Call (.Name x p) (e :: es) [] pos) (eCall ms F g) := by
  refine pe_imp (pe_callSD Fk hr hg hm hk hb .nil tk ha hdb he hpl) fun σ H Q h => ?_
  obtain ⟨fr, Hv, R, h⟩ := h
  refine entCall (P := fun fr H Hv r => PostF B W fr σ H Hv r Q) R (fun c fs fr' h => h) (fun h => h) (fun d fr' h v H1 Hv1 H' Hv' fr1 n m ret => ?_) h
  obtain ⟨q, rfl, h1, h2, h3⟩ := ret
  exact h q H' Hv' (n.trans m) (n.none R h1) h2 h3
end
end KS
namespace KS
open PySem PySem.Spec L2
/-! ### statements -/
/-- the end of a body -/
structure FinB (B : Bd) (fr' : Fr) (H' Hv' : Hp) : Prop where
  sub : Sub Hv' H'
  ext0 : Sub B.Hv0 Hv'
  new : ∀ b o, Hv' b = some o → B.Hv0 b = some o ∨ NewOk B.H0 b o
  keep : ∀ b o, B.H0 b = some o → (∀ p ∈ B.io, p.2 ≠ b) → b ∉ B.G.tabs → H' b = some o
  tab : ∀ P ∈ B.G.tabs, TabH H' P ∧ Hv' P = none
  io : ∀ p ∈ B.io, Hv' p.2 = none ∧ ∃ d, fr'[p.1]? = some (some d) ∧ Cell B.G H' Hv' p.2 d
theorem Rel.fin {B : Bd} {fr : Fr} {σ : L2.St} {H Hv : Hp} (R : Rel B fr σ H Hv) : FinB B fr H Hv where
  sub := R.sub
  ext0 := R.ext0
  new := R.new
  keep := R.keep
  tab := R.tab
  io := fun p hp => by
    obtain ⟨h1, ⟨d, hd⟩, h3⟩ := R.io p hp
    obtain ⟨a, hs, hv, _, hc⟩ := R.own p.1 d hd h1
    rw [h3] at hs
    cases hs
    exact ⟨hv, d, hd.1, hc⟩
def PostS (B : Bd) (W : WX) (rf : Bool) (Hv : Hp) (r : Res Fr Fl) (D : Ends) : Prop :=
  match r with
  | .ok .nx fr' => ∀ σ' H' Hv', Rel B fr' σ' H' Hv' → Sub Hv Hv' → D.nx σ' H'
  | .ok .brk fr' => ∀ σ' H' Hv', Rel B fr' σ' H' Hv' → Sub Hv Hv' → D.bk σ' H'
  | .ok .cnt fr' => ∀ σ' H' Hv', Rel B fr' σ' H' Hv' → Sub Hv Hv' → D.ct σ' H'
  | .ok (.ret d) fr' => ∀ v H' Hv', FinB B fr' H' Hv' → RetR rf B.G B.H0 H' Hv' d v → D.rt v H'
  | .exc c fs fr' => ∀ dd σ' H' Hv', Rel B fr' σ' H' Hv' → Sub Hv Hv' → ExcAt B.G H' Hv' c fs dd → W (.ref (B.G.ecls c)) (some dd) σ' H'
  | .bad => False
def dTS (B : Bd) (W : WX) (rf : Bool) (g : Sv) : TS := fun D σ H => ∃ fr Hv, Rel B fr σ H Hv ∧ PostS B W rf Hv (g fr) D
def DS (X : Cx) (B : Bd) (W : WX) (rf : Bool) (st : Stmt) (g : Sv) : Prop := PS X st (dTS B W rf g)
def DSs (X : Cx) (B : Bd) (W : WX) (rf : Bool) (st : List Stmt) (g : Sv) : Prop := PSs X st (dTS B W rf g)
theorem PostS.step {B : Bd} {W : WX} {rf : Bool} {Hv Hv1 : Hp} {r : Res Fr Fl} {D : Ends} (s : Sub Hv Hv1) (h : PostS B W rf Hv r D) : PostS B W rf Hv1 r D := by
  cases r with
  | ok fl fr' =>
    cases fl with
    | nx => exact fun σ' H' Hv' R m => h σ' H' Hv' R (s.trans m)
    | brk => exact fun σ' H' Hv' R m => h σ' H' Hv' R (s.trans m)
    | cnt => exact fun σ' H' Hv' R m => h σ' H' Hv' R (s.trans m)
    | ret d => exact h
  | exc c fs fr' => exact fun dd σ' H' Hv' R m => h dd σ' H' Hv' R (s.trans m)
  | bad => exact h
def sNx : Sv := fun fr => .ok .nx fr
def sBrk : Sv := fun fr => .ok .brk fr
def sCnt : Sv := fun fr => .ok .cnt fr
def sSeq (g h : Sv) : Sv := fun fr => (g fr).bind fun fl fr1 => match fl with
  | .nx => h fr1
  | fl => .ok fl fr1
def sX (f : Ev) : Sv := fun fr => (f fr).bind fun _ fr1 => .ok .nx fr1
def sRet (f : Ev) : Sv := fun fr => (f fr).bind fun d fr1 => if pers d = true then .ok (.ret d) fr1 else .bad
def sRetF (f : Ev) : Sv := fun fr => (f fr).bind fun d fr1 => .ok (.ret d) fr1
/-- return x, x an owned slot -/
def sRetV (i : Nat) : Sv := fun fr => match fr[i]? with
  | some (some d) => if isCell d = true then .ok (.ret d) fr else .bad
  | _ => .bad
def sRetN : Sv := fun fr => .ok (.ret .non) fr
def sIf (t : Bv) (g h : Sv) : Sv := fun fr => (t fr).bind fun b fr1 => if b then g fr1 else h fr1
def sSet (i : Nat) (f : Ev) : Sv := fun fr => (f fr).bind fun d fr1 => if pers d = true then .ok .nx (fr1.set i (some d)) else .bad
def sSetF (i : Nat) (f : Ev) : Sv := fun fr => (f fr).bind fun d fr1 => .ok .nx (fr1.set i (some d))
section
variable {X : Cx} {B : Bd} {W : WX} {rf : Bool} {st : Stmt} {rest : List Stmt} {g h : Sv} {e : Expr} {f : Ev} {t : Bv} {pos : Pos}
theorem ss_nil : DSs X B W rf [] sNx := pss_imp pss_nil fun D σ H ⟨fr, Hv, R, h⟩ => h σ H Hv R (.refl _)
theorem ss_cons (h1 : DS X B W rf st g) (h2 : DSs X B W rf rest h) : DSs X B W rf (st :: rest) (sSeq g h) := by
  refine pss_imp (pss_cons h1 h2) fun D σ H hh => ?_
  obtain ⟨fr, Hv, R, hh⟩ := hh
  refine ⟨fr, Hv, R, ?_⟩
  unfold sSeq at hh
  cases hg : g fr with
  | bad => rw [hg] at hh; exact hh.elim
  | exc c fs fr1 => rw [hg] at hh; exact hh
  | ok fl fr1 =>
    rw [hg] at hh
    dsimp only [Res.bind] at hh
    cases fl with
    | nx => exact fun σ' H' Hv' R' s => ⟨fr1, Hv', R', PostS.step s hh⟩
    | brk => exact hh
    | cnt => exact hh
    | ret d => exact hh
theorem ss_one (h1 : DS X B W rf st g) : DSs X B W rf [st] g := pss_one h1
theorem s_pass : DS X B W rf (.Pass pos) sNx := ps_imp ps_pass fun D σ H ⟨fr, Hv, R, h⟩ => h σ H Hv R (.refl _)
theorem s_break : DS X B W rf (.Break pos) sBrk := ps_imp ps_break fun D σ H ⟨fr, Hv, R, h⟩ => h σ H Hv R (.refl _)
theorem s_continue : DS X B W rf (.Continue pos) sCnt := ps_imp ps_continue fun D σ H ⟨fr, Hv, R, h⟩ => h σ H Hv R (.refl _)
theorem s_expr (he : DE X B W e f) (hs : swapsWith e none pos.line X.env = pure false := by rfl) : DS X B W rf (.Expr e pos) (sX f) := by
  refine ps_imp (ps_expr he hs) fun D σ H hh => ?_
  obtain ⟨fr, Hv, R, hh⟩ := hh
  refine ⟨fr, Hv, R, ?_⟩
  unfold sX at hh
  cases hg : f fr with
  | bad => rw [hg] at hh; exact hh.elim
  | exc c fs fr1 =>
    rw [hg] at hh
    exact fun dd H' Hv' n => hh dd σ H' Hv' n.rel n.ext
  | ok d fr1 =>
    rw [hg] at hh
    exact fun v H' Hv' n _ => hh σ H' Hv' n.rel n.ext
theorem s_ret (hrf : rf = false) (he : DE X B W e f) : DS X B W rf (.Return (some e) pos) (sRet f) := by
  subst hrf
  refine ps_imp (ps_ret he) fun D σ H hh => ?_
  obtain ⟨fr, Hv, R, hh⟩ := hh
  refine ⟨fr, Hv, R, ?_⟩
  unfold sRet at hh
  cases hg : f fr with
  | bad => rw [hg] at hh; exact hh.elim
  | exc c fs fr1 =>
    rw [hg] at hh
    exact fun dd H' Hv' n => hh dd σ H' Hv' n.rel n.ext
  | ok d fr1 =>
    rw [hg] at hh
    dsimp only [Res.bind] at hh
    split at hh
    · next c => exact fun v H' Hv' n r => hh v H' Hv' n.rel.fin (by
        show if false = true then _ else Rep B.G Hv' d v
        rw [if_neg Bool.false_ne_true]
        exact r.rep fun i z => by rw [z] at c; cases c)
    · exact hh.elim
theorem s_retF (hrf : rf = true) (he : DF X B W e f) : DS X B W rf (.Return (some e) pos) (sRetF f) := by
  subst hrf
  refine ps_imp (ps_ret he) fun D σ H hh => ?_
  obtain ⟨fr, Hv, R, hh⟩ := hh
  refine ⟨fr, Hv, R, ?_⟩
  unfold sRetF at hh
  cases hg : f fr with
  | bad => rw [hg] at hh; exact hh.elim
  | exc c fs fr1 =>
    rw [hg] at hh
    exact fun dd H' Hv' n => hh dd σ H' Hv' n.rel n.ext
  | ok d fr1 =>
    rw [hg] at hh
    dsimp only [Res.bind] at hh
    exact fun p H' Hv' n hp hv hc => hh (.ref p) H' Hv' n.rel.fin (by
      show if true = true then _ else _
      rw [if_pos rfl]
      exact ⟨p, rfl, R.h0_none hp, hv, hc⟩)
theorem s_retV {i : Nat} {x : Str} {np : Pos} (hi : i ∈ B.M) (hio : ∀ p ∈ B.io, p.1 ≠ i) (hN : X.N[i]? = some x := by rfl) (hv : Vis X.env.scope x := by first | exact Or.inl rfl | exact Or.inr (Or.inl rfl) | exact Or.inr (Or.inr rfl)) (hd : (x == ("__debug__" : Str)) = false := by decide)
    (hcd : (x == ("__classdict__" : Str)) = false := by decide) : DS X B W rf (.Return (some (.Name x np)) pos) (sRetV i) := by
  refine ps_imp (ps_ret (pe_var hN hv hd hcd)) fun D σ H hh => ?_
  obtain ⟨fr, Hv, R, hh⟩ := hh
  unfold sRetV at hh
  split at hh
  · next d e0 =>
   split at hh
   · next cl =>
    have e := And.intro e0 cl
    obtain ⟨a, hs, hva, hn, hc⟩ := R.own i d e hi
    have nio : ∀ p ∈ B.io, p.2 ≠ a := fun p hp z => by
      obtain ⟨h1, ⟨d', hd'⟩, h3⟩ := R.io p hp
      rw [z] at h3
      exact R.sep p.1 i a d' d h1 hi (hio p hp) hd' e h3 hs
    have h0 : B.H0 a = none := by
      rcases hn with ⟨p, hp, z⟩ | z
      · exact absurd z (nio p hp)
      · exact z
    refine ⟨.ref a, hs, ?_⟩
    cases rf with
    | true =>
      refine hh (.ref a) H Hv R.fin ?_
      show if true = true then _ else _
      rw [if_pos rfl]
      exact ⟨a, rfl, h0, hva, hc⟩
    | false =>
      obtain ⟨o, ho, nt⟩ : ∃ o, H a = some o ∧ ∀ ps, o ≠ .tbl ps := by
        cases d with
        | lst ds => obtain ⟨vs, q, _⟩ := hc; exact ⟨_, q, fun ps z => by cases z⟩
        | obj c ns fs => obtain ⟨dx, vs, q, _⟩ := hc; exact ⟨_, q, fun ps z => by cases z⟩
        | dct ks ds =>
          obtain ⟨us, ⟨kvs, q, _⟩ | ⟨kvs, q, _⟩, _⟩ := hc
          · exact ⟨_, q, fun ps z => by cases z⟩
          · exact ⟨_, q, fun ps z => by cases z⟩
        | _ => exact hc.elim
      have s := sub_freeze R ho
      have upA : ∀ {b u}, upd Hv a o b = some u → (b = a ∧ u = o) ∨ (b ≠ a ∧ Hv b = some u) := fun {b u} q => by
        by_cases hb : b = a
        · subst hb
          rw [upd_same] at q
          exact .inl ⟨rfl, (Option.some.inj q).symm⟩
        · rw [upd_ne hb] at q
          exact .inr ⟨hb, q⟩
      refine hh (.ref a) H (upd Hv a o) ⟨fun b u q => ?_, R.ext0.trans s, fun b u q => ?_, R.keep, fun P hP => ?_, fun p hp => ?_⟩ ?_
      · rcases upA q with ⟨rfl, rfl⟩ | ⟨_, q⟩
        · exact ho
        · exact R.sub b u q
      · rcases upA q with ⟨rfl, rfl⟩ | ⟨_, q⟩
        · exact .inr (.inl h0)
        · exact R.new b u q
      · obtain ⟨⟨ps, q, t⟩, v⟩ := R.tab P hP
        refine ⟨⟨ps, q, t⟩, ?_⟩
        rw [upd_ne fun z => by rw [z, ho] at q; exact nt ps (Option.some.inj q)]
        exact v
      · obtain ⟨z1, d', z2, z3⟩ := R.fin.io p hp
        exact ⟨by rw [upd_ne (nio p hp)]; exact z1, d', z2, z3.mono s rfl⟩
      · show if false = true then _ else Rep B.G (upd Hv a o) d (.ref a)
        rw [if_neg Bool.false_ne_true]
        cases d with
        | lst ds =>
          obtain ⟨vs, q, r⟩ := hc
          rw [ho] at q
          cases q
          exact Rep.lst upd_same (RepL.mono s _ _ r)
        | obj c ns fs =>
          obtain ⟨dx, vs, q, l, r⟩ := hc
          rw [ho] at q
          cases q
          exact Rep.obj upd_same l (RepL.mono s _ _ r)
        | dct ks ds =>
          obtain ⟨us, q, r⟩ := hc
          exact Rep.dct (q.at fun u z => by rw [ho] at z; cases z; exact upd_same) (RepL.mono s _ _ r)
        | _ => exact hc.elim
   · exact hh.elim
  · exact hh.elim
theorem s_retN (hrf : rf = false) : DS X B W rf (.Return none pos) sRetN := by
  subst hrf
  refine ps_imp ps_retN fun D σ H ⟨fr, Hv, R, hh⟩ => hh .non H Hv R.fin ?_
  show if false = true then _ else Rep B.G Hv .non .non
  rw [if_neg Bool.false_ne_true]
  exact repN
theorem s_if {c : Expr} {a b : List Stmt} (hc : DT X B W c t) (ha : DSs X B W rf a g) (hb : DSs X B W rf b h) : DS X B W rf (.If c a b pos) (sIf t g h) := by
  refine ps_imp (ps_if hc ha hb) fun D σ H hh => ?_
  obtain ⟨fr, Hv, R, hh⟩ := hh
  refine ⟨fr, Hv, R, ?_⟩
  unfold sIf at hh
  cases hg : t fr with
  | bad => rw [hg] at hh; exact hh.elim
  | exc c fs fr1 =>
    rw [hg] at hh
    exact fun dd H' Hv' n => hh dd σ H' Hv' n.rel n.ext
  | ok k fr1 =>
    rw [hg] at hh
    dsimp only [Res.bind] at hh
    intro H' Hv' n
    cases k with
    | true =>
      rw [if_pos rfl]
      exact ⟨fr1, Hv', n.rel, PostS.step n.ext hh⟩
    | false =>
      rw [if_neg Bool.false_ne_true]
      exact ⟨fr1, Hv', n.rel, PostS.step n.ext hh⟩
/-- a slot that owns nothing gets a value -/
theorem Rel.setV {fr : Fr} {σ : L2.St} {H Hv : Hp} (R : Rel B fr σ H Hv) {i : Nat} {d : D} {v : V} (hi : i ∉ B.M) (r : Rep B.G Hv d v) : Rel B (fr.set i (some d)) (σ.set i (some v)) H Hv where
  sub := R.sub
  ext0 := R.ext0
  new := R.new
  keep := R.keep
  len := by rw [List.length_set, List.length_set]; exact R.len
  val := fun j e hf hm => by
    by_cases hj : j = i
    · subst hj
      have hl : j < fr.length := by
        have := (List.getElem?_eq_some_iff.mp hf).1
        rwa [List.length_set] at this
      rw [List.getElem?_set_self hl] at hf
      cases hf
      exact ⟨v, List.getElem?_set_self (by rw [← R.len]; exact hl), r⟩
    · rw [List.getElem?_set_ne (Ne.symm hj)] at hf
      obtain ⟨u, h1, h2⟩ := R.val j e hf hm
      exact ⟨u, by rw [List.getElem?_set_ne (Ne.symm hj)]; exact h1, h2⟩
  box := fun j e hf hc hm => by
    have hj : j ≠ i := fun z => hi (z ▸ hm)
    rw [List.getElem?_set_ne (Ne.symm hj)] at hf
    obtain ⟨e2, u, h0, h1, h2⟩ := R.box j e hf hc hm
    exact ⟨e2, u, h0, by rw [List.getElem?_set_ne (Ne.symm hj)]; exact h1, h2⟩
  own := fun j e hf hm => by
    have hj : j ≠ i := fun z => hi (z ▸ hm)
    rw [List.getElem?_set_ne (Ne.symm hj)] at hf
    obtain ⟨a, h1, h2⟩ := R.own j e hf hm
    exact ⟨a, by rw [List.getElem?_set_ne (Ne.symm hj)]; exact h1, h2⟩
  sep := fun j k a dj dk hj hk hjk e1 e2 s1 => by
    have hj' : j ≠ i := fun z => hi (z ▸ hj)
    have hk' : k ≠ i := fun z => hi (z ▸ hk)
    rw [List.getElem?_set_ne (Ne.symm hj')] at e1 s1
    rw [List.getElem?_set_ne (Ne.symm hk')] at e2 ⊢
    exact R.sep j k a dj dk hj hk hjk e1 e2 s1
  io := fun p hp => by
    obtain ⟨h1, h2, h3⟩ := R.io p hp
    have hj : p.1 ≠ i := fun z => hi (z ▸ h1)
    exact ⟨h1, by rw [List.getElem?_set_ne (Ne.symm hj)]; exact h2, by rw [List.getElem?_set_ne (Ne.symm hj)]; exact h3⟩
  tab := R.tab
/-- an owned slot gets a new object -/
theorem Rel.setF {fr : Fr} {σ : L2.St} {H Hv : Hp} (R : Rel B fr σ H Hv) {i : Nat} {d : D} {p : Addr} (hi : i ∈ B.M) (hio : ∀ q ∈ B.io, q.1 ≠ i) (no : ¬ Own B fr σ p) (h0 : B.H0 p = none) (hv : Hv p = none) (hc : Cell B.G H Hv p d) : Rel B (fr.set i (some d)) (σ.set i (some (.ref p))) H Hv where
  sub := R.sub
  ext0 := R.ext0
  new := R.new
  keep := R.keep
  len := by rw [List.length_set, List.length_set]; exact R.len
  val := fun j e hf hm => by
    have hj : j ≠ i := fun z => hm (z ▸ hi)
    rw [List.getElem?_set_ne (Ne.symm hj)] at hf
    obtain ⟨u, h1, h2⟩ := R.val j e hf hm
    exact ⟨u, by rw [List.getElem?_set_ne (Ne.symm hj)]; exact h1, h2⟩
  box := fun j e hf hcl hm => by
    by_cases hj : j = i
    · subst hj
      have hl : j < fr.length := by
        have := (List.getElem?_eq_some_iff.mp hf).1
        rwa [List.length_set] at this
      rw [List.getElem?_set_self hl] at hf
      cases hf
      rw [hc.isCell] at hcl
      cases hcl
    · rw [List.getElem?_set_ne (Ne.symm hj)] at hf
      obtain ⟨e2, u, h0, h1, h2⟩ := R.box j e hf hcl hm
      exact ⟨e2, u, h0, by rw [List.getElem?_set_ne (Ne.symm hj)]; exact h1, h2⟩
  own := fun j e hf hm => by
    by_cases hj : j = i
    · subst hj
      have hl : j < fr.length := by
        have := (List.getElem?_eq_some_iff.mp hf.1).1
        rwa [List.length_set] at this
      have hf := hf.1
      rw [List.getElem?_set_self hl] at hf
      cases hf
      exact ⟨p, List.getElem?_set_self (by rw [← R.len]; exact hl), hv, .inr h0, hc⟩
    · rw [List.getElem?_set_ne (Ne.symm hj)] at hf
      obtain ⟨a, h1, h2⟩ := R.own j e hf hm
      exact ⟨a, by rw [List.getElem?_set_ne (Ne.symm hj)]; exact h1, h2⟩
  sep := fun j k a dj dk hj hk hjk e1 e2 s1 => by
    by_cases hj' : j = i
    · subst hj'
      have hk' : k ≠ j := Ne.symm hjk
      have hl : j < σ.length := by
        have := (List.getElem?_eq_some_iff.mp s1).1
        rwa [List.length_set] at this
      rw [List.getElem?_set_self hl] at s1
      cases s1
      rw [List.getElem?_set_ne (Ne.symm hk')] at e2 ⊢
      exact fun z => no ⟨k, dk, hk, e2, z⟩
    · rw [List.getElem?_set_ne (Ne.symm hj')] at e1 s1
      by_cases hk' : k = i
      · subst hk'
        by_cases hl : k < σ.length
        · rw [List.getElem?_set_self hl]
          intro z
          cases z
          exact no ⟨j, dj, hj, e1, s1⟩
        · rw [List.getElem?_eq_none (by rw [List.length_set]; omega)]
          exact fun z => by cases z
      · rw [List.getElem?_set_ne (Ne.symm hk')] at e2 ⊢
        exact R.sep j k a dj dk hj hk hjk e1 e2 s1
  io := fun q hq => by
    obtain ⟨h1, h2, h3⟩ := R.io q hq
    have hj : q.1 ≠ i := hio q hq
    exact ⟨h1, by rw [List.getElem?_set_ne (Ne.symm hj)]; exact h2, by rw [List.getElem?_set_ne (Ne.symm hj)]; exact h3⟩
  tab := R.tab
theorem s_set {i : Nat} {x : Str} {pos' : Pos} (hi : i ∉ B.M) (nd : X.N.Nodup) (he : DE X B W e f) (hN : X.N[i]? = some x := by rfl) (hx : Loc X.env.scope x := by first | exact Or.inl rfl | exact Or.inr rfl) (hs : swapsWith e (some (.Name x pos')) pos.line X.env = pure false := by rfl)
    (hf : X.fn x = true ∨ X.env.scope.names.lookup x = some .local := by first | exact .inl rfl | exact .inr rfl | assumption) : DS X B W rf (.Assign [.Name x pos'] e pos) (sSet i f) := by
  refine ps_imp (ps_set nd hN hx he hs hf) fun D σ H hh => ?_
  obtain ⟨fr, Hv, R, hh⟩ := hh
  refine ⟨fr, Hv, R, ?_⟩
  unfold sSet at hh
  cases hg : f fr with
  | bad => rw [hg] at hh; exact hh.elim
  | exc c fs fr1 =>
    rw [hg] at hh
    exact fun dd H' Hv' n => hh dd σ H' Hv' n.rel n.ext
  | ok d fr1 =>
    rw [hg] at hh
    dsimp only [Res.bind] at hh
    split at hh
    · next c => exact fun v H' Hv' n r => hh _ H' Hv' (n.rel.setV hi (r.rep fun i z => by rw [z] at c; cases c)) n.ext
    · exact hh.elim
theorem not_own_of_none {fr fr1 : Fr} {σ : L2.St} {H Hv H1 Hv1 : Hp} (R : Rel B fr σ H Hv) (n : Nxt B fr σ H Hv fr1 H1 Hv1) {p : Addr} (hp : H p = none) : ¬ Own B fr1 σ p := fun o => by
  obtain ⟨⟨u, hu⟩, _⟩ := R.own_some (own_shp n.shp o)
  rw [hp] at hu
  cases hu
theorem s_setF {i : Nat} {x : Str} {pos' : Pos} (hi : i ∈ B.M) (hio : ∀ q ∈ B.io, q.1 ≠ i) (nd : X.N.Nodup) (he : DF X B W e f) (hN : X.N[i]? = some x := by rfl) (hx : Loc X.env.scope x := by first | exact Or.inl rfl | exact Or.inr rfl) (hs : swapsWith e (some (.Name x pos')) pos.line X.env = pure false := by rfl)
    (hf : X.fn x = true ∨ X.env.scope.names.lookup x = some .local := by first | exact .inl rfl | exact .inr rfl | assumption) : DS X B W rf (.Assign [.Name x pos'] e pos) (sSetF i f) := by
  refine ps_imp (ps_set nd hN hx he hs hf) fun D σ H hh => ?_
  obtain ⟨fr, Hv, R, hh⟩ := hh
  refine ⟨fr, Hv, R, ?_⟩
  unfold sSetF at hh
  cases hg : f fr with
  | bad => rw [hg] at hh; exact hh.elim
  | exc c fs fr1 =>
    rw [hg] at hh
    exact fun dd H' Hv' n => hh dd σ H' Hv' n.rel n.ext
  | ok d fr1 =>
    rw [hg] at hh
    dsimp only [Res.bind] at hh
    exact fun p H' Hv' n hp hv hc => hh _ H' Hv' (n.rel.setF hi hio (not_own_of_none R n hp) (R.h0_none hp) hv hc) n.ext
end
/-! ### a def by its body -/
def startF (n : Nat) (ds : List D) : Fr := ds.map some ++ List.replicate (n - ds.length) none
def outsOf (k : Nat) (fr : Fr) : List D := (List.range k).map fun i => (fr[i]?.join).getD .non
def runFn (k n : Nat) (g : Sv) : Fn := fun ds => match g (startF n ds) with
  | .ok .nx fr => .ok .non (outsOf k fr)
  | .ok (.ret d) fr => .ok d (outsOf k fr)
  | .exc c fs fr => .exc c fs (outsOf k fr)
  | _ => .bad
/-- the slots that own: parameters that are handed in to be changed, and others -/
def ioSlots (ms : List Bool) : List Nat := (List.range ms.length).filter fun i => ms.getD i false
def ioOf (ms : List Bool) (vs : List V) : List (Nat × Addr) := (ioSlots ms).filterMap fun i => match vs[i]? with
  | some (V.ref a) => some (i, a)
  | _ => none
theorem mem_ioSlots {ms : List Bool} {i : Nat} : i ∈ ioSlots ms ↔ ms[i]? = some true := by
  unfold ioSlots
  rw [List.mem_filter, List.mem_range]
  constructor
  · rintro ⟨h1, h2⟩
    rw [List.getD_eq_getElem?_getD, List.getElem?_eq_getElem h1] at h2
    rw [List.getElem?_eq_getElem h1]
    exact congrArg some h2
  · intro h
    obtain ⟨h1, h2⟩ := List.getElem?_eq_some_iff.mp h
    exact ⟨h1, by rw [List.getD_eq_getElem?_getD, h]; rfl⟩
theorem mem_ioOf {ms : List Bool} {vs : List V} {i : Nat} {a : Addr} : (i, a) ∈ ioOf ms vs ↔ ms[i]? = some true ∧ vs[i]? = some (.ref a) := by
  unfold ioOf
  rw [List.mem_filterMap]
  constructor
  · rintro ⟨j, hj, e⟩
    split at e
    · next b hb =>
      cases e
      exact ⟨mem_ioSlots.mp hj, hb⟩
    · cases e
  · rintro ⟨h1, h2⟩
    exact ⟨i, mem_ioSlots.mpr h1, by rw [h2]⟩
section
variable {K : PySem.W.Frag} {G : SE} {ms : List Bool} {ds : List D} {vs : List V} {H Hv : Hp} {N : List Str} {M : List Nat}
theorem startF_get {n : Nat} (h : ds.length ≤ n) {i : Nat} {d : D} : (startF n ds)[i]? = some (some d) ↔ ds[i]? = some d := by
  unfold startF
  by_cases hi : i < ds.length
  · rw [List.getElem?_append_left (by simpa using hi), List.getElem?_map]
    cases ds[i]? <;> simp
  · rw [List.getElem?_append_right (by simpa using hi), List.getElem?_eq_none (by omega : ds.length ≤ i)]
    simp [List.getElem?_replicate]
theorem start_get (h : vs.length ≤ N.length) {i : Nat} {v : V} : (L2.start N vs)[i]? = some (some v) ↔ vs[i]? = some v := by
  unfold L2.start
  by_cases hi : i < vs.length
  · rw [List.getElem?_append_left (by simpa using hi), List.getElem?_map]
    cases vs[i]? <;> simp
  · rw [List.getElem?_append_right (by simpa using hi), List.getElem?_eq_none (by omega : vs.length ≤ i)]
    simp [List.getElem?_replicate]
theorem rel_start (S : Start G ms ds vs H Hv) (hN : ms.length ≤ N.length) (hM : ∀ i, i < ms.length → (i ∈ M ↔ ms[i]? = some true)) : Rel ⟨G, M, ioOf ms vs, H, Hv⟩ (startF N.length ds) (L2.start N vs) H Hv := by
  have ld : ds.length ≤ N.length := by rw [S.lend]; exact hN
  have lv : vs.length ≤ N.length := by rw [S.lenv]; exact hN
  have lt : ∀ {i : Nat} {d : D}, ds[i]? = some d → i < ms.length := fun {i d} h => by
    rw [← S.lend]
    exact (List.getElem?_eq_some_iff.mp h).1
  have mode : ∀ {i : Nat}, i < ms.length → ms[i]? = some true ∨ ms[i]? = some false := fun {i} h => by
    rw [List.getElem?_eq_getElem h]
    cases ms[i] <;> simp
  refine ⟨S.sub, .refl _, fun b o h => .inl h, fun b o h _ _ => h, ?_, fun i d e hm => ?_, fun i d e hc hm => ?_, fun i d e hm => ?_, fun i j a di dj hi hj hij e1 e2 s1 s2 => ?_, fun p hp => ?_, S.tab⟩
  · show (startF N.length ds).length = (L2.start N vs).length
    unfold startF L2.start
    simp only [List.length_append, List.length_map, List.length_replicate]
    rw [S.lend, S.lenv]
  · have e' := (startF_get ld).mp e
    have hl := lt e'
    rcases mode hl with h | h
    · exact absurd ((hM i hl).mpr h) hm
    · obtain ⟨v, h1, h2⟩ := S.val i d h e'
      exact ⟨v, (start_get lv).mpr h1, h2⟩
  · have e' := (startF_get ld).mp e
    have hl := lt e'
    have h := (hM i hl).mp hm
    obtain ⟨a, h1, h2, h3⟩ := S.own i d h e'
    rw [h3.isCell] at hc
    cases hc
  · have e' := (startF_get ld).mp e.1
    have hl := lt e'
    have h := (hM i hl).mp hm
    obtain ⟨a, h1, h2, h3⟩ := S.own i d h e'
    exact ⟨a, (start_get lv).mpr h1, h2, .inl ⟨(i, a), mem_ioOf.mpr ⟨h, h1⟩, rfl⟩, h3⟩
  · have e1' := (startF_get ld).mp e1.1
    have e2' := (startF_get ld).mp e2.1
    exact S.sep i j a hij ((hM i (lt e1')).mp hi) ((hM j (lt e2')).mp hj) ((start_get lv).mp s1) ((start_get lv).mp s2)
  · obtain ⟨i, a⟩ := p
    obtain ⟨h1, h2⟩ := mem_ioOf.mp hp
    have hl : i < ms.length := (List.getElem?_eq_some_iff.mp h1).1
    have hd : ds[i]? = some (ds[i]'(by rw [S.lend]; exact hl)) := List.getElem?_eq_getElem _
    obtain ⟨_, _, _, h3⟩ := S.own i _ h1 hd
    exact ⟨(hM i hl).mpr h1, ⟨_, (startF_get ld).mpr hd, h3.isCell⟩, (start_get lv).mpr h2⟩
theorem fin_of (hl : vs.length = ms.length) {fr : Fr} {H' Hv' : Hp} (f : FinB ⟨G, M, ioOf ms vs, H, Hv⟩ fr H' Hv') : FinC G ms (outsOf ms.length fr) vs H Hv H' Hv' where
  sub := f.sub
  ext := f.ext0
  new := f.new
  keep := fun b o h no nt => f.keep b o h (fun p hp z => no (by
    obtain ⟨i, a⟩ := p
    obtain ⟨h1, h2⟩ := (mem_ioOf (ms := ms) (vs := vs)).mp hp
    exact ⟨i, h1, by rw [← z]; exact h2⟩)) nt
  tab := f.tab
  io := fun i a h1 h2 => by
    obtain ⟨z1, d, z2, z3⟩ := f.io (i, a) (mem_ioOf.mpr ⟨h1, h2⟩)
    refine ⟨z1, d, ?_, z3⟩
    have hi : i < ms.length := (List.getElem?_eq_some_iff.mp h1).1
    unfold outsOf
    rw [List.getElem?_map, List.getElem?_range hi]
    show some ((fr[i]?.join).getD .non) = some d
    have z2' : fr[i]? = some (some d) := z2
    rw [z2']
    rfl
end
section
variable {P : Program} {w : World} {G : SE} {ms : List Bool} {M : List Nat} {rf : Bool} {g : Sv} {x qual : Str} {st : Stmt} {f : Addr} {fd : FuncData} {N ps : List Str} {k : Nat}
/-- THE RULE for a def: what its body's term of rules gives -/
theorem fnok_of (F : Fun G.K x qual st f fd) (S : FnScope N ps (defScope st)) (hlen : ms.length = ps.length) (hM : ∀ i, i < ms.length → (i ∈ M ↔ ms[i]? = some true)) (hret : rf = false ∨ ∀ ds fr, g (startF N.length ds) ≠ .ok .nx fr)
    (hbody : ∀ (cdv : Value) (A : Around) (outer : List Env) (s : Shared) (H : Hp) (E : XK) (io : List (Nat × Addr)) (Hv : Hp), (∀ p ∈ io, ms[p.1]? = some true) → Room k (A.deeper (PyProof.Rows.envOfC qual (defScope st) s.heap.objs.size f cdv)) →
      DSs (cxOf (L2.CX G.P G.w) G.P G.w G.K G.mg G.base N qual (defScope st) f cdv A outer s H E) ⟨G, M, io, H, Hv⟩ (fun cls d _ H => E cls d H) rf (defBody st) g) :
    FnOk G.P G.w G.K G.mg G.base (L2.CX G.P G.w) (k + 1) f fd ps (spOf G ms rf (runFn ms.length N.length g)) := by
  have hNl : ms.length ≤ N.length := by
    have := congrArg List.length S.pre
    rw [List.length_take] at this
    omega
  refine F.okX S (fun vs H Q E h => ?_) (fun cdv A outer s H vs Q E hr h => ?_)
  · obtain ⟨ds, Hv, S', _⟩ := h
    rw [S'.lenv, hlen]
  · obtain ⟨ds, Hv, S', h⟩ := h
    refine ⟨_, hbody cdv A outer s H E (ioOf ms vs) Hv (fun p hp => ((mem_ioOf (a := p.2)).mp hp).1) hr, startF N.length ds, Hv, rel_start S' hNl hM, ?_⟩
    unfold runFn at h
    cases hg : g (startF N.length ds) with
    | bad => rw [hg] at h; exact h.elim
    | exc c fs fr =>
      rw [hg] at h
      exact fun dd σ' H' Hv' R _ ex => h dd H' Hv' (fin_of S'.lenv R.fin) ex
    | ok fl fr =>
      rw [hg] at h
      cases fl with
      | nx =>
        rcases hret with hrf | hrf
        · subst hrf
          refine fun σ' H' Hv' R _ => h .non H' Hv' (fin_of S'.lenv R.fin) ?_
          show if false = true then _ else Rep G Hv' .non .non
          rw [if_neg Bool.false_ne_true]
          exact repN
        · exact absurd hg (hrf ds fr)
      | brk => exact h.elim
      | cnt => exact h.elim
      | ret d => exact fun v H' Hv' f' ret => h v H' Hv' (fin_of S'.lenv f') ret
end
end KS
namespace KS
open PySem PySem.Spec L2
/-! ### targets -/
abbrev Tv := D → Fr → Option Fr
def setL (fr : Fr) : List Nat → List D → Fr
  | i :: is, d :: ds => setL (fr.set i (some d)) is ds
  | _, _ => fr
def tgN (i : Nat) : Tv := fun d fr => some (fr.set i (some d))
def tgT (is : List Nat) : Tv := fun d fr => match d with
  | .tup ds => if ds.length = is.length then some (setL fr is ds) else none
  | _ => none
def dTG (B : Bd) (is : List Nat) (t : Tv) : TG := fun v σ H Q => ∃ fr Hv d fr', Rel B fr σ H Hv ∧ Rep B.G Hv d v ∧ t d fr = some fr' ∧
  ∀ σ', Rel B fr' σ' H Hv → σ'.length = σ.length → (∀ j, j ∉ is → σ'[j]? = σ[j]?) → Q σ' H
/-- a target touches its own slots alone -/
def TgOk (t : Tv) (is : List Nat) : Prop := ∀ d fr fr', t d fr = some fr' → ∀ j, j ∉ is → fr'[j]? = fr[j]?
theorem setL_out : ∀ {is : List Nat} {ds : List D} {fr : Fr} {j : Nat}, j ∉ is → (setL fr is ds)[j]? = fr[j]?
  | [], _, _, _, _ => rfl
  | i :: is, [], _, _, _ => rfl
  | i :: is, d :: ds, fr, j, h => by
    rw [List.mem_cons, not_or] at h
    rw [setL, setL_out h.2, List.getElem?_set_ne (Ne.symm h.1)]
theorem tgN_ok {i : Nat} : TgOk (tgN i) [i] := fun d fr fr' e j hj => by
  cases e
  exact List.getElem?_set_ne fun z => hj (by rw [z]; exact List.mem_singleton.mpr rfl)
theorem tgT_ok {is : List Nat} : TgOk (tgT is) is := fun d fr fr' e j hj => by
  unfold tgT at e
  split at e
  · split at e
    · cases e
      exact setL_out hj
    · cases e
  · cases e
structure DG (X : Cx) (B : Bd) (tg : Expr) (is : List Nat) (t : Tv) : Prop where
  pg : PG X tg (dTG B is t)
  ok : TgOk t is
def dTGs (B : Bd) (is js : List Nat) : TGs := fun vs σ H Q => ∃ fr Hv ds, Rel B fr σ H Hv ∧ RepL B.G Hv ds vs ∧ ds.length = is.length ∧
  ∀ σ', Rel B (setL fr is ds) σ' H Hv → σ'.length = σ.length → (∀ j, j ∉ js → σ'[j]? = σ[j]?) → Q σ' H
def DGs (X : Cx) (B : Bd) (tgs : List Expr) (is js : List Nat) : Prop := PGs X tgs (dTGs B is js)
theorem pg_imp {X : Cx} {tg : Expr} {t t' : TG} (h : PG X tg t) (i : ∀ v σ H Q, t' v σ H Q → t v σ H Q) : PG X tg t' := ⟨fun pins s σ H v u Q I r hw => h.run pins s σ H v u Q I r (i v σ H Q hw)⟩
theorem pgs_imp {X : Cx} {tg : List Expr} {t t' : TGs} (h : PGs X tg t) (i : ∀ v σ H Q, t' v σ H Q → t v σ H Q) : PGs X tg t' := ⟨fun pins s σ H v u Q I r hw => h.run pins s σ H v u Q I r (i v σ H Q hw)⟩
section
variable {X : Cx} {B : Bd} {pos : Pos}
theorem g_name {i : Nat} {x : Str} (hi : i ∉ B.M) (nd : X.N.Nodup) (hN : X.N[i]? = some x := by rfl) (hx : Loc X.env.scope x := by first | exact Or.inl rfl | exact Or.inr rfl)
    (hf : X.fn x = true ∨ X.env.scope.names.lookup x = some .local := by first | exact .inl rfl | exact .inr rfl | assumption) : DG X B (.Name x pos) [i] (tgN i) := by
  refine ⟨?_, tgN_ok⟩
  refine pg_imp (pg_name nd hN hx hf) fun v σ H Q h => ?_
  obtain ⟨fr, Hv, d, fr', R, r, ht, k⟩ := h
  cases ht
  exact k _ (R.setV hi r) (by rw [List.length_set]) fun j hj => List.getElem?_set_ne (fun z => hj (by rw [z]; exact List.mem_singleton.mpr rfl))
theorem gs_nil : DGs X B [] [] [] := by
  refine pgs_imp pgs_nil fun vs σ H Q h => ?_
  obtain ⟨fr, Hv, ds, R, r, hl, k⟩ := h
  have e : ds = [] := List.eq_nil_of_length_eq_zero hl
  subst e
  exact ⟨r.nil_inv, k σ R rfl fun _ _ => rfl⟩
theorem gs_cons {i : Nat} {x : Str} {es : List Expr} {is js : List Nat} (hi : i ∉ B.M) (nd : X.N.Nodup) (ht : DGs X B es is js) (hN : X.N[i]? = some x := by rfl) (hx : Loc X.env.scope x := by first | exact Or.inl rfl | exact Or.inr rfl)
    (hf : X.fn x = true ∨ X.env.scope.names.lookup x = some .local := by first | exact .inl rfl | exact .inr rfl | assumption)
    (hs : (assignEach (.Name x pos :: es) X.env).map (·.2) = assign (.Name x pos) X.env :: (assignEach es X.env).map (·.2) := by rfl) : DGs X B (.Name x pos :: es) (i :: is) (i :: js) := by
  refine pgs_imp (pgs_cons (pg_name nd hN hx hf) ht hs) fun vs σ H Q h => ?_
  obtain ⟨fr, Hv, ds, R, r, hl, k⟩ := h
  cases ds with
  | nil => cases hl
  | cons d ds =>
    obtain ⟨v, t, rfl, h1, h2⟩ := r.cons_inv
    refine ⟨v, t, rfl, fr.set i (some d), Hv, ds, R.setV hi h1, h2, by simpa using hl, fun σ' R' hl' ho => k σ' R' (by rw [hl', List.length_set]) fun j hj => ?_⟩
    rw [List.mem_cons, not_or] at hj
    rw [ho j hj.2, List.getElem?_set_ne (Ne.symm hj.1)]
theorem g_tup {es : List Expr} {k : Nat} {is : List Nat} (hc : X.calm = true) (h : DGs X B es is is) (hK : X.K = B.G.K := by rfl) (hn : (assignEach es X.env).length = is.length := by rfl) (hst : (assignEach es X.env).findIdx? (·.1) = none := by rfl) : DG X B (.Tuple es k pos) is (tgT is) := by
  refine ⟨?_, tgT_ok⟩
  refine pg_imp (pg_tup hc h hn hst) fun v σ H Q hh => ?_
  obtain ⟨fr, Hv, d, fr', R, r, ht, k⟩ := hh
  unfold tgT at ht
  split at ht
  · split at ht
    · next hl =>
      cases ht
      obtain ⟨a, vs, rfl, q, rl⟩ := Rep.tup_inv r
      exact ⟨a, vs, rfl, by rw [hK]; exact R.sub.sqt q, by rw [rl.length]; exact hl, fr, Hv, _, R, rl, hl, k⟩
    · cases ht
  · cases ht
end
/-! ### what is walked -/
abbrev Iv := Fr → Res Fr (List D)
structure DWalk (B : Bd) (J : It) (ds : List D) (Hv1 : Hp) : Prop where
  ex : ∃ (S : Hp → Prop) (Y : Nat → Hp → V → Hp → Prop), Walk J ds.length S Y ∧ (∀ H' Hv', Sub Hv1 Hv' → Sub Hv' H' → S H') ∧
    (∀ i H' Hv' x H'', i < ds.length → Sub Hv1 Hv' → Sub Hv' H' → Y i H' x H'' → ∃ d, ds[i]? = some d ∧ ((H'' = H' ∧ Rep B.G Hv' d x) ∨ (∃ T es vs, d = .tup es ∧ x = .ref T ∧ H' T = none ∧ H'' = upd H' T (.tup vs) ∧ RepL B.G Hv' es vs)))
def PostI (B : Bd) (W : WX) (fr : Fr) (σ : L2.St) (H Hv : Hp) (r : Res Fr (List D)) (R : It → Hp → Prop) : Prop :=
  match r with
  | .ok ds fr1 => ∀ J H1 Hv1, Nxt B fr σ H Hv fr1 H1 Hv1 → DWalk B J ds Hv1 → R J H1
  | .exc c fs fr' => ∀ dd H' Hv', Nxt B fr σ H Hv fr' H' Hv' → ExcAt B.G H' Hv' c fs dd → W (.ref (B.G.ecls c)) (some dd) σ H'
  | .bad => False
def dTI (B : Bd) (W : WX) (h : Iv) : TI := fun σ H R => ∃ fr Hv, Rel B fr σ H Hv ∧ PostI B W fr σ H Hv (h fr) R
def DI (X : Cx) (B : Bd) (W : WX) (tg iter : Expr) (h : Iv) : Prop := PI X tg iter (dTI B W h)
theorem pi_imp {X : Cx} {tg iter : Expr} {t t' : TI} (h : PI X tg iter t) (i : ∀ σ H R, t' σ H R → t σ H R) : PI X tg iter t' := ⟨fun pins s σ H R I hw => h.run pins s σ H R I (i σ H R hw)⟩
/-- a list, a tuple, a text -/
def iSeq (K : PySem.W.Frag) (tl : TE) : TI := fun σ H R => tl σ H fun x H1 => (∃ a, x = .ref a ∧ (∃ xs, SqL K H1 a xs) ∧ R (Itl K a) H1) ∨ (∃ a, x = .ref a ∧ (∃ xs, SqT K H1 a xs) ∧ R (Itt K a) H1) ∨ (∃ z, x = .str z ∧ R (Its z) H1)
theorem pi_seq {X : Cx} {tg l : Expr} {tl : TE} (hl : PE X l tl) : PI X tg l (iSeq X.K tl) := by
  refine ⟨fun pins s σ H R I h => ?_⟩
  refine thn (hl.run pins s σ H _ I h) fun v s1 ⟨x, H1, I1, r1, q1⟩ => ?_
  rcases q1 with ⟨a, e, ⟨xs, hq⟩, q⟩ | ⟨a, e, ⟨xs, hq⟩, q⟩ | ⟨z, e, q⟩
  · subst e
    cases r1
    obtain ⟨its, rv, p, hz⟩ := I1.list hq
    refine wpAny_pyIter_list p.isList ?_
    refine ⟨s1.heap.objs.size, [s1.heap.objs.size], _, _, H1, rfl, I1.kept (t' := s1.toks) fun b o e => Heap.get?_push_of_some _ e, turn_list a _, ⟨_, Heap.get?_push_size _ rfl, rfl, rfl⟩, fun b hb => ?_, q⟩
    have e : b = s1.heap.objs.size := by simpa using hb
    subst e
    exact I1.fpOk (Nat.le_refl _) (I1.hok.fresh (Nat.le_refl _))
  · subst e
    cases r1
    obtain ⟨its, rv, p, hz⟩ := I1.tuple hq
    refine wpAny_pyIter_tuple (show s1.heap.IsTuple a its.toArray from p) ?_
    refine ⟨s1.heap.objs.size, [s1.heap.objs.size], _, _, H1, rfl, I1.kept (t' := s1.toks) fun b o e => Heap.get?_push_of_some _ e, turn_tuple a _, ⟨_, Heap.get?_push_size _ rfl, rfl, rfl⟩, fun b hb => ?_, q⟩
    have e : b = s1.heap.objs.size := by simpa using hb
    subst e
    exact I1.fpOk (Nat.le_refl _) (I1.hok.fresh (Nat.le_refl _))
  · subst e
    obtain ⟨t, rfl⟩ := r1
    cases ha : z.cps.all (· < 128)
    · exact wpAny_pyIter_wide ha (pi_one (tk := s1.toks) I1 _ (turn_str _ z t "str_iterator" (.inr rfl)) ⟨_, Heap.get?_push_size _ rfl, rfl, rfl⟩ q)
    · exact wpAny_pyIter_ascii ha (pi_one (tk := s1.toks) I1 _ (turn_str _ z t "str_ascii_iterator" (.inl rfl)) ⟨_, Heap.get?_push_size _ rfl, rfl, rfl⟩ q)
def chars (z : Str) : List D := z.cps.toList.map fun c => .str ⟨#[c]⟩
def seqD : D → Option (List D)
  | .lst ds => some ds
  | .tup ds => some ds
  | .scr ns => some (ns.map D.int)
  | .str z => some (chars z)
  | _ => none
def iVal (f : Ev) : Iv := fun fr => (f fr).bind fun d fr1 => if pers d = true then (match seqD d with
  | some ds => .ok ds fr1
  | none => .bad) else .bad
section
variable {B : Bd} {Hv1 : Hp} {ds es : List D}
theorem repl_at (s : RepL B.G Hv1 ds vs) {i : Nat} (hi : i < ds.length) {x : V} (e : vs[i]? = some x) {Hv' : Hp} (h : Sub Hv1 Hv') : ∃ d, ds[i]? = some d ∧ Rep B.G Hv' d x := by
  obtain ⟨d, h1, h2⟩ := s.getV e
  exact ⟨d, h1, Rep.mono h _ _ h2⟩
theorem dwalk_list {a : Addr} {vs : List V} (q : Hv1 a = some (.lst vs)) (r : RepL B.G Hv1 ds vs) : DWalk B (Itl B.G.K a) ds Hv1 := by
  refine ⟨_, _, by rw [← r.length]; exact walk_list, fun H' Hv' s1 s2 => SqL.of (s2 _ _ (s1 _ _ q)), fun i H' Hv' x H'' hi s1 s2 y => ?_⟩
  obtain ⟨e, y⟩ := y
  obtain ⟨d, h1, h2⟩ := repl_at r hi y s1
  exact ⟨d, h1, .inl ⟨e, h2⟩⟩
theorem dwalk_tup {a : Addr} {vs : List V} (q : SqT B.G.K Hv1 a vs) (r : RepL B.G Hv1 ds vs) : DWalk B (Itt B.G.K a) ds Hv1 := by
  refine ⟨_, _, by rw [← r.length]; exact walk_tup, fun H' Hv' s1 s2 => s2.sqt (s1.sqt q), fun i H' Hv' x H'' hi s1 s2 y => ?_⟩
  obtain ⟨e, y⟩ := y
  obtain ⟨d, h1, h2⟩ := repl_at r hi y s1
  exact ⟨d, h1, .inl ⟨e, h2⟩⟩
theorem dwalk_scr {a : Addr} {ns : List Int} (q : SqL B.G.K Hv1 a (ns.map V.int)) : DWalk B (Itl B.G.K a) (ns.map D.int) Hv1 := by
  have w := walk_list (K := B.G.K) (a := a) (xs := ns.map V.int)
  rw [List.length_map] at w
  refine ⟨_, _, by rw [List.length_map]; exact w, fun H' Hv' s1 s2 => s2.sql (s1.sql q), fun i H' Hv' x H'' hi s1 s2 y => ?_⟩
  obtain ⟨e, y⟩ := y
  rw [List.getElem?_map] at y
  cases hn : ns[i]? with
  | none => rw [hn] at y; cases y
  | some n =>
    rw [hn] at y
    cases y
    exact ⟨.int n, by rw [List.getElem?_map, hn]; rfl, .inl ⟨e, Rep.int_iff.mpr rfl⟩⟩
theorem dwalk_str {z : Str} : DWalk B (Its z) (chars z) Hv1 := by
  refine ⟨_, _, by rw [show (chars z).length = z.cps.size by simp [chars]]; exact walk_str, fun _ _ _ _ => trivial, fun i H' Hv' x H'' hi s1 s2 y => ?_⟩
  obtain ⟨e, c, hc, rfl⟩ := y
  refine ⟨.str ⟨#[c]⟩, ?_, .inl ⟨e, Rep.str_iff.mpr rfl⟩⟩
  unfold chars
  rw [List.getElem?_map, Array.getElem?_toList, hc]
  rfl
end
section
variable {X : Cx} {B : Bd} {W : WX} {tg a b : Expr} {f g : Ev} {p pos : Pos}
theorem i_val (ha : DE X B W a f) (hK : X.K = B.G.K := by rfl) : DI X B W tg a (iVal f) := by
  refine pi_imp (pi_seq ha) fun σ H R h => ?_
  obtain ⟨fr, Hv, Rl, h⟩ := h
  refine ⟨fr, Hv, Rl, ?_⟩
  unfold iVal at h
  cases hf : f fr with
  | bad => rw [hf] at h; exact h.elim
  | exc c fs fr1 => rw [hf] at h; exact h
  | ok d fr1 =>
    rw [hf] at h
    dsimp only [Res.bind] at h
    intro v H1 Hv1 n rw1
    split at h
    · next hp =>
      have r := rw1.rep fun i z => by rw [z] at hp; cases hp
      cases d with
      | lst ds =>
        obtain ⟨x, vs, rfl, q, rl⟩ := Rep.lst_inv r
        exact .inl ⟨x, rfl, ⟨vs, SqL.of (n.rel.sub _ _ q)⟩, by rw [hK]; exact h _ H1 Hv1 n (dwalk_list q rl)⟩
      | tup ds =>
        obtain ⟨x, vs, rfl, q, rl⟩ := Rep.tup_inv r
        exact .inr (.inl ⟨x, rfl, ⟨vs, by rw [hK]; exact n.rel.sub.sqt q⟩, by rw [hK]; exact h _ H1 Hv1 n (dwalk_tup q rl)⟩)
      | scr ns =>
        obtain ⟨x, rfl, q⟩ := Rep.scr_inv r
        exact .inl ⟨x, rfl, ⟨_, by rw [hK]; exact n.rel.sub.sql q⟩, by rw [hK]; exact h _ H1 Hv1 n (dwalk_scr q)⟩
      | str z =>
        rw [Rep.str_iff.mp r]
        exact .inr (.inr ⟨z, rfl, h _ H1 Hv1 n dwalk_str⟩)
      | _ => exact h.elim
    · exact h.elim
end
end KS
namespace KS
open PySem PySem.Spec L2 PyProof.Rows
/-! ### enumerate over a tuple -/
set_option maxHeartbeats 1000000 in
theorem meets_enumerate_new1 {v : Value} {o : Obj} {H : Heap → Prop} (B : Begins v o H) :
    Meets (Builtin.«enumerate.__new__» ⟨[.type "enumerate", v], []⟩) (fun _ R s => H s.heap ∧
      R (.ok (.ret (.ref (s.heap.push o).objs.size))) { s with heap := (s.heap.push o).push { cls := .type "enumerate", data := .fields #[.none, .bool false, .ref s.heap.objs.size, rawInt 0, .none, .none] } }) :=
  .of_wp fun prog w A R s h => by
    obtain ⟨hp, g, d, tk, os⟩ := s; obtain ⟨h1, h⟩ := h
    have hsub := sub_enumerate
    have q1 : ∀ {A' : Around} {E : Value → Shared → Prop} {Q : Value → Shared → Prop}, Q (.ref hp.objs.size) ⟨hp.push o, g, d, tk, os⟩ → wpAny (model prog w) A' (pyIter v) Q E ⟨hp, g, d, tk, os⟩ :=
      fun q => B.iter prog w _ _ ⟨hp, g, d, tk, os⟩ _ h1 q
    wp_walk using q1
    refine wpAny_stack_any fun st => wpAny_pure ?_
    split
    · rename_i c _ _ _ _ _
      cases (c == Value.type "enumerate")
      · wp_walk using q1
        exact ⟨_, rfl, h⟩
      · wp_walk using q1
        exact ⟨_, rfl, h⟩
    · wp_walk using q1
      exact ⟨_, rfl, h⟩
theorem enum_begins1 {prog : Program} {w : World} {A : Around} {E : Value → Shared → Prop} {s : Shared} {v : Value} {o : Obj} {H : Heap → Prop} {Q : Value → Shared → Prop} (B : Begins v o H) (h1 : H s.heap)
    (h : ∀ h', IsEnum h' (s.heap.objs.size + 1) s.heap.objs.size 0 .none → h'.get? s.heap.objs.size = some o → h'.objs.size = s.heap.objs.size + 2 →
      (∀ b o, s.heap.get? b = some o → h'.get? b = some o) → Q (.ref (s.heap.objs.size + 1)) { s with heap := h' }) :
    wpAny (model prog w) A (call (.type "enumerate") [v]) Q E s := by
  refine callType_new F.called_enumerate (by decide) (F.typeCall_enumerate_1 _) (F.newCall_enumerate_1 _) (fun obj => F.args_object_init_2 obj _) F.entry_enumerate_new
    (meets_enumerate_new1 B) ⟨h1, ?_⟩
  have hz : (s.heap.push o).objs.size = s.heap.objs.size + 1 := Heap.size_push ..
  show _ ∧ _
  rw [hz]
  have he : IsEnum ((s.heap.push o).push { cls := .type "enumerate", data := .fields #[.none, .bool false, .ref s.heap.objs.size, rawInt 0, .none, .none] }) (s.heap.objs.size + 1) s.heap.objs.size 0 .none := by
    have := Heap.get?_push_size (s.heap.push o) (o := { cls := .type "enumerate", data := .fields #[.none, .bool false, .ref s.heap.objs.size, rawInt 0, .none, .none] }) rfl
    rw [hz] at this; exact this
  refine ⟨⟨_, he, rfl⟩, h _ he (Heap.get?_push_of_some _ (Heap.get?_push_size _ B.free)) (by rw [Heap.size_push, hz]) fun b o x => Heap.get?_push_of_some _ (Heap.get?_push_of_some _ x)⟩
/-- the tuple at a, each item in a new pair -/
def IteT (K : PySem.W.Frag) (a : Addr) : It :=
  ⟨fun i H => ∃ (xs : List V) (x : V), SqT K H a xs ∧ xs[i]? = some x, fun i H v H' => ∃ T x, v = .ref T ∧ H T = none ∧ H' = upd H T (.tup [.int (i : Nat), x]) ∧ ∀ xs, SqT K H a xs → xs[i]? = some x, fun i H => ∃ xs : List V, SqT K H a xs ∧ xs.length ≤ i⟩
theorem walk_enumT {K : PySem.W.Frag} {a : Addr} {xs : List V} : Walk (IteT K a) xs.length (fun H => SqT K H a xs) (YPair (fun i => some (.int (i : Nat))) (fun i => xs[i]?)) := by
  refine ⟨fun i _ hi q => ⟨xs, xs[i], q, by simp [hi]⟩, fun _ q => ⟨xs, q, Nat.le_refl _⟩, fun i H v H' _ q y => ?_⟩
  obtain ⟨T, x, h1, h2, h3, h4⟩ := y
  exact ⟨T, .int (i : Nat), x, h1, h2, h3, rfl, h4 xs q⟩
theorem turn_enumT {P : Program} {w : World} {K : PySem.W.Frag} {elts : List Expr} {kk : Nat} {tpos : Pos} (a e it : Addr) :
    Turn P w K (.Tuple elts kk tpos) (IteT K a) [e, it] e (fun i h => (∃ old, IsEnum h e it ((i : Nat) : Int) old) ∧ h.IsTupleIter it a i ∧ e ≠ it ∧ a ≠ it ∧ e ≠ a) where
  mem := by simp
  obj := fun i h st b hb => by
    obtain ⟨⟨old, he⟩, ⟨o, ho, hc, hd⟩, _⟩ := st
    have e' : b = e ∨ b = it := by simpa using hb
    rcases e' with z | z
    · rw [z]; exact ⟨_, he, fun v q => nomatch q⟩
    · rw [z]; exact ⟨o, ho, fun v q => by rw [hd] at q; cases q⟩
  keep := fun i h h' st k => let ⟨⟨old, he⟩, hi, hne⟩ := st; ⟨⟨old, k e (by simp) _ he⟩, hi.at fun o q => k it (by simp) o q, hne⟩
  item := by
    intro X hP hw hK hc i pins s σ H E I hf st hg
    subst hP hw hK
    obtain ⟨⟨old, he⟩, hit, hne, hat, hea⟩ := st
    obtain ⟨xs, x, hq, hx⟩ := hg
    obtain ⟨its, rv, p, hz⟩ := I.tuple hq
    obtain ⟨u, hu, ru⟩ := rv.get hx
    have hel : e < s.heap.objs.size := Heap.lt_size he
    have hil : it < s.heap.objs.size := by obtain ⟨_, q, _⟩ := hit; exact Heap.lt_size q
    have hlen := rv.length
    have hi : i < its.toArray.size := by
      have := (List.getElem?_eq_some_iff.mp hu).1
      simpa using this
    refine wpAny_pyNext_enum_itemD (Draws.tuple (show X.A.in1.handled = none from (I.ok.hd hc)) it a hat its.toArray) he ⟨hit, show s.heap.IsTuple a its.toArray from p⟩ hi hne (by simp [hne, hea]) fun y h' tk hPy ho hit' hT hsz hk => ?_
    have ey : y = u := by
      have : its.toArray[i]? = some y := hPy
      rw [show its.toArray[i]? = its[i]? by simp, hu] at this
      exact (Option.some.inj this).symm
    subst ey
    refine ⟨_, rfl, wpAny_letOwnedTupleGo_enum (s := { s with heap := h', toks := tk + 1 }) ho fun h'' he' sb => ?_⟩
    have hT2 : h''.get? s.heap.objs.size = some { cls := .type "tuple", data := .seq #[.int i tk, y] } := (sb.2 _ (Nat.ne_of_gt hel)).trans hT
    have new : ObjOk X.prog X.w (upd H s.heap.objs.size (.tup [.int (i : Nat), x])) h'' s.heap.objs.size (.tup [.int (i : Nat), x]) :=
      ⟨by show 2 ≤ sizeLine; decide, [.int i tk, y], .cons ⟨_, rfl⟩ (.cons ru .nil), ⟨_, hT2, rfl, _, rfl⟩⟩
    have I1 : Inv X pins σ (upd H s.heap.objs.size (.tup [.int (i : Nat), x])) { s with heap := h'', toks := tk + 1 } :=
      I.turnedNew (ch := [e, it]) (fun b ob hb q => (sb.2 b (fun z => hb (by simp [z]))).trans (hk b ob (fun z => hb (by simp [z])) (fun z => hb (by simp [z])) q)) hf (Nat.le_refl _) new
    refine ⟨.ref s.heap.objs.size, _, I1, rfl, ⟨_, x, rfl, I.hok.fresh (Nat.le_refl _), rfl, fun ys hy => by rw [I.tuple_inj hy hq]; exact hx⟩, ⟨⟨y, ?_⟩, hit'.1.at fun o q => (sb.2 it (Ne.symm hne)).trans q, hne, hat, hea⟩, fun b hb => ?_⟩
    · have e1 : ((i + 1 : Nat) : Int) = (i : Int) + 1 := by omega
      rw [e1]; exact he'
    · have hb' : b < s.heap.objs.size := by
        have e' : b = e ∨ b = it := by simpa using hb
        rcases e' with z | z
        · rw [z]; exact hel
        · rw [z]; exact hil
      rw [upd_ne (Nat.ne_of_lt hb')]
      exact (hf b hb).1
  done := by
    intro X hP hw hK hc i pins s σ H E I hf st hg
    subst hP hw hK
    obtain ⟨⟨old, he⟩, hit, hne, hat, hea⟩ := st
    obtain ⟨xs, hq, hx⟩ := hg
    obtain ⟨its, rv, p, hz⟩ := I.tuple hq
    obtain ⟨f0, f1, f2, f3, f4, f5⟩ := hf it (by simp)
    have hl := rv.length
    have hT : s.TypeIs (.ref e) "enumerate" := ⟨_, he, rfl⟩
    unfold pyNext
    refine wpAny_bind (wpAny_attempt (wpAny_callSpecial?_slot (name := Str.ofString "__next__") hT F.slot_enumerate_next
      (wpAny_call_entry F.slot_enumerate_next hT F.entry_enumerate_next ?_ (F.args_enumerate_next_1 _))))
    show wpAny _ _ (field (.ref e) 2 >>= _) _ _ _
    refine wpAny_bind (wpAny_field he rfl (x := .ref it) rfl ?_)
    refine wpAny_bind (wpAny_nextOf_tuple_end (show X.A.in1.handled = none from I.ok.hd hc) hit (show s.heap.IsTuple a its.toArray from p) (by simp; omega) fun h' x he' hx' => ?_)
    obtain ⟨o, ho, hc'⟩ := hx'
    refine wpAny_bind (wpAny_isInstance (T := "StopIteration") (b := true) ⟨o, ho, hc'⟩ isSubtype_stop ?_)
    exact wpAny_pure ⟨rfl, I.turned (t' := s.toks) (fun b o hb q => he' b o hb q) f0 f1 f3 f4 f5⟩
  self := fun A i s Q E st h => let ⟨⟨_, he⟩, _⟩ := st; wpAny_pyIter_enum he h
def iEnumA (K : PySem.W.Frag) (ta : TA) : TI := fun σ H R => ta σ H fun vs H1 => ∃ a xs, vs = [.ref a] ∧ ((SqL K H1 a xs ∧ R (Ite K a) H1) ∨ (SqT K H1 a xs ∧ R (IteT K a) H1))
theorem pi_enumA {X : Cx} {e : Expr} {ta : TA} {p pos tpos : Pos} {elts : List Expr} {kk : Nat} (hg : Gl X "enumerate") (hm : X.mg "enumerate" = none) (ha : PA X [e] ta) (hs : starEach [e] X.env = [(false, eval e X.env)] := by rfl) :
    PI X (.Tuple elts kk tpos) (.Call (.Name "enumerate" p) [e] [] pos) (iEnumA X.K ta) := by
  refine ⟨fun pins s σ H R I h => ?_⟩
  refine Call_ (ld_blt I hg hm boot_enumerate (PyProof.Rows.callWith_type1 (thn (ha.run pos pins s σ H _ I h) fun us s1 ⟨vs, H1, I1, r1, q1⟩ => ?_) hs rfl))
  obtain ⟨a, xs, ex, q1⟩ := q1
  subst ex
  cases r1 with
  | cons r rr =>
    cases rr
    cases r
    have fp : ∀ b ∈ [s1.heap.objs.size + 1, s1.heap.objs.size], FpOk X pins H1 b := fun b hb => by
      have e' : b = s1.heap.objs.size + 1 ∨ b = s1.heap.objs.size := by simpa using hb
      have hle : s1.heap.objs.size ≤ b := by
        rcases e' with z | z
        · rw [z]; exact Nat.le_add_right _ _
        · rw [z]; exact Nat.le_refl _
      exact I1.fpOk hle (I1.hok.fresh hle)
    rcases q1 with ⟨hq, q⟩ | ⟨hq, q⟩
    · obtain ⟨its, rv, p', hz⟩ := I1.list hq
      refine call_enumerate_list p'.isList fun h' he hit hsz hk => wpAny_pyIter_enum he ?_
      have I2 : Inv X pins σ H1 { s1 with heap := h' } := I1.kept (t' := s1.toks) hk
      exact ⟨s1.heap.objs.size + 1, [s1.heap.objs.size + 1, s1.heap.objs.size], _, _, H1, rfl, I2, turn_enum a (s1.heap.objs.size + 1) s1.heap.objs.size, ⟨⟨.none, he⟩, hit, Nat.succ_ne_self _⟩, fp, q⟩
    · obtain ⟨its, rv, p', hz⟩ := I1.tuple hq
      have pt : s1.heap.IsTuple a its.toArray := p'
      have al : a < s1.heap.objs.size := by obtain ⟨_, z, _⟩ := pt; exact Heap.lt_size z
      refine enum_begins1 (begins_tuple a its.toArray) pt fun h' he hit hsz hk => wpAny_pyIter_enum he ?_
      have I2 : Inv X pins σ H1 { s1 with heap := h' } := I1.kept (t' := s1.toks) hk
      exact ⟨s1.heap.objs.size + 1, [s1.heap.objs.size + 1, s1.heap.objs.size], _, _, H1, rfl, I2, turn_enumT a (s1.heap.objs.size + 1) s1.heap.objs.size, ⟨⟨.none, he⟩, ⟨_, hit, rfl, rfl⟩, Nat.succ_ne_self _, Nat.ne_of_lt al, Nat.ne_of_gt (Nat.lt_succ_of_lt al)⟩, fp, q⟩
end KS
namespace KS
open PySem PySem.Spec L2
def okI (j : Int) : Bool := decide (-(2 ^ 62) ≤ j ∧ j < 2 ^ 62)
def rangeD (i : Int) (n : Nat) : List D := (List.range n).map fun k => .int (i + (k : Nat))
def iRg1 (f : Ev) : Iv := fun fr => (f fr).bind fun d fr1 => match look fr1 d with
  | some (.int j) => if okI j = true then .ok (rangeD 0 j.toNat) fr1 else .bad
  | _ => .bad
def iRg2 (f g : Ev) : Iv := fun fr => (f fr).bind fun d fr1 => (g fr1).bind fun e fr2 => match look fr2 d, look fr2 e with
  | some (.int i), some (.int j) => if okI i = true then (if okI j = true then .ok (rangeD i (j - i).toNat) fr2 else .bad) else .bad
  | _, _ => .bad
def iotaD (ds : List D) : List D := ds.zipIdx.map fun p => .tup [.int (p.2 : Nat), p.1]
def iEn (f : Ev) : Iv := fun fr => (f fr).bind fun d fr1 => if pers d = true then (match d with
  | .lst ds => .ok (iotaD ds) fr1
  | .tup ds => .ok (iotaD ds) fr1
  | _ => .bad) else .bad
def zipD (xs ys : List D) : List D := (xs.zip ys).map fun p => .tup [p.1, p.2]
def iZp (f g : Ev) : Iv := fun fr => (f fr).bind fun d fr1 => if pers d = true then ((g fr1).bind fun e fr2 => if pers e = true then (match d, e with
  | .lst xs, .lst ys => .ok (zipD xs ys) fr2
  | .tup xs, .tup ys => .ok (zipD xs ys) fr2
  | _, _ => .bad) else .bad) else .bad
section
variable {B : Bd} {Hv1 : Hp}
theorem dwalk_range {lo : Int} {n : Nat} : DWalk B (Itr lo n) (rangeD lo n) Hv1 := by
  refine ⟨_, _, by rw [show (rangeD lo n).length = n by simp [rangeD]]; exact walk_range, fun _ _ _ _ => trivial, fun i H' Hv' x H'' hi s1 s2 y => ?_⟩
  obtain ⟨e, rfl⟩ := y
  have hi' : i < n := by simpa [rangeD] using hi
  refine ⟨.int (lo + i), ?_, .inl ⟨e, Rep.int_iff.mpr rfl⟩⟩
  unfold rangeD
  rw [List.getElem?_map, List.getElem?_range hi']
  rfl
theorem iota_len {ds : List D} : (iotaD ds).length = ds.length := by simp [iotaD]
theorem iota_get {ds : List D} {i : Nat} {d : D} (h : ds[i]? = some d) : (iotaD ds)[i]? = some (.tup [.int (i : Nat), d]) := by
  unfold iotaD
  rw [List.getElem?_map, List.getElem?_zipIdx, h]
  simp
theorem dwalk_enum {a : Addr} {ds : List D} {vs : List V} {J : It} {S : Hp → Prop} (w : Walk J vs.length S (YPair (fun i => some (.int (i : Nat))) (fun i => vs[i]?))) (hS : ∀ H' Hv', Sub Hv1 Hv' → Sub Hv' H' → S H') (r : RepL B.G Hv1 ds vs) : DWalk B J (iotaD ds) Hv1 := by
  refine ⟨S, _, by rw [iota_len, ← r.length]; exact w, hS, fun i H' Hv' x H'' hi s1 s2 y => ?_⟩
  obtain ⟨T, u, v, rfl, hT, rfl, e1, e2⟩ := y
  have e1 : some (V.int ((i : Nat) : Int)) = some u := e1
  cases e1
  obtain ⟨d, h1, h2⟩ := r.getV e2
  exact ⟨_, iota_get h1, .inr ⟨T, _, _, rfl, rfl, hT, rfl, .cons (Rep.int_iff.mpr rfl) (.cons (Rep.mono s1 _ _ h2) .nil)⟩⟩
theorem zip_len {xs ys : List D} : (zipD xs ys).length = min xs.length ys.length := by simp [zipD]
theorem zip_get {xs ys : List D} {i : Nat} {d e : D} (h : xs[i]? = some d) (k : ys[i]? = some e) : (zipD xs ys)[i]? = some (.tup [d, e]) := by
  unfold zipD
  have z : (xs.zip ys)[i]? = some (d, e) := List.getElem?_zip_eq_some.mpr ⟨h, k⟩
  rw [List.getElem?_map, z]
  rfl
theorem dwalk_zip {xs ys : List D} {vs us : List V} {J : It} {S : Hp → Prop} (w : Walk J (min vs.length us.length) S (YPair (fun i => vs[i]?) (fun i => us[i]?))) (hS : ∀ H' Hv', Sub Hv1 Hv' → Sub Hv' H' → S H') (r : RepL B.G Hv1 xs vs) (q : RepL B.G Hv1 ys us) : DWalk B J (zipD xs ys) Hv1 := by
  refine ⟨S, _, by rw [zip_len, ← r.length, ← q.length]; exact w, hS, fun i H' Hv' x H'' hi s1 s2 y => ?_⟩
  obtain ⟨T, u, v, rfl, hT, rfl, e1, e2⟩ := y
  obtain ⟨d, h1, h2⟩ := r.getV e1
  obtain ⟨e, h3, h4⟩ := q.getV e2
  exact ⟨_, zip_get h1 h3, .inr ⟨T, _, _, rfl, rfl, hT, rfl, .cons (Rep.mono s1 _ _ h2) (.cons (Rep.mono s1 _ _ h4) .nil)⟩⟩
end
theorem okI_spec {j : Int} (h : okI j = true) : -(2 ^ 62) ≤ j ∧ j < 2 ^ 62 := by simpa [okI] using h
section
variable {X : Cx} {B : Bd} {W : WX} {tg a b : Expr} {f g : Ev} {p pos : Pos}
theorem i_range1 (ha : DE X B W a f) (hm : X.mg "range" = none) (hg : Gl X "range" := by rfl) (he : starEach [a] X.env = (false, eval a X.env) :: starEach [] X.env := by rfl) (hs : starEach [a] X.env = [(false, eval a X.env)] := by rfl) : DI X B W tg (.Call (.Name "range" p) [a] [] pos) (iRg1 f) := by
  refine pi_imp (pi_range1 hg hm (pa_cons ha pa_nil he) hs) fun σ H R h => ?_
  obtain ⟨fr, Hv, Rl, h⟩ := h
  refine ⟨fr, Hv, Rl, ?_⟩
  unfold iRg1 at h
  cases hf : f fr with
  | bad => rw [hf] at h; exact h.elim
  | exc c fs fr1 => rw [hf] at h; exact h
  | ok d fr1 =>
    rw [hf] at h
    dsimp only [Res.bind] at h
    intro v H1 Hv1 n rw1
    split at h
    · next j hl =>
      split at h
      · next c =>
        obtain ⟨c1, c2⟩ := okI_spec c
        rw [n.rel.int_of rw1 hl]
        exact ⟨j, rfl, c1, c2, h _ H1 Hv1 n dwalk_range⟩
      · exact h.elim
    · exact h.elim
theorem i_range2 (ha : DE X B W a f) (hb : DE X B W b g) (hm : X.mg "range" = none) (hg : Gl X "range" := by rfl) (he2 : starEach [b] X.env = (false, eval b X.env) :: starEach [] X.env := by rfl) (he : starEach [a, b] X.env = (false, eval a X.env) :: starEach [b] X.env := by rfl)
    (hs : starEach [a, b] X.env = [(false, eval a X.env), (false, eval b X.env)] := by rfl) (hs2 : starEach [b] X.env = [(false, eval b X.env)] := by rfl) : DI X B W tg (.Call (.Name "range" p) [a, b] [] pos) (iRg2 f g) := by
  refine pi_imp (pi_range2 hg hm (pa_cons ha (pa_cons hb pa_nil he2) he) hs hs2) fun σ H R h => ?_
  obtain ⟨fr, Hv, Rl, h⟩ := h
  refine ⟨fr, Hv, Rl, ?_⟩
  unfold iRg2 at h
  cases hf : f fr with
  | bad => rw [hf] at h; exact h.elim
  | exc c fs fr1 => rw [hf] at h; exact h
  | ok d fr1 =>
    rw [hf] at h
    dsimp only [Res.bind] at h
    intro v H1 Hv1 n rw1
    refine ⟨fr1, Hv1, n.rel, ?_⟩
    cases hf2 : g fr1 with
    | bad => rw [hf2] at h; exact h.elim
    | exc c fs fr2 =>
      rw [hf2] at h
      exact fun dd H' Hv' m => h dd H' Hv' (n.trans m)
    | ok e fr2 =>
      rw [hf2] at h
      dsimp only at h
      intro v2 H2 Hv2 n2 rw2
      split at h
      · next i j hl hl2 =>
        split at h
        · next c =>
          split at h
          · next c' =>
            obtain ⟨c1, c2⟩ := okI_spec c
            obtain ⟨c3, c4⟩ := okI_spec c'
            rw [n2.rel.int_of (rw1.mono n2.ext) hl, n2.rel.int_of rw2 hl2]
            exact ⟨i, j, rfl, ⟨c1, c2, c3, c4⟩, h _ H2 Hv2 (n.trans n2) dwalk_range⟩
          · exact h.elim
        · exact h.elim
      · exact h.elim
theorem i_enum {elts : List Expr} {kk : Nat} {tpos : Pos} (ha : DE X B W a f) (hm : X.mg "enumerate" = none) (hK : X.K = B.G.K := by rfl) (hg : Gl X "enumerate" := by rfl) (he : starEach [a] X.env = (false, eval a X.env) :: starEach [] X.env := by rfl) (hs : starEach [a] X.env = [(false, eval a X.env)] := by rfl) :
    DI X B W (.Tuple elts kk tpos) (.Call (.Name "enumerate" p) [a] [] pos) (iEn f) := by
  refine pi_imp (pi_enumA hg hm (pa_cons ha pa_nil he) hs) fun σ H R h => ?_
  obtain ⟨fr, Hv, Rl, h⟩ := h
  refine ⟨fr, Hv, Rl, ?_⟩
  unfold iEn at h
  cases hf : f fr with
  | bad => rw [hf] at h; exact h.elim
  | exc c fs fr1 => rw [hf] at h; exact h
  | ok d fr1 =>
    rw [hf] at h
    dsimp only [Res.bind] at h
    intro v H1 Hv1 n rw1
    split at h
    · next hp =>
      have r := rw1.rep fun i z => by rw [z] at hp; cases hp
      cases d with
      | lst ds =>
        obtain ⟨x, vs, rfl, q, rl⟩ := Rep.lst_inv r
        exact ⟨x, vs, rfl, .inl ⟨SqL.of (n.rel.sub _ _ q), by rw [hK]; exact h _ H1 Hv1 n (dwalk_enum (a := x) walk_enum (fun H' Hv' s1 s2 => SqL.of (s2 _ _ (s1 _ _ q))) rl)⟩⟩
      | tup ds =>
        obtain ⟨x, vs, rfl, q, rl⟩ := Rep.tup_inv r
        exact ⟨x, vs, rfl, .inr ⟨by rw [hK]; exact n.rel.sub.sqt q, by rw [hK]; exact h _ H1 Hv1 n (dwalk_enum (a := x) walk_enumT (fun H' Hv' s1 s2 => s2.sqt (s1.sqt q)) rl)⟩⟩
      | _ => exact h.elim
    · exact h.elim
theorem walk_zipT {K : PySem.W.Frag} {a b : Addr} {xs ys : List V} {n : Nat} (hn : n = min xs.length ys.length) : Walk (RZ.ItzT K a b) n (fun H => SqT K H a xs ∧ SqT K H b ys) (YPair (fun i => xs[i]?) (fun i => ys[i]?)) := by
  subst hn
  refine ⟨fun i _ hi q => ?_, fun _ q => ⟨xs, ys, q.1, q.2, by omega⟩, fun i H v H' _ q y => ?_⟩
  · have h1 : i < xs.length := by omega
    have h2 : i < ys.length := by omega
    exact ⟨xs, ys, xs[i], ys[i], q.1, q.2, by simp [h1], by simp [h2]⟩
  · obtain ⟨T, x, z, h1, h2, h3, h4, h5⟩ := y
    exact ⟨T, x, z, h1, h2, h3, h4 xs q.1, h5 ys q.2⟩
theorem i_zip {elts : List Expr} {kk : Nat} {tpos : Pos} (ha : DE X B W a f) (hb : DE X B W b g) (hm : X.mg "zip" = none) (hK : X.K = B.G.K := by rfl) (hg : Gl X "zip" := by rfl) (he2 : starEach [b] X.env = (false, eval b X.env) :: starEach [] X.env := by rfl) (he : starEach [a, b] X.env = (false, eval a X.env) :: starEach [b] X.env := by rfl)
    (hpl : (backTo pos (starEach [b] X.env)).any (·.1) = false := by rfl) : DI X B W (.Tuple elts kk tpos) (.Call (.Name "zip" p) [a, b] [] pos) (iZp f g) := by
  refine pi_imp (RZ.pi_zipA hg hm (pa_cons ha (pa_cons hb pa_nil he2) he) he hpl) fun σ H R h => ?_
  obtain ⟨fr, Hv, Rl, h⟩ := h
  refine ⟨fr, Hv, Rl, ?_⟩
  unfold iZp at h
  cases hf : f fr with
  | bad => rw [hf] at h; exact h.elim
  | exc c fs fr1 => rw [hf] at h; exact h
  | ok d fr1 =>
    rw [hf] at h
    dsimp only [Res.bind] at h
    intro v H1 Hv1 n rw1
    refine ⟨fr1, Hv1, n.rel, ?_⟩
    split at h
    · next hp =>
      cases hf2 : g fr1 with
      | bad => rw [hf2] at h; exact h.elim
      | exc c fs fr2 =>
        rw [hf2] at h
        exact fun dd H' Hv' m => h dd H' Hv' (n.trans m)
      | ok e fr2 =>
        rw [hf2] at h
        dsimp only [Res.bind] at h
        intro v2 H2 Hv2 n2 rw2
        split at h
        · next hp2 =>
          have r := (rw1.mono n2.ext).rep fun i z => by rw [z] at hp; cases hp
          have r2 := rw2.rep fun i z => by rw [z] at hp2; cases hp2
          split at h
          · next xs ys =>
            obtain ⟨x, vs, rfl, q, rl⟩ := Rep.lst_inv r
            obtain ⟨y, us, rfl, q2, rl2⟩ := Rep.lst_inv r2
            exact ⟨x, y, vs, us, rfl, .inl ⟨SqL.of (n2.rel.sub _ _ q), SqL.of (n2.rel.sub _ _ q2), by rw [hK]; exact h _ H2 Hv2 (n.trans n2) (dwalk_zip (walk_zip rfl) (fun H' Hv' s1 s2 => ⟨SqL.of (s2 _ _ (s1 _ _ q)), SqL.of (s2 _ _ (s1 _ _ q2))⟩) rl rl2)⟩⟩
          · next xs ys =>
            obtain ⟨x, vs, rfl, q, qv, rl⟩ := n2.rel.tup_of (fr := fr2) (d := .tup xs) (.of r) rfl
            obtain ⟨y, us, rfl, q2, qv2, rl2⟩ := n2.rel.tup_of (fr := fr2) (d := .tup ys) (.of r2) rfl
            exact ⟨x, y, vs, us, rfl, .inr ⟨by rw [hK]; exact q, by rw [hK]; exact q2, by rw [hK]; exact h _ H2 Hv2 (n.trans n2) (dwalk_zip (walk_zipT rfl) (fun H' Hv' s1 s2 => ⟨s2.sqt (s1.sqt (.inl (.inl qv))), s2.sqt (s1.sqt (.inl (.inl qv2)))⟩) rl rl2)⟩⟩
          · exact h.elim
        · exact h.elim
    · exact (h : False).elim
end
/-! ### for -/
def loopF (t : Tv) (g : Sv) : List D → Sv
  | [], fr => .ok .nx fr
  | d :: ds, fr => match t d fr with
    | none => .bad
    | some fr1 => (g fr1).bind fun fl fr2 => match fl with
      | .nx => loopF t g ds fr2
      | .cnt => loopF t g ds fr2
      | .brk => .ok .nx fr2
      | .ret d => .ok (.ret d) fr2
def sFor (h : Iv) (t : Tv) (g : Sv) : Sv := fun fr => (h fr).bind fun ds fr1 => loopF t g ds fr1
section
variable {X : Cx} {B : Bd} {W : WX} {rf : Bool} {tg iter : Expr} {body : List Stmt} {is : List Nat} {t : Tv} {h : Iv} {g : Sv} {pos : Pos}
theorem s_for (hp : PassesOwn (model X.prog X.w) X.A X.env X.xe) (hc : X.calm = true) (hi : DI X B W tg iter h) (hg : DG X B tg is t) (hb : DSs X B W rf body g) (hs : ∀ x, foldedSetIterable iter X.env x = pure x := by intro _; rfl) :
    DS X B W rf (.For tg iter body [] pos) (sFor h t g) := by
  refine ps_imp (ps_for hp hc hi hg.pg hb hs) fun D σ H hh => ?_
  obtain ⟨fr, Hv, R, hh⟩ := hh
  refine ⟨fr, Hv, R, ?_⟩
  unfold sFor at hh
  cases hI : h fr with
  | bad => rw [hI] at hh; exact hh.elim
  | exc c fs fr1 =>
    rw [hI] at hh
    exact fun dd H' Hv' n e => hh dd σ H' Hv' n.rel n.ext e
  | ok ds fr1 =>
    rw [hI] at hh
    dsimp only [Res.bind] at hh
    intro J H1 Hv1 n w
    obtain ⟨S, Y, wk, hS, hY⟩ := w.ex
    refine for_it wk (fun i σ' H' => ∃ fr' Hv', Rel B fr' σ' H' Hv' ∧ Sub Hv1 Hv' ∧ PostS B W rf Hv' (loopF t g (ds.drop i) fr') D) ⟨fr1, Hv1, n.rel, .refl _, PostS.step n.ext hh⟩ (fun i σ' H' _ ⟨fr', Hv', R', s, _⟩ => hS H' Hv' s R'.sub) (fun i x σ' H' H'' hlt p y => ?_) (fun σ' H' p => ?_)
    · obtain ⟨fr', Hv', R', s, P⟩ := p
      obtain ⟨d, hd, hr⟩ := hY i H' Hv' x H'' hlt s R'.sub y
      have hdrop : ds.drop i = d :: ds.drop (i + 1) := by
        obtain ⟨hl, e⟩ := List.getElem?_eq_some_iff.mp hd
        rw [List.drop_eq_getElem_cons hl, e]
      rw [hdrop] at P
      obtain ⟨Hv2, s2, R2, r2⟩ : ∃ Hv2, Sub Hv' Hv2 ∧ Rel B fr' σ' H'' Hv2 ∧ Rep B.G Hv2 d x := by
        rcases hr with ⟨e, r⟩ | ⟨T, es, vs, rfl, rfl, hT, rfl, r⟩
        · rw [e]; exact ⟨Hv', .refl _, R', r⟩
        · have sT : Sub Hv' (upd Hv' T (.tup vs)) := (Sub.refl Hv').put (R'.hv_none hT)
          exact ⟨_, sT, R'.layV hT (fun ps z => by cases z), Rep.tup upd_same (RepL.mono sT _ _ r)⟩
      unfold loopF at P
      cases ht : t d fr' with
      | none => rw [ht] at P; exact P.elim
      | some fr2 =>
        rw [ht] at P
        dsimp only at P
        refine ⟨fr', Hv2, d, fr2, R2, r2, ht, fun σ2 R3 _ _ => ⟨fr2, Hv2, R3, ?_⟩⟩
        cases hgf : g fr2 with
        | bad => rw [hgf] at P; exact P.elim
        | exc c fs fr3 =>
          rw [hgf] at P
          exact fun dd σ' H' Hv' a b => P dd σ' H' Hv' a (s2.trans b)
        | ok fl fr3 =>
          rw [hgf] at P
          cases fl with
          | nx => exact fun σ' H' Hv' a b => ⟨fr3, Hv', a, s.trans (s2.trans b), PostS.step (s2.trans b) P⟩
          | cnt => exact fun σ' H' Hv' a b => ⟨fr3, Hv', a, s.trans (s2.trans b), PostS.step (s2.trans b) P⟩
          | brk => exact fun σ' H' Hv' a b => P σ' H' Hv' a (s2.trans b)
          | ret d => exact P
    · obtain ⟨fr', Hv', R', s, P⟩ := p
      rw [List.drop_length] at P
      exact P σ' H' Hv' R' (.refl _)
end
end KS
namespace KS
open PySem PySem.Spec L2
/-! ### comprehensions -/
def wipeF (fr : Fr) : List Nat → Fr
  | [] => fr
  | v :: vs => (wipeF fr vs).set v none
def restF (fr1 fr2 : Fr) : List Nat → Fr
  | [] => fr2
  | v :: vs => (restF fr1 fr2 vs).set v (fr1[v]?).join
def compL (vs : List Nat) (t : Tv) (c : Bv) (e : Ev) : List D → Fr → Res Fr (List D)
  | [], fr => .ok [] fr
  | d :: ds, fr => match t d (wipeF fr vs) with
    | none => .bad
    | some fr1 => (c fr1).bind fun b fr2 => if b = true then ((e fr2).bind fun y fr3 => if pers y = true then ((compL vs t c e ds fr3).bind fun r fr4 => .ok (y :: r) fr4) else .bad) else compL vs t c e ds fr2
def eComp (vs : List Nat) (h : Iv) (t : Tv) (c : Bv) (e : Ev) : Ev := fun fr => (h fr).bind fun ds fr1 => if ds.length ≤ sizeLine then (match compL vs t c e ds fr1 with
  | .ok r fr2 => .ok (.lst r) (restF fr1 fr2 vs)
  | _ => .bad) else .bad
def bYes : Bv := fun fr => .ok true fr
theorem wipeF_length {fr : Fr} : ∀ {vs : List Nat}, (wipeF fr vs).length = fr.length
  | [] => rfl
  | v :: vs => by rw [wipeF, List.length_set, wipeF_length]
theorem restF_length {fr1 fr2 : Fr} : ∀ {vs : List Nat}, (restF fr1 fr2 vs).length = fr2.length
  | [] => rfl
  | v :: vs => by rw [restF, List.length_set, restF_length]
theorem wipeF_out {fr : Fr} {j : Nat} : ∀ {vs : List Nat}, j ∉ vs → (wipeF fr vs)[j]? = fr[j]?
  | [], _ => rfl
  | v :: vs, h => by
    rw [List.mem_cons, not_or] at h
    rw [wipeF, List.getElem?_set_ne (Ne.symm h.1), wipeF_out h.2]
theorem wipeF_in {fr : Fr} {j : Nat} {d : D} : ∀ {vs : List Nat}, (wipeF fr vs)[j]? = some (some d) → j ∉ vs ∧ fr[j]? = some (some d)
  | [], h => ⟨by simp, h⟩
  | v :: vs, h => by
    rw [wipeF] at h
    rcases get_set h with ⟨_, z⟩ | ⟨n, z⟩
    · cases z
    · obtain ⟨a, b⟩ := wipeF_in z
      exact ⟨by simp only [List.mem_cons, not_or]; exact ⟨n, a⟩, b⟩
theorem restF_get {fr1 fr2 : Fr} {j : Nat} {d : D} : ∀ {vs : List Nat}, (restF fr1 fr2 vs)[j]? = some (some d) → (j ∈ vs ∧ fr1[j]? = some (some d)) ∨ (j ∉ vs ∧ fr2[j]? = some (some d))
  | [], h => .inr ⟨by simp, h⟩
  | v :: vs, h => by
    rw [restF] at h
    rcases get_set h with ⟨e, z⟩ | ⟨n, z⟩
    · subst e
      refine .inl ⟨List.mem_cons_self .., ?_⟩
      cases q : fr1[j]? with
      | none => rw [q] at z; cases z
      | some o =>
        rw [q] at z
        have z : some d = o := z
        rw [z]
    · rcases restF_get z with ⟨a, b⟩ | ⟨a, b⟩
      · exact .inl ⟨List.mem_cons_of_mem _ a, b⟩
      · exact .inr ⟨by simp only [List.mem_cons, not_or]; exact ⟨n, a⟩, b⟩
theorem restF_out {fr1 fr2 : Fr} {j : Nat} : ∀ {vs : List Nat}, j ∉ vs → (restF fr1 fr2 vs)[j]? = fr2[j]?
  | [], _ => rfl
  | v :: vs, h => by
    rw [List.mem_cons, not_or] at h
    rw [restF, List.getElem?_set_ne (Ne.symm h.1), restF_out h.2]
theorem wipe_none {σ : L2.St} {j : Nat} : ∀ {vs : List Nat}, j ∈ vs → j < σ.length → (wipe σ vs)[j]? = some none
  | [], h, _ => by simp at h
  | v :: vs, h, hl => by
    rw [wipe]
    by_cases e : j = v
    · subst e
      rw [List.getElem?_set_self (by rw [wipe_length]; exact hl)]
    · rw [List.getElem?_set_ne (Ne.symm e)]
      exact wipe_none ((List.mem_cons.mp h).resolve_left e) hl
theorem wipe_eq {σ σ2 : L2.St} {vs is : List Nat} (hl : σ2.length = (wipe σ vs).length) (ho : ∀ j, j ∉ is → σ2[j]? = (wipe σ vs)[j]?) (hi : ∀ j ∈ is, j ∈ vs) : wipe σ2 vs = wipe σ vs := by
  rw [wipe_length] at hl
  refine List.ext_getElem? fun j => ?_
  by_cases hv : j ∈ vs
  · by_cases hj : j < σ.length
    · rw [wipe_none hv (by rw [hl]; exact hj), wipe_none hv hj]
    · rw [List.getElem?_eq_none (by rw [wipe_length]; omega), List.getElem?_eq_none (by rw [wipe_length]; omega)]
  · rw [wipe_out hv, ho j (fun z => hv (hi j z))]
section
variable {B : Bd} {fr fr1 fr2 : Fr} {σ : L2.St} {H H1 Hv Hv1 : Hp}
theorem Rel.wipes (R : Rel B fr σ H Hv) {vs : List Nat} (hM : ∀ v ∈ vs, v ∉ B.M) : Rel B (wipeF fr vs) (wipe σ vs) H Hv where
  sub := R.sub
  ext0 := R.ext0
  new := R.new
  keep := R.keep
  len := by rw [wipeF_length, wipe_length]; exact R.len
  val := fun j d h hm => by
    obtain ⟨a, b⟩ := wipeF_in h
    rw [wipe_out a]
    exact R.val j d b hm
  box := fun j d h hc hm => by
    obtain ⟨a, b⟩ := wipeF_in h
    rw [wipe_out a]
    exact R.box j d b hc hm
  own := fun j d h hm => by
    obtain ⟨a, b⟩ := wipeF_in h.1
    rw [wipe_out a]
    exact R.own j d ⟨b, h.2⟩ hm
  sep := fun j k a dj dk hj hk hjk e1 e2 => by
    obtain ⟨a1, b1⟩ := wipeF_in e1.1
    obtain ⟨a2, b2⟩ := wipeF_in e2.1
    rw [wipe_out a1, wipe_out a2]
    exact R.sep j k a dj dk hj hk hjk ⟨b1, e1.2⟩ ⟨b2, e2.2⟩
  io := fun p hp => by
    obtain ⟨h1, ⟨d, h2, h3⟩, h4⟩ := R.io p hp
    have n : p.1 ∉ vs := fun z => hM _ z h1
    exact ⟨h1, ⟨d, by rw [wipeF_out n]; exact h2, h3⟩, by rw [wipe_out n]; exact h4⟩
  tab := R.tab
theorem Rel.rests (R1 : Rel B fr1 σ H1 Hv1) {vs : List Nat} (R : Rel B (wipeF fr2 vs) (wipe σ vs) H Hv) (s : Sub Hv1 Hv) (hM : ∀ v ∈ vs, v ∉ B.M) : Rel B (restF fr1 fr2 vs) σ H Hv where
  sub := R.sub
  ext0 := R.ext0
  new := R.new
  keep := R.keep
  len := by
    have := R.len
    rw [wipeF_length, wipe_length] at this
    rw [restF_length]; exact this
  val := fun j d h hm => by
    rcases restF_get h with ⟨a, b⟩ | ⟨a, b⟩
    · obtain ⟨v, h1, h2⟩ := R1.val j d b hm
      exact ⟨v, h1, Rep.mono s _ _ h2⟩
    · have := R.val j d (by rw [wipeF_out a]; exact b) hm
      rwa [wipe_out a] at this
  box := fun j d h hc hm => by
    rcases restF_get h with ⟨a, b⟩ | ⟨a, b⟩
    · exact absurd hm (hM _ a)
    · have := R.box j d (by rw [wipeF_out a]; exact b) hc hm
      rwa [wipe_out a] at this
  own := fun j d h hm => by
    rcases restF_get h.1 with ⟨a, b⟩ | ⟨a, b⟩
    · exact absurd hm (hM _ a)
    · have := R.own j d ⟨by rw [wipeF_out a]; exact b, h.2⟩ hm
      rwa [wipe_out a] at this
  sep := fun j k a dj dk hj hk hjk e1 e2 => by
    rcases restF_get e1.1 with ⟨a1, b1⟩ | ⟨a1, b1⟩
    · exact absurd hj (hM _ a1)
    rcases restF_get e2.1 with ⟨a2, b2⟩ | ⟨a2, b2⟩
    · exact absurd hk (hM _ a2)
    have := R.sep j k a dj dk hj hk hjk ⟨by rw [wipeF_out a1]; exact b1, e1.2⟩ ⟨by rw [wipeF_out a2]; exact b2, e2.2⟩
    rwa [wipe_out a1, wipe_out a2] at this
  io := fun p hp => by
    obtain ⟨h1, ⟨d, h2, h3⟩, h4⟩ := R.io p hp
    have n : p.1 ∉ vs := fun z => hM _ z h1
    rw [wipeF_out n] at h2
    rw [wipe_out n] at h4
    exact ⟨h1, ⟨d, by rw [restF_out n]; exact h2, h3⟩, h4⟩
  tab := R.tab
theorem Rel.upd_free (R : Rel B fr σ H Hv) {p : Addr} {o : HO} (no : ¬ Own B fr σ p) (h0 : B.H0 p = none) (hv : Hv p = none) (ht : p ∉ B.G.tabs) : Rel B fr σ (upd H p o) Hv where
  sub := fun b u h => by
    rw [upd_ne (fun z => by rw [z, hv] at h; cases h)]
    exact R.sub b u h
  ext0 := R.ext0
  new := R.new
  keep := fun b u h hi ht => by
    rw [upd_ne (ne_of_none h h0)]
    exact R.keep b u h hi ht
  len := R.len
  val := R.val
  box := R.box
  own := fun i d hf hm => by
    obtain ⟨a, hs, hva, hn, hc⟩ := R.own i d hf hm
    have ne : a ≠ p := fun e => no (by rw [← e]; exact ⟨i, d, hm, hf, hs⟩)
    exact ⟨a, hs, hva, hn, hc.mono (.refl _) (upd_ne ne)⟩
  sep := R.sep
  io := R.io
  tab := fun P hP => by
    obtain ⟨⟨ps, e, t⟩, v⟩ := R.tab P hP
    exact ⟨⟨ps, by rw [upd_ne (fun z : P = p => ht (by rw [← z]; exact hP))]; exact e, t⟩, v⟩
end
/-- what stands at the start of a turn -/
structure CInv (B : Bd) (vs : List Nat) (σ : L2.St) (fr1 : Fr) (H1 Hv1 : Hp) (D0 : Addr) (rem : Nat) (fr' : Fr) (H Hv' : Hp) (acc : List V) (ad : List D) : Prop where
  rel : Rel B (wipeF fr' vs) (wipe σ vs) H Hv'
  sub : Sub Hv1 Hv'
  at_ : H D0 = some (.lst acc)
  rep : RepL B.G Hv' ad acc
  hv : Hv' D0 = none
  no : ∀ j d, j ∈ B.M → (fr'[j]? = some (some d) ∧ isCell d = true) → σ[j]? ≠ some (some (.ref D0))
  keep : ∀ b o, H1 b = some o → ¬ Own B fr1 σ b → b ∉ B.G.tabs → H b = some o
  shr : Shr B fr1 fr'
  alive : ∀ b o, H1 b = some o → ∃ o', H b = some o'
  newv : ∀ b o, Hv' b = some o → Hv1 b = some o ∨ NewOk H1 b o ∨ Own B fr1 σ b
  sz : ad.length + rem ≤ sizeLine
section
variable {B : Bd} {vs is : List Nat} {σ : L2.St} {fr1 : Fr} {H1 Hv1 : Hp} {t : Tv} {c : Bv} {e : Ev}
theorem lc_step {J : It} {ds : List D} {Q : VK} {r0 : List D} {fr20 : Fr} (hM : ∀ v ∈ vs, v ∉ B.M) (hi : ∀ j ∈ is, j ∈ vs) (ok : TgOk t is) (R1 : Rel B fr1 σ H1 Hv1) (w : DWalk B J ds Hv1) (hsz : ds.length ≤ sizeLine) (hc : compL vs t c e ds fr1 = .ok r0 fr20)
    (hQ : ∀ p H' Hv', Nxt B fr1 σ H1 Hv1 (restF fr1 fr20 vs) H' Hv' → H1 p = none → Hv' p = none → Cell B.G H' Hv' p (.lst r0) → Q (.ref p) H') :
    ∀ D0, H1 D0 = none → ∃ W : Nat → Nat → Hp → Prop, (∃ m, W 0 m (upd H1 D0 (.lst []))) ∧ ∀ i m H, W i m H →
      (J.stop i H ∧ Q (.ref D0) H) ∨ (J.go i H ∧ ∃ Nx : Hp → Prop, (∀ H', Nx H' → ∃ m', m' < m ∧ W (i + 1) m' H') ∧ ∀ x H', J.yld i H x H' → dTG B is t x (wipe σ vs) H' fun σ2 H2 => wipe σ2 vs = wipe σ vs ∧ dTT B (fun _ _ _ _ => False) c σ2 H2 fun b H3 =>
        if b = true then dTE B (fun _ _ _ _ => False) e σ2 H3 fun y H4 => ∃ acc, H4 D0 = some (.lst acc) ∧ acc.length < sizeLine ∧ Nx (upd H4 D0 (.lst (acc ++ [y]))) else Nx H3) := by
  intro D0 hD
  obtain ⟨S, Y, wk, hS, hY⟩ := w.ex
  have hDt : D0 ∉ B.G.tabs := fun z => by
    obtain ⟨⟨ps, q, _⟩, _⟩ := R1.tab D0 z
    rw [hD] at q; cases q
  have hD0 := R1.h0_none hD
  refine lc_it wk (fun i H => ∃ fr' Hv' acc ad r, CInv B vs σ fr1 H1 Hv1 D0 (ds.length - i) fr' H Hv' acc ad ∧ compL vs t c e (ds.drop i) fr' = .ok r fr20 ∧ ad ++ r = r0) ?_ (fun i H _ ⟨fr', Hv', acc, ad, r, I, _⟩ => hS H Hv' I.sub I.rel.sub) (fun i x H H' hlt p y => ?_) (fun H p => ?_)
  · refine ⟨fr1, Hv1, [], [], r0, ⟨(R1.lay hD).wipes hM, .refl _, upd_same, .nil, R1.hv_none hD, fun j d hj hf hs => ?_, fun b o h _ _ => by rw [upd_ne (ne_of_none h hD)]; exact h, .refl _ _, fun b o h => ⟨o, by rw [upd_ne (ne_of_none h hD)]; exact h⟩, fun b o h => .inl h, by simpa using hsz⟩, hc, rfl⟩
    obtain ⟨⟨u, hu⟩, _⟩ := R1.own_some ⟨j, d, hj, hf, hs⟩
    rw [hD] at hu; cases hu
  · obtain ⟨fr', Hv', acc, ad, r, I, hcl, har⟩ := p
    obtain ⟨d, hd, hr⟩ := hY i H Hv' x H' hlt I.sub I.rel.sub y
    have hdrop : ds.drop i = d :: ds.drop (i + 1) := by
      obtain ⟨hl, e⟩ := List.getElem?_eq_some_iff.mp hd
      rw [List.drop_eq_getElem_cons hl, e]
    rw [hdrop] at hcl
    obtain ⟨Hv2, s2, R2, r2, at2, keep2, alive2, hv2, newv2⟩ : ∃ Hv2, Sub Hv' Hv2 ∧ Rel B (wipeF fr' vs) (wipe σ vs) H' Hv2 ∧ Rep B.G Hv2 d x ∧ H' D0 = some (.lst acc) ∧ (∀ b o, H b = some o → H' b = some o) ∧ (∀ b o, H1 b = some o → ∃ o', H' b = some o') ∧ Hv2 D0 = none ∧ (∀ b o, Hv2 b = some o → Hv' b = some o ∨ H b = none) := by
      rcases hr with ⟨e, r⟩ | ⟨T, es, us, rfl, rfl, hT, rfl, r⟩
      · rw [e]; exact ⟨Hv', .refl _, I.rel, r, I.at_, fun _ _ h => h, I.alive, I.hv, fun _ _ h => .inl h⟩
      · have sT : Sub Hv' (upd Hv' T (.tup us)) := (Sub.refl Hv').put (I.rel.hv_none hT)
        have neT : D0 ≠ T := ne_of_none I.at_ hT
        refine ⟨_, sT, I.rel.layV hT (fun ps z => by cases z), Rep.tup upd_same (RepL.mono sT _ _ r), by rw [upd_ne neT]; exact I.at_, fun b o h => by rw [upd_ne (ne_of_none h hT)]; exact h, fun b o h => ?_, by rw [upd_ne neT]; exact I.hv, fun b o h => ?_⟩
        · obtain ⟨o', h'⟩ := I.alive b o h
          exact ⟨o', by rw [upd_ne (ne_of_none h' hT)]; exact h'⟩
        · by_cases eb : b = T
          · exact .inr (eb ▸ hT)
          · rw [upd_ne eb] at h; exact .inl h
    unfold compL at hcl
    cases ht : t d (wipeF fr' vs) with
    | none => rw [ht] at hcl; cases hcl
    | some fr2 =>
      rw [ht] at hcl
      dsimp only at hcl
      refine ⟨wipeF fr' vs, Hv2, d, fr2, R2, r2, ht, fun σ2 R3 hl ho => ?_⟩
      have hw := wipe_eq hl ho hi
      refine ⟨hw, fr2, Hv2, R3, ?_⟩
      -- owned slots of a later frame are those of fr'
      have back : ∀ {frx : Fr}, Shr B fr2 frx → ∀ j dd, j ∈ B.M → (frx[j]? = some (some dd) ∧ isCell dd = true) → (∃ d0, fr'[j]? = some (some d0) ∧ isCell d0 = true) ∧ σ2[j]? = σ[j]? := fun {frx} sh j dd hj hf => by
        have njv : j ∉ vs := fun z => hM j z hj
        have nji : j ∉ is := fun z => njv (hi j z)
        obtain ⟨d0, h0, h1⟩ := sh j dd hj hf
        rw [ok d _ _ ht j nji, wipeF_out njv] at h0
        exact ⟨⟨d0, h0, h1⟩, by rw [ho j nji, wipe_out njv]⟩
      have noD : ∀ {frx : Fr}, Shr B fr2 frx → ¬ Own B frx σ2 D0 := fun {frx} sh ⟨j, dd, hj, hf, hs⟩ => by
        obtain ⟨⟨d0, hd0⟩, e1⟩ := back sh j dd hj hf
        rw [e1] at hs
        exact I.no j d0 hj hd0 hs
      -- an address not owned at the start is not owned in a later frame
      have noB : ∀ {frx : Fr} {b : Addr}, Shr B fr2 frx → ¬ Own B fr1 σ b → ¬ Own B frx σ2 b := fun {frx b} sh no ⟨j, dd, hj, hf, hs⟩ => by
        obtain ⟨⟨d0, hd0⟩, e1⟩ := back sh j dd hj hf
        rw [e1] at hs
        obtain ⟨d1, hd1⟩ := I.shr j d0 hj hd0
        exact no ⟨j, d1, hj, hd1, hs⟩
      have shr' : ∀ {frx : Fr}, Shr B fr2 frx → Shr B fr1 frx := fun {frx} sh j dd hj hf => by
        obtain ⟨⟨d0, hd0⟩, _⟩ := back sh j dd hj hf
        exact I.shr j d0 hj hd0
      have nos : ∀ {frx : Fr}, Shr B fr2 frx → ∀ j dd, j ∈ B.M → (frx[j]? = some (some dd) ∧ isCell dd = true) → σ[j]? ≠ some (some (.ref D0)) := fun {frx} sh j dd hj hf hs => by
        obtain ⟨⟨d0, hd0⟩, _⟩ := back sh j dd hj hf
        exact I.no j d0 hj hd0 hs
      have nvD : ∀ {frx : Fr} {Hx Hvx : Hp}, Nxt B fr2 σ2 H' Hv2 frx Hx Hvx → Hx D0 = some (.lst acc) := fun n => n.keep D0 _ at2 (noD (.refl _ _)) hDt
      cases hcc : c fr2 with
      | bad => rw [hcc] at hcl; cases hcl
      | exc k fs fr3 => rw [hcc] at hcl; cases hcl
      | ok b fr3 =>
        rw [hcc] at hcl
        dsimp only [Res.bind] at hcl
        intro H3 Hv3 n3
        have fin : ∀ {frx : Fr} {Hx Hvx : Hp} (n : Nxt B fr2 σ2 H' Hv2 frx Hx Hvx), Hvx D0 = none ∧ Rel B (wipeF frx vs) (wipe σ vs) Hx Hvx ∧ (∀ b o, H1 b = some o → ¬ Own B fr1 σ b → b ∉ B.G.tabs → Hx b = some o) ∧ (∀ b o, H1 b = some o → ∃ o', Hx b = some o') ∧ (∀ b o, Hvx b = some o → Hv1 b = some o ∨ NewOk H1 b o ∨ Own B fr1 σ b) := fun {frx Hx Hvx} n => by
          refine ⟨?_, ?_, fun b o h no nt => n.keep b o (keep2 b o (I.keep b o h no nt)) (noB (.refl _ _) no) nt, fun b o h => ?_, fun b o h => ?_⟩
          · cases z : Hvx D0 with
            | none => rfl
            | some u =>
              rcases n.newv D0 u z with q | (q | ⟨ws, q⟩) | q
              · rw [hv2] at q; cases q
              · rw [at2] at q; cases q
              · have h1 := n.rel.sub D0 u z
                rw [nvD n, q] at h1
                cases h1
              · exact absurd q (noD (.refl _ _))
          · have := n.rel.wipes hM
            rwa [hw] at this
          · obtain ⟨o', h'⟩ := alive2 b o h
            exact n.alive b o' h'
          · rcases n.newv b o h with q | (q | q) | q
            · rcases newv2 b o q with z | z
              · exact I.newv b o z
              · refine .inr (.inl (.inl ?_))
                cases e : H1 b with
                | none => rfl
                | some u =>
                  obtain ⟨u', h'⟩ := I.alive b u e
                  rw [z] at h'; cases h'
            · refine .inr (.inl (.inl ?_))
              cases e : H1 b with
              | none => rfl
              | some u =>
                obtain ⟨u', h'⟩ := alive2 b u e
                rw [q] at h'; cases h'
            · exact .inr (.inl (.inr q))
            · by_cases ho1 : Own B fr1 σ b
              · exact .inr (.inr ho1)
              · exact absurd q (noB (.refl _ _) ho1)
        cases b with
        | false =>
          rw [if_neg Bool.false_ne_true] at hcl ⊢
          obtain ⟨f1, f2, f3, f4, f5⟩ := fin n3
          refine ⟨fr3, Hv3, acc, ad, r, ⟨f2, I.sub.trans (s2.trans n3.ext), nvD n3, RepL.mono (s2.trans n3.ext) _ _ I.rep, f1, nos n3.shp, f3, shr' n3.shp, f4, f5, ?_⟩, hcl, har⟩
          have := I.sz
          omega
        | true =>
          rw [if_pos rfl] at hcl ⊢
          refine ⟨fr3, Hv3, n3.rel, ?_⟩
          cases hee : e fr3 with
          | bad => rw [hee] at hcl; cases hcl
          | exc k fs fr4 => rw [hee] at hcl; cases hcl
          | ok dy fr4 =>
            rw [hee] at hcl
            dsimp only [Res.bind] at hcl
            intro y H4 Hv4 n4 ry
            split at hcl
            · next hp =>
              have ry := ry.rep fun i z => by rw [z] at hp; cases hp
              have n := n3.trans n4
              obtain ⟨f1, f2, f3, f4, f5⟩ := fin n
              cases hrec : compL vs t c e (ds.drop (i + 1)) fr4 with
              | bad => rw [hrec] at hcl; cases hcl
              | exc k fs fr5 => rw [hrec] at hcl; cases hcl
              | ok r1 fr5 =>
                rw [hrec] at hcl
                dsimp only at hcl
                have hcl' : dy :: r1 = r ∧ fr5 = fr20 := by
                  cases hcl
                  exact ⟨rfl, rfl⟩
                obtain ⟨h1, h2⟩ := hcl'
                subst h1 h2
                have hsz := I.sz
                have la := I.rep.length
                refine ⟨acc, nvD n, by omega, fr4, Hv4, acc ++ [y], ad ++ [dy], r1, ⟨f2.upd_free ?_ hD0 f1 hDt, I.sub.trans (s2.trans n.ext), upd_same, (RepL.mono (s2.trans n.ext) _ _ I.rep).append (.cons ry .nil), f1, nos n.shp, fun b o h no nt => ?_, shr' n.shp, fun b o h => ?_, f5, ?_⟩, hrec, by rw [← har]; simp⟩
                · rintro ⟨j, dd, hj, hf, hs⟩
                  obtain ⟨a1, a2⟩ := wipeF_in hf.1
                  rw [wipe_out a1] at hs
                  exact nos n.shp j dd hj ⟨a2, hf.2⟩ hs
                · rw [upd_ne (ne_of_none h hD)]
                  exact f3 b o h no nt
                · by_cases eb : b = D0
                  · exact ⟨_, by rw [eb]; exact upd_same⟩
                  · rw [upd_ne eb]
                    exact f4 b o h
                · rw [List.length_append, List.length_singleton]
                  omega
            · cases hcl
  · obtain ⟨fr', Hv', acc, ad, r, I, hcl, har⟩ := p
    rw [List.drop_length] at hcl
    cases hcl
    rw [List.append_nil] at har
    subst har
    refine hQ D0 H Hv' ⟨R1.rests I.rel I.sub hM, I.sub, I.keep, fun j d hj hf => ?_, I.alive, I.newv⟩ hD I.hv ⟨acc, I.at_, I.rep⟩
    rcases restF_get hf.1 with ⟨a, b⟩ | ⟨a, b⟩
    · exact ⟨d, b, hf.2⟩
    · exact I.shr j d hj ⟨b, hf.2⟩
theorem lc_enter {W : WX} {h : Iv} {K : PySem.W.Frag} {σ0 : L2.St} {H0 : Hp} {Q : VK} (hM : ∀ v ∈ vs, v ∉ B.M) (hi : ∀ j ∈ is, j ∈ vs) (ok : TgOk t is) (hh : dTF B W (eComp vs h t c e) σ0 H0 Q) :
    tLc (dTI B W h) (dTG B is t) (dTT B (fun _ _ _ _ => False) c) (dTE B (fun _ _ _ _ => False) e) vs σ0 H0 Q := by
  obtain ⟨fr, Hv, R, hh⟩ := hh
  refine ⟨fr, Hv, R, ?_⟩
  unfold eComp at hh
  cases hI : h fr with
  | bad => rw [hI] at hh; exact hh.elim
  | exc k fs fr1 =>
    rw [hI] at hh
    exact hh
  | ok ds fr1 =>
    rw [hI] at hh
    dsimp only [Res.bind] at hh
    intro J H1 Hv1 n w
    split at hh
    · next hsz =>
      split at hh
      · next r fr2 hc =>
        exact lc_step hM hi ok n.rel w hsz hc fun p H' Hv' m hp hv hcell => hh p H' Hv' (n.trans m) (n.none R hp) hv hcell
      · exact (hh : False).elim
    · exact hh.elim
end
section
variable {X : Cx} {B : Bd} {W : WX} {rf : Bool} {elt tg iter : Expr} {ifs : List Expr} {scope : Scope} {own : List (Str × Nat)} {pos spos py : Pos} {is : List Nat} {h : Iv} {t : Tv} {c : Bv} {e : Ev}
abbrev W0 : WX := fun _ _ _ _ => False
abbrev BX (X : Cx) (scope : Scope) (s : Shared) (H : Hp) (C : Addr) (cl : List (Str × Addr)) (fp : List Addr) : Cx := X.blk s H scope (compEnvC scope cl C X.env) fp
theorem d_yes {X : Cx} : PTs X [] (dTT B W0 bYes) := ⟨fun pins s σ H Q I h => by
  obtain ⟨fr, Hv, R, h⟩ := h
  exact pts_nil.run pins s σ H Q I (h H Hv (.refl R))⟩
theorem d_lc (hM : ∀ v ∈ own.map (·.2), v ∉ B.M) (his : ∀ j ∈ is, j ∈ own.map (·.2)) (hc : X.calm = true) (hN : X.N.Nodup) (hi : DI X B W tg iter h) (ok : BlkOk X.N X.env.scope scope own)
    (hg : ∀ s H C cl fp, DG (BX X scope s H C cl fp) B tg is t) (ht : ∀ s H C cl fp, PTs (BX X scope s H C cl fp) ifs (dTT B W0 c)) (he : ∀ s H C cl fp, DE (BX X scope s H C cl fp) B W0 elt e)
    (hs : ∀ x, foldedSetIterable iter X.env x = pure x := by intro _; rfl) : DF X B W (.ListComp elt [⟨tg, iter, ifs, 0⟩] scope pos) (eComp (own.map (·.2)) h t c e) :=
  pe_imp (pe_lc hc hN hi ok (fun s H C cl fp => (hg s H C cl fp).pg) ht he hs) fun σ H Q hh => lc_enter (K := X.K) hM his (hg X.s_0 X.H_0 0 [] []).ok hh
theorem setF_in {i : Nat} {f : Ev} {D : Ends} {σ : L2.St} {H : Hp} (hi : i ∈ B.M) (hio : ∀ q ∈ B.io, q.1 ≠ i) (hh : dTS B W rf (sSetF i f) D σ H) : dTF B W f σ H (fun x H1 => D.nx (σ.set i (some x)) H1) := by
  obtain ⟨fr, Hv, R, hh⟩ := hh
  refine ⟨fr, Hv, R, ?_⟩
  unfold sSetF at hh
  cases hg : f fr with
  | bad => rw [hg] at hh; exact hh.elim
  | exc c fs fr1 =>
    rw [hg] at hh
    exact fun dd H' Hv' n => hh dd σ H' Hv' n.rel n.ext
  | ok d fr1 =>
    rw [hg] at hh
    dsimp only [Res.bind] at hh
    exact fun p H' Hv' n hp hv hc => hh _ H' Hv' (n.rel.setF hi hio (not_own_of_none R n hp) (R.h0_none hp) hv hc) n.ext
theorem set_in {i : Nat} {f : Ev} {D : Ends} {σ : L2.St} {H : Hp} (hi : i ∉ B.M) (hh : dTS B W rf (sSet i f) D σ H) : dTE B W f σ H (fun x H1 => D.nx (σ.set i (some x)) H1) := by
  obtain ⟨fr, Hv, R, hh⟩ := hh
  refine ⟨fr, Hv, R, ?_⟩
  unfold sSet at hh
  cases hg : f fr with
  | bad => rw [hg] at hh; exact hh.elim
  | exc c fs fr1 =>
    rw [hg] at hh
    exact fun dd H' Hv' n => hh dd σ H' Hv' n.rel n.ext
  | ok d fr1 =>
    rw [hg] at hh
    dsimp only [Res.bind] at hh
    split at hh
    · next c => exact fun v H' Hv' n r => hh _ H' Hv' (n.rel.setV hi (r.rep fun i z => by rw [z] at c; cases c)) n.ext
    · exact hh.elim
theorem s_setLcF {i : Nat} {y : Str} (hM : ∀ v ∈ own.map (·.2), v ∉ B.M) (his : ∀ j ∈ is, j ∈ own.map (·.2)) (hi' : i ∈ B.M) (hio : ∀ q ∈ B.io, q.1 ≠ i) (hc : X.calm = true) (hN : X.N.Nodup) (hi : DI X B W tg iter h) (ok : BlkOk X.N X.env.scope scope own)
    (hg : ∀ s H C cl fp, DG (BX X scope s H C cl fp) B tg is t) (ht : ∀ s H C cl fp, PTs (BX X scope s H C cl fp) ifs (dTT B W0 c)) (he : ∀ s H C cl fp, DE (BX X scope s H C cl fp) B W0 elt e)
    (hsw : swapsWith (.ListComp elt [⟨tg, iter, ifs, 0⟩] scope pos) (some (.Name y py)) spos.line X.env = pure true) (hy : X.N[i]? = some y := by rfl) (hyl : X.env.scope.names.lookup y = some .local := by rfl) (hs : ∀ x, foldedSetIterable iter X.env x = pure x := by intro _; rfl) :
    DS X B W rf (.Assign [.Name y py] (.ListComp elt [⟨tg, iter, ifs, 0⟩] scope pos) spos) (sSetF i (eComp (own.map (·.2)) h t c e)) :=
  ps_imp (ps_setLc hc hN hy hyl hsw hi ok (fun s H C cl fp => (hg s H C cl fp).pg) ht he hs) fun D σ H hh => lc_enter (K := X.K) hM his (hg X.s_0 X.H_0 0 [] []).ok (setF_in hi' hio hh)
theorem s_setLcV {i : Nat} {y : Str} (hM : ∀ v ∈ own.map (·.2), v ∉ B.M) (his : ∀ j ∈ is, j ∈ own.map (·.2)) (hi' : i ∉ B.M) (hc : X.calm = true) (hN : X.N.Nodup) (hi : DI X B W tg iter h) (ok : BlkOk X.N X.env.scope scope own)
    (hg : ∀ s H C cl fp, DG (BX X scope s H C cl fp) B tg is t) (ht : ∀ s H C cl fp, PTs (BX X scope s H C cl fp) ifs (dTT B W0 c)) (he : ∀ s H C cl fp, DE (BX X scope s H C cl fp) B W0 elt e)
    (hsw : swapsWith (.ListComp elt [⟨tg, iter, ifs, 0⟩] scope pos) (some (.Name y py)) spos.line X.env = pure true) (hy : X.N[i]? = some y := by rfl) (hyl : X.env.scope.names.lookup y = some .local := by rfl) (hs : ∀ x, foldedSetIterable iter X.env x = pure x := by intro _; rfl) :
    DS X B W rf (.Assign [.Name y py] (.ListComp elt [⟨tg, iter, ifs, 0⟩] scope pos) spos) (sSet i (eComp (own.map (·.2)) h t c e)) :=
  ps_imp (ps_setLc hc hN hy hyl hsw hi ok (fun s H C cl fp => (hg s H C cl fp).pg) ht he hs) fun D σ H hh => lc_enter (K := X.K) hM his (hg X.s_0 X.H_0 0 [] []).ok (df_de (set_in hi' hh))
end
end KS
namespace KS
open PySem PySem.Spec L2
/-! ### changing owned objects -/
/-- what a method does to the object c, its argument b: the value it gives, the object behind it; pz: the argument is kept -/
abbrev Mu := D → List D → Option (D × D)
def pick (fr : Fr) : List D → Option (List D)
  | [] => some []
  | d :: ds => match look fr d, pick fr ds with
    | some a, some as => some (a :: as)
    | _, _ => none
def eMut (i : Nat) (kd : D → Bool) (pz : Bool) (F : Mu) (g : Av) : Ev := fun fr => match fr[i]? with
  | some (some c0) => if kd c0 = true then ((g fr).bind fun ys fr1 => match fr1[i]? with
    | some (some c) => if isCell c = true then (if (pz = true → ys.all pers = true) then (match pick fr1 ys with
      | some bs => match F c bs with
        | some (r, c') => .ok r (fr1.set i (some c'))
        | none => .bad
      | none => .bad) else .bad) else .bad
    | _ => .bad) else .bad
  | _ => .bad
def isLstD : D → Bool
  | .lst _ => true
  | _ => false
def isDctD : D → Bool
  | .dct _ _ => true
  | _ => false
section
variable {B : Bd} {fr : Fr} {σ : L2.St} {H Hv : Hp}
theorem Rel.mut (R : Rel B fr σ H Hv) {i : Nat} {d d' : D} {a : Addr} {o : HO} (hi : i ∈ B.M) (e : fr[i]? = some (some d) ∧ isCell d = true) (hs : σ[i]? = some (some (.ref a))) (hc : Cell B.G (upd H a o) Hv a d') : Nxt B fr σ H Hv (fr.set i (some d')) (upd H a o) Hv := by
  obtain ⟨⟨u, hu⟩, hva, nta⟩ := R.own_some ⟨i, d, hi, e, hs⟩
  obtain ⟨a', hs', _, hn, _⟩ := R.own i d e hi
  rw [hs] at hs'
  cases hs'
  refine ⟨⟨fun b u h => ?_, R.ext0, R.new, fun b u h hio ht => ?_, by rw [List.length_set]; exact R.len, fun j dj h hm => ?_, fun j dj h hcl hm => ?_, fun j dj h hm => ?_, fun j k b dj dk hj hk hjk e1 e2 s1 => ?_, fun p hp => ?_, fun P hP => ?_⟩, .refl _, fun b u h no nt => ?_, fun j dj hj h => ?_, fun b u h => ?_, fun b u h => .inl h⟩
  · rw [upd_ne (fun z => by rw [z, hva] at h; cases h)]
    exact R.sub b u h
  · have ne : b ≠ a := fun z => by
      rcases hn with ⟨p, hp, q⟩ | q
      · exact hio p hp (by rw [q, z])
      · rw [← z, h] at q; cases q
    rw [upd_ne ne]
    exact R.keep b u h hio ht
  · rcases get_set h with ⟨z, _⟩ | ⟨n, z⟩
    · exact absurd hi (z ▸ hm)
    · exact R.val j dj z hm
  · rcases get_set h with ⟨z, q⟩ | ⟨n, z⟩
    · cases q
      rw [hc.isCell] at hcl; cases hcl
    · exact R.box j dj z hcl hm
  · rcases get_set h.1 with ⟨z, q⟩ | ⟨n, z⟩
    · subst z
      cases q
      exact ⟨a, hs, hva, hn, hc⟩
    · obtain ⟨b, h1, h2, h3, h4⟩ := R.own j dj ⟨z, h.2⟩ hm
      have ne : b ≠ a := fun q => R.sep j i b dj d hm hi n ⟨z, h.2⟩ e h1 (by rw [hs, q])
      exact ⟨b, h1, h2, h3, h4.mono (.refl _) (upd_ne ne)⟩
  · have back : ∀ {j dj}, (fr.set i (some d'))[j]? = some (some dj) ∧ isCell dj = true → ∃ d0, fr[j]? = some (some d0) ∧ isCell d0 = true := fun {j dj} h => by
      rcases get_set h.1 with ⟨z, _⟩ | ⟨_, z⟩
      · subst z; exact ⟨d, e⟩
      · exact ⟨dj, z, h.2⟩
    obtain ⟨d1, h1⟩ := back e1
    obtain ⟨d2, h2⟩ := back e2
    exact R.sep j k b d1 d2 hj hk hjk h1 h2 s1
  · obtain ⟨h1, ⟨dj, h2, h3⟩, h4⟩ := R.io p hp
    refine ⟨h1, ?_, h4⟩
    by_cases z : p.1 = i
    · have hl : i < fr.length := (List.getElem?_eq_some_iff.mp e.1).1
      exact ⟨d', by rw [z, List.getElem?_set_self hl], hc.isCell⟩
    · exact ⟨dj, by rw [List.getElem?_set_ne (Ne.symm z)]; exact h2, h3⟩
  · obtain ⟨⟨ps, q, t⟩, v⟩ := R.tab P hP
    exact ⟨⟨ps, by rw [upd_ne (fun z : P = a => nta (by rw [← z]; exact hP))]; exact q, t⟩, v⟩
  · rw [upd_ne (fun z => no ⟨i, d, hi, e, by rw [hs, z]⟩)]
    exact h
  · rcases get_set h.1 with ⟨z, _⟩ | ⟨_, z⟩
    · subst z; exact ⟨d, e⟩
    · exact ⟨dj, z, h.2⟩
  · by_cases z : b = a
    · exact ⟨o, by rw [z]; exact upd_same⟩
    · exact ⟨u, by rw [upd_ne z]; exact h⟩
/-- what a change is to give -/
def MuS (B : Bd) (r : V → List V → Hp → VK → Prop) (pz : Bool) (F : Mu) : Prop := ∀ fr σ H Hv a c ys bs vs res c' (Q : VK), Rel B fr σ H Hv → Cell B.G H Hv a c → Hv a = none → RepWs B σ Hv ys vs → pick fr ys = some bs → (pz = true → RepL B.G Hv ys vs ∧ bs = ys) → F c bs = some (res, c') →
  (∀ v o, Cell B.G (upd H a o) Hv a c' → Rep B.G Hv res v → Q v (upd H a o)) → r (.ref a) vs H Q
theorem pers_repL {ds : List D} {vs : List V} (r : RepWs B σ Hv ds vs) (h : ds.all pers = true) : RepL B.G Hv ds vs := by
  induction ds generalizing vs with
  | nil => rw [r]; exact .nil
  | cons d ds ih =>
    obtain ⟨v, t, rfl, h1, h2⟩ := r
    rw [List.all_cons, Bool.and_eq_true] at h
    exact .cons (h1.rep fun i z => by rw [z] at h; cases h.1) (ih h2 h.2)
theorem pers_pick {ds bs : List D} (h : ds.all pers = true) (e : pick fr ds = some bs) : bs = ds := by
  induction ds generalizing bs with
  | nil => cases e; rfl
  | cons d ds ih =>
    rw [List.all_cons, Bool.and_eq_true] at h
    unfold pick at e
    split at e
    · next a as ha has =>
      cases e
      rw [ih h.2 has]
      cases d <;> first | (cases ha; rfl) | exact absurd h.1 (by simp [pers])
    · cases e
variable {X : Cx} {W : WX} {e o : Expr} {es : List Expr} {g : Av} {i : Nat} {r : V → List V → Hp → VK → Prop} {pz : Bool} {F : Mu}
theorem kd_lst {d : D} (h : isLstD d = true) : isCell d = true := by cases d <;> first | rfl | cases h
theorem kd_dct {d : D} (h : isDctD d = true) : isCell d = true := by cases d <;> first | rfl | cases h
theorem mut_in {kd : D → Bool} {σ : L2.St} {H : Hp} {Q : VK} (hk : ∀ {d}, kd d = true → isCell d = true) (hi : i ∈ B.M) (hS : MuS B r pz F) (h : dTE B W (eMut i kd pz F g) σ H Q) :
    ∃ a c0 Hv, σ[i]? = some (some (V.ref a)) ∧ Cell B.G H Hv a c0 ∧ kd c0 = true ∧ dTA B W g σ H fun vs H2 => r (.ref a) vs H2 Q := by
  obtain ⟨fr, Hv, R, h⟩ := h
  unfold eMut at h
  split at h
  · next c0 e0 =>
    split at h
    · next cl0 =>
      obtain ⟨a, hs, hva, _, hcell⟩ := R.own i c0 ⟨e0, hk cl0⟩ hi
      refine ⟨a, c0, Hv, hs, hcell, cl0, fr, Hv, R, ?_⟩
      cases hg : g fr with
      | bad => rw [hg] at h; exact h.elim
      | exc c fs fr1 => rw [hg] at h; exact h
      | ok ys fr1 =>
        rw [hg] at h
        dsimp only [Res.bind] at h
        intro vs H2 Hv2 n rws
        split at h
        · next c e1 =>
          split at h
          · next cl1 =>
            split at h
            · next hp =>
              split at h
              · next bs hb =>
                split at h
                · next res c' hF =>
                  obtain ⟨a', hs', hva2, _, hcell2⟩ := n.rel.own i c ⟨e1, cl1⟩ hi
                  rw [hs] at hs'
                  cases hs'
                  exact hS fr1 σ H2 Hv2 a c ys bs vs res c' Q n.rel hcell2 hva2 rws hb (fun z => ⟨pers_repL rws (hp z), pers_pick (hp z) hb⟩) hF fun v o hc' hr => h v _ Hv2 (n.trans (n.rel.mut hi ⟨e1, cl1⟩ hs hc')) (.of hr)
                · exact (h : False).elim
              · exact (h : False).elim
            · exact (h : False).elim
          · exact (h : False).elim
        · exact (h : False).elim
    · exact (h : False).elim
  · exact (h : False).elim
theorem tyV_lst {K : PySem.W.Frag} {c0 : D} {a : Addr} (hc : Cell B.G H Hv a c0) (k : isLstD c0 = true) : tyV K "list" (.ref a) H := by
  cases c0 <;> first | cases k | skip
  obtain ⟨vs, e, _⟩ := hc
  exact .inl ⟨rfl, vs, SqL.of e⟩
theorem tyV_dct {K : PySem.W.Frag} {c0 : D} {a : Addr} (hc : Cell B.G H Hv a c0) (k : isDctD c0 = true) : tyV K "dict" (.ref a) H := by
  cases c0 <;> first | cases k | skip
  obtain ⟨us, ⟨kvs, e, _⟩ | ⟨kvs, e, _⟩, _⟩ := hc
  · exact .inr (.inr (.inl ⟨rfl, .inr ⟨kvs, e⟩⟩))
  · exact .inr (.inr (.inl ⟨rfl, .inl ⟨kvs, e⟩⟩))
variable {x name : Str} {id T : String} {np apos cpos : Pos}
theorem d_mut0 {kd : D → Bool} (hk : ∀ {d}, kd d = true → isCell d = true) (ht : ∀ {H Hv a c0}, Cell B.G H Hv a c0 → kd c0 = true → tyV X.K T (.ref a) H) (hS : MuS B r pz F) (hm : MtR X id r) (pa : PlainAttrs T) (slot : Slot T name id) (hty : typeOf (.builtin id) = pure (.type "method_descriptor"))
    (hi : i ∈ B.M) (hN : X.N[i]? = some x := by rfl) (hv : Vis X.env.scope x := by first | exact Or.inl rfl | exact Or.inr (Or.inl rfl) | exact Or.inr (Or.inr rfl)) (hd : (x == ("__debug__" : Str)) = false := by decide) (hcd : (x == ("__classdict__" : Str)) = false := by decide)
    (hbase : attributeBase (.Name x np) name X.env (eval (.Name x np) X.env) = eval (.Name x np) X.env := by rfl) (hline : (apos.endLine == cpos.line) = true := by rfl) :
    DE X B W (.Call (.Attribute (.Name x np) name apos) [] [] cpos) (eMut i kd pz F (fun fr => .ok [] fr)) := by
  refine pe_imp (pe_bm0 pa slot hty hm (pe_var hN hv hd hcd) hbase hline) fun σ H Q h => ?_
  obtain ⟨a, c0, Hv, hs, hc, hkc, fr, Hv', R, h⟩ := mut_in hk hi hS h
  exact ⟨_, hs, ht hc hkc, h [] H Hv' (.refl R) rfl⟩
theorem d_mut {kd : D → Bool} (hk : ∀ {d}, kd d = true → isCell d = true) (ht : ∀ {H Hv a c0}, Cell B.G H Hv a c0 → kd c0 = true → tyV X.K T (.ref a) H) (hS : MuS B r pz F) (hm : MtR X id r) (pa : PlainAttrs T) (slot : Slot T name id) (hty : typeOf (.builtin id) = pure (.type "method_descriptor"))
    (hi : i ∈ B.M) (ha : DA X B W (e :: es) g) (hN : X.N[i]? = some x := by rfl) (hv : Vis X.env.scope x := by first | exact Or.inl rfl | exact Or.inr (Or.inl rfl) | exact Or.inr (Or.inr rfl)) (hd : (x == ("__debug__" : Str)) = false := by decide) (hcd : (x == ("__classdict__" : Str)) = false := by decide)
    (hbase : attributeBase (.Name x np) name X.env (eval (.Name x np) X.env) = eval (.Name x np) X.env := by rfl)
    (hfew : ((backTo cpos (starEach (e :: es) X.env)).all (fun x => !x.1) && (backToKw cpos (keywordEach [] X.env)).all (fun x => x.1.isSome)
      && decide ((e :: es).length + ([] : List Keyword).length + (if ([] : List Keyword).isEmpty then 0 else 1) < 30)) = true := by rfl)
    (hline : (apos.endLine == cpos.line) = true := by rfl) (hs : starEach (e :: es) X.env = (false, eval e X.env) :: starEach es X.env := by rfl) (hplain : (backTo cpos (starEach es X.env)).any (·.1) = false := by rfl) :
    DE X B W (.Call (.Attribute (.Name x np) name apos) (e :: es) [] cpos) (eMut i kd pz F g) := by
  refine pe_imp (pe_bm pa slot hty hm (pe_var hN hv hd hcd) ha hbase hfew hline hs hplain) fun σ H Q h => ?_
  obtain ⟨a, c0, Hv, hs, hc, hkc, h⟩ := mut_in hk hi hS h
  exact ⟨_, hs, ht hc hkc, h⟩
/-! the methods of lists -/
def appM : Mu := fun c bs => match c, bs with
  | .lst ds, [b] => if ds.length < sizeLine then some (.non, .lst (ds ++ [b])) else none
  | _, _ => none
def extM : Mu := fun c bs => match c, bs with
  | .lst ds, [.lst es] => if ds.length + es.length ≤ sizeLine then some (.non, .lst (ds ++ es)) else none
  | _, _ => none
def popM : Mu := fun c bs => match c, bs with
  | .lst ds, [] => match ds[ds.length - 1]? with
    | some d => some (d, .lst ds.dropLast)
    | none => none
  | _, _ => none
def popAtM : Mu := fun c bs => match c, bs with
  | .lst ds, [.int i] => if -(2 ^ 63) ≤ i ∧ i < 2 ^ 63 then (match seqIndex? i ds.length with
    | some k => match ds[k]? with
      | some d => some (d, .lst (ds.eraseIdx k))
      | none => none
    | none => none) else none
  | _, _ => none
def revM : Mu := fun c bs => match c, bs with
  | .lst ds, [] => some (.non, .lst ds.reverse)
  | _, _ => none
def insM : Mu := fun c bs => match c, bs with
  | .lst ds, [.int i, b] => if ds.length < sizeLine ∧ 0 ≤ i ∧ i < 2 ^ 63 then some (.non, .lst (ds.take i.toNat ++ [b] ++ ds.drop i.toNat)) else none
  | _, _ => none
theorem mus_append : MuS B rAppend true appM := by
  intro fr σ H Hv a c ys bs vs res c' Q R hc hva rws hb hp hF k
  obtain ⟨rl, rfl⟩ := hp rfl
  unfold appM at hF
  split at hF
  · next ds b =>
    split at hF
    · next hz =>
      cases hF
      obtain ⟨us, e, r⟩ := hc
      obtain ⟨v, t, rfl, h1, h2⟩ := rl.cons_inv
      rw [h2.nil_inv]
      exact ⟨a, us, v, rfl, rfl, e, by rw [r.length]; exact hz, k .non _ ⟨us ++ [v], upd_same, r.append (.cons h1 .nil)⟩ repN⟩
    · cases hF
  · cases hF
theorem mus_extend : MuS B rExtend false extM := by
  intro fr σ H Hv a c ys bs vs res c' Q R hc hva rws hb hp hF k
  unfold extM at hF
  split at hF
  · next ds es =>
    split at hF
    · next hz =>
      cases hF
      obtain ⟨us, e, r⟩ := hc
      match ys, vs, rws, hb with
      | [y], _, ⟨v, t, rfl, h1, h2⟩, hb =>
        have ht : t = [] := h2
        subst ht
        have hl : look fr y = some (.lst es) := by
          unfold pick at hb
          split at hb
          · next a as ha has =>
            cases hb
            exact ha
          · cases hb
        obtain ⟨p, zs, rfl, e2, r2⟩ := R.list_of h1 hl
        exact ⟨a, p, us, zs, rfl, rfl, e, e2, by rw [r.length, r2.length]; exact hz, k .non _ ⟨us ++ zs, upd_same, r.append r2⟩ repN⟩
      | [], _, _, hb => cases hb
      | y1 :: y2 :: ys, _, _, hb =>
        unfold pick at hb
        split at hb
        · next a as ha has =>
          unfold pick at has
          split at has
          · cases has; cases hb
          · cases has
        · cases hb
    · cases hF
  · cases hF
theorem rws_nil {ys bs : List D} {vs : List V} (rws : RepWs B σ Hv ys vs) (hb : pick fr ys = some bs) (h : bs = []) : vs = [] := by
  cases ys with
  | nil => exact rws
  | cons y ys =>
    unfold pick at hb
    split at hb
    · cases hb; cases h
    · cases hb
theorem mus_pop : MuS B rPop false popM := by
  intro fr σ H Hv a c ys bs vs res c' Q R hc hva rws hb hp hF k
  unfold popM at hF
  split at hF
  · next ds =>
    split at hF
    · next d hd =>
      cases hF
      obtain ⟨us, e, r⟩ := hc
      rw [rws_nil rws hb rfl]
      obtain ⟨v, h1, h2⟩ := r.get hd
      exact ⟨a, us, v, rfl, rfl, e, by rw [r.length]; exact h1, k v _ ⟨_, upd_same, r.dropLast⟩ h2⟩
    · cases hF
  · cases hF
theorem mus_reverse : MuS B rReverse false revM := by
  intro fr σ H Hv a c ys bs vs res c' Q R hc hva rws hb hp hF k
  unfold revM at hF
  split at hF
  · next ds =>
    cases hF
    obtain ⟨us, e, r⟩ := hc
    rw [rws_nil rws hb rfl]
    exact ⟨a, us, rfl, rfl, e, k .non _ ⟨_, upd_same, r.reverse⟩ repN⟩
  · cases hF
theorem mus_popAt : MuS B rPopAt true popAtM := by
  intro fr σ H Hv a c ys bs vs res c' Q R hc hva rws hb hp hF k
  obtain ⟨rl, rfl⟩ := hp rfl
  unfold popAtM at hF
  split at hF
  · next ds i =>
    split at hF
    · next hz =>
      split at hF
      · next j hj =>
        split at hF
        · next d hd =>
          cases hF
          obtain ⟨us, e, r⟩ := hc
          obtain ⟨v, t, rfl, h1, h2⟩ := rl.cons_inv
          rw [h2.nil_inv, Rep.int_iff.mp h1]
          obtain ⟨v, h1, h2⟩ := r.get hd
          exact ⟨a, us, i, j, v, rfl, rfl, e, hz.1, hz.2, by rw [r.length]; exact hj, h1, k v _ ⟨_, upd_same, r.eraseIdx j⟩ h2⟩
        · cases hF
      · cases hF
    · cases hF
  · cases hF
theorem mus_insert : MuS B (fun x vs H Q => ∃ (l : Addr) (xs : List V) (i : Int) (y : V), x = .ref l ∧ vs = [.int i, y] ∧ H l = some (.lst xs) ∧ xs.length < sizeLine ∧ 0 ≤ i ∧ i < 2 ^ 63 ∧
    Q .non (upd H l (.lst (xs.take i.toNat ++ [y] ++ xs.drop i.toNat)))) true insM := by
  intro fr σ H Hv a c ys bs vs res c' Q R hc hva rws hb hp hF k
  obtain ⟨rl, rfl⟩ := hp rfl
  unfold insM at hF
  split at hF
  · next ds i b =>
    split at hF
    · next hz =>
      cases hF
      obtain ⟨us, e, r⟩ := hc
      obtain ⟨v, t, rfl, h1, h2⟩ := rl.cons_inv
      obtain ⟨v2, t2, rfl, h3, h4⟩ := h2.cons_inv
      rw [h4.nil_inv, Rep.int_iff.mp h1]
      exact ⟨a, us, i, v2, rfl, rfl, e, by rw [r.length]; exact hz.1, hz.2.1, hz.2.2, k .non _ ⟨_, upd_same, ((r.take _).append (.cons h3 .nil)).append (r.drop _)⟩ repN⟩
    · cases hF
  · cases hF
end
/-! ### name op= e -/
def sAug (i : Nat) (F : D → D → Option D) (f : Ev) : Sv := fun fr => match fr[i]? with
  | some (some a) => if pers a = true then ((f fr).bind fun y fr1 => match look fr1 y with
    | some b => match F a b with
      | some z => .ok .nx (fr1.set i (some z))
      | none => .bad
    | none => .bad) else .bad
  | _ => .bad
section
variable {X : Cx} {B : Bd} {W : WX} {rf : Bool} {e : Expr} {f : Ev} {pos pos' : Pos} {i : Nat} {x : Str} {op : Operator} {ti : TIp} {F : D → D → Option D}
theorem s_aug (hi : i ∉ B.M) (hS : OpS B ti F) (hp : PIp X op ti) (nd : X.N.Nodup) (he : DE X B W e f) (hN : X.N[i]? = some x := by rfl) (hx : Loc X.env.scope x := by first | exact Or.inl rfl | exact Or.inr rfl)
    (hf : X.fn x = true ∨ X.env.scope.names.lookup x = some .local := by first | exact .inl rfl | exact .inr rfl | assumption) : DS X B W rf (.AugAssign (.Name x pos') op e pos) (sAug i F f) := by
  refine ps_imp (ps_aug nd hN hx he hp hf) fun D σ H hh => ?_
  obtain ⟨fr, Hv, R, hh⟩ := hh
  unfold sAug at hh
  split at hh
  · next a ea =>
    obtain ⟨v, hs, hr⟩ := R.val i a ea hi
    refine ⟨v, hs, fr, Hv, R, ?_⟩
    split at hh
    · next hpa =>
      cases hg : f fr with
      | bad => rw [hg] at hh; exact hh.elim
      | exc c fs fr1 =>
        rw [hg] at hh
        exact fun dd H' Hv' n => hh dd σ H' Hv' n.rel n.ext
      | ok y fr1 =>
        rw [hg] at hh
        dsimp only [Res.bind] at hh
        intro vy H1 Hv1 n ry
        split at hh
        · next b hb =>
          split at hh
          · next z hz =>
            refine hS fr1 σ H1 Hv1 v vy a y a b z _ n.rel (.of (Rep.mono n.ext _ _ hr)) ry (by cases a <;> first | rfl | exact absurd hpa (by simp [pers])) hb hz fun u H' Hv' m r => hh _ H' Hv' (m.rel.setV hi r) (n.ext.trans m.ext)
          · exact (hh : False).elim
        · exact (hh : False).elim
    · exact (hh : False).elim
  · exact (hh : False).elim
def iaddF : D → D → Option D
  | .int i, .int j => some (.int (i + j))
  | _, _ => none
def isubF : D → D → Option D
  | .int i, .int j => some (.int (i - j))
  | _, _ => none
theorem ops_iadd : OpS B (ipI fun i j => i + j) iaddF := ops_ints (ints_of fun x y h => by cases x <;> cases y <;> first | rfl | exact absurd ⟨rfl, rfl⟩ (h _ _)) fun i j z H Q e k => by
  cases e
  exact ⟨i, j, rfl, rfl, k _ repI⟩
theorem ops_isub : OpS B (ipI fun i j => i - j) isubF := ops_ints (ints_of fun x y h => by cases x <;> cases y <;> first | rfl | exact absurd ⟨rfl, rfl⟩ (h _ _)) fun i j z H Q e k => by
  cases e
  exact ⟨i, j, rfl, rfl, k _ repI⟩
end
end KS
namespace KS
open PySem PySem.Spec L2
/-! ### isinstance -/
inductive Tn where
  | non | bl | int | str | tup | lst | dct
def Tn.nm : Tn → String
  | .non => "NoneType" | .bl => "bool" | .int => "int" | .str => "str" | .tup => "tuple" | .lst => "list" | .dct => "dict"
def isT : Tn → Tn → Bool
  | .non, .non => true | .bl, .bl => true | .bl, .int => true | .int, .int => true | .str, .str => true | .tup, .tup => true | .lst, .lst => true | .dct, .dct => true
  | _, _ => false
def tyI : D → Option Tn
  | .non => some .non
  | .bl _ => some .bl
  | .int _ => some .int
  | .str _ => some .str
  | .tup _ => some .tup
  | .lst _ => some .lst
  | .scr _ => some .lst
  | .dct _ _ => some .dct
  | _ => none
theorem kit_all (K : PySem.W.Frag) (t : Tn) : PySem.W.kitOne K (.type t.nm) (.type "NoneType") = some (isT t .non) ∧ PySem.W.kitOne K (.type t.nm) (.type "bool") = some (isT t .bl) ∧ PySem.W.kitOne K (.type t.nm) (.type "int") = some (isT t .int) ∧
    PySem.W.kitOne K (.type t.nm) (.type "str") = some (isT t .str) ∧ PySem.W.kitOne K (.type t.nm) (.type "tuple") = some (isT t .tup) ∧ PySem.W.kitOne K (.type t.nm) (.type "list") = some (isT t .lst) ∧ PySem.W.kitOne K (.type t.nm) (.type "dict") = some (isT t .dct) := by
  cases t <;> exact ⟨kit_ty (by decide +kernel), kit_ty (by decide +kernel), kit_ty (by decide +kernel), kit_ty (by decide +kernel), kit_ty (by decide +kernel), kit_ty (by decide +kernel), kit_ty (by decide +kernel)⟩
theorem kit_tn (K : PySem.W.Frag) (t u : Tn) : PySem.W.kitOne K (.type t.nm) (.type u.nm) = some (isT t u) := by
  obtain ⟨a, b, c, d, e, f, g⟩ := kit_all K t
  cases u <;> assumption
def isAny (t : Tn) : List Tn → Bool
  | [] => false
  | u :: us => isT t u || isAny t us
theorem kit_any (K : PySem.W.Frag) (t : Tn) : ∀ us : List Tn, PySem.W.kitAny K (.type t.nm) (us.map fun u => .type u.nm) = some (isAny t us)
  | [] => kitAny_nil
  | u :: us => by
    rw [List.map_cons]
    refine kitAny_cons (kit_tn K t u) (fun h => ?_) (fun h => ?_)
    · rw [isAny, h, Bool.false_or]
      exact kit_any K t us
    · rw [isAny, h, Bool.true_or]
def isiF (u : Tn) : D → Option D := fun d => (tyI d).map fun t => .bl (isT t u)
def isiTF (us : List Tn) : D → Option D := fun d => (tyI d).map fun t => .bl (isAny t us)
def isiCF (kc : Nat → Option Bool) : D → Option D
  | .obj c _ _ => (kc c).map .bl
  | _ => none
section
variable {X : Cx} {B : Bd} {W : WX} {a : Expr} {f : Ev} {p q pos tpos : Pos} {x : Str}
theorem tyx_of (hK : X.K = B.G.K) {fr : Fr} {σ : L2.St} {H Hv : Hp} (R : Rel B fr σ H Hv) {d e : D} {v : V} {t : Tn} (h : RepW B σ Hv d v) (hl : look fr d = some e) (ht : tyI e = some t) : TyX X.K H v (.type t.nm) := by
  cases e with
  | non => cases ht; rw [R.non_of h hl]; exact .base .non
  | bl b => cases ht; rw [R.bl_of h hl]; exact .base (.bl b)
  | int i => cases ht; rw [R.int_of h hl]; exact .base (.int i)
  | str z => cases ht; rw [R.str_of h hl]; exact .base (.str z)
  | tup ds =>
    cases ht
    obtain ⟨b, vs, rfl, s, _, _⟩ := R.tup_of h hl
    rcases s with (s | ⟨o, s⟩) | ⟨o, its, n, hk, hc, _⟩
    · exact .base (.tup s)
    · exact .fTuple s
    · exact .kTuple (by rw [hK]; exact hk) hc
  | lst ds =>
    cases ht
    obtain ⟨b, vs, rfl, s, _⟩ := R.list_of h hl
    exact .base (.lst s)
  | scr ns =>
    cases ht
    obtain ⟨b, rfl, s⟩ := Rep.scr_inv (look_scalar R h hl rfl)
    rcases R.sub.sql s with (s | ⟨o, s⟩) | ⟨o, its, n, hk, hc, _⟩
    · exact .base (.lst s)
    · exact .base (.frz s)
    · exact .kList (by rw [hK]; exact hk) hc
  | dct ks ds =>
    cases ht
    have key : ∃ b us, v = .ref b ∧ DctAt H b ks us := by
      cases d with
      | var i =>
        obtain ⟨hm, hs⟩ := h
        obtain ⟨b, hs', _, _, us, q, _⟩ := R.own i _ (look_var hl) hm
        rw [hs] at hs'
        cases hs'
        exact ⟨b, us, rfl, q⟩
      | dct ks' ds' =>
        have e : D.dct ks' ds' = .dct ks ds := Option.some.inj hl
        cases e
        obtain ⟨b, us, rfl, q, _⟩ := Rep.dct_inv h
        exact ⟨b, us, rfl, q.at fun o => R.sub b o⟩
      | _ => cases hl
    obtain ⟨b, us, rfl, ⟨kvs, e, _⟩ | ⟨kvs, e, _⟩⟩ := key
    · exact .base (.dT e)
    · exact .base (.dK e)
  | _ => cases ht
theorem d_isi (u : Tn) (ha : DE X B W a f) (hm : X.mg "isinstance" = none) (hmx : X.mg x = none) (hx : bootBuiltins x = some (.type u.nm)) (hK : X.K = B.G.K := by rfl) (hg : Gl X "isinstance" := by rfl) (hgx : Gl X x := by rfl) (hv : bootBuiltins "isinstance" = some (.builtin "isinstance") := by decide +kernel) (hn : (("isinstance" : String) : Str) ≠ "__name__" := by decide) (hdb : ((("isinstance" : String) : Str) == ("__debug__" : Str)) = false := by decide)
    (hnx : x ≠ "__name__" := by decide) (hdx : (x == ("__debug__" : Str)) = false := by decide)
    (he2 : starEach [.Name x q] X.env = (false, eval (.Name x q) X.env) :: starEach [] X.env := by rfl) (he : starEach [a, .Name x q] X.env = (false, eval a X.env) :: starEach [.Name x q] X.env := by rfl) (hpl : (backTo pos (starEach [.Name x q] X.env)).any (·.1) = false := by rfl) :
    DE X B W (.Call (.Name "isinstance" p) [a, .Name x q] [] pos) (eOp1 (isiF u) f) := by
  refine pe_imp (pe_callB call_isi hg hm hv (pa_cons ha (pa_cons (pe_bltn hgx hmx hx (show RelV (.ty u.nm) (.type u.nm) from rfl) hnx hdx) pa_nil he2) he) hn hdb he hpl) fun σ H Q h => ?_
  have e := ent1 (r := fun x1 H1 Q => rIsi X.K [x1, .ty u.nm] H1 Q) ?_ h
  · exact e
  · intro fr σ H Hv y dy b z Q R ry hy hz k
    unfold isiF at hz
    simp only [Option.map_eq_some_iff] at hz
    obtain ⟨t, ht, rfl⟩ := hz
    exact ⟨y, .ty u.nm, .type t.nm, .type u.nm, isT t u, rfl, .ty _, tyx_of hK R ry hy ht, kit_tn _ _ _, k _ H Hv (.refl R) repB⟩
theorem d_isi2 (u1 u2 : Tn) {x2 : Str} {q2 : Pos} {k1 : Nat} (ha : DE X B W a f) (hm : X.mg "isinstance" = none) (hmx : X.mg x = none) (hx : bootBuiltins x = some (.type u1.nm)) (hmx2 : X.mg x2 = none) (hx2 : bootBuiltins x2 = some (.type u2.nm)) (hK : X.K = B.G.K := by rfl) (hg : Gl X "isinstance" := by rfl) (hgx : Gl X x := by rfl) (hgx2 : Gl X x2 := by rfl)
    (hv : bootBuiltins "isinstance" = some (.builtin "isinstance") := by decide +kernel) (hn : (("isinstance" : String) : Str) ≠ "__name__" := by decide) (hdb : ((("isinstance" : String) : Str) == ("__debug__" : Str)) = false := by decide)
    (hnx : x ≠ "__name__" := by decide) (hdx : (x == ("__debug__" : Str)) = false := by decide) (hnx2 : x2 ≠ "__name__" := by decide) (hdx2 : (x2 == ("__debug__" : Str)) = false := by decide)
    (hs2 : starEach [.Name x2 q2] X.env = (false, eval (.Name x2 q2) X.env) :: starEach [] X.env := by rfl) (hs1 : starEach [.Name x q, .Name x2 q2] X.env = (false, eval (.Name x q) X.env) :: starEach [.Name x2 q2] X.env := by rfl)
    (he2 : starEach [.Tuple [.Name x q, .Name x2 q2] k1 tpos] X.env = (false, eval (.Tuple [.Name x q, .Name x2 q2] k1 tpos) X.env) :: starEach [] X.env := by rfl) (he : starEach [a, .Tuple [.Name x q, .Name x2 q2] k1 tpos] X.env = (false, eval a X.env) :: starEach [.Tuple [.Name x q, .Name x2 q2] k1 tpos] X.env := by rfl) (hpl : (backTo pos (starEach [.Tuple [.Name x q, .Name x2 q2] k1 tpos] X.env)).any (·.1) = false := by rfl) :
    DE X B W (.Call (.Name "isinstance" p) [a, .Tuple [.Name x q, .Name x2 q2] k1 tpos] [] pos) (eOp1 (isiTF [u1, u2]) f) := by
  refine pe_imp (pe_callB call_isiT hg hm hv (pa_cons ha (pa_cons (pe_tup (pa_cons (pe_bltn hgx hmx hx (show RelV (.ty u1.nm) (.type u1.nm) from rfl) hnx hdx) (pa_cons (pe_bltn hgx2 hmx2 hx2 (show RelV (.ty u2.nm) (.type u2.nm) from rfl) hnx2 hdx2) pa_nil hs2) hs1)) pa_nil he2) he) hn hdb he hpl) fun σ H Q h => ?_
  have e := ent1 (r := fun x1 H1 Q => 2 ≤ sizeLine ∧ ∀ T, H1 T = none → rIsiT X.K [x1, .ref T] (upd H1 T (.tup [.ty u1.nm, .ty u2.nm])) Q) ?_ h
  · exact e
  · intro fr σ H Hv y dy b z Q R ry hy hz k
    unfold isiTF at hz
    simp only [Option.map_eq_some_iff] at hz
    obtain ⟨t, ht, rfl⟩ := hz
    refine ⟨by decide, fun T hT => ?_⟩
    have n : Nxt B fr σ H Hv fr (upd H T (.tup [.ty u1.nm, .ty u2.nm])) Hv := ⟨R.lay hT, .refl _, fun b u h _ _ => by rw [upd_ne (ne_of_none h hT)]; exact h, .refl _ _, fun b u h => ⟨u, by rw [upd_ne (ne_of_none h hT)]; exact h⟩, fun b u h => .inl h⟩
    exact ⟨y, T, _, .type t.nm, [.type u1.nm, .type u2.nm], isAny t [u1, u2], rfl, upd_same, .cons (.ty _) (.cons (.ty _) .nil), tyx_of hK n.rel ry hy ht, kit_any _ t [u1, u2], k _ _ Hv n repB⟩
theorem d_isiC {C : Addr} (kc : Nat → Option Bool) (ha : DE X B W a f) (hm : X.mg "isinstance" = none) (hmx : X.mg x = some (.ref C)) (hkc : ∀ c b, kc c = some b → C8.InsC X.K (B.G.cls c) ∧ PySem.W.kitOne X.K (.ref (B.G.cls c)) (.ref C) = some b) (hg : Gl X "isinstance" := by rfl) (hgx : Gl X x := by rfl) (hv : bootBuiltins "isinstance" = some (.builtin "isinstance") := by decide +kernel) (hn : (("isinstance" : String) : Str) ≠ "__name__" := by decide) (hdb : ((("isinstance" : String) : Str) == ("__debug__" : Str)) = false := by decide)
    (hdx : (x == ("__debug__" : Str)) = false := by decide)
    (he2 : starEach [.Name x q] X.env = (false, eval (.Name x q) X.env) :: starEach [] X.env := by rfl) (he : starEach [a, .Name x q] X.env = (false, eval a X.env) :: starEach [.Name x q] X.env := by rfl) (hpl : (backTo pos (starEach [.Name x q] X.env)).any (·.1) = false := by rfl) :
    DE X B W (.Call (.Name "isinstance" p) [a, .Name x q] [] pos) (eOp1 (isiCF kc) f) := by
  refine pe_imp (pe_callB call_isi hg hm hv (pa_cons ha (pa_cons (pe_glob hgx hmx (show RelV (.ref C) (.ref C) from rfl) hdx) pa_nil he2) he) hn hdb he hpl) fun σ H Q h => ?_
  have e := ent1 (r := fun x1 H1 Q => rIsi X.K [x1, .ref C] H1 Q) ?_ h
  · exact e
  · intro fr σ H Hv y dy b z Q R ry hy hz k
    unfold isiCF at hz
    split at hz
    · next c ns fs =>
      simp only [Option.map_eq_some_iff] at hz
      obtain ⟨bb, hb, rfl⟩ := hz
      obtain ⟨I, hkit⟩ := hkc c bb hb
      obtain ⟨pp, dx, vs, rfl, e, _, _⟩ := obj_of R ry hy
      exact ⟨_, .ref C, .ref (B.G.cls c), .ref C, bb, rfl, .own C, .base (.ins e I.cl I.ha I.hn I.htk I.hm), hkit, k _ H Hv (.refl R) repB⟩
    · cases hz
end
/-! ### texts -/
def splF : D → D → Option D
  | .str a, .str b => if (b.length == 0) = false ∧ a.length + 2 ≤ sizeLine then some (.lst ((Txt.split a b).map D.str)) else none
  | _, _ => none
def strsOf : List D → Option (List Str)
  | [] => some []
  | .str b :: ds => (strsOf ds).map (b :: ·)
  | _ => none
theorem strs_rep {G : SE} {H : Hp} : ∀ {ds : List D} {vs : List V} {bs : List Str}, RepL G H ds vs → strsOf ds = some bs → vs = bs.map V.str
  | [], vs, bs, r, e => by
    rw [r.nil_inv]
    cases e
    rfl
  | d :: ds, vs, bs, r, e => by
    obtain ⟨v, t, rfl, h1, h2⟩ := r.cons_inv
    cases d with
    | str b =>
      simp only [strsOf, Option.map_eq_some_iff] at e
      obtain ⟨cs, e1, rfl⟩ := e
      rw [Rep.str_iff.mp h1, strs_rep h2 e1]
      rfl
    | _ => simp [strsOf] at e
theorem repl_strs {G : SE} {H : Hp} : ∀ ys : List Str, RepL G H (ys.map D.str) (ys.map V.str)
  | [] => .nil
  | y :: ys => .cons (Rep.str_iff.mpr rfl) (repl_strs ys)
def joinF : D → D → Option D
  | .str a, .lst ds => match strsOf ds with
    | some ys => if (ys.map (·.length)).sum + ys.length * a.length ≤ 16777216 then some (.str (Txt.join a ys)) else none
    | none => none
  | .str a, .tup ds => match strsOf ds with
    | some ys => if (ys.map (·.length)).sum + ys.length * a.length ≤ 16777216 then some (.str (Txt.join a ys)) else none
    | none => none
  | _, _ => none
/-- x.m(e), x a text -/
def eM1 (F : D → D → Option D) (f g : Ev) : Ev := fun fr => (f fr).bind fun x fr1 => match x with
  | .str _ => (g fr1).bind fun y fr2 => match look fr2 y with
    | some b => ofO (F x b) fr2
    | _ => .bad
  | _ => .bad
section
variable {X : Cx} {B : Bd} {W : WX} {o e : Expr} {f g : Ev} {apos pos : Pos} {r : V → List V → Hp → VK → Prop} {F : D → D → Option D}
theorem entM1 {σ : L2.St} {H : Hp} {Q : VK} (hr : OpS B (fun x y => r x [y]) F) (h : dTE B W (eM1 F f g) σ H Q) : tM1 r (dTE B W f) (dTE B W g) σ H Q := by
  obtain ⟨fr, Hv, R, h⟩ := h
  refine ⟨fr, Hv, R, ?_⟩
  unfold eM1 at h
  cases hf : f fr with
  | bad => rw [hf] at h; exact h.elim
  | exc c fs fr1 => rw [hf] at h; exact h
  | ok x fr1 =>
    rw [hf] at h
    dsimp only [Res.bind] at h
    intro vx H1 Hv1 n1 r1
    split at h
    · next z =>
      refine ⟨⟨z, n1.rel.str_of r1 rfl⟩, fr1, Hv1, n1.rel, ?_⟩
      cases hg : g fr1 with
      | bad => rw [hg] at h; exact h.elim
      | exc c fs fr2 =>
        rw [hg] at h
        exact fun dd H' Hv' n => h dd H' Hv' (n1.trans n)
      | ok y fr2 =>
        rw [hg] at h
        dsimp only at h
        intro vy H2 Hv2 n2 r2
        cases hy : look fr2 y with
        | none => rw [hy] at h; exact h.elim
        | some b =>
          rw [hy] at h
          dsimp only at h
          cases hz : F (.str z) b with
          | none => rw [hz] at h; exact h.elim
          | some w =>
            rw [hz] at h
            exact hr fr2 σ H2 Hv2 vx vy (.str z) y (.str z) b w Q n2.rel (r1.mono n2.ext) r2 rfl hy hz fun v H' Hv' n q => h v H' Hv' ((n1.trans n2).trans n) (.of q)
    · exact (h : False).elim
theorem entM1F {σ : L2.St} {H : Hp} {Q : VK} (hr : OpF B (fun x y => r x [y]) F) (h : dTF B W (eM1 F f g) σ H Q) : tM1 r (dTE B W f) (dTE B W g) σ H Q := by
  obtain ⟨fr, Hv, R, h⟩ := h
  refine ⟨fr, Hv, R, ?_⟩
  unfold eM1 at h
  cases hf : f fr with
  | bad => rw [hf] at h; exact h.elim
  | exc c fs fr1 => rw [hf] at h; exact h
  | ok x fr1 =>
    rw [hf] at h
    dsimp only [Res.bind] at h
    intro vx H1 Hv1 n1 r1
    split at h
    · next z =>
      refine ⟨⟨z, n1.rel.str_of r1 rfl⟩, fr1, Hv1, n1.rel, ?_⟩
      cases hg : g fr1 with
      | bad => rw [hg] at h; exact h.elim
      | exc c fs fr2 =>
        rw [hg] at h
        exact fun dd H' Hv' n => h dd H' Hv' (n1.trans n)
      | ok y fr2 =>
        rw [hg] at h
        dsimp only at h
        intro vy H2 Hv2 n2 r2
        cases hy : look fr2 y with
        | none => rw [hy] at h; exact h.elim
        | some b =>
          rw [hy] at h
          dsimp only at h
          cases hz : F (.str z) b with
          | none => rw [hz] at h; exact h.elim
          | some w =>
            rw [hz] at h
            exact hr fr2 σ H2 Hv2 vx vy (.str z) y (.str z) b w Q n2.rel (r1.mono n2.ext) r2 rfl hy hz fun p H' Hv' n hp q => h p H' Hv' ((n1.trans n2).trans n) ((n1.trans n2).none R hp) q
    · exact (h : False).elim
theorem opf_split : OpF B (fun x y => (fun x xs H Q => ∃ a b, x = .str a ∧ xs = [.str b] ∧ (b.length == 0) = false ∧ a.length + 2 ≤ sizeLine ∧ rNewStrs (Txt.split a b) H Q) x [y]) splF := by
  intro fr σ H Hv x y dx dy a b z Q R rx ry hx hy hz k
  unfold splF at hz
  split at hz
  · split at hz
    · next c =>
      cases hz
      rw [R.str_of rx hx, R.str_of ry hy]
      exact ⟨_, _, rfl, rfl, c.1, c.2, fun p hp => lay_own R hp (repl_strs _) k⟩
    · cases hz
  · cases hz
theorem d_split (ho : DE X B W o f) (he : DE X B W e g) (hs : starEach [e] X.env = [(false, eval e X.env)] := by rfl) (hbase : attributeBase o "split" X.env (eval o X.env) = eval o X.env := by rfl) (hline : (apos.endLine == pos.line) = true := by rfl) :
    DF X B W (.Call (.Attribute o "split" apos) [e] [] pos) (eM1 splF f g) := pe_imp (pe_split ho he hs hbase hline) fun _ _ _ h => entM1F opf_split h
theorem ops_join (hK : X.K = B.G.K) : OpS B (fun x y => (fun x xs H Q => ∃ a p, ∃ ys : List Str, x = .str a ∧ xs = [.ref p] ∧ (SqL X.K H p (ys.map V.str) ∨ SqT X.K H p (ys.map V.str)) ∧ (ys.map (·.length)).sum + ys.length * a.length ≤ 16777216 ∧ Q (.str (Txt.join a ys)) H) x [y]) joinF := by
  intro fr σ H Hv x y dx dy a b z Q R rx ry hx hy hz k
  unfold joinF at hz
  split at hz
  · split at hz
    · next ys hys =>
      split at hz
      · next c =>
        cases hz
        rw [R.str_of rx hx]
        obtain ⟨p, vs, rfl, q, r⟩ := R.list_of ry hy
        have ev := strs_rep r hys
        subst ev
        exact ⟨_, p, ys, rfl, rfl, .inl (SqL.of q), c, k _ H Hv (.refl R) repS⟩
      · cases hz
    · cases hz
  · split at hz
    · next ys hys =>
      split at hz
      · next c =>
        cases hz
        rw [R.str_of rx hx]
        obtain ⟨p, vs, rfl, q, _, r⟩ := R.tup_of ry hy
        have ev := strs_rep r hys
        subst ev
        exact ⟨_, p, ys, rfl, rfl, .inr (by rw [hK]; exact q), c, k _ H Hv (.refl R) repS⟩
      · cases hz
    · cases hz
  · cases hz
theorem d_join (ho : DE X B W o f) (he : DE X B W e g) (hK : X.K = B.G.K := by rfl) (hs : starEach [e] X.env = [(false, eval e X.env)] := by rfl) (hbase : attributeBase o "join" X.env (eval o X.env) = eval o X.env := by rfl) (hline : (apos.endLine == pos.line) = true := by rfl) :
    DE X B W (.Call (.Attribute o "join" apos) [e] [] pos) (eM1 joinF f g) := pe_imp (pe_join ho he hs hbase hline) fun _ _ _ h => entM1 (ops_join hK) h
/-! f-strings: constants and plain fields -/
def fmtF : D → Option Str
  | .str y => if y.length ≤ sizeLine then some y else none
  | .int i => if i.natAbs.log2 < 1920 then some (toString i) else none
  | _ => none
def eFs : List Ev → Str → Ev
  | [], acc => fun fr => .ok (.str acc) fr
  | f :: fs, acc => fun fr => (f fr).bind fun d fr1 => match d with
    | .str y => if (acc ++ y).length ≤ sizeLine then eFs fs (acc ++ y) fr1 else .bad
    | _ => .bad
theorem d_fmt {e : Expr} {f : Ev} {pos : Pos} (he : DE X B W e f) : DE X B W (.FormattedValue e (-1) none pos) (eOp1 (fun d => (fmtF d).map D.str) f) := by
  refine pe_imp (pe_fmt he) fun σ H Q h => ?_
  refine ent1 (r := fun x H1 Q => (∃ y : Str, x = .str y ∧ y.length ≤ sizeLine ∧ Q (.str y) H1) ∨ ∃ i : Int, x = .int i ∧ i.natAbs.log2 < 1920 ∧ Q (.str (toString i)) H1) ?_ h
  intro fr σ H Hv x dx a z Q R rx hx hz k
  simp only [Option.map_eq_some_iff] at hz
  obtain ⟨y, hy, rfl⟩ := hz
  unfold fmtF at hy
  split at hy
  · split at hy
    · next c =>
      cases hy
      exact .inl ⟨_, R.str_of rx hx, c, k _ H Hv (.refl R) repS⟩
    · cases hy
  · split at hy
    · next c =>
      cases hy
      exact .inr ⟨_, R.int_of rx hx, c, k _ H Hv (.refl R) repS⟩
    · cases hy
  · cases hy
inductive DJ (X : Cx) (B : Bd) (W : WX) : List Expr → List Ev → Prop where
  | nil : DJ X B W [] []
  | cons {e : Expr} {t : Ev} {es : List Expr} {ts : List Ev} (h : DE X B W e t) (r : DJ X B W es ts) : DJ X B W (e :: es) (t :: ts)
theorem DJ.pj {es : List Expr} {fs : List Ev} (h : DJ X B W es fs) : PJ X es (fs.map (dTE B W)) := by
  induction h with
  | nil => exact .nil
  | cons h r ih => exact .cons h ih
theorem entJ {σ : L2.St} {Q : VK} : ∀ (fs : List Ev) (acc : Str) {H : Hp}, dTE B W (eFs fs acc) σ H Q → tJs (fs.map (dTE B W)) acc σ H fun out H1 => Q (.str out) H1
  | [], acc, H, h => by
    obtain ⟨fr, Hv, R, h⟩ := h
    exact h _ H Hv (.refl R) (.of repS)
  | f :: fs, acc, H, h => by
    obtain ⟨fr, Hv, R, h⟩ := h
    refine ⟨fr, Hv, R, ?_⟩
    unfold eFs at h
    cases hf : f fr with
    | bad => rw [hf] at h; exact h.elim
    | exc c fs fr1 => rw [hf] at h; exact h
    | ok d fr1 =>
      rw [hf] at h
      dsimp only [Res.bind] at h
      intro v H1 Hv1 n r
      split at h
      · next y =>
        split at h
        · next c => exact ⟨y, n.rel.str_of r rfl, c, entJ fs (acc ++ y) ⟨fr1, Hv1, n.rel, PostE.step n h⟩⟩
        · exact (h : False).elim
      · exact (h : False).elim
theorem d_fstr {v1 v2 : Expr} {rest : List Expr} {fs : List Ev} {pos : Pos} (h : DJ X B W (v1 :: v2 :: rest) fs) : DE X B W (.JoinedStr (v1 :: v2 :: rest) pos) (eFs fs Str.empty) :=
  pe_imp (pe_joined h.pj) fun _ _ _ h => entJ fs _ h
theorem d_fstr1 {e : Expr} {f : Ev} {pos : Pos} (h : DE X B W e f) : DE X B W (.JoinedStr [e] pos) f := pe_joined1 h
end
end KS
namespace KS
open PySem PySem.Spec L2
/-! ### making an instance -/
def tMakeS (C : Addr) (sp : Sp) (E : L2.St → XK) (t : TA) : TE := fun σ H Q => t σ H fun vs H1 => ∀ x dx, H1 x = none → H1 dx = none → dx ≠ x →
  sp (.ref x :: (vs ++ [])) (upd (upd H1 dx (.own x)) x (.ins C dx [])) (fun v H2 => v = .non ∧ Q (.ref x) H2) (E σ)
section
variable {X : Cx} {CX : CXT} {k : Nat} {f C : Addr} {fd : FuncData} {ps : List Str} {sp : Sp} {E : L2.St → XK} {x : Str} {p pos : Pos} {e : Expr} {es : List Expr} {t : TA}
theorem run_makeS {pins : List (Addr × Obj)} {σ : L2.St} {H : Hp} {s : Shared} {Q : VK} {us ds : List Value} {vs dvs : List V} (M : Mk X.K C f) (F : FnOk X.prog X.w X.K X.mg X.base CX k f fd ps sp) (hr : Room (k + 1) X.A) (hb : Binds X.K fd ps ds) (hd : Vals dvs ds)
    (hx : PassesAt CX X σ (E σ)) (I : Inv X pins σ H s) (r : Vals vs us)
    (h : ∀ x dx, H x = none → H dx = none → dx ≠ x → sp (.ref x :: (vs ++ dvs)) (upd (upd H dx (.own x)) x (.ins C dx [])) (fun v H2 => v = .non ∧ Q (.ref x) H2) (E σ)) :
    wpAny (model X.prog X.w) X.A (call (.ref C) us) (EP X pins σ Q) X.xe s := by
  have hq := h (s.heap.objs.size + 1) s.heap.objs.size (I.hok.fresh (Nat.le_succ _)) (I.hok.fresh (Nat.le_refl _)) (Nat.ne_of_lt (Nat.lt_succ_self _))
  have I2 := Inv.made (C := C) I
  have r2 : Vals (V.ref (s.heap.objs.size + 1) :: (vs ++ dvs)) (Value.ref (s.heap.objs.size + 1) :: (us ++ ds)) := .cons rfl (r.append hd)
  have hl : (Value.ref (s.heap.objs.size + 1) :: us ++ ds).length = ps.length := by
    have e := r2.length
    rw [F.len _ _ _ _ hq] at e
    exact e.symm
  refine wpAny_call (make_map (f := f) I.kIn M.makes M.init (beq_iff_eq.mp M.fn) (codeAny_mono (F.run _ X.stack _ _ ⟨Value.ref (s.heap.objs.size + 1) :: us, []⟩ (Value.ref (s.heap.objs.size + 1) :: (us ++ ds)) _ _ (E σ) (hr.make C us [])
    (I2.env0.make C us []) (hb _ (Value.ref (s.heap.objs.size + 1) :: us) I2.kIn hl) r2 hq) fun r s' hq' => ?_))
  cases r with
  | error e => exact hx pins _ _ e s' I2 hq'
  | ok fl =>
    cases fl with
    | ret u =>
      obtain ⟨v, H', I3, rv, ev, q3⟩ := I2.after hq'
      subst ev
      exact ⟨rv, ⟨V.ref (s.heap.objs.size + 1), H', I3, rfl, q3⟩⟩
    | next => exact False.elim hq'
    | brk => exact False.elim hq'
    | cont => exact False.elim hq'
theorem pe_makeS (M : Mk X.K C f) (F : FnOk X.prog X.w X.K X.mg X.base CX k f fd ps sp) (hr : Room (k + 1) X.A) (hg : Gl X x) (hm : X.mg x = some (.ref C)) (hb : Binds X.K fd ps []) (hx : ∀ σ, PassesAt CX X σ (E σ))
    (ha : PA X (e :: es) t) (hdb : (x == ("__debug__" : Str)) = false := by decide) (he : starEach (e :: es) X.env = (false, eval e X.env) :: starEach es X.env := by rfl) (hpl : (backTo pos (starEach es X.env)).any (·.1) = false := by rfl) :
    PE X (.Call (.Name x p) (e :: es) [] pos) (tMakeS C sp E t) := by
  refine ⟨fun pins s σ H Q I h => ?_⟩
  refine wpAny_Call_Name_kw (ld_glob I hg hm ?_ hdb)
  refine PySem.W.callWith_K (h₀ := X.base) I.ok.mod.kin M.kp (thn (ha.run pos pins s σ H _ I h) fun us s1 ⟨vs, H1, I1, r, q⟩ => ⟨I1.kIn, ?_⟩) he hpl
  exact run_makeS (dvs := []) M F hr hb .nil (hx σ) I1 r q
end
def eMake (c : Nat) (F : Fn) (g : Av) : Ev := fun fr => (g fr).bind fun ds fr1 => if ds.all pers = true then (match F (.obj c [] [] :: ds) with
  | .ok .non (o :: _) => .ok o fr1
  | .exc k fs _ => .exc k fs fr1
  | _ => .bad) else .bad
section
variable {B : Bd} {fr : Fr} {σ : L2.St} {H Hv H' Hv' : Hp} {ds outs : List D} {vs : List V}
/-- after C's __init__ at x -/
theorem nxt_make (R : Rel B fr σ H Hv) {x dx C : Addr} (hx : H x = none) (hdx : H dx = none) {n : Nat} (f : FinC B.G (true :: List.replicate n false) outs (.ref x :: vs) (upd (upd H dx (.own x)) x (.ins C dx [])) Hv H' Hv') : Nxt B fr σ H Hv fr H' Hv' := by
  have io : ∀ {b}, ioA (true :: List.replicate n false) (.ref x :: vs) b → b = x := fun {b} ⟨i, h1, h2⟩ => by
    cases i with
    | zero => cases h2; rfl
    | succ i =>
      rw [List.getElem?_cons_succ, List.getElem?_replicate] at h1
      split at h1 <;> cases h1
  have up : ∀ {b o}, H b = some o → upd (upd H dx (.own x)) x (.ins C dx []) b = some o ∧ b ≠ x := fun {b o} h => by
    rw [upd_ne (ne_of_none h hx), upd_ne (ne_of_none h hdx)]
    exact ⟨h, ne_of_none h hx⟩
  have kp : ∀ b o, H b = some o → b ∉ B.G.tabs → H' b = some o := fun b o h ht => f.keep b o (up h).1 (fun q => (up h).2 (io q)) ht
  have none_of : ∀ {b}, upd (upd H dx (.own x)) x (.ins C dx []) b = none → H b = none := fun {b} z => by
    cases e : H b with
    | none => rfl
    | some u => rw [(up e).1] at z; cases z
  refine ⟨⟨f.sub, R.ext0.trans f.ext, fun b o h => ?_, fun b o h hi ht => kp b o (R.keep b o h hi ht) ht, R.len, fun i d e hm => ?_, fun i d e hc hm => ?_, fun i d e hm => ?_, R.sep, R.io, f.tab⟩, f.ext, fun b o h _ nt => kp b o h nt, .refl _ _, fun b o h => ?_, fun b o h => ?_⟩
  · rcases f.new b o h with z | z
    · exact R.new b o z
    · exact .inr (z.imp (fun z => R.h0_none (none_of z)) id)
  · obtain ⟨v, hs, hr⟩ := R.val i d e hm
    exact ⟨v, hs, Rep.mono f.ext _ _ hr⟩
  · obtain ⟨e2, v, z, hs, hr⟩ := R.box i d e hc hm
    exact ⟨e2, v, z, hs, Rep.mono f.ext _ _ hr⟩
  · obtain ⟨a, hs, hva, hn, hc⟩ := R.own i d e hm
    obtain ⟨⟨u, hu⟩, _, nt⟩ := R.own_some ⟨i, d, hm, e, hs⟩
    refine ⟨a, hs, ?_, hn, hc.mono f.ext ((kp a u hu nt).trans hu.symm)⟩
    cases q : Hv' a with
    | none => rfl
    | some o =>
      rcases f.new a o q with z | z | ⟨ws, z⟩
      · rw [hva] at z; cases z
      · rw [(up hu).1] at z; cases z
      · have h1 := f.sub a o q
        rw [kp a u hu nt, z] at h1
        cases h1
        exact (hc.not_tup hu).elim
  · by_cases ht : b ∈ B.G.tabs
    · obtain ⟨⟨ps, e, _⟩, _⟩ := f.tab b ht
      exact ⟨_, e⟩
    · exact ⟨o, kp b o h ht⟩
  · rcases f.new b o h with z | z
    · exact .inl z
    · exact .inr (.inl (z.imp none_of id))
theorem start_make (R : Rel B fr σ H Hv) {x dx : Addr} {c : Nat} (hx : H x = none) (hdx : H dx = none) (ne : dx ≠ x) (r : RepL B.G Hv ds vs) : Start B.G (true :: List.replicate ds.length false) (.obj c [] [] :: ds) (.ref x :: vs) (upd (upd H dx (.own x)) x (.ins (B.G.cls c) dx [])) Hv where
  sub := fun b u h => by
    have := R.sub b u h
    rw [upd_ne (ne_of_none this hx), upd_ne (ne_of_none this hdx)]
    exact this
  tab := fun P hP => by
    obtain ⟨⟨ps, e, t⟩, v⟩ := R.tab P hP
    exact ⟨⟨ps, by rw [upd_ne (ne_of_none e hx), upd_ne (ne_of_none e hdx)]; exact e, t⟩, v⟩
  lend := by simp
  lenv := by simp [r.length]
  val := fun i d hm hd => by
    cases i with
    | zero => cases hm
    | succ i => exact r.get hd
  own := fun i d hm hd => by
    cases i with
    | zero =>
      have e : D.obj c [] [] = d := Option.some.inj hd
      subst e
      exact ⟨x, rfl, R.hv_none hx, dx, [], upd_same, rfl, .nil⟩
    | succ i =>
      rw [List.getElem?_cons_succ, List.getElem?_replicate] at hm
      split at hm <;> cases hm
  sep := fun i j a hij hi hj => by
    have z : ∀ {i : Nat}, (true :: List.replicate ds.length false)[i]? = some true → i = 0 := fun {i} h => by
      cases i with
      | zero => rfl
      | succ i =>
        rw [List.getElem?_cons_succ, List.getElem?_replicate] at h
        split at h <;> cases h
    exact absurd ((z hi).trans (z hj).symm) hij
variable {X : Cx} {W : WX} {e : Expr} {es : List Expr} {g : Av} {k : Nat} {f : Addr} {fd : FuncData} {ps : List Str} {F : Fn} {x : Str} {p pos : Pos} {c : Nat}
theorem d_make (n : Nat) (M : Mk X.K (B.G.cls c) f) (Fk : FnOk X.prog X.w X.K X.mg X.base (L2.CX X.prog X.w) k f fd ps (spOf B.G (true :: List.replicate n false) false F)) (hn : ∀ fr ds fr1, g fr = .ok ds fr1 → ds.length = n) (hr : Room (k + 1) X.A) (hm : X.mg x = some (.ref (B.G.cls c))) (hb : Binds X.K fd ps []) (tk : ∀ σ, PassesAt (L2.CX X.prog X.w) X σ (WE W σ))
    (ha : DA X B W (e :: es) g) (hg : Gl X x := by rfl) (hdb : (x == ("__debug__" : Str)) = false := by decide) (he : starEach (e :: es) X.env = (false, eval e X.env) :: starEach es X.env := by rfl) (hpl : (backTo pos (starEach es X.env)).any (·.1) = false := by rfl) :
    DF X B W (.Call (.Name x p) (e :: es) [] pos) (eMake c F g) := by
  refine pe_imp (pe_makeS M Fk hr hg hm hb tk ha hdb he hpl) fun σ H Q h => ?_
  obtain ⟨fr, Hv, R, h⟩ := h
  refine ⟨fr, Hv, R, ?_⟩
  unfold eMake at h
  cases hgf : g fr with
  | bad => rw [hgf] at h; exact h.elim
  | exc c fs fr1 => rw [hgf] at h; exact h
  | ok ds fr1 =>
    have hlen := hn _ _ _ hgf
    rw [hgf] at h
    dsimp only [Res.bind] at h
    intro vs H1 Hv1 n1 rws x dx hx hdx ne
    split at h
    · next hp =>
      have rl := pers_repL rws hp
      rw [List.append_nil]
      refine ⟨.obj c [] [] :: ds, Hv1, by rw [← hlen]; exact start_make n1.rel hx hdx ne rl, ?_⟩
      split at h
      · next o outs hF =>
        rw [hF]
        intro v H' Hv' fin ret
        have ret : Rep B.G Hv' .non v := by
          unfold RetR at ret
          rwa [if_neg Bool.false_ne_true] at ret
        refine ⟨Rep.non_iff.mp ret, ?_⟩
        obtain ⟨h1, d, hd, hcell⟩ := fin.io 0 x rfl rfl
        cases hd
        exact h x H' Hv' (n1.trans (nxt_make n1.rel hx hdx fin)) (n1.none R hx) h1 hcell
      · next k fs outs hF =>
        rw [hF]
        intro dd H' Hv' fin ex
        exact h dd H' Hv' (n1.trans (nxt_make n1.rel hx hdx fin)) ex
      · exact (h : False).elim
    · exact (h : False).elim
end
/-! ### self.f = e -/
def putN (n : Nat) (d : D) : List Nat → List D → List Nat × List D
  | [], _ => ([n], [d])
  | m :: ns, e :: fs => if m = n then (m :: ns, d :: fs) else (m :: (putN n d ns fs).1, e :: (putN n d ns fs).2)
  | m :: ns, [] => (m :: ns, [])
def sFldS (i n : Nat) (cs : List Nat) (f : Ev) : Sv := fun fr => (f fr).bind fun d fr1 => if pers d = true then (match fr1[i]? with
  | some (some (.obj c ns fs)) => if c ∈ cs then (if ns.length < 1000 then .ok .nx (fr1.set i (some (.obj c (putN n d ns fs).1 (putN n d ns fs).2))) else .bad) else .bad
  | _ => .bad) else .bad
theorem putN_ok {G : SE} {Hv : Hp} {n : Nat} {d : D} {v : V} (inj : ∀ m, G.fld m = G.fld n → m = n) (hr : Rep G Hv d v) : ∀ {ns : List Nat} {fs : List D} {vs : List V}, ns.length = vs.length → RepL G Hv fs vs →
    ∃ vs', putF (G.fld n) v ((ns.map G.fld).zip vs) = (((putN n d ns fs).1.map G.fld).zip vs') ∧ (putN n d ns fs).1.length = vs'.length ∧ RepL G Hv (putN n d ns fs).2 vs'
  | [], fs, vs, hl, r => by
    have e : vs = [] := List.eq_nil_of_length_eq_zero hl.symm
    subst e
    exact ⟨[v], rfl, rfl, .cons hr .nil⟩
  | m :: ns, [], vs, hl, r => by
    rw [r.nil_inv] at hl
    cases hl
  | m :: ns, e :: fs, vs, hl, r => by
    obtain ⟨u, t, rfl, h1, h2⟩ := r.cons_inv
    by_cases q : m = n
    · subst q
      refine ⟨v :: t, ?_, ?_, ?_⟩
      · rw [List.map_cons, List.zip_cons_cons, putF, if_pos rfl, putN, if_pos rfl]
        rfl
      · rw [putN, if_pos rfl]
        simpa using hl
      · rw [putN, if_pos rfl]
        exact .cons hr h2
    · obtain ⟨vs', e1, e2, e3⟩ := putN_ok inj hr (by simpa using hl) h2
      refine ⟨u :: vs', ?_, ?_, ?_⟩
      · rw [List.map_cons, List.zip_cons_cons, putF, if_neg (fun z => q (inj m z)), putN, if_neg q, e1]
        rfl
      · rw [putN, if_neg q]
        simpa using e2
      · rw [putN, if_neg q]
        exact .cons h1 e3
section
variable {X : Cx} {B : Bd} {W : WX} {rf : Bool} {e : Expr} {f : Ev} {pos pos' np : Pos} {i n : Nat} {x y : Str} {cs : List Nat}
theorem s_fldS (hi : i ∈ B.M) (he : DE X B W e f) (hx : x = B.G.fld n) (inj : ∀ m, B.G.fld m = B.G.fld n → m = n) (hc : ∀ c ∈ cs, Cls X.K (B.G.cls c) ∧ NoAttr X.K (B.G.cls c) x) (hN : X.N[i]? = some y := by rfl) (hv : Vis X.env.scope y := by first | exact Or.inl rfl | exact Or.inr (Or.inl rfl) | exact Or.inr (Or.inr rfl)) (hd : (y == ("__debug__" : Str)) = false := by decide) (hcd : (y == ("__classdict__" : Str)) = false := by decide)
    (hs : swapsWith e (some (.Attribute (.Name y np) x pos')) pos.line X.env = pure false := by rfl) : DS X B W rf (.Assign [.Attribute (.Name y np) x pos'] e pos) (sFldS i n cs f) := by
  refine ps_imp (ps_fld (pe_var hN hv hd hcd) he hs) fun D σ H hh => ?_
  obtain ⟨fr, Hv, R, hh⟩ := hh
  refine ⟨fr, Hv, R, ?_⟩
  unfold sFldS at hh
  cases hg : f fr with
  | bad => rw [hg] at hh; exact hh.elim
  | exc c fs fr1 =>
    rw [hg] at hh
    exact fun dd H' Hv' m => hh dd σ H' Hv' m.rel m.ext
  | ok d fr1 =>
    rw [hg] at hh
    dsimp only [Res.bind] at hh
    intro v H1 Hv1 n1 r
    split at hh
    · next hp =>
      have r := r.rep fun i z => by rw [z] at hp; cases hp
      split at hh
      · next c ns fs ei =>
        split at hh
        · next hcc =>
          split at hh
          · next hlen =>
            obtain ⟨a, hsl, hva, hn, dx, vs, ea, hl, rl⟩ := n1.rel.own i _ ⟨ei, rfl⟩ hi
            obtain ⟨c1, c2⟩ := hc c hcc
            obtain ⟨vs', e1, e2, e3⟩ := putN_ok inj r hl rl
            refine ⟨_, hsl, a, _, dx, _, rfl, ea, c1, c2, ?_, ?_⟩
            · rw [List.length_zip, List.length_map]
              omega
            · have hcell : Cell B.G (upd H1 a (.ins (B.G.cls c) dx (putF x v ((ns.map B.G.fld).zip vs)))) Hv1 a (.obj c (putN n d ns fs).1 (putN n d ns fs).2) := ⟨dx, vs', by rw [upd_same, hx, e1], e2, e3⟩
              have m := n1.rel.mut hi ⟨ei, rfl⟩ hsl hcell
              exact hh σ _ Hv1 m.rel (n1.ext.trans m.ext)
          · exact (hh : False).elim
        · exact (hh : False).elim
      · exact (hh : False).elim
    · exact (hh : False).elim
end
/-! ### own exceptions -/
/-- what the __init__ of an exception's class gives: its fields in its dict -/
def oexSp (C : Addr) (nms : List Str) : Sp := fun vs H Q E => ∃ a ws, vs = .ref a :: ws ∧ ws.length = nms.length ∧ H a = some (exo a C none) ∧
  ∀ d l, H d = none → d ≠ a → (∀ (k : Nat) (n : Str) (v : V), nms[k]? = some n → ws[k]? = some v → l.lookup n = some v) → Q .non (upd (upd H d (exd d l)) a (exo a C (some d)))
def sRaise (c n : Nat) (g : Av) : Sv := fun fr => (g fr).bind fun ds fr1 => if ds.all pers = true ∧ ds.length = n then .exc c ds fr1 else .bad
section
variable {X : Cx} {B : Bd} {W : WX} {rf : Bool} {e : Expr} {es : List Expr} {g : Av} {k : Nat} {f : Addr} {fd : FuncData} {ps : List Str} {x : Str} {p pos cpos : Pos} {c n : Nat}
theorem s_raise (T : OexC X.K (B.G.ecls c)) (iC : PySem.W.findIn X.K (.ref (B.G.ecls c)) "__init__" = some (some (.ref f))) (tI : PySem.W.typeIn X.K (.ref f) = some (.type "function")) (Fk : FnOk X.prog X.w X.K X.mg X.base (L2.CX X.prog X.w) k f fd ps (oexSp (B.G.ecls c) (B.G.efld c))) (hr : Room (k + 1) X.A) (hb : Binds X.K fd ps []) (hm : X.mg x = some (.ref (B.G.ecls c)))
    (hn : (B.G.efld c).length = n) (hn9 : n ≤ 900) (hc : X.calm = true) (tk : Takes X W) (ha : DA X B W (e :: es) g) (hg : Gl X x := by rfl) (hdb : (x == ("__debug__" : Str)) = false := by decide) (he : starEach (e :: es) X.env = (false, eval e X.env) :: starEach es X.env := by rfl) (hpl : (backTo cpos (starEach es X.env)).any (·.1) = false := by rfl) :
    DS X B W rf (.Raise (some (.Call (.Name x p) (e :: es) [] cpos)) none pos) (sRaise c n g) := by
  refine ps_imp (ps_raise hc tk (pmk_oex T iC tI Fk hr hb .nil passL hg hm ha hdb he hpl)) fun D σ H hh => ?_
  obtain ⟨fr, Hv, R, hh⟩ := hh
  refine ⟨fr, Hv, R, ?_⟩
  unfold sRaise at hh
  cases hgf : g fr with
  | bad => rw [hgf] at hh; exact hh.elim
  | exc c fs fr1 =>
    rw [hgf] at hh
    exact fun dd H' Hv' m => hh dd σ H' Hv' m.rel m.ext
  | ok ds fr1 =>
    rw [hgf] at hh
    dsimp only [Res.bind] at hh
    intro vs H1 Hv1 n1 rws
    split at hh
    · next hp =>
      have rl := pers_repL rws hp.1
      have hvl := rl.length
      refine ⟨by omega, fun a hna => ⟨a, vs, by rw [List.append_nil], by omega, upd_same, fun d l hd hda hl => ⟨rfl, d, l, upd_same, ?_, ?_, ?_⟩⟩⟩
      · rw [upd_ne hda, upd_same]
      · rw [upd_ne hda] at hd
        exact hd
      · have hdn : H1 d = none := by rw [upd_ne hda] at hd; exact hd
        have key : upd (del (upd (upd (upd H1 a (exo a (B.G.ecls c) none)) d (exd d l)) a (exo a (B.G.ecls c) (some d))) a) d (.xd l) = upd H1 d (.xd l) := by
          funext b
          by_cases hbd : b = d
          · rw [hbd, upd_same, upd_same]
          · rw [upd_ne hbd, upd_ne hbd]
            by_cases hba : b = a
            · rw [hba, del_same, hna]
            · rw [del_ne hba, upd_ne hba, upd_ne hbd, upd_ne hba]
        rw [key]
        refine hh d σ _ Hv1 (n1.rel.lay hdn) n1.ext ⟨l, upd_same, by omega, fun k nm dk e1 e2 => ?_⟩
        obtain ⟨v, h1, h2⟩ := rl.get e2
        exact ⟨v, hl k nm v e1 h1, h2⟩
    · exact (hh : False).elim
end
end KS
namespace KS
open PySem PySem.Spec PyProof.Rows L2
open PySem.W (EachIs AllAlike Sortable list_sort_data dataLe dataLe_ii alike alikeAll)
/-! ### sorted(d), d a dict whose keys are pairs of ints -/
section
variable {prog : Program} {w : World}
def RawD (d : Addr) (es : Array DictEntry) (ep : Nat) (h : Heap) : Prop := ∃ o, h.get? d = some o ∧ o.ExactDict ∧ o.data = .dict es ep
theorem kdl_raw {d : Addr} {es : Array DictEntry} {ep : Nat} (lo : (d == sysModules) = false) : PySem.W.KdlSrc prog w "dict" d d es.size (fun i v => ∃ en, es[i]? = some en ∧ v = en.key) (RawD d es ep) where
  type := fun _ ⟨o, ho, hx, _⟩ => ⟨o, ho, hx.1⟩
  there := fun _ ⟨o, ho, _⟩ => ⟨Heap.lt_size ho, Heap.lt_size ho⟩
  keep := fun _ _ ⟨o, ho, r⟩ hk => ⟨o, hk d (.inl rfl) o ho, r⟩
  notList := by decide
  notTuple := by decide
  hint := fun _ _ _ _ ⟨o, ho, hx, _⟩ hq => PySem.W.kdl_hint_dict ⟨o, ho, hx.1⟩ hq
  iter := fun A s hh hm => by
    obtain ⟨o, ho, hx, hdt⟩ := hm
    have hlt : d < s.heap.objs.size := Heap.lt_size ho
    refine ⟨_, fun i h => h.IsKeyIter s.heap.objs.size d i es.size ep ∧ RawD d es ep h, (fun _ _ hq => iter_keys lo ho hx hdt hq), ⟨fun b hb => ?_, fun i h h' st k => ?_, fun i s' Q E hi st hq => ?_, fun s' Q E st hq => ?_, fun i s' Q E st hq => ?_⟩, ⟨_, Heap.get?_push_size _ rfl, rfl, rfl⟩, o, Heap.get?_push_of_some _ ho, hx, hdt⟩
    · rw [List.mem_singleton.mp hb]
      exact List.mem_cons_self ..
    · obtain ⟨st, o', ho', r⟩ := st
      exact ⟨st.at fun oi e => k _ (by simp) oi e, o', k d (by simp) _ ho', r⟩
    · obtain ⟨st, o', ho', hx', hd'⟩ := st
      have hen : es[i]? = some es[i] := by simp [hi]
      refine next_key_item st ho' hd' rfl hen fun h' st' sb => ?_
      exact hq _ h' s'.toks ⟨_, hen, rfl⟩ ⟨st', o', (sb.2 d (Nat.ne_of_lt hlt)).trans ho', hx', hd'⟩ fun b o hb e => (sb.2 b (fun z => hb (by simp [z]))).trans e
    · obtain ⟨st, o', ho', hx', hd'⟩ := st
      exact next_key_end hh st ho' hd' rfl (Nat.le_refl _) fun h' eb => hq h' s'.toks fun b o hb e => eb b o (fun z => hb (by simp [z])) e
    · exact wpAny_pyIter_keyiter st.1 hq
end
abbrev PP := Int × Int
def kP (p : PP) : List L2.Key := [.inl p.1, .inl p.2]
def vP (p : PP) : List V := [.int p.1, .int p.2]
def leP (p q : PP) : Bool := decide (p.1 < q.1 ∨ (p.1 = q.1 ∧ p.2 ≤ q.2))
def rSortDP : List V → Hp → VK → Prop := fun vs H Q => ∃ (a : Addr) (kvs : List (List L2.Key × V)) (ks : List PP), vs = [.ref a] ∧ H a = some (.dT kvs) ∧ kvs.map (·.1) = ks.map kP ∧
  ∀ (qs : List Addr) (p : Addr), H p = none → qs.length = ks.length → (∀ (i : Nat) (q : Addr) (z : PP), qs[i]? = some q → (ks.mergeSort leP)[i]? = some z → H q = some (.tup (vP z))) → Q (.ref p) (upd H p (.lst (qs.map V.ref)))
theorem ints2 {u : List Value} {i j : Int} (r : Vals [.int i, .int j] u) : ∃ t1 t2, u = [.int i t1, .int j t2] := by
  cases r with
  | cons h1 r =>
    cases r with
    | cons h2 r =>
      cases r
      obtain ⟨t1, rfl⟩ := h1
      obtain ⟨t2, rfl⟩ := h2
      exact ⟨t1, t2, rfl⟩
theorem eachIs_get {α β : Type} {R : α → β → Prop} : ∀ {l : List α} {m : List β}, l.length = m.length → (∀ (i : Nat) (a : α) (b : β), l[i]? = some a → m[i]? = some b → R a b) → EachIs R l m
  | [], [], _, _ => .nil
  | a :: l, b :: m, hl, h => .cons (h 0 a b rfl rfl) (eachIs_get (by simpa using hl) fun i a b e f => h (i + 1) a b (by simpa using e) (by simpa using f))
  | [], _ :: _, hl, _ => by simp at hl
  | _ :: _, [], hl, _ => by simp at hl
theorem get_eachIs {α β : Type} {R : α → β → Prop} {l : List α} {m : List β} (h : EachIs R l m) : ∀ (i : Nat) (a : α) (b : β), l[i]? = some a → m[i]? = some b → R a b := by
  induction h with
  | nil => intro i a b e; simp at e
  | cons h t ih =>
    intro i a b e f
    cases i with
    | zero => cases e; cases f; exact h
    | succ i => exact ih i a b (by simpa using e) (by simpa using f)
theorem cr_sortedDP {X : Cx} (hc : X.calm = true) (hu : X.A.units + 16 < cLine) : CallR X (.builtin "sorted") rSortDP := by
  intro pins s σ H xs us Q I r h
  obtain ⟨a, kvs, ks, ex, ha, hks, q⟩ := h
  subst ex
  obtain ⟨u, eu, rx⟩ := vals1 r
  subst eu
  cases rx
  obtain ⟨z, hd, xs', rel, o, es, ep, ho, hx, hdat, hes, his, hn⟩ := dt_of I.hok ha
  have l1 : kvs.length = xs'.length := Paired.length rel
  have l2 : es.size = xs'.length := size_of_entries hes
  have l3 : kvs.length = ks.length := by
    have e := congrArg List.length hks
    rwa [List.length_map, List.length_map] at e
  have hh : X.A.handled = none := I.ok.hd hc
  refine Calls.call_function_entry PyProof.Rows.kind_sorted PyProof.Rows.plain_sorted PyProof.Rows.entry_sorted (PyProof.Rows.args_sorted1 _) ?_
  unfold Builtin.«sorted»
  refine wpAny_bind (m := checkCount "sorted" 1 1 _) (wpAny_pure ?_)
  refine wpAny_bind (PySem.W.kdu_collect (A := X.A.in1) (kdl_raw (es := es) (ep := ep) hd) hh ⟨o, ho, hx, hdat⟩ (by omega) fun h' tk acc hk hacc => ?_)
  have hal : acc.toList.length = ks.length := by rw [Array.length_toList, hacc.1]; omega
  -- the i-th value that was drawn is the i-th key's tuple
  have key : ∀ (i : Nat) (v : Value) (p : PP), acc.toList[i]? = some v → ks[i]? = some p → ∃ qa : Addr, v = .ref qa ∧ H qa = some (.tup (vP p)) := by
    intro i v p e1 e2
    obtain ⟨en, e3, rfl⟩ := hacc.2 i v (by rw [← Array.getElem?_toList]; exact e1)
    rw [entry_at hes i] at e3
    cases hxj : xs'[i]? with
    | none => rw [hxj] at e3; exact nomatch (show (none : Option DictEntry) = some en from e3)
    | some x =>
      rw [hxj] at e3
      have een : entryOfKey (tupleKind (mixKind X.prog X.w)) x = en := Option.some.inj e3
      obtain ⟨e0, he0, r1, r2, r3⟩ := DX.pget rel hxj
      have e4 : (kvs.map (·.1))[i]? = some e0.1 := by rw [List.getElem?_map, he0]; rfl
      rw [hks, List.getElem?_map, e2] at e4
      have e5 : kP p = e0.1 := Option.some.inj e4
      refine ⟨x.2.1, by rw [← een]; rfl, ?_⟩
      rw [← e5] at r2
      exact r2
  have I1 : Inv X pins σ H { s with heap := h', toks := tk } := I.kept hk
  refine wpAny_bind (wpAny_newList ?_ (by rw [hal]; omega))
  have hoL : (h'.push (seqObj "list" acc.toList.toArray 0)).get? h'.objs.size = some (seqObj "list" acc.toList.toArray 0) := Heap.get?_push_size _ rfl
  show wpAny _ _ _ _ _ { s with heap := h'.push (seqObj "list" acc.toList.toArray 0), toks := tk }
  let enc : PP → PyData := fun b => .tuple [.int b.1, .int b.2]
  have hR : EachIs (fun (v : Value) (p : PP) => ∃ qa : Addr, v = .ref qa ∧ H qa = some (.tup (vP p))) acc.toList ks := eachIs_get hal key
  have hrd : EachIs (fun (v : Value) (p : PP) => ∃ as, Reads (h'.push (seqObj "list" acc.toList.toArray 0)) v (enc p) as ∧ h'.objs.size ∉ as) acc.toList ks := eachIs_get hal fun i v p e1 e2 => by
    obtain ⟨qa, rfl, hq⟩ := key i v p e1 e2
    obtain ⟨_, its, rv, oq, g1, g2, n, g3⟩ := (show ObjOk X.prog X.w H h' qa (.tup (vP p)) from I1.hok qa _ hq)
    obtain ⟨t1, t2, rfl⟩ := ints2 rv
    exact ⟨[], .tuple (Heap.get?_push_of_some _ g1) g2 g3 (.cons (as := []) (bs := []) (.int _ _) (.cons (as := []) (bs := []) (.int _ _) .nil)), by simp⟩
  have hal2 : AllAlike (ks.map enc) := AllAlike.of fun b b' => by simp [enc, alike, alikeAll]
  have hsr : Sortable (ks.map enc) := Sortable.tuples fun b => ⟨_, _, rfl⟩
  refine wpAny_bind (wpAny_holding (list_sort_data (s := { s with heap := h'.push (seqObj "list" acc.toList.toArray 0), toks := tk }) hoL hR hrd hal2 hsr (by omega) (fun b _ => ?_) fun out g1 g2 => ?_))
  · show X.A.in1.units + 1 + (enc b).depth < cLine
    have e1 : (enc b).depth ≤ 8 := by simp [enc, PyData.depth, PyData.depthAll]
    have e2 : X.A.in1.units = X.A.units + 1 := rfl
    omega
  obtain ⟨e', he'⟩ := PyProof.Rows.sortedHeap_at (vs := acc.toList) (out := out.toArray) hoL
  have hdl : dataLe false enc = leP := by
    have := dataLe_ii (β := PP) (fun b => b.1) (fun b => b.2)
    exact this
  rw [hdl] at g2
  -- the addresses
  obtain ⟨qs, rfl⟩ : ∃ qs : List Addr, out = qs.map Value.ref := by
    clear he' hdl g1
    generalize ks.mergeSort leP = m at g2
    induction g2 with
    | nil => exact ⟨[], rfl⟩
    | cons h t ih =>
      obtain ⟨qa, rfl, _⟩ := h
      obtain ⟨qs, rfl⟩ := ih
      exact ⟨qa :: qs, rfl⟩
  have hlen : (qs.map V.ref).length ≤ sizeLine := by
    rw [List.length_map] at g1 ⊢
    omega
  have rv : Vals (qs.map V.ref) (qs.map Value.ref) := by
    clear he' hdl g1 g2 hlen
    induction qs with
    | nil => exact .nil
    | cons q qs ih => exact .cons rfl ih
  refine wpAny_pure ⟨_, rfl, .ref h'.objs.size, upd H h'.objs.size (.lst (qs.map V.ref)), I1.laid (t' := tk) (fun b u e => ?_) (Nat.le_refl _)
    (show ObjOk X.prog X.w _ _ _ (.lst (qs.map V.ref)) from ⟨hlen, qs.map Value.ref, e', rv, he'⟩), rfl, q qs _ (I1.hok.fresh (Nat.le_refl _)) (by simpa using g1) fun i qa zz e1 e2 => ?_⟩
  · have hb : b < h'.objs.size := Heap.lt_size e
    rw [PyProof.Rows.sortedHeap_old (Nat.ne_of_lt hb) (by rw [size_push']; exact Nat.lt_succ_of_lt hb)]
    exact Heap.get?_push_of_some _ e
  · obtain ⟨q', e3, e4⟩ := get_eachIs g2 i (.ref qa) zz (by rw [List.getElem?_map, e1]; rfl) e2
    cases e3
    exact e4
end KS
namespace KS
open PySem PySem.Spec L2
/-! ### dicts whose keys are tuples -/
def toKey : D → Option L2.Key
  | .int i => some (.inl i)
  | .str s => some (.inr s)
  | _ => none
def toKeys : List D → Option (List L2.Key)
  | [] => some []
  | d :: ds => match toKey d, toKeys ds with
    | some k, some ks => some (k :: ks)
    | _, _ => none
abbrev TD := List (List L2.Key × D)
def dTm (kvs : TD) : D := .dct (.bl true :: kvs.map fun p => .tup (p.1.map kD)) (kvs.map (·.2))
def zipT : List D → List D → Option TD
  | [], [] => some []
  | .tup ds :: ks, v :: vs => match toKeys ds, zipT ks vs with
    | some k, some r => some ((k, v) :: r)
    | _, _ => none
  | _, _ => none
def unT : D → Option TD
  | .dct (.bl true :: ks) vs => zipT ks vs
  | _ => none
theorem toKeys_kD : ∀ k : List L2.Key, toKeys (k.map kD) = some k
  | [] => rfl
  | .inl i :: k => by simp [toKeys, kD, toKey, toKeys_kD k]
  | .inr i :: k => by simp [toKeys, kD, toKey, toKeys_kD k]
theorem kD_toKey {d : D} {k : L2.Key} (h : toKey d = some k) : d = kD k := by
  cases d <;> first | (cases h; rfl) | cases h
theorem kD_toKeys : ∀ {ds : List D} {k : List L2.Key}, toKeys ds = some k → ds = k.map kD
  | [], k, h => by cases h; rfl
  | d :: ds, k, h => by
    unfold toKeys at h
    split at h
    · next a as ha has =>
      cases h
      rw [List.map_cons, ← kD_toKey ha, ← kD_toKeys has]
    · cases h
theorem zipT_map : ∀ kvs : TD, zipT (kvs.map fun p => .tup (p.1.map kD)) (kvs.map (·.2)) = some kvs
  | [] => rfl
  | (k, v) :: r => by simp [zipT, toKeys_kD, zipT_map r]
@[simp] theorem unT_dTm (kvs : TD) : unT (dTm kvs) = some kvs := zipT_map kvs
theorem zipT_inv : ∀ {ks vs : List D} {kvs : TD}, zipT ks vs = some kvs → ks = kvs.map (fun p => .tup (p.1.map kD)) ∧ vs = kvs.map (·.2)
  | [], [], kvs, h => by cases h; exact ⟨rfl, rfl⟩
  | [], _ :: _, kvs, h => by simp [zipT] at h
  | d :: ks, [], kvs, h => by cases d <;> simp [zipT] at h
  | d :: ks, v :: vs, kvs, h => by
    cases d with
    | tup ds =>
      simp only [zipT] at h
      split at h
      · next k r hk hr =>
        cases h
        obtain ⟨a, b⟩ := zipT_inv hr
        exact ⟨by rw [List.map_cons, ← a, kD_toKeys hk], by rw [List.map_cons, ← b]⟩
      · cases h
    | _ => simp [zipT] at h
theorem unT_inv {d : D} {kvs : TD} (h : unT d = some kvs) : d = dTm kvs := by
  unfold unT at h
  split at h
  · obtain ⟨a, b⟩ := zipT_inv h
    rw [a, b]
    rfl
  · cases h
def valV' (kvs : TD) (k : List L2.Key) : Option D := (kvs.find? fun kv => decide (kv.1 = k)).map (·.2)
def putK' (kvs : TD) (k : List L2.Key) (v : D) : TD := if (kvs.any fun kv => decide (kv.1 = k)) = true then kvs.map (fun kv => if kv.1 = k then (kv.1, v) else kv) else kvs ++ [(k, v)]
def dropK' (kvs : TD) (k : List L2.Key) : TD := kvs.filter fun kv => decide (kv.1 ≠ k)
inductive KP (G : SE) (Hv : Hp) : TD → List (List L2.Key × V) → Prop where
  | nil : KP G Hv [] []
  | cons {k : List L2.Key} {d : D} {v : V} {r : TD} {s : List (List L2.Key × V)} (h : Rep G Hv d v) (t : KP G Hv r s) : KP G Hv ((k, d) :: r) ((k, v) :: s)
theorem kD_inj : ∀ {k l : L2.Key}, kD k = kD l → k = l
  | .inl i, .inl j, h => by cases h; rfl
  | .inr i, .inr j, h => by cases h; rfl
  | .inl i, .inr j, h => by cases h
  | .inr i, .inl j, h => by cases h
theorem kDs_inj : ∀ {k l : List L2.Key}, k.map kD = l.map kD → k = l
  | [], [], _ => rfl
  | [], _ :: _, h => by cases h
  | _ :: _, [], h => by cases h
  | a :: k, b :: l, h => by
    rw [List.map_cons, List.map_cons] at h
    injection h with h1 h2
    rw [kD_inj h1, kDs_inj h2]
theorem kp_of {G : SE} {Hv : Hp} : ∀ {kvs : TD} {us : List (List L2.Key × V)}, kvs.map (fun p => D.tup (p.1.map kD)) = us.map (fun p => D.tup (p.1.map kD)) → RepL G Hv (kvs.map (·.2)) (us.map (·.2)) → KP G Hv kvs us
  | [], [], _, _ => .nil
  | [], _ :: _, h, _ => by cases h
  | _ :: _, [], h, _ => by cases h
  | (k, d) :: r, (l, v) :: s, h, q => by
    rw [List.map_cons, List.map_cons] at h
    injection h with h1 h2
    injection h1 with h1
    have e := kDs_inj h1
    dsimp only at e
    subst e
    rw [List.map_cons, List.map_cons] at q
    obtain ⟨v', t, e, q1, q2⟩ := q.cons_inv
    injection e with e1 e2
    subst e1 e2
    exact .cons q1 (kp_of h2 q2)
theorem KP.cell {G : SE} {H Hv : Hp} {a : Addr} {kvs : TD} {us : List (List L2.Key × V)} (h : KP G Hv kvs us) (e : H a = some (.dT us)) : Cell G H Hv a (dTm kvs) := by
  have z : kvs.map (fun p => D.tup (p.1.map kD)) = us.map (fun p => D.tup (p.1.map kD)) ∧ RepL G Hv (kvs.map (·.2)) (us.map (·.2)) := by
    clear e
    induction h with
    | nil => exact ⟨rfl, .nil⟩
    | cons h t ih => exact ⟨by rw [List.map_cons, List.map_cons, ih.1], .cons h ih.2⟩
  exact ⟨_, .inl ⟨us, e, by rw [z.1], rfl⟩, z.2⟩
theorem cell_T {G : SE} {H Hv : Hp} {a : Addr} {kvs : TD} (h : Cell G H Hv a (dTm kvs)) : ∃ us, H a = some (.dT us) ∧ KP G Hv kvs us := by
  obtain ⟨us, ⟨kv, e, h1, h2⟩ | ⟨kv, e, h1, h2⟩, r⟩ := h
  · injection h1 with _ h1
    subst h2
    exact ⟨kv, e, kp_of h1 r⟩
  · injection h1 with h1
    cases h1
theorem KP.length {G : SE} {Hv : Hp} {kvs : TD} {us : List (List L2.Key × V)} (h : KP G Hv kvs us) : us.length = kvs.length := by
  induction h with
  | nil => rfl
  | cons h t ih => rw [List.length_cons, List.length_cons, ih]
theorem KP.val {G : SE} {Hv : Hp} {kvs : TD} {us : List (List L2.Key × V)} (h : KP G Hv kvs us) (k : List L2.Key) : (valV' kvs k).isSome = (valV us k).isSome ∧ ∀ d, valV' kvs k = some d → ∃ v, valV us k = some v ∧ Rep G Hv d v := by
  induction h with
  | nil => exact ⟨rfl, fun d e => by cases e⟩
  | @cons k' d v r s h t ih =>
    by_cases e : k' = k
    · exact ⟨by simp [valV', valV, e], fun d' e' => by
        have : d = d' := by simpa [valV', e] using e'
        subst this
        exact ⟨v, by simp [valV, e], h⟩⟩
    · have e1 : valV' ((k', d) :: r) k = valV' r k := by simp [valV', e]
      have e2 : valV ((k', v) :: s) k = valV s k := by simp [valV, e]
      rw [e1, e2]
      exact ih
theorem KP.any {G : SE} {Hv : Hp} {kvs : TD} {us : List (List L2.Key × V)} (h : KP G Hv kvs us) (k : List L2.Key) : (kvs.any fun kv => decide (kv.1 = k)) = us.any fun kv => decide (kv.1 = k) := by
  induction h with
  | nil => rfl
  | cons h t ih => rw [List.any_cons, List.any_cons, ih]
theorem KP.put {G : SE} {Hv : Hp} {kvs : TD} {us : List (List L2.Key × V)} (h : KP G Hv kvs us) {k : List L2.Key} {d : D} {v : V} (r : Rep G Hv d v) : KP G Hv (putK' kvs k d) (putK us k v) := by
  unfold putK' putK
  rw [h.any k]
  split
  · rename_i hh0
    clear hh0
    induction h with
    | nil => exact .nil
    | @cons k' d' v' r' s' h t ih =>
      rw [List.map_cons, List.map_cons]
      by_cases e : k' = k
      · simp only [e, if_true]
        exact .cons r ih
      · simp only [e, if_false]
        exact .cons h ih
  · rename_i hh0
    clear hh0
    induction h with
    | nil => exact .cons r .nil
    | cons h t ih => exact .cons h ih
theorem KP.drop {G : SE} {Hv : Hp} {kvs : TD} {us : List (List L2.Key × V)} (h : KP G Hv kvs us) (k : List L2.Key) : KP G Hv (dropK' kvs k) (dropK us k) := by
  unfold dropK' dropK
  induction h with
  | nil => exact .nil
  | @cons k' d' v' r' s' h t ih =>
    by_cases e : k' = k
    · rw [List.filter_cons_of_neg (by simp [e]), List.filter_cons_of_neg (by simp [e])]
      exact ih
    · rw [List.filter_cons_of_pos (by simp [e]), List.filter_cons_of_pos (by simp [e])]
      exact .cons h ih
theorem key_rep {B : Bd} {fr : Fr} {σ : L2.St} {H Hv : Hp} {d : D} {v : V} {k : L2.Key} (h : RepW B σ Hv d v) (e : toKey d = some k) : v = kV k := by
  cases d <;> first | cases e | skip
  · exact (Rep.int_iff (G := B.G) (H := Hv)).mp h
  · exact (Rep.str_iff (G := B.G) (H := Hv)).mp h
theorem keys_rep {B : Bd} {fr : Fr} {σ : L2.St} {H Hv : Hp} : ∀ {ds : List D} {vs : List V} {k : List L2.Key}, RepWs B σ Hv ds vs → toKeys ds = some k → vs = k.map kV
  | [], vs, k, h, e => by cases e; exact h
  | d :: ds, vs, k, ⟨v, t, e1, h1, h2⟩, e => by
    unfold toKeys at e
    split at e
    · next a as ha has =>
      cases e
      rw [e1, List.map_cons, key_rep (fr := fr) (H := H) h1 ha, keys_rep (fr := fr) (H := H) h2 has]
    · cases e
def sDput (i : Nat) (gk : Av) (fv : Ev) : Sv := fun fr => (fv fr).bind fun v fr1 => if pers v = true then (match fr1[i]? with
  | some (some c0) => if isDctD c0 = true then ((gk fr1).bind fun ks fr2 => match fr2[i]? with
    | some (some c) => match toKeys ks, unT c with
      | some k, some kvs => if kvs.length < sizeLine ∧ ks.length ≤ sizeLine then .ok .nx (fr2.set i (some (dTm (putK' kvs k v)))) else .bad
      | _, _ => .bad
    | _ => .bad) else .bad
  | _ => .bad) else .bad
def eDin (i : Nat) (gk : Av) : Ev := fun fr => (gk fr).bind fun ks fr2 => match fr2[i]? with
    | some (some c) => match toKeys ks, unT c with
      | some k, some kvs => if ks.length ≤ sizeLine then .ok (.bl (valV' kvs k).isSome) fr2 else .bad
      | _, _ => .bad
    | _ => .bad
section
variable {X : Cx} {B : Bd} {W : WX} {rf : Bool} {es : List Expr} {value : Expr} {gk : Av} {fv : Ev} {i : Nat} {x : Str} {np pos pos' tpos : Pos} {x1 : Nat}
theorem lay_key {fr : Fr} {σ : L2.St} {H Hv : Hp} (R : Rel B fr σ H Hv) {T : Addr} {vs : List V} (hT : H T = none) : Nxt B fr σ H Hv fr (upd H T (.tup vs)) Hv :=
  ⟨R.lay hT, .refl _, fun b u h _ _ => by rw [upd_ne (ne_of_none h hT)]; exact h, .refl _ _, fun b u h => ⟨u, by rw [upd_ne (ne_of_none h hT)]; exact h⟩, fun b u h => .inl h⟩
theorem s_dput (hu : X.A.units + 1 < cLine) (hi : i ∈ B.M) (hk : DA X B W es gk) (hv : DE X B W value fv) (hN : X.N[i]? = some x := by rfl) (hvs : Vis X.env.scope x := by first | exact Or.inl rfl | exact Or.inr (Or.inl rfl) | exact Or.inr (Or.inr rfl)) (hd : (x == ("__debug__" : Str)) = false := by decide) (hcd : (x == ("__classdict__" : Str)) = false := by decide)
    (hs : swapsWith value (some (.Subscript (.Name x np) (.Tuple es x1 tpos) pos')) pos.line X.env = pure false := by rfl) : DS X B W rf (.Assign [.Subscript (.Name x np) (.Tuple es x1 tpos) pos'] value pos) (sDput i gk fv) := by
  refine ps_imp (ps_dput hu (pe_var hN hvs hd hcd) (pe_tup hk) hv hs) fun D σ H hh => ?_
  obtain ⟨fr, Hv, R, hh⟩ := hh
  refine ⟨fr, Hv, R, ?_⟩
  unfold sDput at hh
  cases hf : fv fr with
  | bad => rw [hf] at hh; exact hh.elim
  | exc c fs fr1 =>
    rw [hf] at hh
    exact fun dd H' Hv' m => hh dd σ H' Hv' m.rel m.ext
  | ok v fr1 =>
    rw [hf] at hh
    dsimp only [Res.bind] at hh
    intro vv H1 Hv1 n1 rv
    split at hh
    · next hp =>
      have rv := rv.rep fun i z => by rw [z] at hp; cases hp
      split at hh
      · next c0 e0 =>
        split at hh
        · next hc0 =>
          obtain ⟨a, hsl, hva, _, _⟩ := n1.rel.own i c0 ⟨e0, kd_dct hc0⟩ hi
          refine ⟨_, hsl, fr1, Hv1, n1.rel, ?_⟩
          cases hg : gk fr1 with
          | bad => rw [hg] at hh; exact hh.elim
          | exc c fs fr2 =>
            rw [hg] at hh
            exact fun dd H' Hv' m => hh dd σ H' Hv' m.rel (n1.ext.trans m.ext)
          | ok ks fr2 =>
            rw [hg] at hh
            dsimp only at hh
            intro vs H2 Hv2 n2 rws
            split at hh
            · next c ec =>
              split at hh
              · next k kvs hk' hun =>
                split at hh
                · next hz =>
                  refine ⟨by rw [repWs_length rws]; exact hz.2, fun T hT => ?_⟩
                  have hcell : isCell c = true := by rw [unT_inv hun]; rfl
                  obtain ⟨a', hsl', hva2, _, hce⟩ := n2.rel.own i c ⟨ec, hcell⟩ hi
                  rw [hsl] at hsl'
                  cases hsl'
                  rw [unT_inv hun] at hce
                  obtain ⟨us, eu, kp⟩ := cell_T hce
                  have n3 := lay_key (vs := vs) n2.rel hT
                  have eu3 : upd H2 T (.tup vs) a = some (.dT us) := by rw [upd_ne (ne_of_none eu hT)]; exact eu
                  have rvk := keys_rep (fr := fr2) (H := H2) rws hk'
                  refine ⟨a, _, rfl, .t eu3 (by rw [rvk]; exact upd_same) (by rw [kp.length]; exact hz.1), ?_⟩
                  have m := n3.rel.mut hi ⟨ec, hcell⟩ hsl ((kp.put (k := k) (Rep.mono n2.ext _ _ rv)).cell upd_same)
                  exact hh σ _ Hv2 m.rel (n1.ext.trans (n2.ext.trans (n3.ext.trans m.ext)))
                · exact (hh : False).elim
              · exact (hh : False).elim
            · exact (hh : False).elim
        · exact (hh : False).elim
      · exact (hh : False).elim
    · exact (hh : False).elim
theorem d_din (hu : X.A.units + 1 < cLine) (hi : i ∈ B.M) (hk : DA X B W es gk) (hm : behindInMarks .In (.Name x np) = false := by rfl) (hN : X.N[i]? = some x := by rfl) (hvs : Vis X.env.scope x := by first | exact Or.inl rfl | exact Or.inr (Or.inl rfl) | exact Or.inr (Or.inr rfl)) (hd : (x == ("__debug__" : Str)) = false := by decide) (hcd : (x == ("__classdict__" : Str)) = false := by decide) :
    PC X .In (.Tuple es x1 tpos) (.Name x np) (dTE B W (eDin i gk)) := by
  have h0 := pc_din hu (pe_tup (x1 := x1) (pos := tpos) hk) (pe_var (pos := np) hN hvs hd hcd)
  refine ⟨fun pins s σ H Q I h => h0.run pins s σ H Q I ?_⟩
  obtain ⟨fr, Hv, R, h⟩ := h
  refine ⟨fr, Hv, R, ?_⟩
  unfold eDin at h
  cases hg : gk fr with
  | bad => rw [hg] at h; exact h.elim
  | exc c fs fr2 => rw [hg] at h; exact h
  | ok ks fr2 =>
    rw [hg] at h
    dsimp only [Res.bind] at h
    intro vs H2 Hv2 n2 rws
    split at h
    · next c ec =>
      split at h
      · next k kvs hk' hun =>
        split at h
        · next hz =>
          refine ⟨by rw [repWs_length rws]; exact hz, fun T hT => ?_⟩
          have hcell : isCell c = true := by rw [unT_inv hun]; rfl
          obtain ⟨a, hsl, hva2, _, hce⟩ := n2.rel.own i c ⟨ec, hcell⟩ hi
          rw [unT_inv hun] at hce
          obtain ⟨us, eu, kp⟩ := cell_T hce
          have n3 := lay_key (vs := vs) n2.rel hT
          have eu3 : upd H2 T (.tup vs) a = some (.dT us) := by rw [upd_ne (ne_of_none eu hT)]; exact eu
          have rvk := keys_rep (fr := fr2) (H := H2) rws hk'
          refine ⟨_, hsl, a, _, rfl, .t eu3 (by rw [rvk]; exact upd_same), ?_⟩
          rw [← (kp.val k).1]
          exact h (.bl _) _ Hv2 (n2.trans n3) (.of repB)
        · exact (h : False).elim
      · exact (h : False).elim
    · exact (h : False).elim
theorem d_dinE (hu : X.A.units + 1 < cLine) (hi : i ∈ B.M) (hk : DA X B W es gk) (hm : behindInMarks .In (.Name x np) = false := by rfl) (hN : X.N[i]? = some x := by rfl) (hvs : Vis X.env.scope x := by first | exact Or.inl rfl | exact Or.inr (Or.inl rfl) | exact Or.inr (Or.inr rfl)) (hd : (x == ("__debug__" : Str)) = false := by decide) (hcd : (x == ("__classdict__" : Str)) = false := by decide) :
    DE X B W (.Compare (.Tuple es x1 tpos) [.In] [.Name x np] pos) (eDin i gk) := pe_cmp (d_din hu hi hk hm hN hvs hd hcd) hm
theorem dt_dinE (hu : X.A.units + 1 < cLine) (hi : i ∈ B.M) (hk : DA X B W es gk) (hm : behindInMarks .In (.Name x np) = false := by rfl) (hN : X.N[i]? = some x := by rfl) (hvs : Vis X.env.scope x := by first | exact Or.inl rfl | exact Or.inr (Or.inl rfl) | exact Or.inr (Or.inr rfl)) (hd : (x == ("__debug__" : Str)) = false := by decide) (hcd : (x == ("__classdict__" : Str)) = false := by decide) :
    DT X B W (.Compare (.Tuple es x1 tpos) [.In] [.Name x np] pos) (bE (eDin i gk)) :=
  pt_imp (pt_cmp (d_din hu hi hk hm hN hvs hd hcd) hm) fun σ H Q ⟨fr, Hv, R, h⟩ => ⟨fr, Hv, R, postB_E h⟩
theorem d_dnew : DF X B W (.Dict [] [] pos) (eC (dTm [])) := by
  refine pe_imp pe_dnewT fun σ H Q h => ?_
  obtain ⟨fr, Hv, R, h⟩ := h
  intro p hp
  exact h p _ Hv ⟨R.lay hp, .refl _, fun b u h _ _ => by rw [upd_ne (ne_of_none h hp)]; exact h, .refl _ _, fun b u h => ⟨u, by rw [upd_ne (ne_of_none h hp)]; exact h⟩, fun b u h => .inl h⟩ hp (R.hv_none hp) (KP.nil.cell upd_same)
/-! d.pop(k) -/
def rPopT1 : V → List V → Hp → VK → Prop := fun x xs H Q => ∃ (a : Addr) (kvs : List (List L2.Key × V)) (k : List L2.Key) (b : Addr) (v : V), x = .ref a ∧ xs = [.ref b] ∧ H a = some (.dT kvs) ∧ H b = some (.tup (k.map kV)) ∧
  valV kvs k = some v ∧ Q v (upd H a (.dT (dropK kvs k)))
theorem mt_popT1 (hu : X.A.units + 1 < cLine) : MtR X "dict.pop" rPopT1 := by
  intro pins s σ H x xs v us Q I rx rxs h
  obtain ⟨a, kvs, k, b, v0, rfl, rfl, ha, hb, hv0, q1⟩ := h
  cases rx
  obtain ⟨u1, rfl, r1⟩ := vals1 rxs
  cases r1
  obtain ⟨z, hd, xs', rel, dd⟩ := dt_of I.hok ha
  have hz : xs'.length ≤ sizeLine := by rw [← Paired.length rel]; exact z
  have r := rel.val k
  rw [hv0] at r
  cases hp : atKey xs' k with
  | none => rw [hp] at r; exact (show False from r).elim
  | some p =>
    rw [hp] at r
    refine call_pop_heap (knd := tupleKind (mixKind X.prog X.w)) (.inl rfl) (PySem.F.args_dict_pop_2 _ _) (PySem.tupleKind_room_in1 hu) (key_of I.hok hb) hd dd hp (fun h' dd' hs => ?_) hz
    obtain ⟨o, es, ep, hq, h2, h3, h4, _, h5⟩ := dd'
    have I2 : Inv X pins σ (upd H a (.dT (dropK kvs k))) { s with heap := h', toks := s.toks + (tupleKind (mixKind X.prog X.w)).draws k } :=
      d_write I (by rw [ha]; exact True.intro) hs ⟨o, hq⟩ ⟨Nat.le_trans (dropK_le kvs k) z, hd, _, (DX.KT_drop k rel).keeps (fun c ys ec => (by rw [upd_ne (ne_of ec ha (fun z => nomatch z))]; exact ec)), o, es, ep, hq, h2, h3, h4, h5⟩
    exact ⟨v0, _, I2, r, q1⟩
end
end KS
namespace KS
open PySem PySem.Spec L2
def eDpop (i : Nat) (gk : Av) : Ev := fun fr => match fr[i]? with
  | some (some c0) => if isDctD c0 = true then ((gk fr).bind fun ks fr2 => match fr2[i]? with
    | some (some c) => match toKeys ks, unT c with
      | some k, some kvs => if ks.length ≤ sizeLine then (match valV' kvs k with
        | some d => .ok d (fr2.set i (some (dTm (dropK' kvs k))))
        | none => .bad) else .bad
      | _, _ => .bad
    | _ => .bad) else .bad
  | _ => .bad
def toPP : List L2.Key → Option PP
  | [.inl i, .inl j] => some (i, j)
  | _ => none
def toPPs : List (List L2.Key) → Option (List PP)
  | [] => some []
  | k :: ks => match toPP k, toPPs ks with
    | some p, some r => some (p :: r)
    | _, _ => none
def dPP (p : PP) : D := .tup [.int p.1, .int p.2]
def eSortD (i : Nat) : Ev := fun fr => match fr[i]? with
  | some (some c) => match unT c with
    | some kvs => match toPPs (kvs.map (·.1)) with
      | some ps => .ok (.lst ((ps.mergeSort leP).map dPP)) fr
      | none => .bad
    | none => .bad
  | _ => .bad
theorem toPPs_map : ∀ {ks : List (List L2.Key)} {ps : List PP}, toPPs ks = some ps → ks = ps.map kP
  | [], ps, h => by cases h; rfl
  | k :: ks, ps, h => by
    unfold toPPs at h
    split at h
    · next p r hp hr =>
      cases h
      rw [List.map_cons, ← toPPs_map hr]
      have : k = kP p := by
        unfold toPP at hp
        split at hp
        · cases hp; rfl
        · cases hp
      rw [this]
    · cases h
theorem toPPs_kP : ∀ ps : List PP, toPPs (ps.map kP) = some ps
  | [] => rfl
  | (i, j) :: ps => by simp [toPPs, toPP, kP, toPPs_kP ps]
theorem KP.keys {G : SE} {Hv : Hp} {kvs : TD} {us : List (List L2.Key × V)} (h : KP G Hv kvs us) : us.map (·.1) = kvs.map (·.1) := by
  induction h with
  | nil => rfl
  | cons h t ih => rw [List.map_cons, List.map_cons, ih]
section
variable {X : Cx} {B : Bd} {W : WX} {rf : Bool} {es : List Expr} {gk : Av} {i : Nat} {x : Str} {np pos apos cpos tpos : Pos} {x1 : Nat}
theorem d_dpop (hu : X.A.units + 1 < cLine) (hi : i ∈ B.M) (hk : DA X B W es gk) (hN : X.N[i]? = some x := by rfl) (hvs : Vis X.env.scope x := by first | exact Or.inl rfl | exact Or.inr (Or.inl rfl) | exact Or.inr (Or.inr rfl)) (hd : (x == ("__debug__" : Str)) = false := by decide) (hcd : (x == ("__classdict__" : Str)) = false := by decide)
    (he2 : starEach [.Tuple es x1 tpos] X.env = (false, eval (.Tuple es x1 tpos) X.env) :: starEach [] X.env := by rfl) (hbase : attributeBase (.Name x np) "pop" X.env (eval (.Name x np) X.env) = eval (.Name x np) X.env := by rfl)
    (hfew : ((backTo cpos (starEach [.Tuple es x1 tpos] X.env)).all (fun x => !x.1) && (backToKw cpos (keywordEach [] X.env)).all (fun x => x.1.isSome)
      && decide (([.Tuple es x1 tpos] : List Expr).length + ([] : List Keyword).length + (if ([] : List Keyword).isEmpty then 0 else 1) < 30)) = true := by rfl)
    (hline : (apos.endLine == cpos.line) = true := by rfl) (hplain : (backTo cpos (starEach [] X.env)).any (·.1) = false := by rfl) :
    DE X B W (.Call (.Attribute (.Name x np) "pop" apos) [.Tuple es x1 tpos] [] cpos) (eDpop i gk) := by
  refine pe_imp (pe_bm F.plainAttrs_dict F.slot_dict_pop F.type_dict_pop (mt_popT1 hu) (pe_var hN hvs hd hcd) (pa_cons (pe_tup hk) pa_nil he2) hbase hfew hline he2 hplain) fun σ H Q h => ?_
  obtain ⟨fr, Hv, R, h⟩ := h
  unfold eDpop at h
  split at h
  · next c0 e0 =>
    split at h
    · next hc0 =>
      obtain ⟨a, hsl, hva, _, hce0⟩ := R.own i c0 ⟨e0, kd_dct hc0⟩ hi
      refine ⟨_, hsl, tyV_dct hce0 hc0, fr, Hv, R, ?_⟩
      cases hg : gk fr with
      | bad => rw [hg] at h; exact h.elim
      | exc c fs fr2 => rw [hg] at h; exact h
      | ok ks fr2 =>
        rw [hg] at h
        dsimp only [Res.bind] at h
        intro vs H2 Hv2 n2 rws
        split at h
        · next c ec =>
          split at h
          · next k kvs hk' hun =>
            split at h
            · next hz =>
              refine ⟨by rw [repWs_length rws]; exact hz, fun T hT => ?_⟩
              split at h
              · next d hd' =>
                have hcell : isCell c = true := by rw [unT_inv hun]; rfl
                obtain ⟨a', hsl', hva2, _, hce⟩ := n2.rel.own i c ⟨ec, hcell⟩ hi
                rw [hsl] at hsl'
                cases hsl'
                rw [unT_inv hun] at hce
                obtain ⟨us, eu, kp⟩ := cell_T hce
                have n3 := lay_key (vs := vs) n2.rel hT
                have eu3 : upd H2 T (.tup vs) a = some (.dT us) := by rw [upd_ne (ne_of_none eu hT)]; exact eu
                have rvk := keys_rep (fr := fr2) (H := H2) rws hk'
                obtain ⟨v, h1, h2⟩ := (kp.val k).2 d hd'
                have m := n3.rel.mut hi ⟨ec, hcell⟩ hsl ((kp.drop k).cell upd_same)
                exact ⟨a, us, k, T, v, rfl, rfl, eu3, by rw [rvk]; exact upd_same, h1, h v _ Hv2 ((n2.trans n3).trans m) (.of h2)⟩
              · exact (h : False).elim
            · exact (h : False).elim
          · exact (h : False).elim
        · exact (h : False).elim
    · exact (h : False).elim
  · exact (h : False).elim
/-- tuples that stand become values, one by one -/
theorem freeze_tups {fr : Fr} {σ : L2.St} {H : Hp} : ∀ (qs : List Addr) (ps : List PP) {Hv : Hp}, Rel B fr σ H Hv → qs.length = ps.length → (∀ (i : Nat) (q : Addr) (z : PP), qs[i]? = some q → ps[i]? = some z → H q = some (.tup (vP z))) →
    ∃ Hv', Nxt B fr σ H Hv fr H Hv' ∧ RepL B.G Hv' (ps.map dPP) (qs.map V.ref) ∧ (∀ b, Hv' b ≠ none → Hv b ≠ none ∨ ∃ vs, H b = some (.tup vs))
  | [], [], Hv, R, _, _ => ⟨Hv, .refl R, .nil, fun b h => .inl h⟩
  | [], _ :: _, _, _, hl, _ => by simp at hl
  | _ :: _, [], _, _, hl, _ => by simp at hl
  | q :: qs, p :: ps, Hv, R, hl, h => by
    have hq := h 0 q p rfl rfl
    have no : ¬ Own B fr σ q := fun ⟨i, d, hi, hf, hs⟩ => by
      obtain ⟨a, hs', _, _, hc⟩ := R.own i d hf hi
      rw [hs] at hs'
      cases hs'
      exact hc.not_tup hq
    have s := sub_freeze R hq
    have R1 := R.freeze hq (.inr ⟨_, rfl⟩) (fun ps z => by cases z) no
    have n1 : Nxt B fr σ H Hv fr H (upd Hv q (.tup (vP p))) := ⟨R1, s, fun b u h _ _ => h, .refl _ _, fun b u h => ⟨u, h⟩, fun b u h => by
      by_cases e : b = q
      · rw [e, upd_same] at h
        exact .inr (.inl (.inr ⟨_, (Option.some.inj h).symm⟩))
      · rw [upd_ne e] at h
        exact .inl h⟩
    obtain ⟨Hv', n2, r, old⟩ := freeze_tups qs ps R1 (by simpa using hl) fun i q z e1 e2 => h (i + 1) q z (by simpa using e1) (by simpa using e2)
    refine ⟨Hv', n1.trans n2, .cons (Rep.tup (n2.ext _ _ upd_same) (.cons (Rep.int_iff.mpr rfl) (.cons (Rep.int_iff.mpr rfl) .nil))) r, fun b hb => ?_⟩
    rcases old b hb with z | z
    · by_cases e : b = q
      · exact .inr ⟨_, by rw [e]; exact hq⟩
      · rw [upd_ne e] at z
        exact .inl z
    · exact .inr z
theorem d_sortD (hu : X.A.units + 16 < cLine) (hc : X.calm = true) (hi : i ∈ B.M) (hm : X.mg "sorted" = none) {np2 : Pos} (hN : X.N[i]? = some x := by rfl) (hvs : Vis X.env.scope x := by first | exact Or.inl rfl | exact Or.inr (Or.inl rfl) | exact Or.inr (Or.inr rfl)) (hd : (x == ("__debug__" : Str)) = false := by decide) (hcd : (x == ("__classdict__" : Str)) = false := by decide)
    (hg : Gl X "sorted" := by rfl) (hv : bootBuiltins "sorted" = some (.builtin "sorted") := by decide +kernel) (hn : (("sorted" : String) : Str) ≠ "__name__" := by decide) (hdb : ((("sorted" : String) : Str) == ("__debug__" : Str)) = false := by decide)
    (he : starEach [.Name x np] X.env = (false, eval (.Name x np) X.env) :: starEach [] X.env := by rfl) (hpl : (backTo pos (starEach [] X.env)).any (·.1) = false := by rfl) :
    DF X B W (.Call (.Name "sorted" np2) [.Name x np] [] pos) (eSortD i) := by
  refine pe_imp (pe_callB (cr_sortedDP hc hu) hg hm hv (pa_cons (pe_var hN hvs hd hcd) pa_nil he) hn hdb he hpl) fun σ H Q h => ?_
  obtain ⟨fr, Hv, R, h⟩ := h
  unfold eSortD at h
  split at h
  · next c ec =>
    split at h
    · next kvs hun =>
      split at h
      · next ps hps =>
        have hcell : isCell c = true := by rw [unT_inv hun]; rfl
        obtain ⟨a, hsl, hva, _, hce⟩ := R.own i c ⟨ec, hcell⟩ hi
        rw [unT_inv hun] at hce
        obtain ⟨us, eu, kp⟩ := cell_T hce
        have hkeys := kp.keys
        refine ⟨_, hsl, a, us, ps, rfl, eu, by rw [hkeys, toPPs_map hps], fun qs p hp hl hq => ?_⟩
        have hlm : qs.length = (ps.mergeSort leP).length := by rw [List.length_mergeSort]; exact hl
        obtain ⟨Hv', n, r, old⟩ := freeze_tups qs (ps.mergeSort leP) R hlm hq
        have hvp : Hv' p = none := n.rel.hv_none hp
        have R2 := n.rel.lay (o := .lst (qs.map V.ref)) hp
        exact h p _ Hv' (n.trans ⟨R2, .refl _, fun b u h _ _ => by rw [upd_ne (ne_of_none h hp)]; exact h, .refl _ _, fun b u h => ⟨u, by rw [upd_ne (ne_of_none h hp)]; exact h⟩, fun b u h => .inl h⟩) hp hvp ⟨_, upd_same, r⟩
      · exact (h : False).elim
    · exact (h : False).elim
  · exact (h : False).elim
end
end KS
namespace KS
open PySem PySem.Spec L2
/-! ### own == -/
section
variable {X : Cx} {n : Nat} {C f : Addr} {fd : FuncData} {ps : List Str} {sp : Sp}
theorem op_eqO (F : FnOk X.prog X.w X.K X.mg X.base (L2.CX X.prog X.w) n f fd ps sp) (hr : Room n X.A)
    (hs : PySem.W.findIn X.K (.ref C) "__eq__" = some (some (.ref f))) (hf : PySem.W.isFn X.K (.ref f) = true) (hb : Binds X.K fd ps []) :
    OpR X (compareOp .Eq) (fun x y H Q => ∃ a b dx dy fs gs, x = .ref a ∧ y = .ref b ∧ H a = some (.ins C dx fs) ∧ H b = some (.ins C dy gs) ∧ sp [.ref a, .ref b] H Q (fun _ _ _ => False)) := by
  intro pins s σ H x y u v Q I rx ry hq
  obtain ⟨a, b, dx, dy, fs, gs, rfl, rfl, ha, hb', hsp⟩ := hq
  cases rx
  cases ry
  show wpAny (model X.prog X.w) X.A (richCompare .Eq _ _) (EP X pins σ Q) X.xe s
  obtain ⟨mA, J, _⟩ := ins_get I.hok ha
  obtain ⟨mB, J', _⟩ := ins_get I.hok hb'
  obtain ⟨od, J, _⟩ := J.look
  obtain ⟨od', J', _⟩ := J'.look
  obtain ⟨m, hF⟩ := I.fr
  refine PySem.W.cmp_K (op := .Eq) (tb := .ref C) hr.units0 hF I.ok.mod.kin J J'.type (by simp [PySem.W.notFirst]) hs hf ?_
  have e0 : Env0 X.prog X.w X.K X.mg X.base X.A X.stack s H := I.env0
  have hl := F.len _ _ _ _ hsp
  have r2 : Vals [V.ref a, V.ref b] [Value.ref a, Value.ref b] := .cons rfl (.cons rfl .nil)
  refine wpAny_call (codeAny_mono (F.run X.A X.stack s H ⟨[.ref a, .ref b], []⟩ [.ref a, .ref b] [.ref a, .ref b] _ _ hr e0 (by
    have := hb s [.ref a, .ref b] I.kIn (by simpa using hl)
    simpa using this) r2 hsp) fun r s' hq => ?_)
  cases r with
  | error e =>
    obtain ⟨_, _, _, _, _, _, _, _, _, _, _, _, z⟩ := hq
    exact z.elim
  | ok fl =>
    cases fl with
    | ret w =>
      obtain ⟨z, H', I', rz, q⟩ := I.after hq
      have nz : w ≠ .notImplemented := fun e => by
        subst e
        cases z <;> first | (cases rz; done) | (obtain ⟨_, h⟩ := rz; cases h; done)
      have fin : EP X pins σ Q w s' := ⟨z, H', I', rz, q⟩
      cases w <;> first | exact absurd rfl nz | exact fin
    | next => exact False.elim hq
    | brk => exact False.elim hq
    | cont => exact False.elim hq
end
def eEqO (c : Nat) (F : Fn) (f g : Ev) : Ev := fun fr => (f fr).bind fun x fr1 => (g fr1).bind fun y fr2 => if pers x = true ∧ pers y = true then (match x, y with
  | .obj c1 ns fs, .obj c2 ms gs => if c1 = c ∧ c2 = c then (match F [.obj c1 ns fs, .obj c2 ms gs] with
    | .ok d _ => if pers d = true then .ok d fr2 else .bad
    | _ => .bad) else .bad
  | _, _ => .bad) else .bad
section
variable {B : Bd} {fr : Fr} {σ : L2.St} {H Hv H' Hv' : Hp} {ds outs : List D} {vs : List V}
theorem nxt_val (R : Rel B fr σ H Hv) {n : Nat} (f : FinC B.G (List.replicate n false) outs vs H Hv H' Hv') : Nxt B fr σ H Hv fr H' Hv' := by
  have io : ∀ {b}, ¬ ioA (List.replicate n false) vs b := fun {b} ⟨i, h1, h2⟩ => by
    rw [List.getElem?_replicate] at h1
    split at h1 <;> cases h1
  have kp : ∀ b o, H b = some o → b ∉ B.G.tabs → H' b = some o := fun b o h ht => f.keep b o h io ht
  refine ⟨⟨f.sub, R.ext0.trans f.ext, fun b o h => ?_, fun b o h hi ht => kp b o (R.keep b o h hi ht) ht, R.len, fun i d e hm => ?_, fun i d e hc hm => ?_, fun i d e hm => ?_, R.sep, R.io, f.tab⟩, f.ext, fun b o h _ nt => kp b o h nt, .refl _ _, fun b o h => ?_, fun b o h => ?_⟩
  · rcases f.new b o h with z | z
    · exact R.new b o z
    · exact .inr (z.imp (fun z => R.h0_none z) id)
  · obtain ⟨v, hs, hr⟩ := R.val i d e hm
    exact ⟨v, hs, Rep.mono f.ext _ _ hr⟩
  · obtain ⟨e2, v, z, hs, hr⟩ := R.box i d e hc hm
    exact ⟨e2, v, z, hs, Rep.mono f.ext _ _ hr⟩
  · obtain ⟨a, hs, hva, hn, hc⟩ := R.own i d e hm
    obtain ⟨⟨u, hu⟩, _, nt⟩ := R.own_some ⟨i, d, hm, e, hs⟩
    refine ⟨a, hs, ?_, hn, hc.mono f.ext ((kp a u hu nt).trans hu.symm)⟩
    cases q : Hv' a with
    | none => rfl
    | some o =>
      rcases f.new a o q with z | z | ⟨ws, z⟩
      · rw [hva] at z; cases z
      · rw [hu] at z; cases z
      · have h1 := f.sub a o q
        rw [kp a u hu nt, z] at h1
        cases h1
        exact (hc.not_tup hu).elim
  · by_cases ht : b ∈ B.G.tabs
    · obtain ⟨⟨ps, e, _⟩, _⟩ := f.tab b ht
      exact ⟨_, e⟩
    · exact ⟨o, kp b o h ht⟩
  · rcases f.new b o h with z | z
    · exact .inl z
    · exact .inr (.inl z)
theorem start_val (R : Rel B fr σ H Hv) (r : RepL B.G Hv ds vs) : Start B.G (List.replicate ds.length false) ds vs H Hv where
  sub := R.sub
  tab := R.tab
  lend := by simp
  lenv := by simp [r.length]
  val := fun i d hm hd => r.get hd
  own := fun i d hm hd => by
    rw [List.getElem?_replicate] at hm
    split at hm <;> cases hm
  sep := fun i j a hij hi hj => by
    rw [List.getElem?_replicate] at hi
    split at hi <;> cases hi
variable {X : Cx} {W : WX} {a b : Expr} {f g : Ev} {pos : Pos} {n c : Nat} {fa : Addr} {fd : FuncData} {ps : List Str} {F : Fn}
abbrev rEqO (K : PySem.W.Frag) (C : Addr) (sp : Sp) : R2 := fun x y H Q => ∃ a b dx dy fs gs, x = .ref a ∧ y = .ref b ∧ H a = some (.ins C dx fs) ∧ H b = some (.ins C dy gs) ∧ sp [.ref a, .ref b] H Q (fun _ _ _ => False)
theorem entEqO {σ : L2.St} {H : Hp} {Q : VK} {K : PySem.W.Frag} (h : dTE B W (eEqO c F f g) σ H Q) : tOp (rEqO K (B.G.cls c) (spOf B.G [false, false] false F)) (dTE B W f) (dTE B W g) σ H Q := by
  obtain ⟨fr, Hv, R, h⟩ := h
  refine ⟨fr, Hv, R, ?_⟩
  unfold eEqO at h
  cases hff : f fr with
  | bad => rw [hff] at h; exact h.elim
  | exc k fs fr1 => rw [hff] at h; exact h
  | ok x fr1 =>
    rw [hff] at h
    dsimp only [Res.bind] at h
    intro vx H1 Hv1 n1 r1
    refine ⟨fr1, Hv1, n1.rel, ?_⟩
    cases hgg : g fr1 with
    | bad => rw [hgg] at h; exact h.elim
    | exc k fs fr2 =>
      rw [hgg] at h
      exact fun dd H' Hv' m => h dd H' Hv' (n1.trans m)
    | ok y fr2 =>
      rw [hgg] at h
      dsimp only at h
      intro vy H2 Hv2 n2 r2
      split at h
      · next hp =>
        have r1 := (r1.mono n2.ext).rep fun i z => by rw [z] at hp; cases hp.1
        have r2 := r2.rep fun i z => by rw [z] at hp; cases hp.2
        cases x with
        | obj c1 ns fs =>
          cases y with
          | obj c2 ms gs =>
            dsimp only at h
            split at h
            · next hc =>
              obtain ⟨p1, dx1, vs1, rfl, e1, _, _⟩ := Rep.obj_inv r1
              obtain ⟨p2, dx2, vs2, rfl, e2, _, _⟩ := Rep.obj_inv r2
              refine ⟨p1, p2, dx1, dx2, _, _, rfl, rfl, by rw [← hc.1]; exact n2.rel.sub _ _ e1, by rw [← hc.2]; exact n2.rel.sub _ _ e2, [.obj c1 ns fs, .obj c2 ms gs], Hv2, start_val n2.rel (.cons r1 (.cons r2 .nil)), ?_⟩
              split at h
              · next d outs hF =>
                rw [hF]
                split at h
                · next hpd =>
                  intro v H' Hv' fin ret
                  have ret : Rep B.G Hv' d v := by
                    unfold RetR at ret
                    rwa [if_neg Bool.false_ne_true] at ret
                  exact h v H' Hv' ((n1.trans n2).trans (nxt_val (n := 2) n2.rel fin)) (.of ret)
                · exact (h : False).elim
              · exact (h : False).elim
            · exact (h : False).elim
          | _ => exact (h : False).elim
        | _ => exact (h : False).elim
      · exact (h : False).elim
theorem d_eqO (Fk : FnOk X.prog X.w X.K X.mg X.base (L2.CX X.prog X.w) n fa fd ps (spOf B.G [false, false] false F)) (hr : Room n X.A)
    (hs : PySem.W.findIn X.K (.ref (B.G.cls c)) "__eq__" = some (some (.ref fa))) (hf : PySem.W.isFn X.K (.ref fa) = true) (hb : Binds X.K fd ps []) (ha : DE X B W a f) (hbb : DE X B W b g) (hm : behindInMarks .Eq b = false := by rfl) :
    DE X B W (.Compare a [.Eq] [b] pos) (eEqO c F f g) := pe_imp (pe_cmpR (op_eqO (C := B.G.cls c) Fk hr hs hf hb) ha hbb hm) fun _ _ _ h => entEqO (K := X.K) h
theorem dt_eqO (Fk : FnOk X.prog X.w X.K X.mg X.base (L2.CX X.prog X.w) n fa fd ps (spOf B.G [false, false] false F)) (hr : Room n X.A)
    (hs : PySem.W.findIn X.K (.ref (B.G.cls c)) "__eq__" = some (some (.ref fa))) (hf : PySem.W.isFn X.K (.ref fa) = true) (hb : Binds X.K fd ps []) (ha : DE X B W a f) (hbb : DE X B W b g) (hm : behindInMarks .Eq b = false := by rfl) :
    DT X B W (.Compare a [.Eq] [b] pos) (bE (eEqO c F f g)) := pt_imp (pt_cmpR (op_eqO (C := B.G.cls c) Fk hr hs hf hb) ha hbb hm) fun _ _ _ ⟨fr, Hv, R, h⟩ => entEqO (K := X.K) ⟨fr, Hv, R, postB_E h⟩
end
/-! ### the __init__ of an own exception: self.f = f, .. -/
def tOexs (K : PySem.W.Frag) : Nat → List Str → TS
  | _, [] => tNext
  | k, n :: ns => tSeq (tOst K n (tVar 0) (tVar k)) (tOexs K (k + 1) ns)
theorem oexs_go {K : PySem.W.Frag} {C a d : Addr} {σ : L2.St} {D : Ends} (T : OexC K C) (hs : σ[0]? = some (some (.ref a))) (hda : d ≠ a) : ∀ (ns : List Str) (k : Nat) (ws : List V) (l : List (Str × V)) (H : Hp), H a = some (exo a C (some d)) → H d = some (exd d l) → ws.length = ns.length → l.length + ns.length ≤ 900 → ns.Nodup →
    (∀ n ∈ ns, PySem.W.findIn K (.ref C) n = some none) → (∀ i v, ws[i]? = some v → σ[k + i]? = some (some v)) →
    (∀ l', (∀ (i : Nat) (n : Str) (v : V), ns[i]? = some n → ws[i]? = some v → l'.lookup n = some v) → (∀ n, n ∉ ns → l'.lookup n = l.lookup n) → D.nx σ (upd H d (exd d l'))) → tOexs K k ns D σ H
  | [], k, ws, l, H, ha, hd, hl, hz, nd, hn, hv, q => by
    show D.nx σ H
    have e : upd H d (exd d l) = H := by
      funext b
      by_cases h : b = d
      · rw [h, upd_same, hd]
      · rw [upd_ne h]
    rw [← e]
    exact q l (fun i n v h => by simp at h) fun n _ => rfl
  | n :: ns, k, [], l, H, ha, hd, hl, hz, nd, hn, hv, q => by simp at hl
  | n :: ns, k, w :: ws, l, H, ha, hd, hl, hz, nd, hn, hv, q => by
    refine ⟨w, by have := hv 0 w rfl; simpa using this, _, hs, a, C, rfl, T, hn n (List.mem_cons_self ..), .inr ⟨d, l, ha, hd, by simp at hz; omega, ?_⟩⟩
    rw [List.nodup_cons] at nd
    refine oexs_go T hs hda ns (k + 1) ws ((n, w) :: l) _ (by rw [upd_ne (Ne.symm hda)]; exact ha) upd_same (by simpa using hl) (by simp at hz ⊢; omega) nd.2 (fun m hm => hn m (List.mem_cons_of_mem _ hm)) (fun i v h => by
      have := hv (i + 1) v (by simpa using h)
      rwa [show k + (i + 1) = k + 1 + i by omega] at this) fun l' h1 h2 => ?_
    have e : upd (upd H d (exd d ((n, w) :: l))) d (exd d l') = upd H d (exd d l') := by
      funext b
      by_cases h : b = d
      · rw [h, upd_same, upd_same]
      · rw [upd_ne h, upd_ne h, upd_ne h]
    rw [e]
    refine q l' (fun i m v e1 e2 => ?_) fun m hm => ?_
    · cases i with
      | zero =>
        cases e1
        cases e2
        rw [h2 n nd.1]
        simp [List.lookup]
      | succ i => exact h1 i m v (by simpa using e1) (by simpa using e2)
    · rw [List.mem_cons, not_or] at hm
      rw [h2 m hm.2]
      have : (m == n) = false := by simpa using hm.1
      simp [List.lookup, this]
theorem fn_oex {P : Program} {w : World} {K : PySem.W.Frag} {mg : Str → Option Value} {base : Heap} {x qual : Str} {st : Stmt} {f C : Addr} {fd : FuncData} {N ps nms : List Str} (k : Nat) (F : Fun K x qual st f fd) (S : FnScope N ps (defScope st)) (hlen : ps.length = nms.length + 1) (hNl : ps.length ≤ N.length) (T : OexC K C)
    (h1 : 1 ≤ nms.length) (h9 : nms.length ≤ 900) (nd : nms.Nodup) (hn : ∀ n ∈ nms, PySem.W.findIn K (.ref C) n = some none)
    (hbody : ∀ (cdv : Value) (A : Around) (outer : List Env) (s : Shared) (H : Hp) (E : XK), PSs (cxOf (L2.CX P w) P w K mg base N qual (defScope st) f cdv A outer s H E) (defBody st) (tOexs K 1 nms)) :
    FnOk P w K mg base (L2.CX P w) (k + 1) f fd ps (oexSp C nms) := by
  refine F.okX S (fun vs H Q E h => ?_) (fun cdv A outer s H vs Q E hr h => ⟨_, hbody cdv A outer s H E, ?_⟩)
  · obtain ⟨a, ws, rfl, hl, _⟩ := h
    rw [List.length_cons, hl, hlen]
  · obtain ⟨a, ws, rfl, hl, ha, q⟩ := h
    have get : ∀ (i : Nat) (v : V), (V.ref a :: ws)[i]? = some v → (L2.start N (V.ref a :: ws))[i]? = some (some v) := fun i v e => (start_get (by rw [List.length_cons, hl, ← hlen]; exact hNl)).mpr e
    cases nms with
    | nil => simp at h1
    | cons n ns =>
      cases ws with
      | nil => simp at hl
      | cons w ws =>
        have g0 := get 0 _ rfl
        rw [List.nodup_cons] at nd
        refine ⟨w, get 1 w rfl, _, g0, a, C, rfl, T, hn n (List.mem_cons_self ..), .inl ⟨ha, fun d hd hda => ?_⟩⟩
        refine oexs_go T g0 hda ns 2 ws [(n, w)] _ upd_same (by rw [upd_ne hda]; exact upd_same) (by simpa using hl) (by simp at h9 ⊢; omega) nd.2 (fun m hm => hn m (List.mem_cons_of_mem _ hm)) (fun i v e => by
          have := get (i + 2) v (by simpa using e)
          rwa [show i + 2 = 2 + i by omega] at this) fun l' e1 e2 => ?_
        have e : upd (upd (upd H d (exd d [(n, w)])) a (exo a C (some d))) d (exd d l') = upd (upd H d (exd d l')) a (exo a C (some d)) := by
          funext b
          by_cases hb : b = d
          · rw [hb, upd_same, upd_ne hda, upd_same]
          · rw [upd_ne hb]
            by_cases hb2 : b = a
            · rw [hb2, upd_same, upd_same]
            · rw [upd_ne hb2, upd_ne hb, upd_ne hb2, upd_ne hb]
        show Q .non _
        rw [e]
        refine q d l' hd hda fun i m v g1 g2 => ?_
        cases i with
        | zero =>
          cases g1
          cases g2
          rw [e2 n nd.1]
          simp [List.lookup]
        | succ i => exact e1 i m v (by simpa using g1) (by simpa using g2)
end KS
namespace KS
open PySem PySem.Spec L2
def orF (F G : D → D → Option D) : D → D → Option D := fun a b => match F a b with
  | some z => some z
  | none => G a b
theorem OpS.or {B : Bd} {r r' : R2} {F F' : D → D → Option D} (h : OpS B r F) (h' : OpS B r' F') : OpS B (fun x y H Q => r x y H Q ∨ r' x y H Q) (orF F F') := by
  intro fr σ H Hv x y dx dy a b z Q R rx ry hx hy hz k
  unfold orF at hz
  split at hz
  · next w e =>
    cases hz
    exact .inl (h fr σ H Hv x y dx dy a b _ Q R rx ry hx hy e k)
  · exact .inr (h' fr σ H Hv x y dx dy a b _ Q R rx ry hx hy hz k)
def leTs (ns ms : List Int) : Bool := Ob.lexAt (fun j => decide (ns.getD j 0 = ms.getD j 0)) (fun j => decide (ns.getD j 0 ≤ ms.getD j 0)) (decide (ns.length ≤ ms.length)) 0 (min ns.length ms.length)
def leTF : D → D → Option D
  | .tup ds, .tup es => match intsOf ds, intsOf es with
    | some ns, some ms => some (.bl (leTs ns ms))
    | _, _ => none
  | _, _ => none
section
variable {X : Cx} {B : Bd}
theorem ops_leT (hK : X.K = B.G.K) : OpS B (rLeT X.K) leTF := by
  intro fr σ H Hv x y dx dy a b z Q R rx ry hx hy hz k
  unfold leTF at hz
  split at hz
  · split at hz
    · next ns ms h1 h2 =>
      cases hz
      obtain ⟨p, vs, rfl, q, _, r⟩ := R.tup_of rx hx
      obtain ⟨p2, vs2, rfl, q2, _, r2⟩ := R.tup_of ry hy
      have e1 := ints_rep r h1
      have e2 := ints_rep r2 h2
      subst e1 e2
      exact ⟨p, p2, ns, ms, rfl, rfl, by rw [hK]; exact q, by rw [hK]; exact q2, k _ H Hv (.refl R) repB⟩
    · cases hz
  · cases hz
abbrev leA : D → D → Option D := orF leF leTF
theorem ops_leA (hK : X.K = B.G.K := by rfl) : OpS B (fun x y H Q => rI0 (fun i j => .bl (decide (i ≤ j))) x y H Q ∨ rLeT X.K x y H Q) leA := ops_le.or (ops_leT hK)
theorem op_leA (hu : X.A.units < cLine) : OpR X (compareOp .LtE) (fun x y H Q => rI0 (fun i j => .bl (decide (i ≤ j))) x y H Q ∨ rLeT X.K x y H Q) := op_le.or (op_leT hu)
def inSF : D → D → Option D
  | .str i, .str j => some (.bl (!(Builtin.Str.occurrences j i 0 j.length 1).isEmpty))
  | _, _ => none
theorem ops_inS : OpS B (fun x y H Q => ∃ i j, x = .str i ∧ y = .str j ∧ Q (.bl (!(Builtin.Str.occurrences j i 0 j.length 1).isEmpty)) H) inSF := by
  intro fr σ H Hv x y dx dy a b z Q R rx ry hx hy hz k
  unfold inSF at hz
  split at hz
  · cases hz
    rw [R.str_of rx hx, R.str_of ry hy]
    exact ⟨_, _, rfl, rfl, k _ H Hv (.refl R) repB⟩
  · cases hz
abbrev inA : D → D → Option D := orF inF inSF
theorem ops_inA (hK : X.K = B.G.K := by rfl) : OpS B (fun x y H Q => rInD X.K x y H Q ∨ (∃ i j, x = .str i ∧ y = .str j ∧ Q (.bl (!(Builtin.Str.occurrences j i 0 j.length 1).isEmpty)) H)) inA := (ops_ing hK V.bl D.bl fun _ _ => repB).or ops_inS
theorem op_inA (hu : X.A.units + 65 < cLine) : OpR X (compareOp .In) (fun x y H Q => rInD X.K x y H Q ∨ (∃ i j, x = .str i ∧ y = .str j ∧ Q (.bl (!(Builtin.Str.occurrences j i 0 j.length 1).isEmpty)) H)) := (op_inD hu).or op_in_str
theorem ops_notIn (hK : X.K = B.G.K := by rfl) : OpS B (rNotInD X.K) notInF := ops_ing hK (fun k => V.bl (!k)) (fun k => D.bl (!k)) fun _ _ => repB
theorem ops_eqA (hK : X.K = B.G.K := by rfl) : OpS B (fun x y H Q => rEq x y H Q ∨ rEqD X.K x y H Q) eqF := ops_eq hK
theorem ops_neA (hK : X.K = B.G.K := by rfl) : OpS B (fun x y H Q => rNe x y H Q ∨ rNeD X.K x y H Q) neF := ops_ne hK
end
theorem u0 {k : Nat} {A : Around} (r : Room k A) : A.units < cLine := by have := r.un; omega
theorem u1 {k : Nat} {A : Around} (r : Room k A) : A.units + 1 < cLine := by have := r.un; omega
theorem u16 {k : Nat} {A : Around} (r : Room k A) : A.units + 16 < cLine := by have := r.un; omega
theorem u64 {k : Nat} {A : Around} (r : Room k A) : A.units + 64 < cLine := by have := r.un; omega
theorem u65 {k : Nat} {A : Around} (r : Room k A) : A.units + 65 < cLine := by have := r.un; omega
theorem op_eqA {X : Cx} (hu : X.A.units + 64 < cLine) : OpR X (compareOp .Eq) (fun x y H Q => rEq x y H Q ∨ rEqD X.K x y H Q) := op_eq.or (op_eqD hu)
theorem op_neA {X : Cx} (hu : X.A.units + 64 < cLine) : OpR X (compareOp .NotEq) (fun x y H Q => rNe x y H Q ∨ rNeD X.K x y H Q) := op_ne.or (op_neD hu)
theorem io_ne {ms : List Bool} {io : List (Nat × Addr)} {i : Nat} (h : ∀ p ∈ io, ms[p.1]? = some true) (hi : ms[i]? ≠ some true) : ∀ p ∈ io, p.1 ≠ i := fun p hp z => hi (by rw [← z]; exact h p hp)
theorem fnok_bad {G : SE} {k : Nat} {f : Addr} {fd : FuncData} {ps : List Str} {ms : List Bool} {rf : Bool} : FnOk G.P G.w G.K G.mg G.base (L2.CX G.P G.w) k f fd ps (spOf G ms rf fun _ => .bad) :=
  ⟨fun vs H Q E h => by obtain ⟨_, _, _, z⟩ := h; exact z.elim, fun A outer s H args us vs Q E _ _ _ _ h => by obtain ⟨_, _, _, z⟩ := h; exact z.elim⟩
theorem pts1 {X : Cx} {c : Expr} {t : TT} (h : PT X c t) : PTs X [c] t := pts_one h
end KS
namespace KS
open PySem PySem.Spec L2
theorem d_globE {X : Cx} {B : Bd} {W : WX} {x : Str} {v : V} {d : D} {pos : Pos} (h : ∃ u, X.mg x = some u ∧ RelV v u) (hr : Rep B.G (fun _ => none) d v) (hg : Gl X x := by rfl) (hd : (x == ("__debug__" : Str)) = false := by decide) : DE X B W (.Name x pos) (eC d) := by
  obtain ⟨u, hm, r⟩ := h
  exact d_glob hr hm r hg hd
theorem aLenN : ∀ fr ds fr1, aNil fr = .ok ds fr1 → ds.length = 0 := fun fr ds fr1 h => by cases h; rfl
theorem aLenC {f : Ev} {g : Av} {n : Nat} (k : ∀ fr ds fr1, g fr = .ok ds fr1 → ds.length = n) : ∀ fr ds fr1, aCons f g fr = .ok ds fr1 → ds.length = n + 1 := by
  intro fr ds fr1 h
  unfold aCons at h
  cases hf : f fr with
  | ok d fr2 =>
    rw [hf] at h
    dsimp only [Res.bind] at h
    cases hg : g fr2 with
    | ok es fr3 =>
      rw [hg] at h
      cases h
      rw [List.length_cons, k _ _ _ hg]
    | exc => rw [hg] at h; cases h
    | bad => rw [hg] at h; cases h
  | exc => rw [hf] at h; cases h
  | bad => rw [hf] at h; cases h
end KS
namespace KS
def NoNx (g : Sv) : Prop := ∀ fr fr', g fr ≠ .ok .nx fr'
theorem noNx_seq {g h : Sv} (k : NoNx h) : NoNx (sSeq g h) := by
  intro fr fr' e
  unfold sSeq at e
  cases hg : g fr with
  | ok fl fr1 =>
    rw [hg] at e
    cases fl with
    | nx => exact k fr1 fr' e
    | _ => cases e
  | exc => rw [hg] at e; cases e
  | bad => rw [hg] at e; cases e
theorem noNx_seqL {g h : Sv} (k : NoNx g) : NoNx (sSeq g h) := by
  intro fr fr' e
  unfold sSeq at e
  cases hg : g fr with
  | ok fl fr1 =>
    rw [hg] at e
    cases fl with
    | nx => exact k fr fr1 hg
    | _ => cases e
  | exc => rw [hg] at e; cases e
  | bad => rw [hg] at e; cases e
theorem noNx_retV {i : Nat} : NoNx (sRetV i) := by
  intro fr fr' e
  unfold sRetV at e
  split at e
  · split at e <;> cases e
  · cases e
theorem noNx_retF {f : Ev} : NoNx (sRetF f) := by
  intro fr fr' e
  unfold sRetF at e
  cases hg : f fr with
  | ok d fr1 => rw [hg] at e; cases e
  | exc => rw [hg] at e; cases e
  | bad => rw [hg] at e; cases e
end KS
/-! KS21: how the functions run: rewriting rules for plain reasoning. -/
namespace KS
open PySem
@[simp] theorem bind_ok {σ α β : Type} (a : α) (s : σ) (k : α → σ → Res σ β) : (Res.ok a s).bind k = k a s := rfl
@[simp] theorem bind_exc {σ α β : Type} (c : Nat) (fs : List D) (s : σ) (k : α → σ → Res σ β) : (Res.exc c fs s).bind k = .exc c fs s := rfl
@[simp] theorem bind_bad {σ α β : Type} (k : α → σ → Res σ β) : (Res.bad).bind k = .bad := rfl
theorem eVar_at {i : Nat} {fr : Fr} {d : D} (h : fr[i]? = some (some d)) : eVar i fr = .ok d fr := by unfold eVar; rw [h]
theorem ePl_at {i : Nat} {fr : Fr} {d : D} (h : fr[i]? = some (some d)) (c : isCell d = true) : ePl i fr = .ok (.var i) fr := by unfold ePl; rw [h]; simp [c]
end KS
namespace KS
def Ends (r : Res Fr Fl) (P : Fl → Fr → Prop) : Prop := ∃ fl fr, r = .ok fl fr ∧ P fl fr
theorem Ends.mk {fl : Fl} {fr : Fr} {P : Fl → Fr → Prop} (h : P fl fr) : Ends (.ok fl fr) P := ⟨fl, fr, rfl, h⟩
theorem Ends.imp {r : Res Fr Fl} {P Q : Fl → Fr → Prop} (h : Ends r P) (k : ∀ fl fr, P fl fr → Q fl fr) : Ends r Q := by
  obtain ⟨fl, fr, e, p⟩ := h
  exact ⟨fl, fr, e, k fl fr p⟩
/-- what a turn is to reach -/
def Turned (I : Fr → Prop) (R : Fl → Fr → Prop) : Fl → Fr → Prop
  | .nx, fr => I fr
  | .cnt, fr => I fr
  | .brk, fr => R .nx fr
  | .ret d, fr => R (.ret d) fr
theorem loop_ends {t : Tv} {g : Sv} {I : List D → Fr → Prop} {R : Fl → Fr → Prop} (h : ∀ d ds fr, I (d :: ds) fr → ∃ fr1, t d fr = some fr1 ∧ Ends (g fr1) (Turned (I ds) R)) (h0 : ∀ fr, I [] fr → R .nx fr) : ∀ ds fr, I ds fr → Ends (loopF t g ds fr) R
  | [], fr, i => ⟨.nx, fr, rfl, h0 fr i⟩
  | d :: ds, fr, i => by
    obtain ⟨fr1, e, fl, fr2, e2, p⟩ := h d ds fr i
    unfold loopF
    rw [e]
    dsimp only
    rw [e2]
    cases fl with
    | nx => exact loop_ends h h0 ds fr2 p
    | cnt => exact loop_ends h h0 ds fr2 p
    | brk => exact ⟨.nx, fr2, rfl, p⟩
    | ret d => exact ⟨.ret d, fr2, rfl, p⟩
/-- one statement, then the rest -/
theorem seq_ends {g h : Sv} {fr : Fr} {P : Fl → Fr → Prop} (k : Ends (g fr) (fun fl fr1 => match fl with | .nx => Ends (h fr1) P | fl => P fl fr1)) : Ends (sSeq g h fr) P := by
  obtain ⟨fl, fr1, e, p⟩ := k
  unfold sSeq
  rw [e]
  cases fl with
  | nx => exact p
  | brk => exact ⟨_, _, rfl, p⟩
  | cnt => exact ⟨_, _, rfl, p⟩
  | ret d => exact ⟨_, _, rfl, p⟩
theorem for_ends {h : Iv} {t : Tv} {g : Sv} {fr fr1 : Fr} {ds : List D} {R : Fl → Fr → Prop} (e : h fr = .ok ds fr1) (k : Ends (loopF t g ds fr1) R) : Ends (sFor h t g fr) R := by
  unfold sFor
  rw [e]
  exact k
theorem if_ends {t : Bv} {g h : Sv} {fr fr1 : Fr} {b : Bool} {R : Fl → Fr → Prop} (e : t fr = .ok b fr1) (k : Ends (if b then g fr1 else h fr1) R) : Ends (sIf t g h fr) R := by
  unfold sIf
  rw [e]
  exact k
theorem run_ends {k n : Nat} {g : Sv} {ds : List D} {d : D} (h : Ends (g (startF n ds)) (fun fl fr => fl = .ret d)) : ∃ outs, runFn k n g ds = .ok d outs := by
  obtain ⟨fl, fr, e, rfl⟩ := h
  exact ⟨outsOf k fr, by unfold runFn; rw [e]⟩
theorem run_endsD {k n : Nat} {g : Sv} {ds : List D} {P : D → Prop} (h : Ends (g (startF n ds)) (fun fl fr => ∃ d, fl = .ret d ∧ P d)) : ∃ d outs, runFn k n g ds = .ok d outs ∧ P d := by
  obtain ⟨fl, fr, e, d, rfl, p⟩ := h
  exact ⟨d, outsOf k fr, by unfold runFn; rw [e], p⟩
end KS
namespace KS
@[simp] theorem ends_ok {fl : Fl} {fr : Fr} {P : Fl → Fr → Prop} : Ends (.ok fl fr) P ↔ P fl fr := ⟨fun ⟨_, _, e, p⟩ => by cases e; exact p, fun p => ⟨_, _, rfl, p⟩⟩
theorem outsOf_eq {k : Nat} {fr : Fr} {l : List D} (h : outsOf k fr = l) : outsOf k fr = l := h
theorem map_snoc {ps : List Int} {p : Int} : List.map D.int ps ++ [D.int p] = List.map D.int (ps ++ [p]) := by simp
end KS
namespace KS
/-! single steps, where simp on numbers is dear (a length's product is unfolded by the kernel: name the length first) -/
theorem op2_ok {F : D → D → Option D} {f g : Ev} {fr fr1 fr2 : Fr} {x y a b z : D} (hf : f fr = .ok x fr1) (hg : g fr1 = .ok y fr2) (hx : look fr2 x = some a) (hy : look fr2 y = some b) (hF : F a b = some z) : eOp2 F f g fr = .ok z fr2 := by
  unfold eOp2
  rw [hf, bind_ok, hg, bind_ok, hx, hy]
  dsimp only
  rw [hF]
  rfl
theorem op2i {F : D → D → Option D} {f g : Ev} {fr : Fr} {i j : Int} {z : D} (hf : f fr = .ok (.int i) fr) (hg : g fr = .ok (.int j) fr) (hF : F (.int i) (.int j) = some z) : eOp2 F f g fr = .ok z fr := op2_ok hf hg rfl rfl hF
theorem op1_ok {F : D → Option D} {f : Ev} {fr fr1 : Fr} {x a z : D} (hf : f fr = .ok x fr1) (hx : look fr1 x = some a) (hF : F a = some z) : eOp1 F f fr = .ok z fr1 := by
  unfold eOp1
  rw [hf, bind_ok, hx]
  dsimp only
  rw [hF]
  rfl
theorem set_ok {i : Nat} {f : Ev} {fr fr1 : Fr} {d : D} (hf : f fr = .ok d fr1) (hp : pers d = true) : sSet i f fr = .ok .nx (fr1.set i (some d)) := by
  unfold sSet
  rw [hf, bind_ok, if_pos hp]
theorem mul_c (i j : Int) (h : -(2 ^ 64) < j ∧ j < 2 ^ 64) : mulF (.int i) (.int j) = some (.int (i * j)) := by unfold mulF; dsimp only; rw [if_pos (.inr h)]
theorem mod_c (i j : Int) (h : 0 < j) : modF (.int i) (.int j) = some (.int (i % j)) := by unfold modF; dsimp only; rw [if_pos h]
end KS
namespace KS
open PySem
theorem comp_go {vs : List Nat} {t : Tv} {c : Bv} {e : Ev} {W fr0 : Fr} {T : D → Fr} {p : D → Bool} {f : D → D} (hw : ∀ d, wipeF (T d) vs = W) (hr : ∀ d, restF fr0 (T d) vs = fr0) :
    ∀ (ds : List D) (fr : Fr), wipeF fr vs = W → restF fr0 fr vs = fr0 → (∀ d ∈ ds, t d W = some (T d)) → (∀ d ∈ ds, c (T d) = .ok (p d) (T d)) → (∀ d ∈ ds, p d = true → e (T d) = .ok (f d) (T d) ∧ pers (f d) = true) →
      ∃ fr', compL vs t c e ds fr = .ok ((ds.filter p).map f) fr' ∧ restF fr0 fr' vs = fr0
  | [], fr, _, h2, _, _, _ => ⟨fr, rfl, h2⟩
  | d :: ds, fr, h1, h2, ht, hc, he => by
    have a := List.mem_cons_self (a := d) (l := ds)
    obtain ⟨fr', e1, e2⟩ := comp_go hw hr ds (T d) (hw d) (hr d) (fun x hx => ht x (List.mem_cons_of_mem _ hx)) (fun x hx => hc x (List.mem_cons_of_mem _ hx)) (fun x hx => he x (List.mem_cons_of_mem _ hx))
    refine ⟨fr', ?_, e2⟩
    unfold compL
    rw [h1, ht d a]
    dsimp only
    rw [hc d a, bind_ok]
    cases hp : p d with
    | false =>
      rw [if_neg Bool.false_ne_true, e1, List.filter_cons_of_neg (by rw [hp]; exact Bool.false_ne_true)]
    | true =>
      obtain ⟨g1, g2⟩ := he d a hp
      rw [if_pos rfl, g1, bind_ok, if_pos g2, e1, bind_ok, List.filter_cons_of_pos hp, List.map_cons]
theorem comp_ok {vs : List Nat} {h : Iv} {t : Tv} {c : Bv} {e : Ev} {fr0 fr : Fr} {ds : List D} (W : Fr) (T : D → Fr) (p : D → Bool) (f : D → D) (hh : h fr0 = .ok ds fr) (hl : ds.length ≤ 16777216) (hW : wipeF fr vs = W) (ht : ∀ d ∈ ds, t d W = some (T d)) (hc : ∀ d ∈ ds, c (T d) = .ok (p d) (T d))
    (he : ∀ d ∈ ds, p d = true → e (T d) = .ok (f d) (T d) ∧ pers (f d) = true) (hw : ∀ d, wipeF (T d) vs = W) (hr0 : restF fr fr vs = fr) (hr : ∀ d, restF fr (T d) vs = fr) : eComp vs h t c e fr0 = .ok (.lst ((ds.filter p).map f)) fr := by
  obtain ⟨fr', e1, e2⟩ := comp_go hw hr ds fr hW hr0 ht hc he
  unfold eComp
  rw [hh, bind_ok, if_pos (show ds.length ≤ sizeLine from hl), e1]
  dsimp only
  rw [e2]
theorem val_lst {f : Ev} {fr fr1 : Fr} {ds : List D} (h : f fr = .ok (.lst ds) fr1) : iVal f fr = .ok ds fr1 := by unfold iVal; rw [h]; rfl
theorem val_tup {f : Ev} {fr fr1 : Fr} {ds : List D} (h : f fr = .ok (.tup ds) fr1) : iVal f fr = .ok ds fr1 := by unfold iVal; rw [h]; rfl
theorem val_str {f : Ev} {fr fr1 : Fr} {z : Str} (h : f fr = .ok (.str z) fr1) : iVal f fr = .ok (chars z) fr1 := by unfold iVal; rw [h]; rfl
theorem m1_ok {F : D → D → Option D} {f g : Ev} {fr fr1 fr2 : Fr} {z : Str} {y b w : D} (hf : f fr = .ok (.str z) fr1) (hg : g fr1 = .ok y fr2) (hy : look fr2 y = some b) (hF : F (.str z) b = some w) : eM1 F f g fr = .ok w fr2 := by
  unfold eM1
  rw [hf, bind_ok]
  dsimp only
  rw [hg, bind_ok, hy]
  dsimp only
  rw [hF]
  rfl
theorem setF_ok {i : Nat} {f : Ev} {fr fr1 : Fr} {d : D} (hf : f fr = .ok d fr1) : sSetF i f fr = .ok .nx (fr1.set i (some d)) := by
  unfold sSetF
  rw [hf, bind_ok]
theorem ret_ok {f : Ev} {fr fr1 : Fr} {d : D} (hf : f fr = .ok d fr1) (hp : pers d = true) : sRet f fr = .ok (.ret d) fr1 := by
  unfold sRet
  rw [hf, bind_ok, if_pos hp]
theorem ret_seq {g h : Sv} {fr fr1 : Fr} {d : D} (e : g fr = .ok (.ret d) fr1) : sSeq g h fr = .ok (.ret d) fr1 := by
  unfold sSeq
  rw [e, bind_ok]
theorem seq_nx {g h : Sv} {fr fr1 : Fr} (e : g fr = .ok .nx fr1) : sSeq g h fr = h fr1 := by
  unfold sSeq
  rw [e, bind_ok]
theorem run_ok {k n : Nat} {g : Sv} {ds : List D} {d : D} {fr : Fr} (e : g (startF n ds) = .ok (.ret d) fr) : runFn k n g ds = .ok d (outsOf k fr) := by
  unfold runFn
  rw [e]
/-- a call that changes nothing that its caller owns -/
theorem call_val {F : Fn} {g : Av} {fr fr1 : Fr} {ds : List D} {d : D} {outs : List D} {ms : List Bool} (hg : g fr = .ok ds fr1) (hm : argC fr1 ms ds = some ds) (hi : ioV ms ds = []) (hF : F ds = .ok d outs) (ho : outs.length = ms.length) (hp : ioP ms ds outs = []) : eCall ms F g fr = .ok d fr1 := by
  unfold eCall
  rw [hg, bind_ok, hm]
  dsimp only
  rw [hi, if_pos List.nodup_nil, hF]
  dsimp only
  rw [if_pos ho, hp]
  rfl
theorem outs_len {k : Nat} {fr : Fr} : (outsOf k fr).length = k := by simp [outsOf]
end KS
namespace KS
open PySem
theorem app_ok {i : Nat} {e : Ev} {fr fr1 : Fr} {d : D} {ds0 ds : List D} (h0 : fr[i]? = some (some (.lst ds0))) (he : e fr = .ok d fr1) (hp : pers d = true) (h1 : fr1[i]? = some (some (.lst ds))) (hl : ds.length < 16777216) :
    sX (eMut i isLstD true appM (aCons e aNil)) fr = .ok .nx (fr1.set i (some (.lst (ds ++ [d])))) := by
  have hlk : look fr1 d = some d := by cases d <;> first | rfl | cases hp
  have hM : eMut i isLstD true appM (aCons e aNil) fr = .ok .non (fr1.set i (some (.lst (ds ++ [d])))) := by
    unfold eMut
    rw [h0]
    dsimp only
    rw [if_pos (show isLstD (.lst ds0) = true from rfl)]
    have ha : aCons e aNil fr = .ok [d] fr1 := by
      unfold aCons
      rw [he, bind_ok]
      rfl
    rw [ha, bind_ok, h1]
    dsimp only
    rw [if_pos (show isCell (.lst ds) = true from rfl), if_pos (fun _ => by simp [hp])]
    have hpk : pick fr1 [d] = some [d] := by
      unfold pick pick
      rw [hlk]
    rw [hpk]
    dsimp only
    have hA : appM (.lst ds) [d] = some (.non, .lst (ds ++ [d])) := by
      unfold appM
      dsimp only
      rw [if_pos (show ds.length < sizeLine from hl)]
    rw [hA]
  unfold sX
  rw [hM, bind_ok]
end KS
/-! KS22: while -/
namespace KS
open PySem PySem.Spec L2
def whileF (t : Bv) (g : Sv) : Nat → Sv
  | 0 => fun _ => .bad
  | n + 1 => fun fr => (t fr).bind fun b fr1 => if b = true then ((g fr1).bind fun fl fr2 => match fl with
    | .nx => whileF t g n fr2
    | .cnt => whileF t g n fr2
    | .brk => .ok .nx fr2
    | .ret d => .ok (.ret d) fr2) else .ok .nx fr1
def sWhile (t : Bv) (g : Sv) : Sv := whileF t g 1000000000
section
variable {X : Cx} {B : Bd} {W : WX} {rf : Bool} {body : List Stmt} {c : Expr} {t : Bv} {g : Sv} {pos : Pos}
theorem s_while (hp : PassesOwn (model X.prog X.w) X.A X.env X.xe) (ht : DT X B W c t) (hb : DSs X B W rf body g) : DS X B W rf (.While c body [] pos) (sWhile t g) := by
  refine ps_imp (ps_while hp ht hb) fun D σ H hh => ?_
  obtain ⟨fr, Hv, R, hh⟩ := hh
  refine ⟨fun m σ' H' => ∃ fr' Hv', Rel B fr' σ' H' Hv' ∧ PostS B W rf Hv' (whileF t g m fr') D, ⟨_, fr, Hv, R, hh⟩, fun m σ' H' p => ?_⟩
  obtain ⟨fr', Hv', R', P⟩ := p
  refine ⟨fr', Hv', R', ?_⟩
  cases m with
  | zero => exact P.elim
  | succ m =>
    unfold whileF at P
    cases htf : t fr' with
    | bad => rw [htf] at P; exact P.elim
    | exc k fs fr1 =>
      rw [htf] at P
      exact fun dd H2 Hv2 n => P dd σ' H2 Hv2 n.rel n.ext
    | ok b fr1 =>
      rw [htf] at P
      dsimp only [Res.bind] at P
      intro H2 Hv2 n
      cases b with
      | false =>
        rw [if_neg Bool.false_ne_true] at P ⊢
        exact P σ' H2 Hv2 n.rel n.ext
      | true =>
        rw [if_pos rfl] at P ⊢
        refine ⟨fun σ3 H3 => ∃ fr3 Hv3, Rel B fr3 σ3 H3 Hv3 ∧ PostS B W rf Hv3 (whileF t g m fr3) D, fun σ3 H3 h3 => ⟨m, Nat.lt_succ_self m, h3⟩, fr1, Hv2, n.rel, ?_⟩
        cases hg : g fr1 with
        | bad => rw [hg] at P; exact P.elim
        | exc k fs fr3 =>
          rw [hg] at P
          exact fun dd σ3 H3 Hv3 a e => P dd σ3 H3 Hv3 a (n.ext.trans e)
        | ok fl fr3 =>
          rw [hg] at P
          dsimp only at P
          cases fl with
          | nx => exact fun σ3 H3 Hv3 a e => ⟨fr3, Hv3, a, PostS.step (n.ext.trans e) P⟩
          | cnt => exact fun σ3 H3 Hv3 a e => ⟨fr3, Hv3, a, PostS.step (n.ext.trans e) P⟩
          | brk => exact fun σ3 H3 Hv3 a e => P σ3 H3 Hv3 a (n.ext.trans e)
          | ret d => exact P
end
/-- a while by a measure below the fuel -/
theorem while_ends {t : Bv} {g : Sv} {I : Nat → Fr → Prop} {R : Fl → Fr → Prop} (h : ∀ m fr, I m fr → ∃ b fr1, t fr = .ok b fr1 ∧ (if b = true then Ends (g fr1) (Turned (fun fr2 => ∃ k, k < m ∧ I k fr2) R) else R .nx fr1)) : ∀ n m fr, I m fr → m < n → Ends (whileF t g n fr) R
  | 0, _, _, _, l => absurd l (Nat.not_lt_zero _)
  | n + 1, m, fr, i, l => by
    obtain ⟨b, fr1, e, k⟩ := h m fr i
    unfold whileF
    rw [e, bind_ok]
    cases b with
    | false =>
      rw [if_neg Bool.false_ne_true] at k ⊢
      exact ends_ok.mpr k
    | true =>
      rw [if_pos rfl] at k ⊢
      obtain ⟨fl, fr2, e2, p⟩ := k
      rw [e2, bind_ok]
      cases fl with
      | nx =>
        obtain ⟨q, hq, iq⟩ := p
        exact while_ends h n q fr2 iq (by omega)
      | cnt =>
        obtain ⟨q, hq, iq⟩ := p
        exact while_ends h n q fr2 iq (by omega)
      | brk => exact ends_ok.mpr p
      | ret d => exact ends_ok.mpr p
end KS
/-! KS23: sorted of lists of ints and of lists of tuples of ints -/
namespace KS
open PySem PySem.Spec PyProof.Rows L2
open PySem.W (EachIs AllAlike Sortable dataLe alike alikeAll)
def encR (r : List Int) : PyData := .tuple (r.map .int)
def leR (p q : List Int) : Bool := decide (p ≤ q)
theorem enc_depth (r : List Int) : (encR r).depth ≤ 8 := by
  unfold encR
  rw [PyData.depth]
  suffices h : PyData.depthAll (r.map .int) ≤ 4 by omega
  induction r with
  | nil => simp [PyData.depthAll]
  | cons x r ih =>
    rw [List.map_cons, PyData.depthAll]
    have : (PyData.int x).depth ≤ 4 := by simp [PyData.depth]
    omega
theorem dataLe_rowsT : dataLe false encR = leR := by
  funext p q
  show (!PySem.W.dataLt (.tuple (q.map .int)) (.tuple (p.map .int))) = _
  rw [PySem.W.dataLt_tuple]
  show (!PySem.W.rowLt (q.map .int) (p.map .int)) = _
  rw [PySem.W.dataLt_ints]
  unfold leR
  by_cases h : q < p
  · have h' : ¬ p ≤ q := fun r => List.not_lt.mpr r h
    simp [h, h']
  · have h' : p ≤ q := List.not_lt.mp h
    simp [h, h']
def rSortR (K : PySem.W.Frag) : List V → Hp → VK → Prop := fun vs H Q => ∃ (a : Addr) (xs : List V) (rs : List (List Int)) (P : Addr → List Int → Prop), vs = [.ref a] ∧ SqL K H a xs ∧ xs.length = rs.length ∧ (∀ r ∈ rs, r ≠ []) ∧
  (∀ (i : Nat) (x : V) (r : List Int), xs[i]? = some x → rs[i]? = some r → ∃ q, x = .ref q ∧ SqT K H q (r.map V.int) ∧ P q r) ∧
  ∀ (qs : List Addr) (p : Addr), H p = none → qs.length = rs.length → (∀ (i : Nat) (q : Addr) (r : List Int), qs[i]? = some q → (rs.mergeSort leR)[i]? = some r → P q r) → Q (.ref p) (upd H p (.lst (qs.map V.ref)))
theorem reads_ints {h : Heap} : ∀ {r : List Int} {u : List Value}, Vals (r.map V.int) u → ReadsAll h u (r.map .int) []
  | [], _, .nil => .nil
  | x :: r, _, .cons h1 t => by
    obtain ⟨t1, rfl⟩ := h1
    have k := reads_ints (h := h) t
    exact .cons (as := []) (bs := []) (.int _ _) k
theorem cr_sortR {X : Cx} (hu : X.A.units + 16 < cLine) : CallR X (.builtin "sorted") (rSortR X.K) := by
  intro pins s σ H vs us Q I r h
  obtain ⟨a, xs, rs, P, rfl, hs, hl, hne, hx, q⟩ := h
  obtain ⟨its, rv, hli, hz⟩ := I.list hs
  rw [Vals.ref1 r]
  have hal : its.length = rs.length := by rw [← rv.length]; exact hl
  have key : ∀ (i : Nat) (v : Value) (r : List Int), its[i]? = some v → rs[i]? = some r → ∃ qa : Addr, v = .ref qa ∧ SqT X.K H qa (r.map V.int) ∧ P qa r := by
    intro i v r e1 e2
    have hi : i < xs.length := by
      have := (List.getElem?_eq_some_iff.mp e2).1
      omega
    obtain ⟨u, h1, h2⟩ := rv.get (List.getElem?_eq_getElem hi)
    rw [e1] at h1
    cases h1
    obtain ⟨qa, h3, h4, h5⟩ := hx i _ r (List.getElem?_eq_getElem hi) e2
    rw [h3] at h2
    cases h2
    exact ⟨qa, rfl, h4, h5⟩
  have hR : EachIs (fun (v : Value) (r : List Int) => ∃ qa : Addr, v = .ref qa ∧ P qa r) its rs := eachIs_get hal fun i v r e1 e2 => by
    obtain ⟨qa, h1, _, h2⟩ := key i v r e1 e2
    exact ⟨qa, h1, h2⟩
  have hrd : EachIs (fun (v : Value) (r : List Int) => ∃ as, Reads s.heap v (encR r) as) its rs := eachIs_get hal fun i v r e1 e2 => by
    obtain ⟨qa, rfl, h1, _⟩ := key i v r e1 e2
    obtain ⟨its2, rv2, ⟨o, ho, hc, n, hd⟩, _⟩ := I.tuple h1
    exact ⟨[], .tuple ho hc hd (by simpa using reads_ints rv2)⟩
  have hal2 : AllAlike (rs.map encR) := AllAlike.of fun b b' => by
    unfold encR
    simp only [alike]
    exact PySem.W.alike_ints _ _
  have hsr : Sortable (rs.map encR) := .inl fun d hd => by
    obtain ⟨b, hb, rfl⟩ := List.mem_map.mp hd
    cases b with
    | nil => exact absurd rfl (hne _ hb)
    | cons x r => exact ⟨.int x, r.map .int, rfl⟩
  refine PySem.W.sorted_data hli.isList hR hrd hal2 hsr (by rw [← hl]; exact hz) (fun b _ => ?_) fun out g1 g2 => ?_
  · have := enc_depth b
    show X.A.units + 2 + (encR b).depth < cLine
    omega
  rw [dataLe_rowsT] at g2
  obtain ⟨qs, rfl⟩ : ∃ qs : List Addr, out = qs.map Value.ref := by
    clear g1
    generalize rs.mergeSort leR = m at g2
    induction g2 with
    | nil => exact ⟨[], rfl⟩
    | cons h t ih =>
      obtain ⟨qa, rfl, _⟩ := h
      obtain ⟨qs, rfl⟩ := ih
      exact ⟨qa :: qs, rfl⟩
  obtain ⟨ep, he'⟩ := PyProof.Rows.sortedAll_at s.heap its (qs.map Value.ref).toArray
  have hlen : (qs.map V.ref).length ≤ sizeLine := by
    rw [List.length_map] at g1 ⊢
    omega
  have rv' : Vals (qs.map V.ref) (qs.map Value.ref) := by
    clear he' g1 g2 hlen
    induction qs with
    | nil => exact .nil
    | cons q qs ih => exact .cons rfl ih
  refine ⟨.ref _, upd H (s.heap.objs.size + 1) (.lst (qs.map V.ref)), I.laid (t' := s.toks) (fun _ _ => PyProof.Rows.sortedAll_old) (Nat.le_succ _) ⟨hlen, qs.map Value.ref, ep, rv', he'⟩, rfl, q qs _ (I.hok.fresh (Nat.le_succ _)) (by simpa using g1) fun i qa r e1 e2 => ?_⟩
  obtain ⟨q', e3, e4⟩ := get_eachIs g2 i (.ref qa) r (by rw [List.getElem?_map, e1]; rfl) e2
  cases e3
  exact e4
end KS
/-! KS24: sorted of a tuple of tuples of ints; sorted in the layer -/
namespace KS
open PySem PySem.Spec PyProof.Rows L2
open PySem.W (EachIs AllAlike Sortable list_sort_data dataLe alike alikeAll)
section
variable {prog : Program} {w : World} {A : Around} {s : Shared} {E : Value → Shared → Prop}
theorem collect_tup {l : Addr} {us : List Value} {R : List Value → Shared → Prop} (hl : IsTup s.heap l us.toArray)
    (k : R us { s with heap := (s.heap.push (seqObj "list" #[] 0)).update s.heap.objs.size (Obj.mapSeq (· ++ us.toArray)) }) (hz : us.length ≤ sizeLine) : wpAny (model prog w) A (collect (.ref l)) R E s := by
  obtain ⟨o, ho, hc, n, hd⟩ := id hl
  unfold collect
  refine wpAny_bind (wpAny_runValue (codeAny_builtin entry_proto_collect' ?_)); show wpAny _ _ (do again (.builtin "list.__iadd__" ⟨[← newList [], .ref l], []⟩)) _ _ s
  refine wpAny_bind (wpAny_newList (wpAny_pure ⟨Code.quiet_builtin _ (by decide +kernel), codeAny_builtin entry_list_iadd' ?_⟩)); show wpAny _ _ (Builtin.List.listExtendWith (.ref s.heap.objs.size) (.ref l) (.ref s.heap.objs.size)) _ _ { s with heap := s.heap.push (seqObj "list" #[] 0) }
  unfold Builtin.List.listExtendWith
  have ho1 : (s.heap.push (seqObj "list" #[] 0)).get? l = some o := Heap.get?_push_of_some _ ho
  refine wpAny_bind (wpAny_typeOf (T := "tuple") ⟨o, ho1, hc⟩ ?_)
  rw [if_pos (by simp)]
  refine wpAny_bind (listItems_at ho1 hd (wpAny_bind (listItems_at (n := 0) (xs := #[]) (Heap.get?_push_size _ rfl) rfl ?_)))
  rw [if_neg (by simp)]
  refine wpAny_bind (listUpdate_at (n := 0) (xs := #[]) (Heap.get?_push_size _ rfl) rfl (wpAny_pure ?_) (Nat.zero_le _) (by show (#[] ++ us.toArray).size ≤ sizeLine + 1; rw [Array.size_append, List.size_toArray]; show 0 + us.length ≤ _; omega))
  refine wpAny_bind (wpAny_load (get?_update_seq (Heap.get?_push_size _ rfl) _) ?_)
  have e : ((#[] : Array Value) ++ us.toArray).toList = us := by simp
  show wpAny _ _ (pure ((#[] : Array Value) ++ us.toArray).toList) R E _
  rw [e]
  exact wpAny_pure k
end
def rSortT' (K : PySem.W.Frag) : List V → Hp → VK → Prop := fun vs H Q => ∃ (a : Addr) (xs : List V) (rs : List (List Int)) (P : Addr → List Int → Prop), vs = [.ref a] ∧ SqT K H a xs ∧ xs.length = rs.length ∧ (∀ r ∈ rs, r ≠ []) ∧
  (∀ (i : Nat) (x : V) (r : List Int), xs[i]? = some x → rs[i]? = some r → ∃ q, x = .ref q ∧ SqT K H q (r.map V.int) ∧ P q r) ∧
  ∀ (qs : List Addr) (p : Addr), H p = none → qs.length = rs.length → (∀ (i : Nat) (q : Addr) (r : List Int), qs[i]? = some q → (rs.mergeSort leR)[i]? = some r → P q r) → Q (.ref p) (upd H p (.lst (qs.map V.ref)))
theorem cr_sortRT {X : Cx} (hu : X.A.units + 16 < cLine) : CallR X (.builtin "sorted") (rSortT' X.K) := by
  intro pins s σ H vs us Q I r h
  obtain ⟨a, xs, rs, P, rfl, hs, hl, hne, hx, q⟩ := h
  obtain ⟨its, rv, hli, hz⟩ := I.tuple hs
  rw [Vals.ref1 r]
  have hal : its.length = rs.length := by rw [← rv.length]; exact hl
  have key : ∀ (i : Nat) (v : Value) (r : List Int), its[i]? = some v → rs[i]? = some r → ∃ qa : Addr, v = .ref qa ∧ SqT X.K H qa (r.map V.int) ∧ P qa r := by
    intro i v r e1 e2
    have hi : i < xs.length := by
      have := (List.getElem?_eq_some_iff.mp e2).1
      omega
    obtain ⟨u, h1, h2⟩ := rv.get (List.getElem?_eq_getElem hi)
    rw [e1] at h1
    cases h1
    obtain ⟨qa, h3, h4, h5⟩ := hx i _ r (List.getElem?_eq_getElem hi) e2
    rw [h3] at h2
    cases h2
    exact ⟨qa, rfl, h4, h5⟩
  have hzi : its.length ≤ sizeLine := by rw [← rv.length]; exact hz
  refine Calls.call_function_entry PyProof.Rows.kind_sorted PyProof.Rows.plain_sorted PyProof.Rows.entry_sorted (PyProof.Rows.args_sorted1 _) ?_
  unfold Builtin.«sorted»
  refine wpAny_bind (m := checkCount "sorted" 1 1 _) (wpAny_pure ?_)
  refine wpAny_bind (collect_tup hli ?_ hzi)
  have hk : ∀ b o, s.heap.get? b = some o → ((s.heap.push (seqObj "list" #[] 0)).update s.heap.objs.size (Obj.mapSeq (· ++ its.toArray))).get? b = some o := fun b o e => by
    rw [Heap.get?_update_ne _ _ _ _ (Nat.ne_of_lt (Heap.lt_size e))]
    exact Heap.get?_push_of_some _ e
  generalize (s.heap.push (seqObj "list" #[] 0)).update s.heap.objs.size (Obj.mapSeq (· ++ its.toArray)) = h' at hk
  have I1 : Inv X pins σ H { s with heap := h' } := I.kept (t' := s.toks) hk
  refine wpAny_bind (wpAny_newList ?_ hzi)
  have hoL : (h'.push (seqObj "list" its.toArray 0)).get? h'.objs.size = some (seqObj "list" its.toArray 0) := Heap.get?_push_size _ rfl
  show wpAny _ _ _ _ _ { s with heap := h'.push (seqObj "list" its.toArray 0) }
  have hR : EachIs (fun (v : Value) (r : List Int) => ∃ qa : Addr, v = .ref qa ∧ P qa r) its rs := eachIs_get hal fun i v r e1 e2 => by
    obtain ⟨qa, h1, _, h2⟩ := key i v r e1 e2
    exact ⟨qa, h1, h2⟩
  have hrd : EachIs (fun (v : Value) (r : List Int) => ∃ as, Reads (h'.push (seqObj "list" its.toArray 0)) v (encR r) as ∧ h'.objs.size ∉ as) its rs := eachIs_get hal fun i v r e1 e2 => by
    obtain ⟨qa, rfl, h1, _⟩ := key i v r e1 e2
    obtain ⟨its2, rv2, ⟨o, ho, hc, n, hd⟩, _⟩ := I1.tuple h1
    exact ⟨[], .tuple (Heap.get?_push_of_some _ ho) hc hd (by simpa using reads_ints rv2), by simp⟩
  have hal2 : AllAlike (rs.map encR) := AllAlike.of fun b b' => by
    unfold encR
    simp only [alike]
    exact PySem.W.alike_ints _ _
  have hsr : Sortable (rs.map encR) := .inl fun d hd => by
    obtain ⟨b, hb, rfl⟩ := List.mem_map.mp hd
    cases b with
    | nil => exact absurd rfl (hne _ hb)
    | cons x r => exact ⟨.int x, r.map .int, rfl⟩
  refine wpAny_bind (wpAny_holding (list_sort_data (s := { s with heap := h'.push (seqObj "list" its.toArray 0) }) hoL hR hrd hal2 hsr (by omega) (fun b _ => ?_) fun out g1 g2 => ?_))
  · have e1 := enc_depth b
    have e2 : X.A.in1.units = X.A.units + 1 := rfl
    show X.A.in1.units + 1 + (encR b).depth < cLine
    omega
  obtain ⟨e', he'⟩ := PyProof.Rows.sortedHeap_at (vs := its) (out := out.toArray) hoL
  rw [dataLe_rowsT] at g2
  obtain ⟨qs, rfl⟩ : ∃ qs : List Addr, out = qs.map Value.ref := by
    clear he' g1
    generalize rs.mergeSort leR = m at g2
    induction g2 with
    | nil => exact ⟨[], rfl⟩
    | cons h t ih =>
      obtain ⟨qa, rfl, _⟩ := h
      obtain ⟨qs, rfl⟩ := ih
      exact ⟨qa :: qs, rfl⟩
  have hlen : (qs.map V.ref).length ≤ sizeLine := by
    rw [List.length_map] at g1 ⊢
    omega
  have rv' : Vals (qs.map V.ref) (qs.map Value.ref) := by
    clear he' g1 g2 hlen
    induction qs with
    | nil => exact .nil
    | cons q qs ih => exact .cons rfl ih
  refine wpAny_pure ⟨_, rfl, .ref h'.objs.size, upd H h'.objs.size (.lst (qs.map V.ref)), I1.laid (t' := s.toks) (fun b u e => ?_) (Nat.le_refl _)
    (show ObjOk X.prog X.w _ _ _ (.lst (qs.map V.ref)) from ⟨hlen, qs.map Value.ref, e', rv', he'⟩), rfl, q qs _ (I1.hok.fresh (Nat.le_refl _)) (by simpa using g1) fun i qa r e1 e2 => ?_⟩
  · have hb : b < h'.objs.size := Heap.lt_size e
    rw [PyProof.Rows.sortedHeap_old (Nat.ne_of_lt hb) (by rw [size_push']; exact Nat.lt_succ_of_lt hb)]
    exact Heap.get?_push_of_some _ e
  · obtain ⟨q', e3, e4⟩ := get_eachIs g2 i (.ref qa) r (by rw [List.getElem?_map, e1]; rfl) e2
    cases e3
    exact e4
end KS
/-! KS25: sorted(xs) in the layer -/
namespace KS
open PySem PySem.Spec L2
def rowsOf : List D → Option (List (List Int))
  | [] => some []
  | .tup es :: ds => match intsOf es, rowsOf ds with
    | some r, some rs => some (r :: rs)
    | _, _ => none
  | _ => none
def dRow (r : List Int) : D := .tup (r.map D.int)
def leI (i j : Int) : Bool := decide (i ≤ j)
def sortRs (ds : List D) : Option D := match rowsOf ds with
  | some rs => if rs.all (fun r => !r.isEmpty) = true then some (.lst ((rs.mergeSort leR).map dRow)) else none
  | none => none
def sortF : D → Option D
  | .lst ds => match intsOf ds with
    | some ns => some (.lst ((ns.mergeSort leI).map D.int))
    | none => sortRs ds
  | .tup ds => sortRs ds
  | _ => none
theorem ints_inv : ∀ {ds : List D} {ns : List Int}, intsOf ds = some ns → ds = ns.map D.int
  | [], ns, h => by cases h; rfl
  | d :: ds, ns, h => by
    cases d with
    | int i =>
      simp only [intsOf, Option.map_eq_some_iff] at h
      obtain ⟨r, h1, rfl⟩ := h
      rw [ints_inv h1]
      rfl
    | _ => simp [intsOf] at h
theorem ints_map : ∀ ns : List Int, intsOf (ns.map D.int) = some ns
  | [] => rfl
  | n :: ns => by rw [List.map_cons, intsOf, ints_map ns]; rfl
theorem rows_inv : ∀ {ds : List D} {rs : List (List Int)}, rowsOf ds = some rs → ds = rs.map dRow
  | [], rs, h => by cases h; rfl
  | d :: ds, rs, h => by
    cases d with
    | tup es =>
      unfold rowsOf at h
      split at h
      · next r rs' h1 h2 =>
        cases h
        rw [rows_inv h2, ints_inv h1]
        rfl
      · cases h
    | _ => simp [rowsOf] at h
theorem rows_map : ∀ rs : List (List Int), rowsOf (rs.map dRow) = some rs
  | [] => rfl
  | r :: rs => by
    rw [List.map_cons]
    unfold dRow rowsOf
    rw [ints_map]
    have := rows_map rs
    unfold dRow at this
    rw [this]
theorem repL_ints {G : SE} {Hv : Hp} : ∀ ns : List Int, RepL G Hv (ns.map D.int) (ns.map V.int)
  | [] => .nil
  | n :: ns => .cons (Rep.int_iff.mpr rfl) (repL_ints ns)
theorem repL_rows {G : SE} {Hv : Hp} : ∀ {rs : List (List Int)} {qs : List Addr}, qs.length = rs.length → (∀ (i : Nat) (q : Addr) (r : List Int), qs[i]? = some q → rs[i]? = some r → Rep G Hv (dRow r) (.ref q)) → RepL G Hv (rs.map dRow) (qs.map V.ref)
  | [], [], _, _ => .nil
  | r :: rs, q :: qs, hl, h => .cons (h 0 q r rfl rfl) (repL_rows (by simpa using hl) fun i q r e1 e2 => h (i + 1) q r (by simpa using e1) (by simpa using e2))
  | [], _ :: _, hl, _ => by simp at hl
  | _ :: _, [], hl, _ => by simp at hl
theorem sort_ints {ns ns' : List Int} (hp : ns'.Perm ns) (hw : ns'.Pairwise (· ≤ ·)) : ns' = ns.mergeSort leI := by
  have h1 : (ns.mergeSort leI).Pairwise fun a b => leI a b = true := List.pairwise_mergeSort (fun a b c h1 h2 => by
    unfold leI at *
    simp only [decide_eq_true_eq] at *
    omega) (fun a b => by
    unfold leI
    simp only [Bool.or_eq_true, decide_eq_true_eq]
    omega) ns
  refine List.Perm.eq_of_pairwise (le := fun a b : Int => a ≤ b) (fun a b _ _ h1 h2 => Int.le_antisymm h1 h2) hw (h1.imp fun {a b} h => by unfold leI at h; exact of_decide_eq_true h) (hp.trans (List.mergeSort_perm ns leI).symm)
def rSortA (K : PySem.W.Frag) : List V → Hp → VK → Prop := fun vs H Q => rSortedI K vs H Q ∨ rSortR K vs H Q ∨ rSortT' K vs H Q
theorem cr_sortA {X : Cx} (hu : X.A.units + 16 < cLine) : CallR X (.builtin "sorted") (rSortA X.K) := by
  intro pins s σ H vs us Q I r h
  rcases h with h | h | h
  · exact cr_sortedI pins s σ H vs us Q I r h
  · exact cr_sortR hu pins s σ H vs us Q I r h
  · exact cr_sortRT hu pins s σ H vs us Q I r h
section
variable {X : Cx} {B : Bd}
theorem rows_el {fr : Fr} {σ : L2.St} {H Hv : Hp} (R : Rel B fr σ H Hv) {rs : List (List Int)} {vs : List V} (r : RepL B.G Hv (rs.map dRow) vs) (hK : X.K = B.G.K) (i : Nat) (x : V) (c : List Int) (e1 : vs[i]? = some x) (e2 : rs[i]? = some c) : ∃ q, x = .ref q ∧ SqT X.K H q (c.map V.int) ∧ Rep B.G Hv (dRow c) (.ref q) := by
  obtain ⟨d, h1, h2⟩ := r.getV e1
  rw [List.getElem?_map, e2] at h1
  have e : dRow c = d := Option.some.inj h1
  subst e
  obtain ⟨a, us, rfl, q, rl⟩ := Rep.tup_inv h2
  rw [ints_rep rl (ints_map c)] at q
  exact ⟨a, rfl, by rw [hK]; exact R.sub.sqt q, h2⟩
theorem caf_sort (hK : X.K = B.G.K) : CaF1 B (rSortA X.K) sortF := by
  intro fr σ H Hv x dx a z Q R rx hx hz k
  unfold sortF at hz
  split at hz
  · next ds =>
    obtain ⟨p, vs, rfl, q, r⟩ := R.list_of rx hx
    split at hz
    · next ns hn =>
      cases hz
      rw [ints_rep r hn] at q
      refine .inl ⟨p, ns, rfl, SqL.of q, fun ns' l hp hw hl => ?_⟩
      rw [sort_ints hp hw]
      exact lay_own R hl (repL_ints _) k
    · unfold sortRs at hz
      split at hz
      · next rs hrs =>
        split at hz
        · next hne =>
          cases hz
          rw [rows_inv hrs] at r
          refine .inr (.inl ⟨p, vs, rs, fun q c => Rep B.G Hv (dRow c) (.ref q), rfl, SqL.of q, by rw [r.length, List.length_map], fun c hc z => ?_, rows_el R r hK, fun qs l hl hlen hP => lay_own R hl (repL_rows (by rw [List.length_mergeSort]; exact hlen) hP) k⟩)
          have := List.all_eq_true.mp hne c hc
          rw [z] at this
          cases this
        · cases hz
      · cases hz
  · next ds =>
    obtain ⟨p, vs, rfl, q, _, r⟩ := R.tup_of rx hx
    unfold sortRs at hz
    split at hz
    · next rs hrs =>
      split at hz
      · next hne =>
        cases hz
        rw [rows_inv hrs] at r
        refine .inr (.inr ⟨p, vs, rs, fun q c => Rep B.G Hv (dRow c) (.ref q), rfl, by rw [hK]; exact q, by rw [r.length, List.length_map], fun c hc z => ?_, rows_el R r hK, fun qs l hl hlen hP => lay_own R hl (repL_rows (by rw [List.length_mergeSort]; exact hlen) hP) k⟩)
        have := List.all_eq_true.mp hne c hc
        rw [z] at this
        cases this
      · cases hz
    · cases hz
  · cases hz
end
end KS
/-! KS26: xs.remove(x), items of any data -/
namespace KS
open PySem PySem.Spec PyProof.Rows L2
open PySem.SeqAt (dataPlace remove_list_data)
def rRemD (K : PySem.W.Frag) : V → List V → Hp → VK → Prop := fun x xs H Q => ∃ (a : Addr) (y : V) (d : PyData) (ds : List PyData) (vs : List V) (j : Nat), x = .ref a ∧ xs = [y] ∧ H a = some (.lst vs) ∧ Dp K H (.ref a) (.list ds) ∧ Dp K H y d ∧
  PyData.plainAll ds = true ∧ d.plain = true ∧ d.depth ≤ 60 ∧ dataPlace ds d = some j ∧ Q .non (upd H a (.lst (vs.eraseIdx j)))
theorem mt_removeD {X : Cx} (hu : X.A.units + 65 < cLine) : MtR X "list.remove" (rRemD X.K) := by
  intro pins s σ H x xs v us Q I rx rxs h
  obtain ⟨a, y, d, ds, vs, j, rfl, rfl, hH, hl, hy, pl, pd, hdep, hp, q⟩ := h
  cases rx
  obtain ⟨u, rfl, ru⟩ := rxs.one
  obtain ⟨z, its, n, r, hle, e⟩ := I.lstM hH
  obtain ⟨bs, r1⟩ := Dp.reads I d y u hy ru
  cases hl with
  | lst hs ha =>
    have e2 := I.list_inj (SqL.of hH) hs
    subst e2
    obtain ⟨as, h4⟩ := Dp.readsAll I ds _ its ha r
    refine remove_list_data (vs := its.toArray) ⟨_, e, rfl, n, rfl⟩ (show ReadsAll s.heap its.toArray.toList ds as from h4) r1 pl pd (by have := Nat.min_le_right (PyData.depthAll ds) d.depth; omega) hp (by rw [List.size_toArray]; omega) ?_
    refine ⟨.non, _, I.lset (its' := its.eraseIdx j) (t' := s.toks) hH e ?_ (r.eraseIdx j) ?_, rfl, q⟩
    · show its.toArray.eraseIdxIfInBounds j = (its.eraseIdx j).toArray
      rw [List.eraseIdxIfInBounds_toArray]
    · have : (vs.eraseIdx j).length ≤ vs.length := List.length_eraseIdx_le vs j
      omega
def remM : Mu := fun c bs => match c, bs with
  | .lst ds, [b] => match pyOfL ds, pyOf b with
    | some ps, some p => if PyData.plainAll ps = true ∧ p.plain = true ∧ p.depth ≤ 60 then (match dataPlace ps p with
      | some j => some (.non, .lst (ds.eraseIdx j))
      | none => none) else none
    | _, _ => none
  | _, _ => none
theorem mus_remove {X : Cx} {B : Bd} (hK : X.K = B.G.K) : MuS B (rRemD X.K) true remM := by
  intro fr σ H Hv a c ys bs vs res c' Q R hc hva rws hb hp hF k
  obtain ⟨rl, rfl⟩ := hp rfl
  unfold remM at hF
  split at hF
  · next ds b =>
    split at hF
    · next ps p h1 h2 =>
      split at hF
      · next hz =>
        split at hF
        · next j hj =>
          cases hF
          obtain ⟨us, e, r⟩ := hc
          obtain ⟨v, t, rfl, g1, g2⟩ := rl.cons_inv
          rw [g2.nil_inv, hK]
          exact ⟨a, v, p, ps, us, j, rfl, rfl, e, .lst (SqL.of e) (dpL_of R.sub ds us ps r h1), dp_of R.sub _ _ _ g1 h2, hz.1, hz.2.1, hz.2.2, hj, k .non _ ⟨_, upd_same, r.eraseIdx j⟩ (Rep.non_iff.mpr rfl)⟩
        · cases hF
      · cases hF
    · cases hF
  · cases hF
end KS
/-! KS27: a comprehension over an owned list -/
namespace KS
open PySem PySem.Spec L2
def compLO (i0 n : Nat) (vs : List Nat) (t : Tv) (c : Bv) (e : Ev) : Nat → Fr → Res Fr (List D)
  | 0, fr => match fr[i0]? with
    | some (some (.lst cur)) => if cur.length = n then .ok [] fr else .bad
    | _ => .bad
  | m + 1, fr => match fr[i0]? with
    | some (some (.lst cur)) => if cur.length = n then (match cur[n - (m + 1)]? with
      | some d => (match t d (wipeF fr vs) with
        | none => .bad
        | some fr1 => (c fr1).bind fun b fr2 => if b = true then ((e fr2).bind fun y fr3 => if pers y = true then ((compLO i0 n vs t c e m fr3).bind fun r fr4 => .ok (y :: r) fr4) else .bad) else compLO i0 n vs t c e m fr2)
      | none => .bad) else .bad
    | _ => .bad
theorem compLO_slot {i0 n : Nat} {vs : List Nat} {t : Tv} {c : Bv} {e : Ev} {m : Nat} {fr fr' : Fr} {r : List D} (h : compLO i0 n vs t c e m fr = .ok r fr') : ∃ cur, fr[i0]? = some (some (D.lst cur)) ∧ cur.length = n := by
  cases m with
  | zero =>
    unfold compLO at h
    split at h
    · next cur e =>
      split at h
      · next hl => exact ⟨cur, e, hl⟩
      · cases h
    · cases h
  | succ m =>
    unfold compLO at h
    split at h
    · next cur e =>
      split at h
      · next hl => exact ⟨cur, e, hl⟩
      · cases h
    · cases h
theorem compLO_zero {i0 n : Nat} {vs : List Nat} {t : Tv} {c : Bv} {e : Ev} {fr fr' : Fr} {r : List D} (h : compLO i0 n vs t c e 0 fr = .ok r fr') : r = [] ∧ fr' = fr := by
  unfold compLO at h
  split at h
  · split at h
    · cases h; exact ⟨rfl, rfl⟩
    · cases h
  · cases h
theorem compLO_succ {i0 n : Nat} {vs : List Nat} {t : Tv} {c : Bv} {e : Ev} {m : Nat} {fr fr' : Fr} {r : List D} (h : compLO i0 n vs t c e (m + 1) fr = .ok r fr') : ∃ cur, fr[i0]? = some (some (D.lst cur)) ∧ cur.length = n ∧
    (match cur[n - (m + 1)]? with
      | some d => (match t d (wipeF fr vs) with
        | none => .bad
        | some fr1 => (c fr1).bind fun b fr2 => if b = true then ((e fr2).bind fun y fr3 => if pers y = true then ((compLO i0 n vs t c e m fr3).bind fun r fr4 => .ok (y :: r) fr4) else .bad) else compLO i0 n vs t c e m fr2)
      | none => .bad) = Res.ok r fr' := by
  unfold compLO at h
  split at h
  · next cur e =>
    split at h
    · next hl => exact ⟨cur, e, hl, h⟩
    · cases h
  · cases h
theorem walk_own {K : PySem.W.Frag} {a : Addr} {n : Nat} : Walk (Itl K a) n (fun H => ∃ xs, SqL K H a xs ∧ xs.length = n) (fun i H x H' => H' = H ∧ ∀ xs, SqL K H a xs → xs[i]? = some x) :=
  ⟨fun i H hi ⟨xs, h, e⟩ => ⟨xs, xs[i]'(by omega), h, List.getElem?_eq_getElem _⟩, fun H ⟨xs, h, e⟩ => ⟨xs, h, by omega⟩, fun i H x H' hi _ y => y⟩
section
variable {B : Bd} {vs is : List Nat} {σ : L2.St} {fr1 : Fr} {H1 Hv1 : Hp} {t : Tv} {c : Bv} {e : Ev}
theorem lcO_step {K : PySem.W.Frag} {i0 n0 : Nat} {a0 : Addr} {Q : VK} {r0 : List D} {fr20 : Fr} (hM : ∀ v ∈ vs, v ∉ B.M) (hi : ∀ j ∈ is, j ∈ vs) (ok : TgOk t is) (R1 : Rel B fr1 σ H1 Hv1) (hi0 : i0 ∈ B.M) (ha0 : σ[i0]? = some (some (V.ref a0))) (hsz : n0 ≤ sizeLine) (hc : compLO i0 n0 vs t c e n0 fr1 = .ok r0 fr20)
    (hQ : ∀ p H' Hv', Nxt B fr1 σ H1 Hv1 (restF fr1 fr20 vs) H' Hv' → H1 p = none → Hv' p = none → Cell B.G H' Hv' p (.lst r0) → Q (.ref p) H') :
    ∀ D0, H1 D0 = none → ∃ W : Nat → Nat → Hp → Prop, (∃ m, W 0 m (upd H1 D0 (.lst []))) ∧ ∀ i m H, W i m H →
      ((Itl K a0).stop i H ∧ Q (.ref D0) H) ∨ ((Itl K a0).go i H ∧ ∃ Nx : Hp → Prop, (∀ H', Nx H' → ∃ m', m' < m ∧ W (i + 1) m' H') ∧ ∀ x H', (Itl K a0).yld i H x H' → dTG B is t x (wipe σ vs) H' fun σ2 H2 => wipe σ2 vs = wipe σ vs ∧ dTT B (fun _ _ _ _ => False) c σ2 H2 fun b H3 =>
        if b = true then dTE B (fun _ _ _ _ => False) e σ2 H3 fun y H4 => ∃ acc, H4 D0 = some (.lst acc) ∧ acc.length < sizeLine ∧ Nx (upd H4 D0 (.lst (acc ++ [y]))) else Nx H3) := by
  intro D0 hD
  -- the list at a0, by the slot's content
  have at0 : ∀ {rem : Nat} {fr' : Fr} {H Hv' : Hp} {acc : List V} {ad : List D}, CInv B vs σ fr1 H1 Hv1 D0 rem fr' H Hv' acc ad → ∀ cur, fr'[i0]? = some (some (D.lst cur)) → ∃ xs, H a0 = some (.lst xs) ∧ RepL B.G Hv' cur xs := fun {rem fr' H Hv' acc ad} I cur e => by
    have nv : i0 ∉ vs := fun z => hM _ z hi0
    obtain ⟨a, h1, _, _, xs, h2, h3⟩ := I.rel.own i0 (.lst cur) ⟨by rw [wipeF_out nv]; exact e, rfl⟩ hi0
    rw [wipe_out nv, ha0] at h1
    cases h1
    exact ⟨xs, h2, h3⟩
  have hDt : D0 ∉ B.G.tabs := fun z => by
    obtain ⟨⟨ps, q, _⟩, _⟩ := R1.tab D0 z
    rw [hD] at q; cases q
  have hD0 := R1.h0_none hD
  refine lc_it (walk_own (K := K) (a := a0) (n := n0)) (fun i H => ∃ fr' Hv' acc ad r, CInv B vs σ fr1 H1 Hv1 D0 (n0 - i) fr' H Hv' acc ad ∧ compLO i0 n0 vs t c e (n0 - i) fr' = .ok r fr20 ∧ ad ++ r = r0) ?_ (fun i H _ ⟨fr', Hv', acc, ad, r, I, hcl, _⟩ => by
    obtain ⟨cur, e1, e2⟩ := compLO_slot hcl
    obtain ⟨xs, h1, h2⟩ := at0 I cur e1
    exact ⟨xs, SqL.of h1, by rw [h2.length, e2]⟩) (fun i x H H' hlt p y => ?_) (fun H p => ?_)
  · refine ⟨fr1, Hv1, [], [], r0, ⟨(R1.lay hD).wipes hM, .refl _, upd_same, .nil, R1.hv_none hD, fun j d hj hf hs => ?_, fun b o h _ _ => by rw [upd_ne (ne_of_none h hD)]; exact h, .refl _ _, fun b o h => ⟨o, by rw [upd_ne (ne_of_none h hD)]; exact h⟩, fun b o h => .inl h, by simpa using hsz⟩, hc, rfl⟩
    obtain ⟨⟨u, hu⟩, _⟩ := R1.own_some ⟨j, d, hj, hf, hs⟩
    rw [hD] at hu; cases hu
  · obtain ⟨fr', Hv', acc, ad, r, I, hcl, har⟩ := p
    have hni : n0 - i = (n0 - (i + 1)) + 1 := by omega
    rw [hni] at hcl
    obtain ⟨cur, ec, el, hcl⟩ := compLO_succ hcl
    have hii : n0 - (n0 - (i + 1) + 1) = i := by omega
    rw [hii] at hcl
    obtain ⟨xs, hxs, rxs⟩ := at0 I cur ec
    obtain ⟨eH, hyx⟩ := y
    have hx := hyx xs (SqL.of hxs)
    obtain ⟨d, hd, rd⟩ := rxs.getV hx
    rw [hd] at hcl
    dsimp only at hcl
    subst eH
    obtain ⟨Hv2, s2, R2, r2, at2, keep2, alive2, hv2, newv2⟩ : ∃ Hv2, Sub Hv' Hv2 ∧ Rel B (wipeF fr' vs) (wipe σ vs) H' Hv2 ∧ Rep B.G Hv2 d x ∧ H' D0 = some (.lst acc) ∧ (∀ b o, H' b = some o → H' b = some o) ∧ (∀ b o, H1 b = some o → ∃ o', H' b = some o') ∧ Hv2 D0 = none ∧ (∀ b o, Hv2 b = some o → Hv' b = some o ∨ H' b = none) := ⟨Hv', .refl _, I.rel, rd, I.at_, fun _ _ h => h, I.alive, I.hv, fun _ _ h => .inl h⟩
    cases ht : t d (wipeF fr' vs) with
    | none => rw [ht] at hcl; cases hcl
    | some fr2 =>
      rw [ht] at hcl
      dsimp only at hcl
      refine ⟨wipeF fr' vs, Hv2, d, fr2, R2, r2, ht, fun σ2 R3 hl ho => ?_⟩
      have hw := wipe_eq hl ho hi
      refine ⟨hw, fr2, Hv2, R3, ?_⟩
      -- owned slots of a later frame are those of fr'
      have back : ∀ {frx : Fr}, Shr B fr2 frx → ∀ j dd, j ∈ B.M → (frx[j]? = some (some dd) ∧ isCell dd = true) → (∃ d0, fr'[j]? = some (some d0) ∧ isCell d0 = true) ∧ σ2[j]? = σ[j]? := fun {frx} sh j dd hj hf => by
        have njv : j ∉ vs := fun z => hM j z hj
        have nji : j ∉ is := fun z => njv (hi j z)
        obtain ⟨d0, h0, h1⟩ := sh j dd hj hf
        rw [ok d _ _ ht j nji, wipeF_out njv] at h0
        exact ⟨⟨d0, h0, h1⟩, by rw [ho j nji, wipe_out njv]⟩
      have noD : ∀ {frx : Fr}, Shr B fr2 frx → ¬ Own B frx σ2 D0 := fun {frx} sh ⟨j, dd, hj, hf, hs⟩ => by
        obtain ⟨⟨d0, hd0⟩, e1⟩ := back sh j dd hj hf
        rw [e1] at hs
        exact I.no j d0 hj hd0 hs
      -- an address not owned at the start is not owned in a later frame
      have noB : ∀ {frx : Fr} {b : Addr}, Shr B fr2 frx → ¬ Own B fr1 σ b → ¬ Own B frx σ2 b := fun {frx b} sh no ⟨j, dd, hj, hf, hs⟩ => by
        obtain ⟨⟨d0, hd0⟩, e1⟩ := back sh j dd hj hf
        rw [e1] at hs
        obtain ⟨d1, hd1⟩ := I.shr j d0 hj hd0
        exact no ⟨j, d1, hj, hd1, hs⟩
      have shr' : ∀ {frx : Fr}, Shr B fr2 frx → Shr B fr1 frx := fun {frx} sh j dd hj hf => by
        obtain ⟨⟨d0, hd0⟩, _⟩ := back sh j dd hj hf
        exact I.shr j d0 hj hd0
      have nos : ∀ {frx : Fr}, Shr B fr2 frx → ∀ j dd, j ∈ B.M → (frx[j]? = some (some dd) ∧ isCell dd = true) → σ[j]? ≠ some (some (.ref D0)) := fun {frx} sh j dd hj hf hs => by
        obtain ⟨⟨d0, hd0⟩, _⟩ := back sh j dd hj hf
        exact I.no j d0 hj hd0 hs
      have nvD : ∀ {frx : Fr} {Hx Hvx : Hp}, Nxt B fr2 σ2 H' Hv2 frx Hx Hvx → Hx D0 = some (.lst acc) := fun n => n.keep D0 _ at2 (noD (.refl _ _)) hDt
      cases hcc : c fr2 with
      | bad => rw [hcc] at hcl; cases hcl
      | exc k fs fr3 => rw [hcc] at hcl; cases hcl
      | ok b fr3 =>
        rw [hcc] at hcl
        dsimp only [Res.bind] at hcl
        intro H3 Hv3 n3
        have fin : ∀ {frx : Fr} {Hx Hvx : Hp} (n : Nxt B fr2 σ2 H' Hv2 frx Hx Hvx), Hvx D0 = none ∧ Rel B (wipeF frx vs) (wipe σ vs) Hx Hvx ∧ (∀ b o, H1 b = some o → ¬ Own B fr1 σ b → b ∉ B.G.tabs → Hx b = some o) ∧ (∀ b o, H1 b = some o → ∃ o', Hx b = some o') ∧ (∀ b o, Hvx b = some o → Hv1 b = some o ∨ NewOk H1 b o ∨ Own B fr1 σ b) := fun {frx Hx Hvx} n => by
          refine ⟨?_, ?_, fun b o h no nt => n.keep b o (keep2 b o (I.keep b o h no nt)) (noB (.refl _ _) no) nt, fun b o h => ?_, fun b o h => ?_⟩
          · cases z : Hvx D0 with
            | none => rfl
            | some u =>
              rcases n.newv D0 u z with q | (q | ⟨ws, q⟩) | q
              · rw [hv2] at q; cases q
              · rw [at2] at q; cases q
              · have h1 := n.rel.sub D0 u z
                rw [nvD n, q] at h1
                cases h1
              · exact absurd q (noD (.refl _ _))
          · have := n.rel.wipes hM
            rwa [hw] at this
          · obtain ⟨o', h'⟩ := alive2 b o h
            exact n.alive b o' h'
          · rcases n.newv b o h with q | (q | q) | q
            · rcases newv2 b o q with z | z
              · exact I.newv b o z
              · refine .inr (.inl (.inl ?_))
                cases e : H1 b with
                | none => rfl
                | some u =>
                  obtain ⟨u', h'⟩ := I.alive b u e
                  rw [z] at h'; cases h'
            · refine .inr (.inl (.inl ?_))
              cases e : H1 b with
              | none => rfl
              | some u =>
                obtain ⟨u', h'⟩ := alive2 b u e
                rw [q] at h'; cases h'
            · exact .inr (.inl (.inr q))
            · by_cases ho1 : Own B fr1 σ b
              · exact .inr (.inr ho1)
              · exact absurd q (noB (.refl _ _) ho1)
        cases b with
        | false =>
          rw [if_neg Bool.false_ne_true] at hcl ⊢
          obtain ⟨f1, f2, f3, f4, f5⟩ := fin n3
          refine ⟨fr3, Hv3, acc, ad, r, ⟨f2, I.sub.trans (s2.trans n3.ext), nvD n3, RepL.mono (s2.trans n3.ext) _ _ I.rep, f1, nos n3.shp, f3, shr' n3.shp, f4, f5, ?_⟩, hcl, har⟩
          have := I.sz
          omega
        | true =>
          rw [if_pos rfl] at hcl ⊢
          refine ⟨fr3, Hv3, n3.rel, ?_⟩
          cases hee : e fr3 with
          | bad => rw [hee] at hcl; cases hcl
          | exc k fs fr4 => rw [hee] at hcl; cases hcl
          | ok dy fr4 =>
            rw [hee] at hcl
            dsimp only [Res.bind] at hcl
            intro y H4 Hv4 n4 ry
            split at hcl
            · next hp =>
              have ry := ry.rep fun i z => by rw [z] at hp; cases hp
              have n := n3.trans n4
              obtain ⟨f1, f2, f3, f4, f5⟩ := fin n
              cases hrec : compLO i0 n0 vs t c e (n0 - (i + 1)) fr4 with
              | bad => rw [hrec] at hcl; cases hcl
              | exc k fs fr5 => rw [hrec] at hcl; cases hcl
              | ok r1 fr5 =>
                rw [hrec] at hcl
                dsimp only at hcl
                have hcl' : dy :: r1 = r ∧ fr5 = fr20 := by
                  cases hcl
                  exact ⟨rfl, rfl⟩
                obtain ⟨h1, h2⟩ := hcl'
                subst h1 h2
                have hsz := I.sz
                have la := I.rep.length
                refine ⟨acc, nvD n, by omega, fr4, Hv4, acc ++ [y], ad ++ [dy], r1, ⟨f2.upd_free ?_ hD0 f1 hDt, I.sub.trans (s2.trans n.ext), upd_same, (RepL.mono (s2.trans n.ext) _ _ I.rep).append (.cons ry .nil), f1, nos n.shp, fun b o h no nt => ?_, shr' n.shp, fun b o h => ?_, f5, ?_⟩, hrec, by rw [← har]; simp⟩
                · rintro ⟨j, dd, hj, hf, hs⟩
                  obtain ⟨a1, a2⟩ := wipeF_in hf.1
                  rw [wipe_out a1] at hs
                  exact nos n.shp j dd hj ⟨a2, hf.2⟩ hs
                · rw [upd_ne (ne_of_none h hD)]
                  exact f3 b o h no nt
                · by_cases eb : b = D0
                  · exact ⟨_, by rw [eb]; exact upd_same⟩
                  · rw [upd_ne eb]
                    exact f4 b o h
                · rw [List.length_append, List.length_singleton]
                  omega
            · cases hcl
  · obtain ⟨fr', Hv', acc, ad, r, I, hcl, har⟩ := p
    rw [Nat.sub_self] at hcl
    have hcl := compLO_zero hcl
    obtain ⟨rfl, rfl⟩ := hcl
    rw [List.append_nil] at har
    subst har
    refine hQ D0 H Hv' ⟨R1.rests I.rel I.sub hM, I.sub, I.keep, fun j d hj hf => ?_, I.alive, I.newv⟩ hD I.hv ⟨acc, I.at_, I.rep⟩
    rcases restF_get hf.1 with ⟨a, b⟩ | ⟨a, b⟩
    · exact ⟨d, b, hf.2⟩
    · exact I.shr j d hj ⟨b, hf.2⟩
end
end KS
/-! KS28: a comprehension over an owned list, the rule -/
namespace KS
open PySem PySem.Spec L2
def eCompO (i0 : Nat) (vs : List Nat) (t : Tv) (c : Bv) (e : Ev) : Ev := fun fr => match fr[i0]? with
  | some (some (.lst cur)) => if cur.length ≤ sizeLine then (match compLO i0 cur.length vs t c e cur.length fr with
    | .ok r fr2 => .ok (.lst r) (restF fr fr2 vs)
    | _ => .bad) else .bad
  | _ => .bad
def iOwn (K : PySem.W.Frag) (i0 : Nat) : TI := fun σ H R => ∃ a, σ[i0]? = some (some (V.ref a)) ∧ (∃ xs, SqL K H a xs) ∧ R (Itl K a) H
section
variable {X : Cx} {B : Bd} {W : WX} {vs is : List Nat} {t : Tv} {c : Bv} {e : Ev} {i0 : Nat}
theorem lcO_enter {K : PySem.W.Frag} {σ : L2.St} {H : Hp} {Q : VK} (hM : ∀ v ∈ vs, v ∉ B.M) (hi : ∀ j ∈ is, j ∈ vs) (ok : TgOk t is) (hi0 : i0 ∈ B.M) (hh : dTF B W (eCompO i0 vs t c e) σ H Q) :
    tLc (iOwn K i0) (dTG B is t) (dTT B (fun _ _ _ _ => False) c) (dTE B (fun _ _ _ _ => False) e) vs σ H Q := by
  obtain ⟨fr, Hv, R, hh⟩ := hh
  unfold eCompO at hh
  split at hh
  · next cur ec =>
    obtain ⟨a, h1, _, _, xs, h2, h3⟩ := R.own i0 (.lst cur) ⟨ec, rfl⟩ hi0
    refine ⟨a, h1, ⟨xs, SqL.of h2⟩, ?_⟩
    split at hh
    · next hsz =>
      split at hh
      · next r fr2 hc => exact lcO_step hM hi ok R hi0 h1 hsz hc fun p H' Hv' m hp hv hcell => hh p H' Hv' m hp hv hcell
      · exact (hh : False).elim
    · exact (hh : False).elim
  · exact (hh : False).elim
theorem pi_own {x : Str} {np : Pos} {tg : Expr} (hN : X.N[i0]? = some x) (hvs : Vis X.env.scope x) (hd : (x == ("__debug__" : Str)) = false) (hcd : (x == ("__classdict__" : Str)) = false) : PI X tg (.Name x np) (iOwn X.K i0) :=
  pi_imp (pi_seq (pe_var hN hvs hd hcd)) fun σ H R h => by
    obtain ⟨a, h1, ⟨xs, h2⟩, h3⟩ := h
    exact ⟨_, h1, .inl ⟨a, rfl, ⟨xs, h2⟩, h3⟩⟩
variable {elt tg : Expr} {x : Str} {np : Pos} {ifs : List Expr} {scope : Scope} {own : List (Str × Nat)} {pos spos py : Pos}
theorem d_lcO (hM : ∀ v ∈ own.map (·.2), v ∉ B.M) (his : ∀ j ∈ is, j ∈ own.map (·.2)) (hi0 : i0 ∈ B.M) (hc : X.calm = true) (hN : X.N.Nodup) (ok : BlkOk X.N X.env.scope scope own)
    (hg : ∀ s H C cl fp, DG (BX X scope s H C cl fp) B tg is t) (ht : ∀ s H C cl fp, PTs (BX X scope s H C cl fp) ifs (dTT B W0 c)) (he : ∀ s H C cl fp, DE (BX X scope s H C cl fp) B W0 elt e)
    (hn : X.N[i0]? = some x := by rfl) (hvs : Vis X.env.scope x := by first | exact Or.inl rfl | exact Or.inr (Or.inl rfl) | exact Or.inr (Or.inr rfl)) (hd : (x == ("__debug__" : Str)) = false := by decide) (hcd : (x == ("__classdict__" : Str)) = false := by decide)
    (hs : ∀ y, foldedSetIterable (.Name x np) X.env y = pure y := by intro _; rfl) : DF X B W (.ListComp elt [⟨tg, .Name x np, ifs, 0⟩] scope pos) (eCompO i0 (own.map (·.2)) t c e) :=
  pe_imp (pe_lc hc hN (pi_own hn hvs hd hcd) ok (fun s H C cl fp => (hg s H C cl fp).pg) ht he hs) fun σ H Q hh => lcO_enter (K := X.K) hM his (hg X.s_0 X.H_0 0 [] []).ok hi0 hh
end
end KS
/-! KS29: slots are let go (frames stay small and known). -/
namespace KS
open PySem PySem.Spec L2
/-- the slots that the mask tells are let go -/
def killF : Fr → List Bool → Fr
  | x :: fr, m :: ms => (match m with | true => none | false => x) :: killF fr ms
  | fr, [] => fr
  | [], _ :: _ => []
/-- slots let go ahead of a statement -/
def kS (js : List Bool) (g : Sv) : Sv := fun fr => g (killF fr js)
/-- .. behind it, where it runs through, breaks or continues -/
def sK (js : List Bool) (g : Sv) : Sv := fun fr => (g fr).bind fun fl fr1 => match fl with
  | .ret d => .ok (.ret d) fr1
  | fl => .ok fl (killF fr1 js)
/-- .. behind it, where it runs through -/
def sKn (js : List Bool) (g : Sv) : Sv := fun fr => (g fr).bind fun fl fr1 => match fl with
  | .nx => .ok .nx (killF fr1 js)
  | fl => .ok fl fr1
def iK (js : List Bool) (h : Iv) : Iv := fun fr => (h fr).bind fun ds fr1 => .ok ds (killF fr1 js)
section
variable {X : Cx} {B : Bd} {W : WX} {rf : Bool} {st : Stmt} {ss : List Stmt} {g : Sv} {js : List Bool} {fr : Fr} {σ : L2.St} {H Hv : Hp}
theorem killF_at : ∀ (fr : Fr) (js : List Bool) (i : Nat), (killF fr js)[i]? = if js[i]? = some true then (fr[i]?).map (fun _ => none) else fr[i]?
  | [], [], i => by simp [killF]
  | x :: fr, [], i => by simp [killF]
  | [], _ :: _, i => by simp [killF]
  | x :: fr, m :: ms, 0 => by cases m <;> simp [killF]
  | x :: fr, m :: ms, i + 1 => by
    have := killF_at fr ms i
    simpa [killF] using this
theorem killF_get (js : List Bool) {fr : Fr} {i : Nat} {d : D} (h : (killF fr js)[i]? = some (some d)) : fr[i]? = some (some d) := by
  rw [killF_at] at h
  split at h
  · cases e : fr[i]? with
    | none => rw [e] at h; cases h
    | some x => rw [e] at h; cases h
  · exact h
theorem killF_len (fr : Fr) (js : List Bool) : (killF fr js).length = fr.length := by
  induction fr generalizing js with
  | nil => cases js <;> rfl
  | cons x fr ih => cases js with
    | nil => rfl
    | cons m ms => simp [killF, ih]
theorem Rel.weak {fr fr' : Fr} (R : Rel B fr σ H Hv) (hl : fr'.length = fr.length) (h : ∀ (i : Nat) (d : D), fr'[i]? = some (some d) → fr[i]? = some (some d)) (hio : ∀ p ∈ B.io, fr'[p.1]? = fr[p.1]?) : Rel B fr' σ H Hv where
  sub := R.sub
  ext0 := R.ext0
  new := R.new
  keep := R.keep
  len := by rw [hl]; exact R.len
  val := fun j d e hm => R.val j d (h j d e) hm
  box := fun j d e hc hm => R.box j d (h j d e) hc hm
  own := fun j d e hm => R.own j d ⟨h j d e.1, e.2⟩ hm
  sep := fun j k a dj dk hj hk hjk e1 e2 => R.sep j k a dj dk hj hk hjk ⟨h _ _ e1.1, e1.2⟩ ⟨h _ _ e2.1, e2.2⟩
  io := fun p hp => by
    obtain ⟨h1, ⟨d, h2, h3⟩, h4⟩ := R.io p hp
    exact ⟨h1, ⟨d, by rw [hio p hp]; exact h2, h3⟩, h4⟩
  tab := R.tab
theorem Rel.kill (js : List Bool) {fr : Fr} (R : Rel B fr σ H Hv) (h : ∀ p ∈ B.io, js[p.1]? ≠ some true) : Rel B (killF fr js) σ H Hv :=
  R.weak (killF_len fr js) (fun _ _ => killF_get js) fun p hp => by rw [killF_at, if_neg (h p hp)]
theorem Nxt.kill {fr1 : Fr} {H1 Hv1 : Hp} (n : Nxt B fr σ H Hv fr1 H1 Hv1) (hio : ∀ p ∈ B.io, js[p.1]? ≠ some true) : Nxt B fr σ H Hv (killF fr1 js) H1 Hv1 :=
  ⟨n.rel.kill js hio, n.ext, n.keep, fun i d hi h => n.shp i d hi ⟨killF_get js h.1, h.2⟩, n.alive, n.newv⟩
theorem tS_kS {D : L2.Ends} (hio : ∀ p ∈ B.io, js[p.1]? ≠ some true) (h : dTS B W rf (kS js g) D σ H) : dTS B W rf g D σ H := by
  obtain ⟨fr, Hv, R, h⟩ := h
  exact ⟨killF fr js, Hv, R.kill js hio, h⟩
theorem tS_sK {D : L2.Ends} (hio : ∀ p ∈ B.io, js[p.1]? ≠ some true) (h : dTS B W rf (sK js g) D σ H) : dTS B W rf g D σ H := by
  obtain ⟨fr, Hv, R, h⟩ := h
  refine ⟨fr, Hv, R, ?_⟩
  unfold sK at h
  cases hg : g fr with
  | bad => rw [hg] at h; exact h.elim
  | exc c fs fr1 => rw [hg] at h; exact h
  | ok fl fr1 =>
    rw [hg] at h
    dsimp only [Res.bind] at h
    cases fl with
    | ret d => exact h
    | nx => exact fun σ' H' Hv' R' s => h σ' H' Hv' (R'.kill js hio) s
    | brk => exact fun σ' H' Hv' R' s => h σ' H' Hv' (R'.kill js hio) s
    | cnt => exact fun σ' H' Hv' R' s => h σ' H' Hv' (R'.kill js hio) s
theorem tS_sKn {D : L2.Ends} (hio : ∀ p ∈ B.io, js[p.1]? ≠ some true) (h : dTS B W rf (sKn js g) D σ H) : dTS B W rf g D σ H := by
  obtain ⟨fr, Hv, R, h⟩ := h
  refine ⟨fr, Hv, R, ?_⟩
  unfold sKn at h
  cases hg : g fr with
  | bad => rw [hg] at h; exact h.elim
  | exc c fs fr1 => rw [hg] at h; exact h
  | ok fl fr1 =>
    rw [hg] at h
    dsimp only [Res.bind] at h
    cases fl with
    | ret d => exact h
    | nx => exact fun σ' H' Hv' R' s => h σ' H' Hv' (R'.kill js hio) s
    | brk => exact h
    | cnt => exact h
theorem s_kS (hio : ∀ p ∈ B.io, js[p.1]? ≠ some true) (h : DS X B W rf st g) : DS X B W rf st (kS js g) := ps_imp h fun _ _ _ q => tS_kS hio q
theorem s_sKn (hio : ∀ p ∈ B.io, js[p.1]? ≠ some true) (h : DS X B W rf st g) : DS X B W rf st (sKn js g) := ps_imp h fun _ _ _ q => tS_sKn hio q
theorem ss_sK (hio : ∀ p ∈ B.io, js[p.1]? ≠ some true) (h : DSs X B W rf ss g) : DSs X B W rf ss (sK js g) := pss_imp h fun _ _ _ q => tS_sK hio q
theorem i_iK {tg it : Expr} {h : Iv} (hio : ∀ p ∈ B.io, js[p.1]? ≠ some true) (hi : DI X B W tg it h) : DI X B W tg it (iK js h) := by
  refine pi_imp hi fun σ H R q => ?_
  obtain ⟨fr, Hv, Rl, q⟩ := q
  refine ⟨fr, Hv, Rl, ?_⟩
  unfold iK at q
  cases hg : h fr with
  | bad => rw [hg] at q; exact q.elim
  | exc c fs fr1 => rw [hg] at q; exact q
  | ok ds fr1 =>
    rw [hg] at q
    exact fun J H1 Hv1 n w => q J H1 Hv1 (n.kill hio) w
theorem io_not {ms : List Bool} {io : List (Nat × Addr)} (h : ∀ p ∈ io, ms[p.1]? = some true) (d : ((ms.zip js).all fun p => !(p.1 && p.2)) = true) : ∀ p ∈ io, js[p.1]? ≠ some true := fun p hp e => by
  have h1 := h p hp
  have : (true, true) ∈ ms.zip js := List.mem_iff_getElem?.mpr ⟨p.1, by rw [List.getElem?_zip_eq_some]; exact ⟨h1, e⟩⟩
  have := List.all_eq_true.mp d _ this
  cases this
end
end KS
/-! KS30: dicts whose keys are tuples held by names; x *= e. -/
namespace KS
open PySem PySem.Spec L2
def tupKey : D → Option (List L2.Key)
  | .tup ds => toKeys ds
  | _ => none
theorem keysL_rep {G : SE} {Hv : Hp} : ∀ {ds : List D} {vs : List V} {k : List L2.Key}, RepL G Hv ds vs → toKeys ds = some k → vs = k.map kV
  | [], vs, k, r, e => by
    rw [r.nil_inv]
    cases e; rfl
  | d :: ds, vs, k, r, e => by
    obtain ⟨v, t, rfl, h1, h2⟩ := r.cons_inv
    unfold toKeys at e
    split at e
    · next a as ha has =>
      cases e
      rw [List.map_cons, keysL_rep h2 has]
      congr 1
      cases d with
      | int i => cases ha; exact Rep.int_iff.mp h1
      | str x => cases ha; exact Rep.str_iff.mp h1
      | _ => cases ha
    · cases e
theorem tupKey_rep {B : Bd} {fr : Fr} {σ : L2.St} {H Hv : Hp} (R : Rel B fr σ H Hv) {d : D} {v : V} {k : List L2.Key} (r : RepW B σ Hv d v) (e : tupKey d = some k) : ∃ b, v = .ref b ∧ H b = some (.tup (k.map kV)) := by
  cases d with
  | tup ds =>
    obtain ⟨a, vs, rfl, q, rl⟩ := Rep.tup_at (r.rep fun i z => by cases z)
    exact ⟨a, rfl, by rw [← keysL_rep rl e]; exact R.sub _ _ q⟩
  | _ => cases e
def sDputV (i : Nat) (ek fv : Ev) : Sv := fun fr => (fv fr).bind fun v fr1 => if pers v = true then (match fr1[i]? with
  | some (some c0) => if isDctD c0 = true then ((ek fr1).bind fun kd fr2 => match fr2[i]? with
    | some (some c) => match tupKey kd, unT c with
      | some k, some kvs => if kvs.length < sizeLine then .ok .nx (fr2.set i (some (dTm (putK' kvs k v)))) else .bad
      | _, _ => .bad
    | _ => .bad) else .bad
  | _ => .bad) else .bad
def eDinV (i : Nat) (ek : Ev) : Ev := fun fr => (ek fr).bind fun kd fr2 => match fr2[i]? with
    | some (some c) => match tupKey kd, unT c with
      | some k, some kvs => .ok (.bl (valV' kvs k).isSome) fr2
      | _, _ => .bad
    | _ => .bad
/-- d.get(k, x) -/
def eDgetV (i : Nat) (ek ex : Ev) : Ev := fun fr => match fr[i]? with
  | some (some c0) => if isDctD c0 = true then ((ek fr).bind fun kd fr1 => (ex fr1).bind fun x fr2 => if pers x = true then (match fr2[i]? with
    | some (some c) => match tupKey kd, unT c with
      | some k, some kvs => .ok ((valV' kvs k).getD x) fr2
      | _, _ => .bad
    | _ => .bad) else .bad) else .bad
  | _ => .bad
/-- d[k], there -/
def eDixV (i : Nat) (ek : Ev) : Ev := fun fr => match fr[i]? with
  | some (some c0) => if isDctD c0 = true then ((ek fr).bind fun kd fr2 => match fr2[i]? with
    | some (some c) => match tupKey kd, unT c with
      | some k, some kvs => match valV' kvs k with
        | some d => .ok d fr2
        | none => .bad
      | _, _ => .bad
    | _ => .bad) else .bad
  | _ => .bad
section
variable {X : Cx} {B : Bd} {W : WX} {rf : Bool} {key value dflt : Expr} {ek fv ex : Ev} {i : Nat} {x : Str} {np pos pos' apos : Pos}
theorem s_dputV (hu : X.A.units + 1 < cLine) (hi : i ∈ B.M) (hk : DE X B W key ek) (hv : DE X B W value fv) (hN : X.N[i]? = some x := by rfl) (hvs : Vis X.env.scope x := by first | exact Or.inl rfl | exact Or.inr (Or.inl rfl) | exact Or.inr (Or.inr rfl)) (hd : (x == ("__debug__" : Str)) = false := by decide) (hcd : (x == ("__classdict__" : Str)) = false := by decide)
    (hs : swapsWith value (some (.Subscript (.Name x np) key pos')) pos.line X.env = pure false := by rfl) : DS X B W rf (.Assign [.Subscript (.Name x np) key pos'] value pos) (sDputV i ek fv) := by
  refine ps_imp (ps_dput hu (pe_var hN hvs hd hcd) hk hv hs) fun D σ H hh => ?_
  obtain ⟨fr, Hv, R, hh⟩ := hh
  refine ⟨fr, Hv, R, ?_⟩
  unfold sDputV at hh
  cases hf : fv fr with
  | bad => rw [hf] at hh; exact hh.elim
  | exc c fs fr1 =>
    rw [hf] at hh
    exact fun dd H' Hv' m => hh dd σ H' Hv' m.rel m.ext
  | ok v fr1 =>
    rw [hf] at hh
    dsimp only [Res.bind] at hh
    intro vv H1 Hv1 n1 rv
    split at hh
    · next hp =>
      have rv := rv.rep fun i z => by rw [z] at hp; cases hp
      split at hh
      · next c0 e0 =>
        split at hh
        · next hc0 =>
          obtain ⟨a, hsl, hva, _, _⟩ := n1.rel.own i c0 ⟨e0, kd_dct hc0⟩ hi
          refine ⟨_, hsl, fr1, Hv1, n1.rel, ?_⟩
          cases hg : ek fr1 with
          | bad => rw [hg] at hh; exact hh.elim
          | exc c fs fr2 =>
            rw [hg] at hh
            exact fun dd H' Hv' m => hh dd σ H' Hv' m.rel (n1.ext.trans m.ext)
          | ok kd fr2 =>
            rw [hg] at hh
            dsimp only at hh
            intro kv H2 Hv2 n2 rk
            split at hh
            · next c ec =>
              split at hh
              · next k kvs hk' hun =>
                split at hh
                · next hz =>
                  have hcell : isCell c = true := by rw [unT_inv hun]; rfl
                  obtain ⟨a', hsl', hva2, _, hce⟩ := n2.rel.own i c ⟨ec, hcell⟩ hi
                  rw [hsl] at hsl'
                  cases hsl'
                  rw [unT_inv hun] at hce
                  obtain ⟨us, eu, kp⟩ := cell_T hce
                  obtain ⟨b, rfl, hb⟩ := tupKey_rep n2.rel rk hk'
                  refine ⟨a, _, rfl, .t eu hb (by rw [kp.length]; exact hz), ?_⟩
                  have m := n2.rel.mut hi ⟨ec, hcell⟩ hsl ((kp.put (k := k) (Rep.mono n2.ext _ _ rv)).cell upd_same)
                  exact hh σ _ Hv2 m.rel (n1.ext.trans (n2.ext.trans m.ext))
                · exact (hh : False).elim
              · exact (hh : False).elim
            · exact (hh : False).elim
        · exact (hh : False).elim
      · exact (hh : False).elim
    · exact (hh : False).elim
theorem d_dinV0 (hu : X.A.units + 1 < cLine) (hi : i ∈ B.M) (hk : DE X B W key ek) (hN : X.N[i]? = some x := by rfl) (hvs : Vis X.env.scope x := by first | exact Or.inl rfl | exact Or.inr (Or.inl rfl) | exact Or.inr (Or.inr rfl)) (hd : (x == ("__debug__" : Str)) = false := by decide) (hcd : (x == ("__classdict__" : Str)) = false := by decide) :
    PC X .In key (.Name x np) (dTE B W (eDinV i ek)) := by
  have h0 := pc_din hu hk (pe_var (pos := np) hN hvs hd hcd)
  refine ⟨fun pins s σ H Q I h => h0.run pins s σ H Q I ?_⟩
  obtain ⟨fr, Hv, R, h⟩ := h
  refine ⟨fr, Hv, R, ?_⟩
  unfold eDinV at h
  cases hg : ek fr with
  | bad => rw [hg] at h; exact h.elim
  | exc c fs fr2 => rw [hg] at h; exact h
  | ok kd fr2 =>
    rw [hg] at h
    dsimp only [Res.bind] at h
    intro kv H2 Hv2 n2 rk
    split at h
    · next c ec =>
      split at h
      · next k kvs hk' hun =>
        have hcell : isCell c = true := by rw [unT_inv hun]; rfl
        obtain ⟨a, hsl, hva2, _, hce⟩ := n2.rel.own i c ⟨ec, hcell⟩ hi
        rw [unT_inv hun] at hce
        obtain ⟨us, eu, kp⟩ := cell_T hce
        obtain ⟨b, rfl, hb⟩ := tupKey_rep n2.rel rk hk'
        refine ⟨_, hsl, a, _, rfl, .t eu hb, ?_⟩
        rw [← (kp.val k).1]
        exact h (.bl _) _ Hv2 n2 (.of repB)
      · exact (h : False).elim
    · exact (h : False).elim
theorem d_dinV (hu : X.A.units + 1 < cLine) (hi : i ∈ B.M) (hk : DE X B W key ek) (hm : behindInMarks .In (.Name x np) = false := by rfl) (hN : X.N[i]? = some x := by rfl) (hvs : Vis X.env.scope x := by first | exact Or.inl rfl | exact Or.inr (Or.inl rfl) | exact Or.inr (Or.inr rfl)) (hd : (x == ("__debug__" : Str)) = false := by decide) (hcd : (x == ("__classdict__" : Str)) = false := by decide) :
    DE X B W (.Compare key [.In] [.Name x np] pos) (eDinV i ek) := pe_cmp (d_dinV0 hu hi hk hN hvs hd hcd) hm
theorem dt_dinV (hu : X.A.units + 1 < cLine) (hi : i ∈ B.M) (hk : DE X B W key ek) (hm : behindInMarks .In (.Name x np) = false := by rfl) (hN : X.N[i]? = some x := by rfl) (hvs : Vis X.env.scope x := by first | exact Or.inl rfl | exact Or.inr (Or.inl rfl) | exact Or.inr (Or.inr rfl)) (hd : (x == ("__debug__" : Str)) = false := by decide) (hcd : (x == ("__classdict__" : Str)) = false := by decide) :
    DT X B W (.Compare key [.In] [.Name x np] pos) (bE (eDinV i ek)) := pt_imp (pt_cmp (d_dinV0 hu hi hk hN hvs hd hcd) hm) fun σ H Q ⟨fr, Hv, R, h⟩ => ⟨fr, Hv, R, postB_E h⟩
theorem d_dgetV (hu : X.A.units + 1 < cLine) (hi : i ∈ B.M) (hk : DE X B W key ek) (hx : DE X B W dflt ex) (m : M2 X (.Name x np) "get" apos key dflt pos := by exact ⟨rfl, rfl, rfl, rfl⟩) (hN : X.N[i]? = some x := by rfl) (hvs : Vis X.env.scope x := by first | exact Or.inl rfl | exact Or.inr (Or.inl rfl) | exact Or.inr (Or.inr rfl)) (hd : (x == ("__debug__" : Str)) = false := by decide) (hcd : (x == ("__classdict__" : Str)) = false := by decide) :
    DE X B W (.Call (.Attribute (.Name x np) "get" apos) [key, dflt] [] pos) (eDgetV i ek ex) := by
  refine pe_imp (pe_dget2 hu (pe_var hN hvs hd hcd) hk hx m) fun σ H Q h => ?_
  obtain ⟨fr, Hv, R, h⟩ := h
  unfold eDgetV at h
  split at h
  · next c0 e0 =>
    split at h
    · next hc0 =>
      obtain ⟨a, hsl, hva, _, hce0⟩ := R.own i c0 ⟨e0, kd_dct hc0⟩ hi
      have isd : IsD H a := by
        cases c0 with
        | dct ks vs =>
          obtain ⟨us, ⟨kvs, e, _⟩ | ⟨kvs, e, _⟩, _⟩ := hce0
          · exact .inr ⟨kvs, .inl e⟩
          · exact .inl ⟨kvs, .inl e⟩
        | _ => cases hc0
      refine ⟨_, hsl, a, rfl, isd, fr, Hv, R, ?_⟩
      cases hg : ek fr with
      | bad => rw [hg] at h; exact h.elim
      | exc c fs fr2 => rw [hg] at h; exact h
      | ok kd fr1 =>
        rw [hg] at h
        dsimp only [Res.bind] at h
        intro kv H1 Hv1 n1 rk
        refine ⟨fr1, Hv1, n1.rel, ?_⟩
        cases hx2 : ex fr1 with
        | bad => rw [hx2] at h; exact h.elim
        | exc c fs fr2 =>
          rw [hx2] at h
          exact fun dd H' Hv' n => h dd H' Hv' (n1.trans n)
        | ok xd fr2 =>
          rw [hx2] at h
          dsimp only at h
          intro xv H2 Hv2 n2 rx
          split at h
          · next hp =>
            have rx := rx.rep fun i z => by rw [z] at hp; cases hp
            split at h
            · next c ec =>
              split at h
              · next k kvs hk' hun =>
                have hcell : isCell c = true := by rw [unT_inv hun]; rfl
                obtain ⟨a', hsl', hva2, _, hce⟩ := n2.rel.own i c ⟨ec, hcell⟩ hi
                rw [hsl] at hsl'
                cases hsl'
                rw [unT_inv hun] at hce
                obtain ⟨us, eu, kp⟩ := cell_T hce
                obtain ⟨b, rfl, hb⟩ := tupKey_rep n2.rel (rk.mono n2.ext) hk'
                refine ⟨_, .t eu hb, ?_⟩
                have kv := kp.val k
                cases hv : valV' kvs k with
                | none =>
                  have hn : valV us k = none := by
                    have := kv.1
                    rw [hv] at this
                    cases e : valV us k with
                    | none => rfl
                    | some d => rw [e] at this; cases this
                  rw [hv] at h
                  rw [hn]
                  exact h _ H2 Hv2 (n1.trans n2) (.of rx)
                | some d =>
                  obtain ⟨u, e1, e2⟩ := kv.2 d hv
                  rw [hv] at h
                  rw [e1]
                  exact h _ H2 Hv2 (n1.trans n2) (.of e2)
              · exact (h : False).elim
            · exact (h : False).elim
          · exact (h : False).elim
    · exact (h : False).elim
  · exact (h : False).elim
end
/-! in over tuples -/
def inTB (a b : D) : Option Bool := match pyOf a, pyOf b with
  | some p, some (.tuple qs) => if SeqAt.shaped p && SeqAt.shaped (.tuple qs) then some (qs.any fun z => PyData.eqv z p) else none
  | _, _ => none
def inTF (a b : D) : Option D := (inTB a b).map D.bl
def notInTF (a b : D) : Option D := (inTB a b).map fun k => D.bl (!k)
def rInTD (K : PySem.W.Frag) : R2 := fun x y H Q => ∃ d ds, Dp K H x d ∧ Dp K H y (.tuple ds) ∧ SeqAt.shaped d = true ∧ SeqAt.shaped (.tuple ds) = true ∧ Q (.bl (ds.any fun z => PyData.eqv z d)) H
def rNotInTD (K : PySem.W.Frag) : R2 := fun x y H Q => ∃ d ds, Dp K H x d ∧ Dp K H y (.tuple ds) ∧ SeqAt.shaped d = true ∧ SeqAt.shaped (.tuple ds) = true ∧ Q (.bl (!ds.any fun z => PyData.eqv z d)) H
section
variable {X : Cx} {B : Bd}
theorem op_inTD (hu : X.A.units + 65 < cLine) : OpR X (compareOp .In) (rInTD X.K) := by
  intro pins s σ H x y v u Q I rx ry h
  obtain ⟨d, ds, hd, he, sd, se, q⟩ := h
  obtain ⟨as, r1⟩ := Dp.reads I d x v hd rx
  obtain ⟨bs, r2⟩ := Dp.reads I (.tuple ds) y u he ry
  exact SeqAt.in_tuple_reads r2 r1 (SeqAt.canLay_of_shaped se) (SeqAt.canLay_of_shaped sd) (PyProof.Rows.room_in_shaped sd hu) ⟨.bl _, H, I, rfl, q⟩
theorem op_notInTD (hu : X.A.units + 65 < cLine) : OpR X (compareOp .NotIn) (rNotInTD X.K) := by
  intro pins s σ H x y v u Q I rx ry h
  obtain ⟨d, ds, hd, he, sd, se, q⟩ := h
  obtain ⟨as, r1⟩ := Dp.reads I d x v hd rx
  obtain ⟨bs, r2⟩ := Dp.reads I (.tuple ds) y u he ry
  exact SeqAt.notIn_tuple_reads r2 r1 (SeqAt.canLay_of_shaped se) (SeqAt.canLay_of_shaped sd) (PyProof.Rows.room_in_shaped sd hu) ⟨.bl _, H, I, rfl, q⟩
theorem ops_inTg (hK : X.K = B.G.K) (r : Bool → V) (rr : Bool → D) (hr : ∀ k H, Rep B.G H (rr k) (r k)) : OpS B (fun x y H Q => ∃ d ds, Dp X.K H x d ∧ Dp X.K H y (.tuple ds) ∧ SeqAt.shaped d = true ∧ SeqAt.shaped (.tuple ds) = true ∧ Q (r (ds.any fun z => PyData.eqv z d)) H) (fun a b => (inTB a b).map rr) := by
  intro fr σ H Hv x y dx dy a b z Q R rx ry hx hy hz k
  simp only [Option.map_eq_some_iff] at hz
  obtain ⟨m, hz, rfl⟩ := hz
  unfold inTB at hz
  split at hz
  · next p qs ep eq =>
    split at hz
    · next c =>
      cases hz
      have c' := Bool.and_eq_true_iff.mp c
      refine ⟨p, qs, ?_, ?_, c'.1, c'.2, k _ H Hv (.refl R) (hr _ _)⟩
      · rw [hK]; exact dp_look R rx hx ep
      · rw [hK]; exact dp_look R ry hy eq
    · cases hz
  · cases hz
abbrev inA2 : D → D → Option D := orF inA inTF
abbrev notInA2 : D → D → Option D := orF notInF notInTF
theorem ops_inA2 (hK : X.K = B.G.K := by rfl) : OpS B (fun x y H Q => (rInD X.K x y H Q ∨ (∃ i j, x = .str i ∧ y = .str j ∧ Q (.bl (!(Builtin.Str.occurrences j i 0 j.length 1).isEmpty)) H)) ∨ rInTD X.K x y H Q) inA2 := (ops_inA hK).or (ops_inTg hK V.bl D.bl fun _ _ => repB)
theorem op_inA2 (hu : X.A.units + 65 < cLine) : OpR X (compareOp .In) (fun x y H Q => (rInD X.K x y H Q ∨ (∃ i j, x = .str i ∧ y = .str j ∧ Q (.bl (!(Builtin.Str.occurrences j i 0 j.length 1).isEmpty)) H)) ∨ rInTD X.K x y H Q) := (op_inA hu).or (op_inTD hu)
theorem ops_notInA2 (hK : X.K = B.G.K := by rfl) : OpS B (fun x y H Q => rNotInD X.K x y H Q ∨ rNotInTD X.K x y H Q) notInA2 := (ops_notIn hK).or (ops_inTg hK (fun k => V.bl (!k)) (fun k => D.bl (!k)) fun _ _ => repB)
theorem op_notInA2 (hu : X.A.units + 65 < cLine) : OpR X (compareOp .NotIn) (fun x y H Q => rNotInD X.K x y H Q ∨ rNotInTD X.K x y H Q) := (op_notInD hu).or (op_notInTD hu)
end
/-! x *= e -/
def imulF : D → D → Option D
  | .int i, .int j => if (-(2 ^ 64) < i ∧ i < 2 ^ 64) ∨ (-(2 ^ 64) < j ∧ j < 2 ^ 64) then some (.int (i * j)) else none
  | _, _ => none
def ipM : TIp := fun x y H Q => ∃ i j, x = .int i ∧ y = .int j ∧ CMul i j ∧ Q (.int (i * j)) H
theorem ip_mul {X : Cx} : PIp X .Mult ipM := by
  intro pins s σ H x y v u Q I r1 r2 h
  obtain ⟨i, j, e1, e2, hc, q⟩ := h
  subst e1; subst e2
  obtain ⟨t, rfl⟩ := r1
  obtain ⟨t', rfl⟩ := r2
  exact PyProof.Rows.imul_int ⟨.int _, H, I.tok _, ⟨_, rfl⟩, q⟩ hc.ok
theorem ops_imul {B : Bd} : OpS B ipM imulF := ops_ints (ints_of fun x y h => by cases x <;> cases y <;> first | rfl | exact absurd ⟨rfl, rfl⟩ (h _ _)) fun i j z H Q e k => by
  unfold imulF at e
  dsimp only at e
  split at e
  · next c => cases e; exact ⟨i, j, rfl, rfl, c, k _ repI⟩
  · cases e
end KS
/-! KT: typed functions beside the text's plain functions. -/
namespace KT
open PySem KS
/-- a value of any form, without owned slots -/
inductive DV where
  | non | bl (b : Bool) | int (i : Int) | str (x : Str)
  | tup (ds : List DV) | lst (ds : List DV) | scr (ns : List Int)
  | obj (c : Nat) (ns : List Nat) (fs : List DV)
  | dct (ks vs : List DV)
mutual
def toD : DV → D
  | .non => .non | .bl b => .bl b | .int i => .int i | .str x => .str x
  | .tup ds => .tup (toDs ds) | .lst ds => .lst (toDs ds) | .scr ns => .scr ns
  | .obj c ns fs => .obj c ns (toDs fs) | .dct ks vs => .dct (toDs ks) (toDs vs)
def toDs : List DV → List D
  | [] => []
  | d :: ds => toD d :: toDs ds
end
theorem toDs_eq : ∀ l : List DV, toDs l = l.map toD
  | [] => rfl
  | d :: ds => by rw [toDs, List.map_cons, toDs_eq ds]
theorem toDs_map {α : Type} (e : α → DV) (l : List α) : toDs (l.map e) = l.map fun a => toD (e a) := by
  rw [toDs_eq, List.map_map]; rfl
theorem toDs_length (l : List DV) : (toDs l).length = l.length := by rw [toDs_eq, List.length_map]
theorem pers_toD (v : DV) : pers (toD v) = true := by cases v <;> rfl
theorem look_toD (fr : Fr) (v : DV) : look fr (toD v) = some (toD v) := by cases v <;> rfl
theorem all_pers_toDs (l : List DV) : (toDs l).all pers = true := by
  rw [toDs_eq, List.all_map, List.all_eq_true]
  exact fun v _ => pers_toD v
theorem toDs_append (l m : List DV) : toDs (l ++ m) = toDs l ++ toDs m := by rw [toDs_eq, toDs_eq, toDs_eq, List.map_append]
theorem toDs_get (l : List DV) (i : Nat) : (toDs l)[i]? = (l[i]?).map toD := by rw [toDs_eq, List.getElem?_map]
mutual
theorem toD_inj : ∀ a b : DV, toD a = toD b → a = b
  | .non, b, h => by cases b <;> first | rfl | cases h
  | .bl _, b, h => by cases b <;> first | (cases h; rfl) | cases h
  | .int _, b, h => by cases b <;> first | (cases h; rfl) | cases h
  | .str _, b, h => by cases b <;> first | (cases h; rfl) | cases h
  | .scr _, b, h => by cases b <;> first | (cases h; rfl) | cases h
  | .tup l, b, h => by
    cases b with
    | tup m => simp only [toD, D.tup.injEq] at h; rw [toDs_inj l m h]
    | _ => cases h
  | .lst l, b, h => by
    cases b with
    | lst m => simp only [toD, D.lst.injEq] at h; rw [toDs_inj l m h]
    | _ => cases h
  | .obj c ns fs, b, h => by
    cases b with
    | obj c2 ns2 fs2 => simp only [toD, D.obj.injEq] at h; rw [h.1, h.2.1, toDs_inj fs fs2 h.2.2]
    | _ => cases h
  | .dct ks vs, b, h => by
    cases b with
    | dct ks2 vs2 => simp only [toD, D.dct.injEq] at h; rw [toDs_inj ks ks2 h.1, toDs_inj vs vs2 h.2]
    | _ => cases h
theorem toDs_inj : ∀ l m : List DV, toDs l = toDs m → l = m
  | [], m, h => by cases m <;> first | rfl | cases h
  | a :: l, m, h => by
    cases m with
    | nil => cases h
    | cons b m =>
      simp only [toDs, List.cons.injEq] at h
      rw [toD_inj a b h.1, toDs_inj l m h.2]
end
/-- an end of a typed function: a value, an exception (class, fields, what the handed-in objects are then), or what is not told -/
inductive O (α : Type) where
  | ok (a : α) | exc (c : Nat) (fs : List DV) (st : List DV) | bad
namespace O
def bind {α β : Type} (t : O α) (k : α → O β) : O β := match t with
  | .ok a => k a
  | .exc c fs st => .exc c fs st
  | .bad => .bad
/-- the objects' state at an exception, seen from the caller -/
def atE {α : Type} (t : O α) (f : List DV → List DV) : O α := match t with
  | .ok a => .ok a
  | .exc c fs st => .exc c fs (f st)
  | .bad => .bad
def lt {α β : Type} (a : α) (k : α → O β) : O β := k a
@[simp] theorem bind_ok {α β : Type} (a : α) (k : α → O β) : (O.ok a).bind k = k a := rfl
@[simp] theorem bind_exc {α β : Type} (c : Nat) (fs st : List DV) (k : α → O β) : (O.exc c fs st).bind k = .exc c fs st := rfl
@[simp] theorem bind_bad {α β : Type} (k : α → O β) : (O.bad : O α).bind k = .bad := rfl
@[simp] theorem lt_eq {α β : Type} (a : α) (k : α → O β) : O.lt a k = k a := rfl
theorem bind_assoc {α β γ : Type} (t : O α) (k : α → O β) (l : β → O γ) : (t.bind k).bind l = t.bind fun a => (k a).bind l := by cases t <;> rfl
def opt {α : Type} : Option α → O α
  | some a => .ok a
  | none => .bad
/-- a check -/
def ck {α : Type} (c : Prop) [Decidable c] (t : O α) : O α := if c then t else .bad
end O
/-- how a block ends inside a loop -/
inductive Fw (ρ σ : Type) where
  | nx (s : σ) | brk (s : σ) | ret (r : ρ)
def foldT {α σ : Type} (l : List α) (s : σ) (b : α → σ → O σ) : O σ := match l with
  | [] => .ok s
  | a :: l => (b a s).bind fun s => foldT l s b
def loopT {α ρ σ : Type} (l : List α) (s : σ) (b : α → σ → O (Fw ρ σ)) : O (Fw ρ σ) := match l with
  | [] => .ok (.nx s)
  | a :: l => (b a s).bind fun w => match w with
    | .nx s => loopT l s b
    | .brk s => .ok (.nx s)
    | .ret r => .ok (.ret r)
def whileT {ρ σ : Type} (n : Nat) (c : σ → O Bool) (b : σ → O (Fw ρ σ)) (s : σ) : O (Fw ρ σ) := match n with
  | 0 => .bad
  | n + 1 => (c s).bind fun k => if k = true then (b s).bind fun w => match w with
    | .nx s => whileT n c b s
    | .brk s => .ok (.nx s)
    | .ret r => .ok (.ret r) else .ok (.nx s)
/-- behind a loop, at the def's own level -/
def O.aft {α ρ σ : Type} (t : O (Fw ρ σ)) (k : σ → O α) (r : ρ → O α) : O α := t.bind fun w => match w with
  | .nx s => k s
  | .brk s => k s
  | .ret x => r x
/-- a comprehension -/
def compT {α β σ : Type} (l : List α) (s : σ) (b : α → σ → O (Option β × σ)) : O (List β × σ) := match l with
  | [] => .ok ([], s)
  | a :: l => (b a s).bind fun p => (compT l p.2 b).bind fun q => .ok ((match p.1 with | some y => y :: q.1 | none => q.1), q.2)
def mapT {α β : Type} (l : List α) (b : α → O (Option β)) : O (List β) := match l with
  | [] => .ok []
  | a :: l => (b a).bind fun p => (mapT l b).bind fun q => .ok (match p with | some y => y :: q | none => q)
/-! ### the relation -/
@[reducible] def RfD {σ δ α : Type} (r : Res σ δ) (t : O α) (K : α → δ → σ → Prop) (KE : List DV → σ → Prop) : Prop := match t with
  | .ok a => ∃ d s, r = .ok d s ∧ K a d s
  | .exc c fs st => ∃ s, r = .exc c (toDs fs) s ∧ KE st s
  | .bad => True
structure Rf {σ δ α : Type} (r : Res σ δ) (t : O α) (K : α → δ → σ → Prop) (KE : List DV → σ → Prop) : Prop where
  h : RfD r t K KE
section
variable {σ δ δ' α β : Type} {KE : List DV → σ → Prop}
theorem Rf.ok {r : Res σ δ} {a : α} {K : α → δ → σ → Prop} {d : δ} {s : σ} (h : r = .ok d s) (k : K a d s) : Rf r (.ok a) K KE := ⟨d, s, h, k⟩
theorem Rf.bad {r : Res σ δ} {K : α → δ → σ → Prop} : Rf r .bad K KE := ⟨trivial⟩
theorem Rf.bind {r : Res σ δ} {t : O α} {K1 : α → δ → σ → Prop} {k : δ → σ → Res σ δ'} {tk : α → O β} {K : β → δ' → σ → Prop} (h : Rf r t K1 KE) (hk : ∀ a d s, K1 a d s → Rf (k d s) (tk a) K KE) : Rf (r.bind k) (t.bind tk) K KE := by
  cases t with
  | ok a => obtain ⟨d, s, e, q⟩ := h; rw [e]; exact hk a d s q
  | exc c fs st => obtain ⟨s, e, q⟩ := h; rw [e]; exact ⟨s, rfl, q⟩
  | bad => exact ⟨trivial⟩
theorem Rf.imp {r : Res σ δ} {t : O α} {K K' : α → δ → σ → Prop} (h : Rf r t K KE) (i : ∀ a d s, K a d s → K' a d s) : Rf r t K' KE := by
  cases t with
  | ok a => obtain ⟨d, s, e, q⟩ := h; exact ⟨d, s, e, i _ _ _ q⟩
  | exc c fs st => exact ⟨h.h⟩
  | bad => exact ⟨trivial⟩
theorem Rf.ck {r : Res σ δ} {t : O α} {K : α → δ → σ → Prop} {c : Prop} [Decidable c] (h : c → Rf r t K KE) : Rf r (O.ck c t) K KE := by
  unfold O.ck
  split
  · next hc => exact h hc
  · exact ⟨trivial⟩
theorem Rf.opt {r : Res σ δ} {o : Option α} {tk : α → O β} {K : β → δ → σ → Prop} (h : ∀ a, o = some a → Rf r (tk a) K KE) : Rf r ((O.opt o).bind tk) K KE := by
  cases o with
  | none => exact ⟨trivial⟩
  | some a => exact h a rfl
end
/-! ### expressions that only look -/
/-- the value v, handed over -/
def V (fr : Fr) (e : Ev) (v : DV) : Prop := e fr = .ok (toD v) fr
/-- the value v, or the object of a slot that bears it -/
def L (fr : Fr) (e : Ev) (v : DV) : Prop := ∃ x, e fr = .ok x fr ∧ look fr x = some (toD v)
def VB (fr : Fr) (t : Bv) (b : Bool) : Prop := t fr = .ok b fr
def VA (fr : Fr) (g : Av) (vs : List DV) : Prop := g fr = .ok (toDs vs) fr
def VI {α : Type} (fr : Fr) (h : Iv) (l : List α) (e : α → DV) (fr' : Fr) : Prop := h fr = .ok (l.map fun a => toD (e a)) fr'
section
variable {fr : Fr} {e f g : Ev} {v w z : DV} {t u : Bv} {a b : Bool}
theorem V.l (h : V fr e v) : L fr e v := ⟨_, h, look_toD fr v⟩
theorem v_var {i : Nat} (h : fr[i]? = some (some (toD v))) : V fr (eVar i) v := by
  unfold V eVar
  rw [h]
theorem l_pl {i : Nat} (h : fr[i]? = some (some (toD v))) (c : isCell (toD v) = true) : L fr (ePl i) v := by
  refine ⟨.var i, ?_, ?_⟩
  · unfold ePl
    rw [h]
    dsimp only
    rw [if_pos c]
  · unfold look
    dsimp only
    rw [h]
    dsimp only
    rw [if_pos c]
theorem v_plB {i : Nat} (h : fr[i]? = some (some (.tup [toD v]))) : V fr (ePl i) v := by
  unfold V ePl
  rw [h]
  rfl
theorem v_fzB {i : Nat} (h : fr[i]? = some (some (.tup [toD v]))) : V fr (eFz i) v := by
  unfold V eFz
  rw [h]
  rfl
theorem v_c {d : D} (h : d = toD v) : V fr (eC d) v := by rw [h]; rfl
theorem v_cI {i : Int} : V fr (eC (.int i)) (.int i) := rfl
theorem v_cB {i : Bool} : V fr (eC (.bl i)) (.bl i) := rfl
theorem v_cS {i : Str} : V fr (eC (.str i)) (.str i) := rfl
theorem v_cN : V fr (eC .non) .non := rfl
/-- what an operation on values gives -/
def F1 (F : D → Option D) (v z : DV) : Prop := F (toD v) = some (toD z)
def F2 (F : D → D → Option D) (v w z : DV) : Prop := F (toD v) (toD w) = some (toD z)
theorem v_op1 {F : D → Option D} (hf : L fr f v) (h : F1 F v z) : V fr (eOp1 F f) z := by
  obtain ⟨x, h1, h2⟩ := hf
  unfold V eOp1
  rw [h1]
  show (match look fr x with | some a => ofO (F a) fr | _ => .bad) = _
  rw [h2]
  show ofO (F (toD v)) fr = _
  rw [h]
  rfl
theorem v_op2 {F : D → D → Option D} (hf : L fr f v) (hg : L fr g w) (h : F2 F v w z) : V fr (eOp2 F f g) z := by
  obtain ⟨x, h1, h2⟩ := hf
  obtain ⟨y, h3, h4⟩ := hg
  unfold V eOp2
  rw [h1]
  show ((g fr).bind fun y fr2 => match look fr2 x, look fr2 y with | some a, some b => ofO (F a b) fr2 | _, _ => .bad) = _
  rw [h3]
  show (match look fr x, look fr y with | some a, some b => ofO (F a b) fr | _, _ => .bad) = _
  rw [h2, h4]
  show ofO (F (toD v) (toD w)) fr = _
  rw [h]
  rfl
/-! tests -/
theorem vb_E (h : V fr e (.bl a)) : VB fr (bE e) a := by
  unfold VB bE
  rw [h]
  rfl
theorem vb_and (h : VB fr t a) (k : VB fr u b) : VB fr (bAnd t u) (a && b) := by
  unfold VB bAnd
  rw [h]
  cases a
  · rfl
  · exact k
theorem vb_or (h : VB fr t a) (k : VB fr u b) : VB fr (bOr t u) (a || b) := by
  unfold VB bOr
  rw [h]
  cases a
  · exact k
  · rfl
theorem vb_not (h : VB fr t a) : VB fr (bNot t) (!a) := by
  unfold VB bNot
  rw [h]
  rfl
theorem vb_yes : VB fr bYes true := rfl
theorem vb_tru (h : L fr e v) (k : truB (toD v) = some a) : VB fr (bTru e) a := by
  obtain ⟨x, h1, h2⟩ := h
  unfold VB bTru
  rw [h1]
  show (match look fr x with | some a => (match truB a with | some b => Res.ok b fr | none => Res.bad) | none => Res.bad) = _
  rw [h2]
  show (match truB (toD v) with | some b => Res.ok b fr | none => Res.bad) = _
  rw [k]
theorem v_and (h : V fr f (.bl a)) (k : V fr g (.bl b)) : V fr (eAnd f g) (.bl (a && b)) := by
  unfold V eAnd
  rw [h]
  cases a
  · rfl
  · exact k
theorem v_or (h : V fr f (.bl a)) (k : V fr g (.bl b)) : V fr (eOr f g) (.bl (a || b)) := by
  unfold V eOr
  rw [h]
  cases a
  · exact k
  · rfl
theorem v_not (h : V fr f (.bl a)) : V fr (eNot f) (.bl (!a)) := by
  unfold V eNot
  rw [h]
  rfl
theorem v_if (h : VB fr t a) (k : V fr f v) (m : V fr g w) : V fr (eIf t f g) (if a = true then v else w) := by
  unfold V eIf
  rw [h]
  cases a
  · exact m
  · exact k
theorem v_chain {F F' : D → D → Option D} {h : Ev} {y : DV} (hf : L fr f v) (hg : L fr g w) (hh : L fr h y) (h1 : F2 F v w (.bl a)) (h2 : F2 F' w y (.bl b)) : V fr (eChain F F' f g h) (.bl (a && b)) := by
  obtain ⟨x1, p1, q1⟩ := hf
  obtain ⟨x2, p2, q2⟩ := hg
  obtain ⟨x3, p3, q3⟩ := hh
  unfold V eChain
  rw [p1, Res.bind, p2, Res.bind, q1, q2]
  show (match F (toD v) (toD w) with
    | some (.bl true) => (h fr).bind fun z fr3 => match look fr3 x2, look fr3 z with
      | some b', some c => ofO (F' b' c) fr3
      | _, _ => .bad
    | some (.bl false) => .ok (.bl false) fr
    | _ => .bad) = _
  rw [show F (toD v) (toD w) = some (.bl a) from h1]
  cases a
  · rfl
  · show ((h fr).bind fun z fr3 => match look fr3 x2, look fr3 z with
      | some b', some c => ofO (F' b' c) fr3
      | _, _ => .bad) = _
    rw [p3, Res.bind, q2, q3]
    show ofO (F' (toD w) (toD y)) fr = _
    rw [h2]
    rfl
/-! displays -/
theorem va_nil : VA fr aNil [] := rfl
theorem va_cons {g : Av} {vs : List DV} (h : V fr e v) (k : VA fr g vs) : VA fr (aCons e g) (v :: vs) := by
  unfold VA aCons
  rw [h, Res.bind, k]
  rfl
theorem v_tup {g : Av} {vs : List DV} (h : VA fr g vs) (hl : Nat.ble vs.length 64 = true) : V fr (eTup g) (.tup vs) := by
  unfold V eTup
  rw [h, Res.bind, if_pos ⟨by rw [toDs_length]; exact Nat.le_trans (Nat.le_of_ble_eq_true hl) (by decide), all_pers_toDs vs⟩]
  rfl
theorem v_lst {g : Av} {vs : List DV} (h : VA fr g vs) (hl : Nat.ble vs.length 64 = true) : V fr (eLst g) (.lst vs) := by
  unfold V eLst
  rw [h, Res.bind, if_pos ⟨by rw [toDs_length]; exact Nat.le_trans (Nat.le_of_ble_eq_true hl) (by decide), all_pers_toDs vs⟩]
  rfl
end
end KT
namespace KT
open PySem KS
/-! ### forms -/
abbrev eI : Int → DV := .int
abbrev eB : Bool → DV := .bl
abbrev eS : Str → DV := .str
abbrev eU : Unit → DV := fun _ => .non
abbrev eY : DV → DV := fun v => v
abbrev eSc : List Int → DV := .scr
abbrev eL {α : Type} (e : α → DV) : List α → DV := fun l => .lst (l.map e)
abbrev eT {α : Type} (e : α → DV) : List α → DV := fun l => .tup (l.map e)
abbrev eP2 {α β : Type} (e : α → DV) (f : β → DV) : α × β → DV := fun p => .tup [e p.1, f p.2]
abbrev eP3 {α β γ : Type} (e : α → DV) (f : β → DV) (g : γ → DV) : α × β × γ → DV := fun p => .tup [e p.1, f p.2.1, g p.2.2]
abbrev eP4 {α β γ δ : Type} (e : α → DV) (f : β → DV) (g : γ → DV) (h : δ → DV) : α × β × γ × δ → DV := fun p => .tup [e p.1, f p.2.1, g p.2.2.1, h p.2.2.2]
def eO {α : Type} (e : α → DV) : Option α → DV
  | none => .non
  | some a => e a
/-! ### arithmetic -/
def mulC (i j : Int) : Prop := (-18446744073709551616 < i ∧ i < 18446744073709551616) ∨ (-18446744073709551616 < j ∧ j < 18446744073709551616)
instance (i j : Int) : Decidable (mulC i j) := by unfold mulC; infer_instance
def divC (j : Int) : Prop := 0 < j ∧ j < 1073741824
instance (j : Int) : Decidable (divC j) := by unfold divC; infer_instance
def powC (i j : Int) : Prop := 0 ≤ j ∧ j ≤ 1000000 ∧ i.natAbs < 2 ^ 64
instance (i j : Int) : Decidable (powC i j) := by unfold powC; infer_instance
theorem f_add {i j : Int} : F2 addF (.int i) (.int j) (.int (i + j)) := rfl
theorem f_sub {i j : Int} : F2 subF (.int i) (.int j) (.int (i - j)) := rfl
theorem f_mul {i j : Int} (h : mulC i j) : F2 mulF (.int i) (.int j) (.int (i * j)) := if_pos h
theorem mul_r {i j : Int} (h : decide (-18446744073709551616 < j ∧ j < 18446744073709551616) = true) : mulC i j := .inr (of_decide_eq_true h)
theorem mul_l {i j : Int} (h : decide (-18446744073709551616 < i ∧ i < 18446744073709551616) = true) : mulC i j := .inl (of_decide_eq_true h)
theorem f_div {i j : Int} (h : divC j) : F2 fdivF (.int i) (.int j) (.int (i / j)) := if_pos h
theorem f_mod {i j : Int} (h : 0 < j) : F2 modF (.int i) (.int j) (.int (i % j)) := if_pos h
theorem f_pow {i j : Int} (h : powC i j) : F2 powF (.int i) (.int j) (.int (i ^ j.toNat)) := if_pos h
theorem f_neg {i : Int} : F1 negF (.int i) (.int (-i)) := rfl
theorem f_abs {i : Int} : F1 absF (.int i) (.int (if i < 0 then -i else i)) := rfl
theorem f_int {i : Int} : F1 intF (.int i) (.int i) := rfl
theorem f_intB {b : Bool} : F1 intF (.bl b) (.int (if b = true then 1 else 0)) := rfl
theorem f_min2 {i j : Int} : F2 min2F (.int i) (.int j) (.int (if j < i then j else i)) := rfl
theorem f_max2 {i j : Int} : F2 max2F (.int i) (.int j) (.int (if j > i then j else i)) := rfl
theorem f_lt {i j : Int} : F2 ltF (.int i) (.int j) (.bl (decide (i < j))) := rfl
theorem f_le {i j : Int} : F2 leA (.int i) (.int j) (.bl (decide (i ≤ j))) := rfl
theorem f_gt {i j : Int} : F2 gtF (.int i) (.int j) (.bl (decide (j < i))) := rfl
theorem f_ge {i j : Int} : F2 geF (.int i) (.int j) (.bl (decide (j ≤ i))) := rfl
theorem f_isN {v : DV} : F2 isNF v .non (.bl (isNon (toD v))) := rfl
theorem f_isNn {v : DV} : F2 notNF v .non (.bl (!isNon (toD v))) := rfl
theorem f_isNO {α : Type} {e : α → DV} {o : Option α} (h : ∀ a, isNon (toD (e a)) = false) : F2 isNF (eO e o) .non (.bl o.isNone) := by
  cases o with
  | none => rfl
  | some a => show some (D.bl (isNon (toD (e a)))) = _; rw [h]; rfl
theorem f_isNnO {α : Type} {e : α → DV} {o : Option α} (h : ∀ a, isNon (toD (e a)) = false) : F2 notNF (eO e o) .non (.bl o.isSome) := by
  cases o with
  | none => rfl
  | some a => show some (D.bl (!isNon (toD (e a)))) = _; rw [h]; rfl
/-! ### data: == and in -/
structure Dat {α : Type} [DecidableEq α] (e : α → DV) (n : Nat) where
  p : α → PyData
  py : ∀ a, pyOf (toD (e a)) = some (p a)
  cl : ∀ a, (p a).canLay0 = true
  dp : ∀ a, (p a).depth ≤ n
  eq : ∀ a b, PyData.eqv (p a) (p b) = decide (a = b)
def dat_I : Dat eI 0 := ⟨.int, fun _ => rfl, fun _ => by simp only [PyData.canLay0], fun _ => by simp only [PyData.depth]; exact Nat.le_refl 0, fun a b => by simp only [PyData.eqv]; rw [Bool.eq_iff_iff]; simp⟩
def dat_B : Dat eB 0 := ⟨.bool, fun _ => rfl, fun _ => by simp only [PyData.canLay0], fun _ => by simp only [PyData.depth]; exact Nat.le_refl 0, fun a b => by simp only [PyData.eqv]; rw [Bool.eq_iff_iff]; simp⟩
section
variable {α β : Type} [DecidableEq α] [DecidableEq β] {e : α → DV} {f : β → DV} {n m : Nat}
theorem pyOfL_eq (A : Dat e n) : ∀ l : List α, pyOfL (toDs (l.map e)) = some (l.map A.p)
  | [] => rfl
  | a :: l => by
    show (match pyOf (toD (e a)), pyOfL (toDs (l.map e)) with | some p, some ps => some (p :: ps) | _, _ => none) = _
    rw [A.py, pyOfL_eq A l]
    rfl
theorem layL (A : Dat e n) : ∀ l : List α, PyData.canLayAll0 (l.map A.p) = true
  | [] => by simp [PyData.canLayAll0]
  | a :: l => by simp [PyData.canLayAll0, A.cl a, layL A l]
theorem depL (A : Dat e n) : ∀ l : List α, PyData.depthAll (l.map A.p) ≤ n
  | [] => by simp [PyData.depthAll]
  | a :: l => by
    have h1 := A.dp a
    have h2 := depL A l
    simp only [List.map_cons, PyData.depthAll]
    omega
theorem eqvL (A : Dat e n) : ∀ l k : List α, PyData.eqvAll (l.map A.p) (k.map A.p) = decide (l = k)
  | [], [] => by simp [PyData.eqvAll]
  | [], b :: k => by simp [PyData.eqvAll]
  | a :: l, [] => by simp [PyData.eqvAll]
  | a :: l, b :: k => by
    simp only [List.map_cons, PyData.eqvAll, A.eq, eqvL A l k]
    rw [Bool.eq_iff_iff]
    simp
def dat_L (A : Dat e n) : Dat (eL e) (n + 1) := ⟨fun l => .list (l.map A.p), fun l => by
    show (pyOfL (toDs (l.map e))).map PyData.list = _
    rw [pyOfL_eq A]; rfl, fun l => by simp only [PyData.canLay0]; exact layL A l, fun l => by simp only [PyData.depth]; exact Nat.succ_le_succ (depL A l), fun l k => by simp only [PyData.eqv]; exact eqvL A l k⟩
def dat_T (A : Dat e n) : Dat (eT e) (n + 1) := ⟨fun l => .tuple (l.map A.p), fun l => by
    show (pyOfL (toDs (l.map e))).map PyData.tuple = _
    rw [pyOfL_eq A]; rfl, fun l => by simp only [PyData.canLay0]; exact layL A l, fun l => by simp only [PyData.depth]; exact Nat.succ_le_succ (depL A l), fun l k => by simp only [PyData.eqv]; exact eqvL A l k⟩
def dat_P (A : Dat e n) (B : Dat f m) : Dat (eP2 e f) (max n m + 1) := ⟨fun p => .tuple [A.p p.1, B.p p.2], fun p => by
    show (match pyOf (toD (e p.1)), (match pyOf (toD (f p.2)), some ([] : List PyData) with | some p, some ps => some (p :: ps) | _, _ => none) with | some p, some ps => some (p :: ps) | _, _ => none).map PyData.tuple = _
    rw [A.py, B.py]; rfl, fun p => by simp [PyData.canLay0, PyData.canLayAll0, A.cl, B.cl], fun p => by
    have h1 := A.dp p.1
    have h2 := B.dp p.2
    simp only [PyData.depth, PyData.depthAll]
    omega, fun p q => by
    simp only [PyData.eqv, PyData.eqvAll, A.eq, B.eq]
    rw [Bool.eq_iff_iff]
    simp [Prod.ext_iff]⟩
theorem shp (A : Dat e n) (hn : n ≤ 64) (a : α) : SeqAt.shaped (A.p a) = true := by
  unfold SeqAt.shaped
  rw [Bool.and_eq_true]
  exact ⟨A.cl a, decide_eq_true (Nat.le_trans (A.dp a) hn)⟩
theorem scal_none {v w : D} (h : (∃ ds, v = .tup ds) ∨ (∃ ds, v = .lst ds)) : scalE v w = none := by
  rcases h with ⟨ds, rfl⟩ | ⟨ds, rfl⟩ <;> cases w <;> rfl
theorem eqB_of (A : Dat e n) (hn : n ≤ 64) (h : ∀ a b, scalE (toD (e a)) (toD (e b)) = none ∨ scalE (toD (e a)) (toD (e b)) = some (decide (a = b))) (a b : α) : eqB (toD (e a)) (toD (e b)) = some (decide (a = b)) := by
  unfold eqB
  rcases h a b with q | q
  · rw [q, A.py, A.py]
    show (if (SeqAt.shaped (A.p a) && SeqAt.shaped (A.p b)) = true then some (PyData.eqv (A.p a) (A.p b)) else none) = _
    rw [shp A hn, shp A hn, A.eq]
    rfl
  · rw [q]
/-- == of values of one form -/
def Eqb (e : α → DV) : Prop := ∀ a b, eqB (toD (e a)) (toD (e b)) = some (decide (a = b))
theorem eqb_I : Eqb eI := fun _ _ => rfl
theorem eqb_B : Eqb eB := fun _ _ => rfl
theorem eqb_S : Eqb eS := fun _ _ => rfl
theorem eqb_L (A : Dat e n) (hn : n + 1 ≤ 64) : Eqb (eL e) := eqB_of (dat_L A) hn fun a b => .inl (scal_none (.inr ⟨_, rfl⟩))
theorem eqb_T (A : Dat e n) (hn : n + 1 ≤ 64) : Eqb (eT e) := eqB_of (dat_T A) hn fun a b => .inl (scal_none (.inl ⟨_, rfl⟩))
theorem eqb_P (A : Dat e n) (B : Dat f m) (hn : max n m + 1 ≤ 64) : Eqb (eP2 e f) := eqB_of (dat_P A B) hn fun a b => .inl (scal_none (.inl ⟨_, rfl⟩))
theorem f_eq (h : Eqb e) {a b : α} : F2 eqF (e a) (e b) (.bl (decide (a = b))) := by
  unfold F2 eqF
  rw [h]
  rfl
theorem f_ne (h : Eqb e) {a b : α} : F2 neF (e a) (e b) (.bl (!decide (a = b))) := by
  unfold F2 neF
  rw [h]
  rfl
/-- == of any values: what is told -/
def eqY (v w : DV) : Option Bool := eqB (toD v) (toD w)
theorem f_eqY {v w : DV} {k : Bool} (h : eqY v w = some k) : F2 eqF v w (.bl k) := by
  unfold F2 eqF
  rw [show eqB (toD v) (toD w) = some k from h]
  rfl
theorem f_neY {v w : DV} {k : Bool} (h : eqY v w = some k) : F2 neF v w (.bl (!k)) := by
  unfold F2 neF
  rw [show eqB (toD v) (toD w) = some k from h]
  rfl
/-- membership, as == tells -/
def memT {α : Type} [DecidableEq α] (a : α) (l : List α) : Bool := l.any fun b => decide (b = a)
theorem memT_iff {α : Type} [DecidableEq α] {a : α} {l : List α} : memT a l = true ↔ a ∈ l := by
  unfold memT
  rw [List.any_eq_true]
  constructor
  · rintro ⟨b, h, e⟩
    rw [← of_decide_eq_true e]; exact h
  · intro h
    exact ⟨a, h, decide_eq_true rfl⟩
theorem any_eq (A : Dat e n) (a : α) : ∀ l : List α, ((l.map A.p).any fun z => PyData.eqv z (A.p a)) = memT a l
  | [] => rfl
  | b :: l => by
    rw [List.map_cons, List.any_cons, any_eq A a l, A.eq]; rfl
theorem inB_L (A : Dat e n) (hn : n + 1 ≤ 64) (a : α) (l : List α) : inB (toD (e a)) (toD (eL e l)) = some (memT a l) := by
  unfold inB
  rw [A.py, (dat_L A).py]
  show (if (SeqAt.shaped (A.p a) && SeqAt.shaped ((dat_L A).p l)) = true then some ((l.map A.p).any fun z => PyData.eqv z (A.p a)) else none) = _
  rw [shp A (by omega), shp (dat_L A) hn, any_eq A]
  rfl
theorem inA_L (A : Dat e n) (hn : n + 1 ≤ 64) {a : α} {l : List α} : inA (toD (e a)) (toD (eL e l)) = some (.bl (memT a l)) := by
  unfold inA orF inF
  rw [inB_L A hn]
  rfl
theorem f_in (A : Dat e n) (hn : n + 1 ≤ 64) {a : α} {l : List α} : F2 inA2 (e a) (eL e l) (.bl (memT a l)) := by
  unfold F2 inA2 orF
  rw [inA_L A hn]
  rfl
theorem f_nin (A : Dat e n) (hn : n + 1 ≤ 64) {a : α} {l : List α} : F2 notInA2 (e a) (eL e l) (.bl (!memT a l)) := by
  unfold F2 notInA2 orF notInF
  rw [inB_L A hn]
  rfl
theorem inTB_T (A : Dat e n) (hn : n + 1 ≤ 64) (a : α) (l : List α) : inTB (toD (e a)) (toD (eT e l)) = some (memT a l) := by
  unfold inTB
  rw [A.py, (dat_T A).py]
  show (if (SeqAt.shaped (A.p a) && SeqAt.shaped ((dat_T A).p l)) = true then some ((l.map A.p).any fun z => PyData.eqv z (A.p a)) else none) = _
  rw [shp A (by omega), shp (dat_T A) hn, any_eq A]
  rfl
theorem inB_T (A : Dat e n) (a : α) (l : List α) : inB (toD (e a)) (toD (eT e l)) = none := by
  unfold inB
  rw [A.py, (dat_T A).py]
  rfl
theorem f_inT (A : Dat e n) (hn : n + 1 ≤ 64) {a : α} {l : List α} : F2 inA2 (e a) (eT e l) (.bl (memT a l)) := by
  have h1 : inA (toD (e a)) (toD (eT e l)) = none := by
    unfold inA orF inF
    rw [inB_T A]
    show inSF (toD (e a)) (.tup _) = none
    cases toD (e a) <;> rfl
  unfold F2 inA2 orF
  rw [h1]
  show inTF _ _ = _
  unfold inTF
  rw [inTB_T A hn]
  rfl
theorem f_ninT (A : Dat e n) (hn : n + 1 ≤ 64) {a : α} {l : List α} : F2 notInA2 (e a) (eT e l) (.bl (!memT a l)) := by
  unfold F2 notInA2 orF notInF
  rw [inB_T A]
  show notInTF _ _ = _
  unfold notInTF
  rw [inTB_T A hn]
  rfl
end
/-! ### sequences -/
section
variable {α β : Type} {e : α → DV} {f : β → DV}
theorem atI_m (g : α → D) (l : List α) (i : Int) : L2.atI (l.map g) i = (L2.atI l i).map g := atI_map g
theorem toDs_m (l : List α) : toDs (l.map e) = l.map fun a => toD (e a) := toDs_map e l
theorem f_ixL {l : List α} {i : Int} {a : α} (h : L2.atI l i = some a) : F2 ixF (eL e l) (.int i) (e a) := by
  show L2.atI (toDs (l.map e)) i = _
  rw [toDs_m, atI_m, h]; rfl
theorem f_ixT {l : List α} {i : Int} {a : α} (h : L2.atI l i = some a) : F2 ixF (eT e l) (.int i) (e a) := by
  show L2.atI (toDs (l.map e)) i = _
  rw [toDs_m, atI_m, h]; rfl
theorem f_ixS {l : List Int} {i a : Int} (h : L2.atI l i = some a) : F2 ixF (.scr l) (.int i) (.int a) := by
  show (L2.atI l i).map D.int = _
  rw [h]; rfl
theorem f_ixP {vs : List DV} {i : Int} {v : DV} (h : L2.atI vs i = some v) : F2 ixF (.tup vs) (.int i) v := by
  show L2.atI (toDs vs) i = _
  rw [toDs_eq, atI_m, h]; rfl
theorem f_lenL {l : List α} : F1 lenF (eL e l) (.int l.length) := by
  show some (D.int (toDs (l.map e)).length) = _
  rw [toDs_length, List.length_map]; rfl
theorem f_lenT {l : List α} : F1 lenF (eT e l) (.int l.length) := by
  show some (D.int (toDs (l.map e)).length) = _
  rw [toDs_length, List.length_map]; rfl
theorem f_lenS {l : List Int} : F1 lenF (.scr l) (.int l.length) := rfl
theorem f_lenX {x : Str} (h : x.length ≤ 16777216) : F1 lenF (.str x) (.int x.length) := by
  show (if x.length ≤ sizeLine then some (D.int x.length) else none) = _
  rw [if_pos (Nat.le_trans h (by decide))]; rfl
def catC {α : Type} (a b : List α) : Prop := a.length + b.length ≤ 16777216
instance (a b : List α) : Decidable (catC a b) := by unfold catC; infer_instance
theorem f_addT {a b : List α} (h : catC a b) : F2 addF (eT e a) (eT e b) (eT e (a ++ b)) := by
  show (if (toDs (a.map e)).length + (toDs (b.map e)).length ≤ sizeLine then some (D.tup (toDs (a.map e) ++ toDs (b.map e))) else none) = _
  rw [toDs_length, toDs_length, List.length_map, List.length_map, if_pos (Nat.le_trans h (by decide)), ← toDs_append, ← List.map_append]; rfl
theorem f_addL {a b : List α} (h : catC a b) : F2 addF (eL e a) (eL e b) (eL e (a ++ b)) := by
  show (if (toDs (a.map e)).length + (toDs (b.map e)).length ≤ sizeLine then some (D.lst (toDs (a.map e) ++ toDs (b.map e))) else none) = _
  rw [toDs_length, toDs_length, List.length_map, List.length_map, if_pos (Nat.le_trans h (by decide)), ← toDs_append, ← List.map_append]; rfl
theorem f_catL {a b : List α} (h : catC a b) : F2 catF (eL e a) (eL e b) (eL e (a ++ b)) := by
  show (if (toDs (a.map e)).length + (toDs (b.map e)).length ≤ sizeLine then some (D.lst (toDs (a.map e) ++ toDs (b.map e))) else none) = _
  rw [toDs_length, toDs_length, List.length_map, List.length_map, if_pos (Nat.le_trans h (by decide)), ← toDs_append, ← List.map_append]; rfl
theorem f_addS {a b : Str} (h : a.length + b.length ≤ 16777216) : F2 addF (.str a) (.str b) (.str (a ++ b)) := by
  show (if a.length + b.length ≤ sizeLine then some (D.str (a ++ b)) else none) = _
  rw [if_pos (Nat.le_trans h (by decide))]; rfl
theorem f_tupL {l : List α} : F1 tupF (eL e l) (eT e l) := rfl
theorem f_tupT {l : List α} : F1 tupF (eT e l) (eT e l) := rfl
theorem f_lstL {l : List α} : F1 lstF (eL e l) (eL e l) := rfl
theorem f_lstT {l : List α} : F1 lstF (eT e l) (eL e l) := rfl
theorem bls_m : ∀ l : List Bool, blsOf (toDs (l.map eB)) = some l
  | [] => rfl
  | b :: l => by
    show (blsOf (toDs (l.map eB))).map (b :: ·) = _
    rw [bls_m l]; rfl
theorem ints_m : ∀ l : List Int, intsOf (toDs (l.map eI)) = some l
  | [] => rfl
  | b :: l => by
    show (intsOf (toDs (l.map eI))).map (b :: ·) = _
    rw [ints_m l]; rfl
theorem f_all {l : List Bool} : F1 allF (eL eB l) (.bl (l.all id)) := by
  show (blsOf (toDs (l.map eB))).map (fun bs => D.bl (bs.all id)) = _
  rw [bls_m]; rfl
theorem f_any {l : List Bool} : F1 anyF (eL eB l) (.bl (l.any id)) := by
  show (blsOf (toDs (l.map eB))).map (fun bs => D.bl (bs.any id)) = _
  rw [bls_m]; rfl
theorem f_sum {l : List Int} : F1 sumF (eL eI l) (.int l.sum) := by
  show (intsOf (toDs (l.map eI))).map (fun bs => D.int bs.sum) = _
  rw [ints_m]; rfl
theorem tru_I {i : Int} : truB (toD (.int i)) = some (i != 0) := rfl
theorem tru_B {b : Bool} : truB (toD (.bl b)) = some b := rfl
theorem tru_L {l : List α} : truB (toD (eL e l)) = some (!l.isEmpty) := by
  show some (!(toDs (l.map e)).isEmpty) = _
  cases l <;> rfl
theorem tru_T {l : List α} : truB (toD (eT e l)) = some (!l.isEmpty) := by
  show some (!(toDs (l.map e)).isEmpty) = _
  cases l <;> rfl
/-- a cut -/
def cutT {α : Type} (l : List α) (lo hi : Option Int) : List α := cutD l lo hi
theorem cut_m (g : α → D) (l : List α) (lo hi : Option Int) : cutD (l.map g) lo hi = (cutD l lo hi).map g := by
  unfold cutD
  rw [List.length_map, List.map_take, List.map_drop]
abbrev VO (fr : Fr) (o : Ov) (i : Option Int) : Prop := o fr = .ok i fr
theorem vo_none {fr : Fr} : VO fr oNone none := rfl
theorem vo_some {fr : Fr} {g : Ev} {i : Int} (h : L fr g (.int i)) : VO fr (oSome g) (some i) := by
  obtain ⟨x, h1, h2⟩ := h
  unfold VO oSome
  rw [h1]
  show (match look fr x with | some (.int i) => Res.ok (some i) fr | _ => Res.bad) = _
  rw [h2]
  rfl
theorem v_slLF {fr : Fr} {g : Ev} {l : List α} {lo hi : Ov} {a b : Option Int} (h : L fr g (eL e l)) (h1 : VO fr lo a) (h2 : VO fr hi b) : V fr (eSlF g lo hi) (eL e (cutT l a b)) := by
  obtain ⟨x, p, q⟩ := h
  unfold V eSlF
  rw [p, Res.bind, h1, Res.bind, h2, Res.bind, q]
  show ofO (some (D.lst (cutD (toDs (l.map e)) a b))) fr = _
  rw [toDs_m, cut_m, ← toDs_m]; rfl
theorem v_slL {fr : Fr} {g : Ev} {l : List α} {lo hi : Ov} {a b : Option Int} (h : L fr g (eL e l)) (h1 : VO fr lo a) (h2 : VO fr hi b) : V fr (eSl g lo hi) (eL e (cutT l a b)) := by
  obtain ⟨x, p, q⟩ := h
  unfold V eSl
  rw [p, Res.bind, h1, Res.bind, h2, Res.bind, q]
  show ofO (some (D.lst (cutD (toDs (l.map e)) a b))) fr = _
  rw [toDs_m, cut_m, ← toDs_m]; rfl
theorem v_slT {fr : Fr} {g : Ev} {l : List α} {lo hi : Ov} {a b : Option Int} (h : L fr g (eT e l)) (h1 : VO fr lo a) (h2 : VO fr hi b) : V fr (eSl g lo hi) (eT e (cutT l a b)) := by
  obtain ⟨x, p, q⟩ := h
  unfold V eSl
  rw [p, Res.bind, h1, Res.bind, h2, Res.bind, q]
  show ofO (some (D.tup (cutD (toDs (l.map e)) a b))) fr = _
  rw [toDs_m, cut_m, ← toDs_m]; rfl
/-! iterables -/
theorem vi_L {fr : Fr} {g : Ev} {l : List α} (h : V fr g (eL e l)) : VI fr (iVal g) l e fr := by
  unfold VI iVal
  rw [h, Res.bind, if_pos (pers_toD _)]
  show Res.ok (toDs (l.map e)) fr = _
  rw [toDs_m]
theorem vi_T {fr : Fr} {g : Ev} {l : List α} (h : V fr g (eT e l)) : VI fr (iVal g) l e fr := by
  unfold VI iVal
  rw [h, Res.bind, if_pos (pers_toD _)]
  show Res.ok (toDs (l.map e)) fr = _
  rw [toDs_m]
theorem vi_S {fr : Fr} {g : Ev} {l : List Int} (h : V fr g (.scr l)) : VI fr (iVal g) l eI fr := by
  unfold VI iVal
  rw [h]
  rfl
/-- a tuple that is written, of one form -/
theorem vi_P {fr : Fr} {g : Ev} {vs : List DV} (l : List α) (h : V fr g (.tup vs)) (hl : vs = l.map e) : VI fr (iVal g) l e fr := vi_T (by show V fr g (.tup (l.map e)); rw [← hl]; exact h)
theorem vi_kill {fr : Fr} {h : Iv} {l : List α} {js : List Bool} {fr' : Fr} (q : VI fr h l e fr') : VI fr (iK js h) l e (killF fr' js) := by
  unfold VI iK
  rw [q]
  rfl
def rngT (i : Int) (n : Int) : List Int := (List.range (n - i).toNat).map fun (k : Nat) => i + (k : Int)
def okR (j : Int) : Prop := -4611686018427387904 ≤ j ∧ j < 4611686018427387904
instance (j : Int) : Decidable (okR j) := by unfold okR; infer_instance
theorem okI_of {j : Int} (h : okR j) : okI j = true := decide_eq_true h
theorem rangeD_eq (i : Int) (n : Int) : rangeD i (n - i).toNat = (rngT i n).map fun a => toD (eI a) := by
  unfold rangeD rngT
  rw [List.map_map]; rfl
theorem vi_rg1 {fr : Fr} {g : Ev} {n : Int} (h : L fr g (.int n)) (c : okR n) : VI fr (iRg1 g) (rngT 0 n) eI fr := by
  obtain ⟨x, p, q⟩ := h
  unfold VI iRg1
  rw [p, Res.bind, q, ← rangeD_eq]
  show (if okI n = true then Res.ok (rangeD 0 n.toNat) fr else Res.bad) = _
  rw [if_pos (okI_of c), Int.sub_zero]
theorem vi_rg2 {fr : Fr} {g h : Ev} {i n : Int} (hg : L fr g (.int i)) (hh : L fr h (.int n)) (c1 : okR i) (c2 : okR n) : VI fr (iRg2 g h) (rngT i n) eI fr := by
  obtain ⟨x, p, q⟩ := hg
  obtain ⟨y, p2, q2⟩ := hh
  unfold VI iRg2
  rw [p, Res.bind, p2, Res.bind, q, q2, ← rangeD_eq]
  show (if okI i = true then (if okI n = true then Res.ok (rangeD i (n - i).toNat) fr else Res.bad) else Res.bad) = _
  rw [if_pos (okI_of c1), if_pos (okI_of c2)]
def enumT {α : Type} (l : List α) : List (Int × α) := l.zipIdx.map fun p => ((p.2 : Int), p.1)
theorem iota_eq (l : List α) : iotaD (l.map fun a => toD (e a)) = (enumT l).map fun p => toD (eP2 eI e p) := by
  unfold iotaD enumT
  rw [List.zipIdx_map, List.map_map, List.map_map]; rfl
theorem vi_enL {fr : Fr} {g : Ev} {l : List α} (h : V fr g (eL e l)) : VI fr (iEn g) (enumT l) (eP2 eI e) fr := by
  unfold VI iEn
  rw [h, Res.bind, if_pos (pers_toD _)]
  show Res.ok (iotaD (toDs (l.map e))) fr = _
  rw [toDs_m, iota_eq]
theorem vi_enT {fr : Fr} {g : Ev} {l : List α} (h : V fr g (eT e l)) : VI fr (iEn g) (enumT l) (eP2 eI e) fr := by
  unfold VI iEn
  rw [h, Res.bind, if_pos (pers_toD _)]
  show Res.ok (iotaD (toDs (l.map e))) fr = _
  rw [toDs_m, iota_eq]
theorem zip_eq (l : List α) (k : List β) : zipD (l.map fun a => toD (e a)) (k.map fun a => toD (f a)) = (l.zip k).map fun p => toD (eP2 e f p) := by
  unfold zipD
  rw [List.zip_map, List.map_map]; rfl
end
end KT
namespace KT
open PySem KS
section
variable {β δ : Type} {K : β → δ → Fr → Prop} {KE : List DV → Fr → Prop} {fr fr1 : Fr} {t : O β}
/-! ### expressions that do something, in the order of their parts -/
variable {e f g : Ev} {k : D → Fr → Res Fr δ} {v w z : DV}
theorem x_v (h : V fr e v) (q : Rf (k (toD v) fr) t K KE) : Rf ((e fr).bind k) t K KE := by rw [h]; exact q
theorem x_l (h : L fr e v) (q : ∀ x, look fr x = some (toD v) → Rf (k x fr) t K KE) : Rf ((e fr).bind k) t K KE := by
  obtain ⟨x, h1, h2⟩ := h
  rw [h1]; exact q x h2
def kOp1 (F : D → Option D) (k : D → Fr → Res Fr δ) : D → Fr → Res Fr δ := fun x fr1 => (match look fr1 x with
  | some a => ofO (F a) fr1
  | _ => .bad).bind k
theorem x_op1 {F : D → Option D} (q : Rf ((f fr).bind (kOp1 F k)) t K KE) : Rf ((eOp1 F f fr).bind k) t K KE := by
  unfold eOp1
  cases h : f fr with
  | ok x fr1 => rw [h] at q; exact q
  | exc c fs fr1 => rw [h] at q; exact q
  | bad => rw [h] at q; exact q
theorem k_op1 {F : D → Option D} (h : F1 F v z) (q : Rf (k (toD z) fr) t K KE) : Rf (kOp1 F k (toD v) fr) t K KE := by
  unfold kOp1
  rw [look_toD]
  show Rf ((ofO (F (toD v)) fr).bind k) t K KE
  rw [h]; exact q
def kOp2b (F : D → D → Option D) (x : D) (k : D → Fr → Res Fr δ) : D → Fr → Res Fr δ := fun y fr2 => (match look fr2 x, look fr2 y with
  | some a, some b => ofO (F a b) fr2
  | _, _ => .bad).bind k
def kOp2a (F : D → D → Option D) (g : Ev) (k : D → Fr → Res Fr δ) : D → Fr → Res Fr δ := fun x fr1 => (g fr1).bind (kOp2b F x k)
theorem x_op2 {F : D → D → Option D} (q : Rf ((f fr).bind (kOp2a F g k)) t K KE) : Rf ((eOp2 F f g fr).bind k) t K KE := by
  unfold eOp2
  cases h : f fr with
  | ok x fr1 =>
    rw [h] at q
    have q : Rf ((g fr1).bind (kOp2b F x k)) t K KE := q
    show Rf (((g fr1).bind fun y fr2 => match look fr2 x, look fr2 y with | some a, some b => ofO (F a b) fr2 | _, _ => .bad).bind k) t K KE
    cases h2 : g fr1 with
    | ok y fr2 => rw [h2] at q; exact q
    | exc c fs fr1 => rw [h2] at q; exact q
    | bad => rw [h2] at q; exact q
  | exc c fs fr1 => rw [h] at q; exact q
  | bad => rw [h] at q; exact q
theorem k_op2b {F : D → D → Option D} {x : D} (hx : look fr x = some (toD v)) (h : F2 F v w z) (q : Rf (k (toD z) fr) t K KE) : Rf (kOp2b F x k (toD w) fr) t K KE := by
  unfold kOp2b
  rw [hx, look_toD]
  show Rf ((ofO (F (toD v) (toD w)) fr).bind k) t K KE
  rw [h]; exact q
theorem k_op2bl {F : D → D → Option D} {x y : D} (hx : look fr x = some (toD v)) (hy : look fr y = some (toD w)) (h : F2 F v w z) (q : Rf (k (toD z) fr) t K KE) : Rf (kOp2b F x k y fr) t K KE := by
  unfold kOp2b
  rw [hx, hy]
  show Rf ((ofO (F (toD v) (toD w)) fr).bind k) t K KE
  rw [h]; exact q
/-- left value, right a doing -/
theorem x_op2r {F : D → D → Option D} (h : V fr f v) (q : Rf ((g fr).bind (kOp2b F (toD v) k)) t K KE) : Rf ((eOp2 F f g fr).bind k) t K KE := x_op2 (x_v h q)
/-- left a doing that ended, right looks only -/
theorem k_op2a {F : D → D → Option D} (hg : L fr g w) (h : F2 F v w z) (q : Rf (k (toD z) fr) t K KE) : Rf (kOp2a F g k (toD v) fr) t K KE := by
  unfold kOp2a
  obtain ⟨y, h1, h2⟩ := hg
  rw [h1]
  exact k_op2bl (look_toD _ _) h2 h q
/-! tests -/
variable {u u2 : Bv} {kb : Bool → Fr → Res Fr δ}
theorem x_vb {b : Bool} (h : VB fr u b) (q : Rf (kb b fr) t K KE) : Rf ((u fr).bind kb) t K KE := by rw [h]; exact q
def kE (kb : Bool → Fr → Res Fr δ) : D → Fr → Res Fr δ := fun d fr1 => (match d with
  | .bl b => Res.ok b fr1
  | _ => Res.bad).bind kb
theorem x_bE (q : Rf ((e fr).bind (kE kb)) t K KE) : Rf ((bE e fr).bind kb) t K KE := by
  unfold bE
  cases h : e fr with
  | ok x fr1 => rw [h] at q; exact q
  | exc c fs fr1 => rw [h] at q; exact q
  | bad => rw [h] at q; exact q
theorem k_E {b : Bool} (q : Rf (kb b fr) t K KE) : Rf (kE kb (toD (.bl b)) fr) t K KE := q
theorem x_not (q : Rf ((u fr).bind fun b fr1 => kb (!b) fr1) t K KE) : Rf ((bNot u fr).bind kb) t K KE := by
  unfold bNot
  cases h : u fr with
  | ok x fr1 => rw [h] at q; exact q
  | exc c fs fr1 => rw [h] at q; exact q
  | bad => rw [h] at q; exact q
/-- a test's end, joined -/
abbrev KB {σ : Type} (F : σ → Fr) : Bool × σ → Bool → Fr → Prop := fun p b fr => b = p.1 ∧ fr = F p.2
theorem x_tail {α : Type} {r : Res Fr α} {K : β → α → Fr → Prop} (q : Rf (r.bind fun d s => .ok d s) t K KE) : Rf r t K KE := by
  cases r with
  | ok x fr1 => exact q
  | exc c fs fr1 => exact q
  | bad => exact q
theorem x_and {σ : Type} {F : σ → Fr} {a : Bool} {s : σ} {tb : O (Bool × σ)} (h : VB fr u a) (hs : fr = F s) (q : a = true → Rf (u2 fr) tb (KB F) KE) : Rf (bAnd u u2 fr) (if a = true then tb else .ok (false, s)) (KB F) KE := by
  unfold bAnd
  rw [h]
  cases a
  · exact ⟨false, fr, rfl, rfl, hs⟩
  · exact q rfl
theorem x_or {σ : Type} {F : σ → Fr} {a : Bool} {s : σ} {tb : O (Bool × σ)} (h : VB fr u a) (hs : fr = F s) (q : a = false → Rf (u2 fr) tb (KB F) KE) : Rf (bOr u u2 fr) (if a = true then .ok (true, s) else tb) (KB F) KE := by
  unfold bOr
  rw [h]
  cases a
  · exact q rfl
  · exact ⟨true, fr, rfl, rfl, hs⟩
/-- .. both may do something -/
theorem x_and2 {σ : Type} {F : σ → Fr} {ta : O (Bool × σ)} {tb : σ → O (Bool × σ)} (h : Rf (u fr) ta (KB F) KE) (q : ∀ s, Rf (u2 (F s)) (tb s) (KB F) KE) : Rf (bAnd u u2 fr) (ta.bind fun p => if p.1 = true then tb p.2 else .ok (false, p.2)) (KB F) KE := by
  unfold bAnd
  refine Rf.bind h fun p b fr1 hp => ?_
  obtain ⟨rfl, rfl⟩ := hp
  obtain ⟨b, s⟩ := p
  cases b
  · exact ⟨false, _, rfl, rfl, rfl⟩
  · exact q s
theorem x_or2 {σ : Type} {F : σ → Fr} {ta : O (Bool × σ)} {tb : σ → O (Bool × σ)} (h : Rf (u fr) ta (KB F) KE) (q : ∀ s, Rf (u2 (F s)) (tb s) (KB F) KE) : Rf (bOr u u2 fr) (ta.bind fun p => if p.1 = true then .ok (true, p.2) else tb p.2) (KB F) KE := by
  unfold bOr
  refine Rf.bind h fun p b fr1 hp => ?_
  obtain ⟨rfl, rfl⟩ := hp
  obtain ⟨b, s⟩ := p
  cases b
  · exact q s
  · exact ⟨true, _, rfl, rfl, rfl⟩
theorem x_join {σ : Type} {F : σ → Fr} {tb : O (Bool × σ)} {tk : Bool × σ → O β} (h : Rf (u fr) tb (KB F) KE) (q : ∀ p, Rf (kb p.1 (F p.2)) (tk p) K KE) : Rf ((u fr).bind kb) (tb.bind tk) K KE :=
  Rf.bind h fun p b fr1 hp => by obtain ⟨rfl, rfl⟩ := hp; exact q p
theorem kb_ok {σ : Type} {F : σ → Fr} {b : Bool} {s : σ} (hs : fr = F s) : Rf (Res.ok (σ := Fr) b fr) (.ok (b, s)) (KB F) KE := ⟨b, fr, rfl, rfl, hs⟩
/-! values with a test -/
abbrev KV {α : Type} (e : α → DV) (F : α → Fr) : α → D → Fr → Prop := fun a d fr => d = toD (e a) ∧ fr = F a
theorem x_if {α : Type} {E : α → DV} {F : α → Fr} {b : Bool} {ta tb : O α} (h : VB fr u b) (p : Rf (f fr) ta (KV E F) KE) (q : Rf (g fr) tb (KV E F) KE) : Rf (eIf u f g fr) (if b = true then ta else tb) (KV E F) KE := by
  unfold eIf
  rw [h]
  cases b
  · exact q
  · exact p
theorem x_joinV {α : Type} {E : α → DV} {F : α → Fr} {ta : O α} {tk : α → O β} (h : Rf (e fr) ta (KV E F) KE) (q : ∀ a, Rf (k (toD (E a)) (F a)) (tk a) K KE) : Rf ((e fr).bind k) (ta.bind tk) K KE :=
  Rf.bind h fun p b fr1 hp => by obtain ⟨rfl, rfl⟩ := hp; exact q p
theorem kv_ok {α : Type} {E : α → DV} {F : α → Fr} {a : α} {v : DV} (hv : v = E a) (hs : fr = F a) : Rf (Res.ok (σ := Fr) (toD v) fr) (.ok a) (KV E F) KE := ⟨_, fr, rfl, by rw [hv], hs⟩
/-! arguments -/
def kA (es : Av) (ka : List D → Fr → Res Fr δ) : D → Fr → Res Fr δ := fun d fr1 => (es fr1).bind fun ds fr2 => ka (d :: ds) fr2
theorem x_cons {es : Av} {ka : List D → Fr → Res Fr δ} (q : Rf ((e fr).bind (kA es ka)) t K KE) : Rf ((aCons e es fr).bind ka) t K KE := by
  unfold aCons
  cases h : e fr with
  | ok x fr1 =>
    rw [h] at q
    have q : Rf ((es fr1).bind fun ds fr2 => ka (x :: ds) fr2) t K KE := q
    show Rf (((es fr1).bind fun ds fr2 => Res.ok (x :: ds) fr2).bind ka) t K KE
    cases h2 : es fr1 with
    | ok y fr2 => rw [h2] at q; exact q
    | exc c fs fr1 => rw [h2] at q; exact q
    | bad => rw [h2] at q; exact q
  | exc c fs fr1 => rw [h] at q; exact q
  | bad => rw [h] at q; exact q
theorem k_A {es : Av} {ka : List D → Fr → Res Fr δ} {d : D} (q : Rf ((es fr).bind fun ds fr2 => ka (d :: ds) fr2) t K KE) : Rf (kA es ka d fr) t K KE := q
theorem x_nil {ka : List D → Fr → Res Fr δ} (q : Rf (ka [] fr) t K KE) : Rf ((aNil fr).bind ka) t K KE := q
theorem x_va {es : Av} {vs : List DV} {ka : List D → Fr → Res Fr δ} (h : VA fr es vs) (q : Rf (ka (toDs vs) fr) t K KE) : Rf ((es fr).bind ka) t K KE := by rw [h]; exact q
def kTup (k : D → Fr → Res Fr δ) : List D → Fr → Res Fr δ := fun ds fr1 => if ds.length ≤ sizeLine ∧ ds.all pers = true then k (.tup ds) fr1 else .bad
theorem x_tup {es : Av} (q : Rf ((es fr).bind (kTup k)) t K KE) : Rf ((eTup es fr).bind k) t K KE := by
  unfold eTup
  cases h : es fr with
  | ok x fr1 =>
    rw [h] at q
    have q : Rf (if x.length ≤ sizeLine ∧ x.all pers = true then k (.tup x) fr1 else .bad) t K KE := q
    show Rf ((if x.length ≤ sizeLine ∧ x.all pers = true then Res.ok (D.tup x) fr1 else Res.bad).bind k) t K KE
    split
    · next c => rw [if_pos c] at q; exact q
    · next c => rw [if_neg c] at q; exact q
  | exc c fs fr1 => rw [h] at q; exact q
  | bad => rw [h] at q; exact q
theorem k_tup {vs : List DV} (hl : Nat.ble vs.length 64 = true) (q : Rf (k (toD (.tup vs)) fr) t K KE) : Rf (kTup k (toDs vs) fr) t K KE := by
  unfold kTup
  rw [if_pos ⟨by rw [toDs_length]; exact Nat.le_trans (Nat.le_of_ble_eq_true hl) (by decide), all_pers_toDs vs⟩]
  exact q
def kLst (k : D → Fr → Res Fr δ) : List D → Fr → Res Fr δ := fun ds fr1 => if ds.length ≤ sizeLine ∧ ds.all pers = true then k (.lst ds) fr1 else .bad
theorem x_lst {es : Av} (q : Rf ((es fr).bind (kLst k)) t K KE) : Rf ((eLst es fr).bind k) t K KE := by
  unfold eLst
  cases h : es fr with
  | ok x fr1 =>
    rw [h] at q
    have q : Rf (if x.length ≤ sizeLine ∧ x.all pers = true then k (.lst x) fr1 else .bad) t K KE := q
    show Rf ((if x.length ≤ sizeLine ∧ x.all pers = true then Res.ok (D.lst x) fr1 else Res.bad).bind k) t K KE
    split
    · next c => rw [if_pos c] at q; exact q
    · next c => rw [if_neg c] at q; exact q
  | exc c fs fr1 => rw [h] at q; exact q
  | bad => rw [h] at q; exact q
theorem k_lst {vs : List DV} (hl : Nat.ble vs.length 64 = true) (q : Rf (k (toD (.lst vs)) fr) t K KE) : Rf (kLst k (toDs vs) fr) t K KE := by
  unfold kLst
  rw [if_pos ⟨by rw [toDs_length]; exact Nat.le_trans (Nat.le_of_ble_eq_true hl) (by decide), all_pers_toDs vs⟩]
  exact q
/-! calls -/
def kCall (ms : List Bool) (F : Fn) (k : D → Fr → Res Fr δ) : List D → Fr → Res Fr δ := fun ds fr1 => (match argC fr1 ms ds with
  | none => Res.bad
  | some cs => if (ioV ms ds).Nodup then (match F cs with
    | .ok d outs => if outs.length = ms.length then .ok d (setP fr1 (ioP ms ds outs)) else .bad
    | .exc c fs outs => if outs.length = ms.length then .exc c fs (setP fr1 (ioP ms ds outs)) else .bad
    | .bad => .bad) else .bad).bind k
theorem x_call {ms : List Bool} {F : Fn} {es : Av} (q : Rf ((es fr).bind (kCall ms F k)) t K KE) : Rf ((eCall ms F es fr).bind k) t K KE := by
  unfold eCall
  cases h : es fr with
  | ok x fr1 => rw [h] at q; exact q
  | exc c fs fr1 => rw [h] at q; exact q
  | bad => rw [h] at q; exact q
/-- what a def does, told: its value, what the handed-in objects are then -/
abbrev KF {α : Type} (e : α → DV) (n : Nat) (os : α → List (Nat × DV)) : α → D → List D → Prop := fun a d outs => d = toD (e a) ∧ outs.length = n ∧ ∀ p ∈ os a, outs[p.1]? = some (toD p.2)
abbrev KX (n : Nat) (os : List DV → List (Nat × DV)) : List DV → List D → Prop := fun st outs => outs.length = n ∧ ∀ p ∈ os st, outs[p.1]? = some (toD p.2)
def falses (n : Nat) : List Bool := List.replicate n false
theorem argC_vals {fr : Fr} : ∀ vs : List DV, argC fr (falses vs.length) (toDs vs) = some (toDs vs)
  | [] => rfl
  | v :: vs => by
    show (if pers (toD v) = true then (argC fr (falses vs.length) (toDs vs)).map (toD v :: ·) else none) = _
    rw [if_pos (pers_toD v), argC_vals vs]; rfl
theorem ioV_vals : ∀ vs : List DV, ioV (falses vs.length) (toDs vs) = []
  | [] => rfl
  | v :: vs => by
    have := ioV_vals vs
    cases v <;> exact this
theorem ioP_vals : ∀ (vs : List DV) (os : List D), ioP (falses vs.length) (toDs vs) os = []
  | [], os => by cases os <;> rfl
  | v :: vs, [] => by cases v <;> rfl
  | v :: vs, o :: os => by
    have := ioP_vals vs os
    cases v <;> exact this
/-- a call with values alone -/
theorem k_call {α : Type} {F : Fn} {vs : List DV} {E : α → DV} {ta : O α} {tk : α → O β} {ms : List Bool} {n : Nat} {os : α → List (Nat × DV)} {ox : List DV → List (Nat × DV)} (hF : Rf (F (toDs vs)) ta (KF E n os) (KX n ox)) (hm : ms = falses vs.length) (hn : n = vs.length) (hE : ∀ c fs st, ta = .exc c fs st → KE st fr)
    (q : ∀ a, Rf (k (toD (E a)) fr) (tk a) K KE) : Rf (kCall ms F k (toDs vs) fr) (ta.bind tk) K KE := by
  subst hm hn
  unfold kCall
  rw [argC_vals]
  dsimp only
  rw [if_pos (by rw [ioV_vals]; exact List.nodup_nil)]
  cases ta with
  | bad => exact ⟨trivial⟩
  | ok a =>
    obtain ⟨d, outs, e, rfl, hl, _⟩ := hF
    rw [e]
    dsimp only
    rw [if_pos (by rw [hl]; simp [falses]), ioP_vals]
    exact q a
  | exc c fs st =>
    obtain ⟨outs, e, hl, _⟩ := hF
    rw [e]
    dsimp only
    rw [if_pos (by rw [hl]; simp [falses]), ioP_vals]
    exact ⟨fr, rfl, hE c fs st rfl⟩
/-- a call that is only looked at -/
theorem v_call {fr : Fr} {α : Type} {F : Fn} {vs : List DV} {E : α → DV} {ta : O α} {es : Av} {ms : List Bool} {n : Nat} {os : α → List (Nat × DV)} {ox : List DV → List (Nat × DV)} {a : α} (hF : Rf (F (toDs vs)) ta (KF E n os) (KX n ox)) (ha : ta = .ok a) (hm : ms = falses vs.length) (hn : n = vs.length) (h : VA fr es vs) : V fr (eCall ms F es) (E a) := by
  have q := x_call (K := KV E fun _ => fr) (KE := fun _ _ => True) (k := fun d s => Res.ok d s) (x_va h (k_call (tk := O.ok) hF hm hn (fun _ _ _ _ => trivial) fun a => ⟨_, _, rfl, rfl, rfl⟩))
  subst ha
  obtain ⟨d, s, e, rfl, hs⟩ := q
  have hs : s = fr := hs
  rw [hs] at e
  unfold V
  cases h2 : eCall ms F es fr with
  | ok x fr1 => rw [h2] at e; exact e
  | exc c fs fr1 => rw [h2] at e; cases e
  | bad => rw [h2] at e; cases e
/-- a call whose doing is left out where it raises -/
def O.no {α : Type} (t : O α) : O α := match t with
  | .ok a => .ok a
  | _ => .bad
theorem Rf.no {α σ δ : Type} {r : Res σ δ} {ta : O α} {tk : α → O β} {K : β → δ → σ → Prop} {KE : List DV → σ → Prop} (h : ∀ a, ta = .ok a → Rf r (tk a) K KE) : Rf r (ta.no.bind tk) K KE := by
  cases ta with
  | ok a => exact h a rfl
  | exc c fs st => exact ⟨trivial⟩
  | bad => exact ⟨trivial⟩
/-- one object is handed in at place i of the list of arguments, from slot j -/
theorem argC_io {fr : Fr} {ms : List Bool} {ds cs : List D} {j : Nat} {v : DV} (hj : fr[j]? = some (some (toD v))) (hc : isCell (toD v) = true) (h : argC fr ms ds = some cs) : argC fr (true :: ms) (.var j :: ds) = some (toD v :: cs) := by
  unfold argC
  rw [hj]
  dsimp only
  rw [if_pos hc, h]
  rfl
theorem argC_v {fr : Fr} {ms : List Bool} {ds cs : List D} {v : DV} (h : argC fr ms ds = some cs) : argC fr (false :: ms) (toD v :: ds) = some (toD v :: cs) := by
  unfold argC
  rw [if_pos (pers_toD v), h]
  rfl
theorem argC_nil {fr : Fr} : argC fr [] [] = some [] := rfl
/-- a call with objects handed in; os: their slots here, with their places -/
theorem k_callO {α : Type} {F : Fn} {ds : List D} {cs : List DV} {E : α → DV} {ta : O α} {tk : α → O β} {ms : List Bool} {os : α → List (Nat × DV)} {ox : List DV → List (Nat × DV)} {fx : List DV → List DV} {G : α → Fr} {GE : List DV → Fr}
    (ha : argC fr ms ds = some (toDs cs)) (hn : (ioV ms ds).Nodup) (hF : Rf (F (toDs cs)) ta (KF E ms.length os) (KX ms.length ox))
    (hG : ∀ a outs, outs.length = ms.length → (∀ p ∈ os a, outs[p.1]? = some (toD p.2)) → setP fr (ioP ms ds outs) = G a)
    (hGE : ∀ st outs, outs.length = ms.length → (∀ p ∈ ox st, outs[p.1]? = some (toD p.2)) → setP fr (ioP ms ds outs) = GE st)
    (hE : ∀ c fs st, ta = .exc c fs st → KE (fx st) (GE st)) (q : ∀ a, Rf (k (toD (E a)) (G a)) (tk a) K KE) : Rf (kCall ms F k ds fr) ((ta.atE fx).bind tk) K KE := by
  unfold kCall
  rw [ha]
  dsimp only
  rw [if_pos hn]
  cases ta with
  | bad => exact ⟨trivial⟩
  | ok a =>
    obtain ⟨d, outs, e, rfl, hl, ho⟩ := hF
    rw [e]
    dsimp only
    rw [if_pos hl, hG a outs hl ho]
    exact q a
  | exc c fs st =>
    obtain ⟨outs, e, hl, ho⟩ := hF
    rw [e]
    dsimp only
    rw [if_pos hl, hGE st outs hl ho]
    exact ⟨_, rfl, hE c fs st rfl⟩
end
end KT
namespace KT
open PySem KS
section
variable {β σ ρ : Type} {K : β → Fl → Fr → Prop} {KE : List DV → Fr → Prop} {fr fr1 : Fr} {t : O β} {b g h : Sv} {e f : Ev} {v w z : DV}
/-! ### statements -/
def kQ (b : Sv) : Fl → Fr → Res Fr Fl := fun fl fr1 => match fl with
  | .nx => b fr1
  | fl => .ok fl fr1
theorem s_nx (q : Rf (b fr) t K KE) : Rf (sSeq sNx b fr) t K KE := q
/-- the last statement of a suite stands ahead of nothing -/
theorem s_end (q : K a .nx fr) : Rf (sNx fr) (.ok a) K KE := ⟨_, _, rfl, q⟩
def kX (b : Sv) : D → Fr → Res Fr Fl := fun _ fr1 => b fr1
theorem s_x (q : Rf ((e fr).bind (kX b)) t K KE) : Rf (sSeq (sX e) b fr) t K KE := by
  unfold sSeq sX
  cases h : e fr with
  | ok x fr1 => rw [h] at q; exact q
  | exc c fs fr1 => rw [h] at q; exact q
  | bad => rw [h] at q; exact q
theorem k_X {d : D} (q : Rf (b fr) t K KE) : Rf (kX b d fr) t K KE := q
def kSet (i : Nat) (b : Sv) : D → Fr → Res Fr Fl := fun d fr1 => if pers d = true then b (fr1.set i (some d)) else .bad
theorem s_set {i : Nat} (q : Rf ((e fr).bind (kSet i b)) t K KE) : Rf (sSeq (sSet i e) b fr) t K KE := by
  unfold sSeq sSet
  cases h : e fr with
  | ok x fr1 =>
    rw [h] at q
    have q : Rf (if pers x = true then b (fr1.set i (some x)) else .bad) t K KE := q
    show Rf ((if pers x = true then Res.ok Fl.nx (fr1.set i (some x)) else Res.bad).bind _) t K KE
    split
    · next c => rw [if_pos c] at q; exact q
    · next c => rw [if_neg c] at q; exact q
  | exc c fs fr1 => rw [h] at q; exact q
  | bad => rw [h] at q; exact q
theorem k_Set {i : Nat} {fr' : Fr} (hf : fr.set i (some (toD v)) = fr') (q : Rf (b fr') t K KE) : Rf (kSet i b (toD v) fr) t K KE := by
  unfold kSet
  rw [if_pos (pers_toD v), hf]
  exact q
/-- .. under a name -/
theorem k_SetN {α : Type} {E : α → DV} {a : α} {tk : α → O β} {i : Nat} {fr' : α → Fr} (hf : ∀ x, fr.set i (some (toD (E x))) = fr' x) (q : ∀ x, Rf (b (fr' x)) (tk x) K KE) : Rf (kSet i b (toD (E a)) fr) (O.lt a tk) K KE := k_Set (hf a) (q a)
def kSetF (i : Nat) (b : Sv) : D → Fr → Res Fr Fl := fun d fr1 => b (fr1.set i (some d))
theorem s_setF {i : Nat} (q : Rf ((e fr).bind (kSetF i b)) t K KE) : Rf (sSeq (sSetF i e) b fr) t K KE := by
  unfold sSeq sSetF
  cases h : e fr with
  | ok x fr1 => rw [h] at q; exact q
  | exc c fs fr1 => rw [h] at q; exact q
  | bad => rw [h] at q; exact q
theorem k_SetF {i : Nat} {d : D} {fr' : Fr} (hf : fr.set i (some d) = fr') (q : Rf (b fr') t K KE) : Rf (kSetF i b d fr) t K KE := by subst hf; exact q
theorem k_SetFN {α : Type} {E : α → DV} {a : α} {tk : α → O β} {i : Nat} {fr' : α → Fr} (hf : ∀ x, fr.set i (some (toD (E x))) = fr' x) (q : ∀ x, Rf (b (fr' x)) (tk x) K KE) : Rf (kSetF i b (toD (E a)) fr) (O.lt a tk) K KE := by
  have := q a
  rw [← hf] at this
  exact this
/-! return -/
def kRet : D → Fr → Res Fr Fl := fun d fr1 => if pers d = true then .ok (.ret d) fr1 else .bad
theorem s_ret (q : Rf ((e fr).bind kRet) t K KE) : Rf (sSeq (sRet e) b fr) t K KE := by
  unfold sSeq sRet
  cases h : e fr with
  | ok x fr1 =>
    rw [h] at q
    have q : Rf (if pers x = true then Res.ok (Fl.ret x) fr1 else .bad) t K KE := q
    show Rf ((if pers x = true then Res.ok (Fl.ret x) fr1 else Res.bad).bind _) t K KE
    split
    · next c => rw [if_pos c] at q; exact q
    · next c => rw [if_neg c] at q; exact q
  | exc c fs fr1 => rw [h] at q; exact q
  | bad => rw [h] at q; exact q
theorem k_Ret {a : β} (q : K a (.ret (toD v)) fr) : Rf (kRet (toD v) fr) (.ok a) K KE := by
  unfold kRet
  rw [if_pos (pers_toD v)]
  exact ⟨_, _, rfl, q⟩
theorem s_retV {a : β} (h : V fr e v) (q : K a (.ret (toD v)) fr) : Rf (sSeq (sRet e) b fr) (.ok a) K KE := s_ret (x_v h (k_Ret q))
theorem s_retN {a : β} (q : K a (.ret (toD .non)) fr) : Rf (sSeq sRetN b fr) (.ok a) K KE := ⟨_, _, rfl, q⟩
def kRetF : D → Fr → Res Fr Fl := fun d fr1 => .ok (.ret d) fr1
theorem s_retF (q : Rf ((e fr).bind kRetF) t K KE) : Rf (sSeq (sRetF e) b fr) t K KE := by
  unfold sSeq sRetF
  cases h : e fr with
  | ok x fr1 => rw [h] at q; exact q
  | exc c fs fr1 => rw [h] at q; exact q
  | bad => rw [h] at q; exact q
theorem k_RetF {a : β} {d : D} (q : K a (.ret d) fr) : Rf (kRetF d fr) (.ok a) K KE := ⟨_, _, rfl, q⟩
/-- an owned object is handed back -/
theorem s_retO {a : β} {i : Nat} (h : fr[i]? = some (some (toD v))) (c : isCell (toD v) = true) (q : K a (.ret (toD v)) fr) : Rf (sSeq (sRetV i) b fr) (.ok a) K KE := by
  refine ⟨.ret (toD v), fr, ?_, q⟩
  unfold sSeq sRetV
  rw [h]
  dsimp only
  rw [if_pos c]
  rfl
theorem s_brk {a : β} (q : K a .brk fr) : Rf (sSeq sBrk b fr) (.ok a) K KE := ⟨_, _, rfl, q⟩
theorem s_cnt {a : β} (q : K a .cnt fr) : Rf (sSeq sCnt b fr) (.ok a) K KE := ⟨_, _, rfl, q⟩
/-! raise -/
theorem s_raise {c n : Nat} {es : Av} {vs : List DV} {st : List DV} (h : VA fr es vs) (hn : n = vs.length) (q : KE st fr) : Rf (sSeq (sRaise c n es) b fr) (.exc c vs st) K KE := by
  refine ⟨fr, ?_, q⟩
  unfold sSeq sRaise
  rw [h, Res.bind, if_pos ⟨all_pers_toDs vs, by rw [toDs_length, hn]⟩]
  rfl
/-! suites one behind another -/
theorem seq_assoc (a b c : Sv) : sSeq (sSeq a b) c = sSeq a (sSeq b c) := by
  funext fr
  unfold sSeq
  cases a fr with
  | ok fl fr1 => cases fl <;> rfl
  | exc c fs fr1 => rfl
  | bad => rfl
/-! if -/
variable {u : Bv} {a : Bool}
/-- each way with what follows -/
theorem s_ifD {ta tb : O β} (h : VB fr u a) (p : Rf (sSeq g b fr) ta K KE) (q : Rf (sSeq f' b fr) tb K KE) : Rf (sSeq (sIf u g f') b fr) (if a = true then ta else tb) K KE := by
  unfold sSeq sIf
  rw [h]
  cases a
  · exact q
  · exact p
theorem s_seqE {g b c : Sv} (q : Rf (sSeq g (sSeq b c) fr) t K KE) : Rf (sSeq (sSeq g b) c fr) t K KE := by rw [seq_assoc]; exact q
def kIf (g h : Sv) (b : Sv) : Bool → Fr → Res Fr Fl := fun a fr1 => if a = true then sSeq g b fr1 else sSeq h b fr1
theorem s_ifX {h : Sv} (q : Rf ((u fr).bind (kIf g h b)) t K KE) : Rf (sSeq (sIf u g h) b fr) t K KE := by
  unfold sSeq sIf
  cases hu : u fr with
  | ok x fr1 =>
    rw [hu] at q
    have q : Rf (if x = true then sSeq g b fr1 else sSeq h b fr1) t K KE := q
    cases x
    · exact q
    · exact q
  | exc c fs fr1 => rw [hu] at q; exact q
  | bad => rw [hu] at q; exact q
theorem k_If {h : Sv} {ta tb : O β} (p : Rf (sSeq g b fr) ta K KE) (q : Rf (sSeq h b fr) tb K KE) : Rf (kIf g h b a fr) (if a = true then ta else tb) K KE := by
  unfold kIf
  cases a
  · exact q
  · exact p
/-- both ways run through, and meet -/
abbrev KN (F : σ → Fr) : σ → Fl → Fr → Prop := fun s fl fr => fl = .nx ∧ fr = F s
/-- .. or continue -/
abbrev KC (F : σ → Fr) : σ → Fl → Fr → Prop := fun s fl fr => (fl = .nx ∨ fl = .cnt) ∧ fr = F s
abbrev KW (KR : ρ → Fl → Fr → Prop) (F : σ → Fr) : Fw ρ σ → Fl → Fr → Prop := fun w fl fr => match w with
  | .nx s => (fl = .nx ∨ fl = .cnt) ∧ fr = F s
  | .brk s => fl = .brk ∧ fr = F s
  | .ret r => (∃ d, fl = .ret d) ∧ KR r fl fr
theorem s_if {F : σ → Fr} {h : Sv} {ta tb : O σ} {tk : σ → O β} {js : List Bool} (hu : VB fr u a) (p : Rf (g fr) ta (fun s fl fr => fl = .nx ∧ killF fr js = F s) KE) (q : Rf (h fr) tb (fun s fl fr => fl = .nx ∧ killF fr js = F s) KE) (r : ∀ s, Rf (b (F s)) (tk s) K KE) :
    Rf (sSeq (sKn js (sIf u g h)) b fr) ((if a = true then ta else tb).bind tk) K KE := by
  have m : Rf (sKn js (sIf u g h) fr) (if a = true then ta else tb) (KN F) KE := by
    unfold sKn sIf
    rw [hu]
    cases a
    · rw [if_neg Bool.false_ne_true]
      have : Rf (h fr) tb (fun s fl fr => fl = .nx ∧ killF fr js = F s) KE := q
      show Rf ((h fr).bind _) tb (KN F) KE
      cases tb with
      | bad => exact ⟨trivial⟩
      | exc c fs st => obtain ⟨s, e, z⟩ := this; rw [e]; exact ⟨s, rfl, z⟩
      | ok s => obtain ⟨fl, fr2, e, rfl, z⟩ := this; rw [e]; exact ⟨.nx, _, rfl, rfl, z⟩
    · rw [if_pos rfl]
      have : Rf (g fr) ta (fun s fl fr => fl = .nx ∧ killF fr js = F s) KE := p
      show Rf ((g fr).bind _) ta (KN F) KE
      cases ta with
      | bad => exact ⟨trivial⟩
      | exc c fs st => obtain ⟨s, e, z⟩ := this; rw [e]; exact ⟨s, rfl, z⟩
      | ok s => obtain ⟨fl, fr2, e, rfl, z⟩ := this; rw [e]; exact ⟨.nx, _, rfl, rfl, z⟩
  refine Rf.bind (K1 := KN F) m fun s fl fr2 hs => ?_
  obtain ⟨rfl, rfl⟩ := hs
  exact r s
/-- .. behind a test that does something -/
theorem s_ifXJ {τ : Type} {G : τ → Fr} {F : σ → Fr} {h : Sv} {tt : O (Bool × τ)} {ta : τ → O σ} {tb : τ → O σ} {tk : σ → O β} {js : List Bool} (hu : Rf (u fr) tt (KB G) KE) (p : ∀ x, Rf (g (G x)) (ta x) (fun s fl fr => fl = .nx ∧ killF fr js = F s) KE) (q : ∀ x, Rf (h (G x)) (tb x) (fun s fl fr => fl = .nx ∧ killF fr js = F s) KE) (r : ∀ s, Rf (b (F s)) (tk s) K KE) :
    Rf (sSeq (sKn js (sIf u g h)) b fr) ((tt.bind fun x => if x.1 = true then ta x.2 else tb x.2).bind tk) K KE := by
  have m : Rf (sKn js (sIf u g h) fr) (tt.bind fun x => if x.1 = true then ta x.2 else tb x.2) (KN F) KE := by
    unfold sKn sIf
    cases tt with
    | bad => exact ⟨trivial⟩
    | exc c fs st => obtain ⟨s, e, z⟩ := hu; rw [e]; exact ⟨s, rfl, z⟩
    | ok x =>
      obtain ⟨bb, fr2, e, rfl, rfl⟩ := hu
      rw [e]
      obtain ⟨bb, x⟩ := x
      cases bb
      · show Rf ((h (G x)).bind _) (tb x) (KN F) KE
        have := q x
        cases hb : tb x with
        | bad => exact ⟨trivial⟩
        | exc c fs st => rw [hb] at this; obtain ⟨s, e, z⟩ := this; rw [e]; exact ⟨s, rfl, z⟩
        | ok s => rw [hb] at this; obtain ⟨fl, fr2, e, rfl, z⟩ := this; rw [e]; exact ⟨.nx, _, rfl, rfl, z⟩
      · show Rf ((g (G x)).bind _) (ta x) (KN F) KE
        have := p x
        cases hb : ta x with
        | bad => exact ⟨trivial⟩
        | exc c fs st => rw [hb] at this; obtain ⟨s, e, z⟩ := this; rw [e]; exact ⟨s, rfl, z⟩
        | ok s => rw [hb] at this; obtain ⟨fl, fr2, e, rfl, z⟩ := this; rw [e]; exact ⟨.nx, _, rfl, rfl, z⟩
  refine Rf.bind (K1 := KN F) m fun s fl fr2 hs => ?_
  obtain ⟨rfl, rfl⟩ := hs
  exact r s
/-! for -/
section
variable {α : Type} {E : α → DV} {F : σ → Fr} {G : α → σ → Fr} {tg : Tv} {js : List Bool}
theorem fold_r {tb : α → σ → O σ} (ht : ∀ a s, tg (toD (E a)) (F s) = some (G a s)) (hb : ∀ a s, Rf (g (G a s)) (tb a s) (fun s fl fr => (fl = .nx ∨ fl = .cnt) ∧ killF fr js = F s) KE) :
    ∀ (l : List α) (s : σ), Rf (loopF tg (sK js g) (l.map fun a => toD (E a)) (F s)) (foldT l s tb) (KN F) KE
  | [], s => ⟨_, _, rfl, rfl, rfl⟩
  | a :: l, s => by
    have ih := fold_r ht hb l
    have h1 := hb a s
    show Rf (match tg (toD (E a)) (F s) with
      | none => Res.bad
      | some fr1 => (sK js g fr1).bind fun fl fr2 => match fl with
        | .nx => loopF tg (sK js g) (l.map fun a => toD (E a)) fr2
        | .cnt => loopF tg (sK js g) (l.map fun a => toD (E a)) fr2
        | .brk => Res.ok Fl.nx fr2
        | .ret d => Res.ok (Fl.ret d) fr2) ((tb a s).bind fun s => foldT l s tb) (KN F) KE
    rw [ht]
    dsimp only
    unfold sK
    cases hq : tb a s with
    | bad => exact ⟨trivial⟩
    | exc c fs st => rw [hq] at h1; obtain ⟨s2, e, z⟩ := h1; rw [e]; exact ⟨s2, rfl, z⟩
    | ok s2 =>
      rw [hq] at h1
      obtain ⟨fl, fr2, e, hfl, z⟩ := h1
      rw [e]
      rcases hfl with rfl | rfl
      · show Rf (loopF tg _ _ (killF fr2 js)) _ _ _
        rw [z]; exact ih s2
      · show Rf (loopF tg _ _ (killF fr2 js)) _ _ _
        rw [z]; exact ih s2
theorem loop_r {KR : ρ → Fl → Fr → Prop} {tb : α → σ → O (Fw ρ σ)} (ht : ∀ a s, tg (toD (E a)) (F s) = some (G a s))
    (hb : ∀ a s, Rf (g (G a s)) (tb a s) (fun w fl fr => match w with | .nx s => (fl = .nx ∨ fl = .cnt) ∧ killF fr js = F s | .brk s => fl = .brk ∧ killF fr js = F s | .ret r => (∃ d, fl = .ret d) ∧ KR r fl fr) KE) :
    ∀ (l : List α) (s : σ), Rf (loopF tg (sK js g) (l.map fun a => toD (E a)) (F s)) (loopT l s tb) (fun w fl fr => match w with | .nx s => fl = .nx ∧ fr = F s | .brk s => False | .ret r => (∃ d, fl = .ret d) ∧ KR r fl fr) KE
  | [], s => ⟨_, _, rfl, rfl, rfl⟩
  | a :: l, s => by
    have ih := loop_r ht hb l
    have h1 := hb a s
    unfold loopT
    rw [List.map_cons, loopF]
    rw [ht]
    dsimp only
    unfold sK
    cases hq : tb a s with
    | bad => exact ⟨trivial⟩
    | exc c fs st => rw [hq] at h1; obtain ⟨s2, e, z⟩ := h1; rw [e]; exact ⟨s2, rfl, z⟩
    | ok w =>
      rw [hq] at h1
      obtain ⟨fl, fr2, e, z⟩ := h1
      rw [e]
      cases w with
      | nx s2 =>
        obtain ⟨hfl, z⟩ := z
        rcases hfl with rfl | rfl
        · show Rf (loopF tg _ _ (killF fr2 js)) _ _ _
          rw [z]; exact ih s2
        · show Rf (loopF tg _ _ (killF fr2 js)) _ _ _
          rw [z]; exact ih s2
      | brk s2 =>
        obtain ⟨rfl, z⟩ := z
        exact ⟨.nx, killF fr2 js, rfl, rfl, z⟩
      | ret r =>
        obtain ⟨⟨d, rfl⟩, z⟩ := z
        exact ⟨.ret d, fr2, rfl, ⟨d, rfl⟩, z⟩
theorem s_for {hI : Iv} {l : List α} {s0 : σ} {fr0 : Fr} {tb : α → σ → O σ} {tk : σ → O β} (hi : VI fr hI l E fr0) (h0 : fr0 = F s0) (ht : ∀ a s, tg (toD (E a)) (F s) = some (G a s))
    (hb : ∀ a s, Rf (g (G a s)) (tb a s) (fun s fl fr => (fl = .nx ∨ fl = .cnt) ∧ killF fr js = F s) KE) (r : ∀ s, Rf (b (F s)) (tk s) K KE) : Rf (sSeq (sFor hI tg (sK js g)) b fr) ((foldT l s0 tb).bind tk) K KE := by
  have m : Rf (sFor hI tg (sK js g) fr) (foldT l s0 tb) (KN F) KE := by
    unfold sFor
    rw [hi, Res.bind, h0]
    exact fold_r ht hb l s0
  refine Rf.bind (K1 := KN F) m fun s fl fr2 hs => ?_
  obtain ⟨rfl, rfl⟩ := hs
  exact r s
/-- a loop that may break or return -/
theorem s_loop {KR : ρ → Fl → Fr → Prop} {hI : Iv} {l : List α} {s0 : σ} {fr0 : Fr} {tb : α → σ → O (Fw ρ σ)} {tk : σ → O β} {tr : ρ → O β} (hi : VI fr hI l E fr0) (h0 : fr0 = F s0) (ht : ∀ a s, tg (toD (E a)) (F s) = some (G a s))
    (hb : ∀ a s, Rf (g (G a s)) (tb a s) (fun w fl fr => match w with | .nx s => (fl = .nx ∨ fl = .cnt) ∧ killF fr js = F s | .brk s => fl = .brk ∧ killF fr js = F s | .ret r => (∃ d, fl = .ret d) ∧ KR r fl fr) KE) (r : ∀ s, Rf (b (F s)) (tk s) K KE)
    (hr : ∀ x d fr, KR x (.ret d) fr → Rf (Res.ok (Fl.ret d) fr) (tr x) K KE) : Rf (sSeq (sFor hI tg (sK js g)) b fr) ((loopT l s0 tb).aft tk tr) K KE := by
  have m : Rf (sFor hI tg (sK js g) fr) (loopT l s0 tb) (fun w fl fr => match w with | .nx s => fl = .nx ∧ fr = F s | .brk s => False | .ret r => (∃ d, fl = .ret d) ∧ KR r fl fr) KE := by
    unfold sFor
    rw [hi, Res.bind, h0]
    exact loop_r ht hb l s0
  refine Rf.bind m fun w fl fr2 hs => ?_
  cases w with
  | nx s => obtain ⟨rfl, rfl⟩ := hs; exact r s
  | brk s => exact hs.elim
  | ret x => obtain ⟨⟨d, rfl⟩, z⟩ := hs; exact hr x d fr2 z
theorem while_r {KR : ρ → Fl → Fr → Prop} {tc : σ → O Bool} {tb : σ → O (Fw ρ σ)} (hc : ∀ s, Rf (u (F s)) (tc s) (fun a b fr => b = a ∧ fr = F s) KE)
    (hb : ∀ s, Rf (g (F s)) (tb s) (fun w fl fr => match w with | .nx s => (fl = .nx ∨ fl = .cnt) ∧ killF fr js = F s | .brk s => fl = .brk ∧ killF fr js = F s | .ret r => (∃ d, fl = .ret d) ∧ KR r fl fr) KE) :
    ∀ (n : Nat) (s : σ), Rf (whileF u (sK js g) n (F s)) (whileT n tc tb s) (fun w fl fr => match w with | .nx s => fl = .nx ∧ fr = F s | .brk s => False | .ret r => (∃ d, fl = .ret d) ∧ KR r fl fr) KE
  | 0, s => ⟨trivial⟩
  | n + 1, s => by
    have ih := while_r hc hb n
    unfold whileF whileT
    refine Rf.bind (hc s) fun k bb fr1 hk => ?_
    obtain ⟨rfl, rfl⟩ := hk
    cases bb with
    | false => exact ⟨_, _, rfl, rfl, rfl⟩
    | true =>
      rw [if_pos rfl, if_pos rfl]
      have h1 := hb s
      unfold sK
      cases hq : tb s with
      | bad => exact ⟨trivial⟩
      | exc c fs st => rw [hq] at h1; obtain ⟨s2, e, z⟩ := h1; rw [e]; exact ⟨s2, rfl, z⟩
      | ok w =>
        rw [hq] at h1
        obtain ⟨fl, fr2, e, z⟩ := h1
        rw [e]
        cases w with
        | nx s2 =>
          obtain ⟨hfl, z⟩ := z
          rcases hfl with rfl | rfl
          · show Rf (whileF u _ n (killF fr2 js)) _ _ _
            rw [z]; exact ih s2
          · show Rf (whileF u _ n (killF fr2 js)) _ _ _
            rw [z]; exact ih s2
        | brk s2 =>
          obtain ⟨rfl, z⟩ := z
          exact ⟨.nx, killF fr2 js, rfl, rfl, z⟩
        | ret r =>
          obtain ⟨⟨d, rfl⟩, z⟩ := z
          exact ⟨.ret d, fr2, rfl, ⟨d, rfl⟩, z⟩
theorem s_while {KR : ρ → Fl → Fr → Prop} {tc : σ → O Bool} {tb : σ → O (Fw ρ σ)} {s0 : σ} {tk : σ → O β} {tr : ρ → O β} (h0 : killF fr js = F s0) (hc : ∀ s, Rf (u (F s)) (tc s) (fun a b fr => b = a ∧ fr = F s) KE)
    (hb : ∀ s, Rf (g (F s)) (tb s) (fun w fl fr => match w with | .nx s => (fl = .nx ∨ fl = .cnt) ∧ killF fr js = F s | .brk s => fl = .brk ∧ killF fr js = F s | .ret r => (∃ d, fl = .ret d) ∧ KR r fl fr) KE) (r : ∀ s, Rf (b (F s)) (tk s) K KE)
    (hr : ∀ x d fr, KR x (.ret d) fr → Rf (Res.ok (Fl.ret d) fr) (tr x) K KE) : Rf (sSeq (kS js (sWhile u (sK js g))) b fr) ((whileT 1000000000 tc tb s0).aft tk tr) K KE := by
  have m : Rf (kS js (sWhile u (sK js g)) fr) (whileT 1000000000 tc tb s0) (fun w fl fr => match w with | .nx s => fl = .nx ∧ fr = F s | .brk s => False | .ret r => (∃ d, fl = .ret d) ∧ KR r fl fr) KE := by
    unfold kS sWhile
    rw [h0]
    exact while_r hc hb _ s0
  refine Rf.bind m fun w fl fr2 hs => ?_
  cases w with
  | nx s => obtain ⟨rfl, rfl⟩ := hs; exact r s
  | brk s => exact hs.elim
  | ret x => obtain ⟨⟨d, rfl⟩, z⟩ := hs; exact hr x d fr2 z
end
/-! ### comprehensions -/
section
variable {α γ : Type} {E : α → DV} {E2 : γ → DV} {vs : List Nat} {tg : Tv} {c : Bv}
theorem compL_v {fra : α → Fr} {p : α → Bool} {q : α → γ} (ht : ∀ a, tg (toD (E a)) (wipeF fr vs) = some (fra a)) (hw : ∀ a, wipeF (fra a) vs = wipeF fr vs) (hc : ∀ a, VB (fra a) c (p a)) (he : ∀ a, p a = true → V (fra a) e (E2 (q a))) :
    ∀ (l : List α) (fr0 : Fr), wipeF fr0 vs = wipeF fr vs → ∃ fr2, compL vs tg c e (l.map fun a => toD (E a)) fr0 = .ok (((l.filter p).map q).map fun a => toD (E2 a)) fr2 ∧ (fr2 = fr0 ∨ ∃ a, fr2 = fra a)
  | [], fr0, _ => ⟨fr0, rfl, .inl rfl⟩
  | a :: l, fr0, h0 => by
    obtain ⟨fr2, ih, hfr⟩ := compL_v ht hw hc he l (fra a) (hw a)
    have hfr' : fr2 = fr0 ∨ ∃ a, fr2 = fra a := .inr (hfr.elim (fun z => ⟨a, z⟩) id)
    refine ⟨fr2, ?_, hfr'⟩
    show (match tg (toD (E a)) (wipeF fr0 vs) with
      | none => Res.bad
      | some fr1 => (c fr1).bind fun b fr2 => if b = true then ((e fr2).bind fun y fr3 => if pers y = true then ((compL vs tg c e (l.map fun a => toD (E a)) fr3).bind fun r fr4 => .ok (y :: r) fr4) else .bad) else compL vs tg c e (l.map fun a => toD (E a)) fr2) = _
    rw [h0, ht]
    dsimp only
    rw [hc a, Res.bind]
    cases hp : p a with
    | false =>
      rw [if_neg Bool.false_ne_true, List.filter_cons_of_neg (by rw [hp]; exact Bool.false_ne_true)]
      exact ih
    | true =>
      rw [if_pos rfl, List.filter_cons_of_pos hp, he a hp, Res.bind, if_pos (pers_toD _), ih]
      rfl
theorem restF_at (fr1 fr2 : Fr) : ∀ (vs : List Nat) (j : Nat), (restF fr1 fr2 vs)[j]? = if j ∈ vs then (fr2[j]?).map (fun _ => (fr1[j]?).join) else fr2[j]?
  | [], j => by simp [restF]
  | v :: vs, j => by
    have ih := restF_at fr1 fr2 vs j
    unfold restF
    by_cases h : j = v
    · subst h
      rw [List.getElem?_set_self', if_pos (List.mem_cons_self ..), ih]
      split
      · cases fr2[j]? <;> rfl
      · cases fr2[j]? <;> rfl
    · rw [List.getElem?_set_ne (Ne.symm h), ih]
      simp [h]
theorem wipeF_at (fr : Fr) : ∀ (vs : List Nat) (j : Nat), (wipeF fr vs)[j]? = if j ∈ vs then (fr[j]?).map (fun _ => none) else fr[j]?
  | [], j => by simp [wipeF]
  | v :: vs, j => by
    have ih := wipeF_at fr vs j
    unfold wipeF
    by_cases h : j = v
    · subst h
      rw [List.getElem?_set_self', if_pos (List.mem_cons_self ..), ih]
      split
      · cases fr[j]? <;> rfl
      · cases fr[j]? <;> rfl
    · rw [List.getElem?_set_ne (Ne.symm h), ih]
      simp [h]
theorem restF_wipe (fr1 : Fr) {fr2 fr3 : Fr} {vs : List Nat} (h : wipeF fr2 vs = wipeF fr3 vs) : restF fr1 fr2 vs = restF fr1 fr3 vs := by
  refine List.ext_getElem? fun j => ?_
  have q : (wipeF fr2 vs)[j]? = (wipeF fr3 vs)[j]? := by rw [h]
  rw [wipeF_at, wipeF_at] at q
  rw [restF_at, restF_at]
  split
  · next c =>
    rw [if_pos c, if_pos c] at q
    cases h2 : fr2[j]? <;> cases h3 : fr3[j]? <;> rw [h2, h3] at q <;> first | rfl | cases q
  · next c =>
    rw [if_neg c, if_neg c] at q
    exact q
theorem restF_self (fr : Fr) (vs : List Nat) : restF fr fr vs = fr := by
  refine List.ext_getElem? fun j => ?_
  rw [restF_at]
  split
  · cases fr[j]? with
    | none => rfl
    | some x => cases x <;> rfl
  · rfl
/-- the target's names are among vs -/
def TgIn (tg : Tv) (vs : List Nat) : Prop := ∀ d fr fr', tg d fr = some fr' → wipeF fr' vs = wipeF fr vs
theorem wipeF_set {fr : Fr} {vs : List Nat} {i : Nat} {x : Option D} (h : i ∈ vs) : wipeF (fr.set i x) vs = wipeF fr vs := by
  refine List.ext_getElem? fun j => ?_
  rw [wipeF_at, wipeF_at]
  by_cases e : j = i
  · subst e
    rw [if_pos h, if_pos h, List.getElem?_set_self']
    cases fr[j]? <;> rfl
  · rw [List.getElem?_set_ne (Ne.symm e)]
theorem wipeF_setL {vs : List Nat} : ∀ (is : List Nat) (ds : List D) (fr : Fr), (∀ i ∈ is, i ∈ vs) → wipeF (setL fr is ds) vs = wipeF fr vs
  | [], ds, fr, _ => rfl
  | i :: is, [], fr, _ => rfl
  | i :: is, d :: ds, fr, h => by
    show wipeF (setL (fr.set i (some d)) is ds) vs = _
    rw [wipeF_setL is ds _ fun j hj => h j (List.mem_cons_of_mem _ hj), wipeF_set (h i (List.mem_cons_self ..))]
theorem tgIn_N {i : Nat} {vs : List Nat} (h : decide (i ∈ vs) = true) : TgIn (tgN i) vs := fun d fr fr' e => by
  cases e
  exact wipeF_set (of_decide_eq_true h)
theorem tgIn_T {is vs : List Nat} (h : (is.all fun i => decide (i ∈ vs)) = true) : TgIn (tgT is) vs := fun d fr fr' e => by
  unfold tgT at e
  split at e
  · split at e
    · cases e
      exact wipeF_setL is _ fr fun i hi => of_decide_eq_true (List.all_eq_true.mp h i hi)
    · cases e
  · cases e
theorem wipeF_wipe (fr : Fr) (vs : List Nat) : wipeF (wipeF fr vs) vs = wipeF fr vs := by
  refine List.ext_getElem? fun j => ?_
  rw [wipeF_at, wipeF_at]
  split
  · cases fr[j]? <;> rfl
  · rfl
/-- a turn's frame -/
def tgF (tg : Tv) (vs : List Nat) (v : DV) (fr : Fr) : Fr := (tg (toD v) (wipeF fr vs)).getD []
theorem tgF_eq {tg : Tv} {vs : List Nat} {v : DV} {fr : Fr} (h : (tg (toD v) (wipeF fr vs)).isSome = true) : tg (toD v) (wipeF fr vs) = some (tgF tg vs v fr) := by
  unfold tgF
  cases e : tg (toD v) (wipeF fr vs) with
  | none => rw [e] at h; cases h
  | some x => rfl
/-- a comprehension that only looks -/
theorem v_comp {hI : Iv} {l : List α} {p : α → Bool} {q : α → γ} (hi : VI fr hI l E fr) (hl : l.length ≤ 16777216) (ht : ∀ a, (tg (toD (E a)) (wipeF fr vs)).isSome = true) (hg : TgIn tg vs) (hc : ∀ a, VB (tgF tg vs (E a) fr) c (p a)) (he : ∀ a, p a = true → V (tgF tg vs (E a) fr) e (E2 (q a))) :
    V fr (eComp vs hI tg c e) (eL E2 ((l.filter p).map q)) := by
  have hw : ∀ a, wipeF (tgF tg vs (E a) fr) vs = wipeF fr vs := fun a => (hg _ _ _ (tgF_eq (ht a))).trans (wipeF_wipe fr vs)
  have h1 := restF_self fr vs
  have h2 : ∀ a, restF fr (tgF tg vs (E a) fr) vs = fr := fun a => (restF_wipe fr (hw a)).trans h1
  obtain ⟨fr2, e1, hfr⟩ := compL_v (fun a => tgF_eq (ht a)) hw hc he l fr rfl
  unfold V eComp
  rw [hi, Res.bind, if_pos (by rw [List.length_map]; exact Nat.le_trans hl (by decide)), e1]
  have : restF fr fr2 vs = fr := by
    rcases hfr with rfl | ⟨a, rfl⟩
    · exact h1
    · exact h2 a
  show Res.ok (D.lst _) (restF fr fr2 vs) = _
  rw [this, ← toDs_map]
  rfl
/-- .. without a test -/
theorem v_comp0 {hI : Iv} {l : List α} {q : α → γ} (hi : VI fr hI l E fr) (hl : l.length ≤ 16777216) (ht : ∀ a, (tg (toD (E a)) (wipeF fr vs)).isSome = true) (hg : TgIn tg vs) (he : ∀ a, V (tgF tg vs (E a) fr) e (E2 (q a))) :
    V fr (eComp vs hI tg bYes e) (eL E2 (l.map q)) := by
  have := v_comp (c := bYes) (p := fun _ => true) hi hl ht hg (fun _ => rfl) (fun a _ => he a)
  rw [List.filter_eq_self.mpr fun _ _ => rfl] at this
  exact this
/-- one turn -/
def turnF (c : Bv) (e : Ev) : Fr → Res Fr (Option D) := fun fr1 => (c fr1).bind fun b fr2 => if b = true then ((e fr2).bind fun y fr3 => if pers y = true then .ok (some y) fr3 else .bad) else .ok none fr2
theorem compL_turn (ds : List D) (d : D) (fr0 : Fr) : compL vs tg c e (d :: ds) fr0 = match tg d (wipeF fr0 vs) with
    | none => .bad
    | some fr1 => (turnF c e fr1).bind fun o fr3 => (compL vs tg c e ds fr3).bind fun r fr4 => .ok (match o with | some y => y :: r | none => r) fr4 := by
  show (match tg d (wipeF fr0 vs) with
      | none => Res.bad
      | some fr1 => (c fr1).bind fun b fr2 => if b = true then ((e fr2).bind fun y fr3 => if pers y = true then ((compL vs tg c e ds fr3).bind fun r fr4 => .ok (y :: r) fr4) else .bad) else compL vs tg c e ds fr2) = _
  cases tg d (wipeF fr0 vs) with
  | none => rfl
  | some fr1 =>
    unfold turnF
    dsimp only
    cases c fr1 with
    | bad => rfl
    | exc c fs s => rfl
    | ok b fr2 =>
      cases b with
      | false =>
        show compL vs tg c e ds fr2 = (compL vs tg c e ds fr2).bind fun r fr4 => .ok r fr4
        cases compL vs tg c e ds fr2 <;> rfl
      | true =>
        show ((e fr2).bind fun y fr3 => if pers y = true then ((compL vs tg c e ds fr3).bind fun r fr4 => .ok (y :: r) fr4) else .bad) = (((e fr2).bind fun y fr3 => if pers y = true then Res.ok (some y) fr3 else .bad)).bind _
        cases e fr2 with
        | bad => rfl
        | exc c fs s => rfl
        | ok y fr3 =>
          show (if pers y = true then ((compL vs tg c e ds fr3).bind fun r fr4 => .ok (y :: r) fr4) else .bad) = (if pers y = true then Res.ok (some y) fr3 else .bad).bind _
          split <;> rfl
/-- a comprehension with parts that may fail or do something; G: the frame ahead of each turn -/
theorem compL_x {G : σ → Fr} {fra : α → σ → Fr} {tb : α → σ → O (Option γ × σ)} (ht : ∀ a s, tg (toD (E a)) (wipeF (G s) vs) = some (fra a s))
    (hb : ∀ a s, Rf (turnF c e (fra a s)) (tb a s) (fun p o fr => o = p.1.map (fun y => toD (E2 y)) ∧ wipeF fr vs = wipeF (G p.2) vs) fun _ _ => True) :
    ∀ (l : List α) (s : σ) (fr0 : Fr), wipeF fr0 vs = wipeF (G s) vs → ∀ p, compT l s tb = .ok p → ∃ fr2, compL vs tg c e (l.map fun a => toD (E a)) fr0 = .ok (p.1.map fun y => toD (E2 y)) fr2 ∧ wipeF fr2 vs = wipeF (G p.2) vs
  | [], s, fr0, h0, p, hp => by cases hp; exact ⟨fr0, rfl, h0⟩
  | a :: l, s, fr0, h0, p, hp => by
    unfold compT at hp
    have h1 := hb a s
    cases hq : tb a s with
    | bad => rw [hq] at hp; cases hp
    | exc k fs st => rw [hq] at hp; cases hp
    | ok o =>
      rw [hq] at hp h1
      obtain ⟨o', fr3, e1, rfl, w1⟩ := h1
      have hp : ((compT l o.2 tb).bind fun q => O.ok ((match o.1 with | some y => y :: q.1 | none => q.1), q.2)) = .ok p := hp
      cases hr : compT l o.2 tb with
      | bad => rw [hr] at hp; cases hp
      | exc k fs st => rw [hr] at hp; cases hp
      | ok q =>
        rw [hr] at hp
        cases hp
        obtain ⟨fr2, e2, w2⟩ := compL_x ht hb l o.2 fr3 w1 q hr
        refine ⟨fr2, ?_, w2⟩
        rw [List.map_cons, compL_turn, h0, ht]
        dsimp only
        rw [e1, Res.bind, e2]
        obtain ⟨o, s2⟩ := o
        cases o <;> rfl
theorem x_comp {δ : Type} {K : β → δ → Fr → Prop} {k : D → Fr → Res Fr δ} {t : List γ × σ → O β} {hI : Iv} {l : List α} {s0 : σ} {G : σ → Fr} {fra : α → σ → Fr} {tb : α → σ → O (Option γ × σ)} (hi : VI fr hI l E (G s0)) (hl : l.length ≤ 16777216) (ht : ∀ a s, tg (toD (E a)) (wipeF (G s) vs) = some (fra a s))
    (hb : ∀ a s, Rf (turnF c e (fra a s)) (tb a s) (fun p o fr => o = p.1.map (fun y => toD (E2 y)) ∧ wipeF fr vs = wipeF (G p.2) vs) fun _ _ => True) (hG : ∀ s, restF (G s0) (G s) vs = G s)
    (q : ∀ p, Rf (k (toD (eL E2 p.1)) (G p.2)) (t p) K KE) : Rf ((eComp vs hI tg c e fr).bind k) ((compT l s0 tb).no.bind t) K KE := by
  refine Rf.no fun p hp => ?_
  obtain ⟨fr2, e1, w⟩ := compL_x ht hb l s0 (G s0) rfl p hp
  unfold eComp
  rw [hi, Res.bind, if_pos (by rw [List.length_map]; exact Nat.le_trans hl (by decide)), e1]
  show Rf ((Res.ok (D.lst _) (restF (G s0) fr2 vs)).bind k) _ _ _
  rw [restF_wipe (G s0) w, hG, ← toDs_map]
  exact q p
/-- a turn's parts -/
theorem t_v {p : Bool} {tb : O (Option γ × σ)} {K : Option γ × σ → Option D → Fr → Prop} {KE : List DV → Fr → Prop} (h : VB fr c p) (q : Rf ((e fr).bind fun y fr3 => if pers y = true then Res.ok (some y) fr3 else .bad) tb K KE) (r : Rf (Res.ok (σ := Fr) (none : Option D) fr) ta K KE) : Rf (turnF c e fr) (if p = true then tb else ta) K KE := by
  unfold turnF
  rw [h]
  cases p
  · exact r
  · exact q
theorem t_yes {tb : O (Option γ × σ)} {K : Option γ × σ → Option D → Fr → Prop} {KE : List DV → Fr → Prop} (q : Rf ((e fr).bind fun y fr3 => if pers y = true then Res.ok (some y) fr3 else .bad) tb K KE) : Rf (turnF bYes e fr) tb K KE := q
theorem t_x {tt : O (Bool × τ)} {G : τ → Fr} {ta tb : τ → O (Option γ × σ)} {K : Option γ × σ → Option D → Fr → Prop} {KE : List DV → Fr → Prop} (h : Rf (c fr) tt (KB G) KE) (q : ∀ x, Rf ((e (G x)).bind fun y fr3 => if pers y = true then Res.ok (some y) fr3 else .bad) (tb x) K KE) (r : ∀ x, Rf (Res.ok (σ := Fr) (none : Option D) (G x)) (ta x) K KE) : Rf (turnF c e fr) (tt.bind fun x => if x.1 = true then tb x.2 else ta x.2) K KE := by
  unfold turnF
  refine Rf.bind h fun p b fr1 hp => ?_
  obtain ⟨rfl, rfl⟩ := hp
  obtain ⟨b, x⟩ := p
  cases b
  · exact r x
  · exact q x
theorem k_turn {y : γ} {s : σ} {K : Option γ × σ → Option D → Fr → Prop} {KE : List DV → Fr → Prop} (q : K (some y, s) (some (toD (E2 y))) fr) : Rf ((fun y fr3 => if pers y = true then Res.ok (some y) fr3 else .bad : D → Fr → Res Fr (Option D)) (toD (E2 y)) fr) (.ok (some y, s)) K KE := by
  show Rf (if pers (toD (E2 y)) = true then Res.ok (some (toD (E2 y))) fr else .bad) _ _ _
  rw [if_pos (pers_toD _)]
  exact ⟨_, _, rfl, q⟩
end
end
end KT
namespace KT
open PySem KS
/-! ### a def by its body -/
abbrev KD {α : Type} (E : α → DV) (os : α → List (Nat × DV)) : α → Fl → Fr → Prop := fun a fl fr => (fl = .ret (toD (E a)) ∨ (fl = .nx ∧ E a = .non)) ∧ ∀ p ∈ os a, fr[p.1]? = some (some (toD p.2))
abbrev KDE (ox : List DV → List (Nat × DV)) : List DV → Fr → Prop := fun st fr => ∀ p ∈ ox st, fr[p.1]? = some (some (toD p.2))
theorem outs_at {k : Nat} {fr : Fr} {i : Nat} {d : D} (hi : i < k) (h : fr[i]? = some (some d)) : (outsOf k fr)[i]? = some d := by
  unfold outsOf
  rw [List.getElem?_map, List.getElem?_range hi, Option.map_some, h]
  rfl
theorem outs_len {k : Nat} {fr : Fr} : (outsOf k fr).length = k := by simp [outsOf]
theorem fn_rf {α : Type} {E : α → DV} {os : α → List (Nat × DV)} {ox : List DV → List (Nat × DV)} {k n : Nat} {g : Sv} {ds : List D} {t : O α} (hos : ∀ a, ∀ p ∈ os a, p.1 < k) (hox : ∀ a, ∀ p ∈ ox a, p.1 < k) (h : Rf (g (startF n ds)) t (KD E os) (KDE ox)) :
    Rf (runFn k n g ds) t (KF E k os) (KX k ox) := by
  unfold runFn
  cases t with
  | bad => exact ⟨trivial⟩
  | ok a =>
    obtain ⟨fl, fr, e, hfl, ho⟩ := h
    rw [e]
    rcases hfl with rfl | ⟨rfl, hE⟩
    · exact ⟨_, _, rfl, rfl, outs_len, fun p hp => outs_at (hos a p hp) (ho p hp)⟩
    · exact ⟨_, _, rfl, (show D.non = toD (E a) by rw [hE]; rfl), outs_len, fun p hp => outs_at (hos a p hp) (ho p hp)⟩
  | exc c fs st =>
    obtain ⟨fr, e, ho⟩ := h
    rw [e]
    exact ⟨_, rfl, outs_len, fun p hp => outs_at (hox st p hp) (ho p hp)⟩
/-- nothing is handed in -/
abbrev os0 {α : Type} : α → List (Nat × DV) := fun _ => []
theorem fn_rf0 {α : Type} {E : α → DV} {k n : Nat} {g : Sv} {ds : List D} {t : O α} {fr0 : Fr} (h0 : startF n ds = fr0) (h : Rf (g fr0) t (KD E os0) (KDE os0)) : Rf (runFn k n g ds) t (KF E k os0) (KX k os0) :=
  fn_rf (fun _ _ h => by cases h) (fun _ _ h => by cases h) (by rw [h0]; exact h)
theorem kd_ret {α : Type} {E : α → DV} {a : α} {v : DV} {fr : Fr} (h : v = E a) : KD E os0 a (.ret (toD v)) fr := ⟨.inl (by rw [h]), fun _ h => by cases h⟩
theorem kd_nx {α : Type} {E : α → DV} {a : α} {fr : Fr} (h : E a = .non) : KD E os0 a .nx fr := ⟨.inr ⟨rfl, h⟩, fun _ h => by cases h⟩
theorem kde0 {st : List DV} {fr : Fr} : KDE os0 st fr := fun _ h => by cases h
/-- one object handed in, at place i -/
abbrev os1 {α : Type} (i : Nat) (f : α → DV) : α → List (Nat × DV) := fun a => [(i, f a)]
abbrev ox1 (i : Nat) : List DV → List (Nat × DV) := fun st => match st with
  | v :: _ => [(i, v)]
  | [] => []
theorem kd_ret1 {α : Type} {E : α → DV} {i : Nat} {f : α → DV} {a : α} {v : DV} {fr : Fr} (h : v = E a) (hf : fr[i]? = some (some (toD (f a)))) : KD E (os1 i f) a (.ret (toD v)) fr := ⟨.inl (by rw [h]), fun p hp => by
  rw [List.mem_singleton.mp hp]; exact hf⟩
theorem kd_nx1 {α : Type} {E : α → DV} {i : Nat} {f : α → DV} {a : α} {fr : Fr} (h : E a = .non) (hf : fr[i]? = some (some (toD (f a)))) : KD E (os1 i f) a .nx fr := ⟨.inr ⟨rfl, h⟩, fun p hp => by
  rw [List.mem_singleton.mp hp]; exact hf⟩
theorem kde1 {i : Nat} {v : DV} {r : List DV} {fr : Fr} (hf : fr[i]? = some (some (toD v))) : KDE (ox1 i) (v :: r) fr := fun p hp => by
  rw [List.mem_singleton.mp hp]; exact hf
theorem fn_rf1 {α : Type} {E : α → DV} {i : Nat} {f : α → DV} {k n : Nat} {g : Sv} {ds : List D} {t : O α} (hi : i < k) (h : Rf (g (startF n ds)) t (KD E (os1 i f)) (KDE (ox1 i))) : Rf (runFn k n g ds) t (KF E k (os1 i f)) (KX k (ox1 i)) :=
  fn_rf (fun _ p h => by rw [List.mem_singleton.mp h]; exact hi) (fun st p h => by cases st with
    | nil => cases h
    | cons v r => rw [List.mem_singleton.mp h]; exact hi) h
theorem fn_rf1e {α : Type} {E : α → DV} {i : Nat} {f : α → DV} {k n : Nat} {g : Sv} {ds : List D} {t : O α} {fr0 : Fr} (hi : i < k) (h0 : startF n ds = fr0) (h : Rf (g fr0) t (KD E (os1 i f)) (KDE os0)) : Rf (runFn k n g ds) t (KF E k (os1 i f)) (KX k os0) :=
  fn_rf (fun _ p h => by rw [List.mem_singleton.mp h]; exact hi) (fun _ _ h => by cases h) (by rw [h0]; exact h)
section
variable {β δ : Type} {K : β → δ → Fr → Prop} {KE : List DV → Fr → Prop} {fr fr1 : Fr} {t : O β} {e f g : Ev} {k : D → Fr → Res Fr δ} {v w z r c c' : DV}
/-! ### what changes an owned object -/
def kMut (i : Nat) (pz : Bool) (F : Mu) (k : D → Fr → Res Fr δ) : List D → Fr → Res Fr δ := fun ys fr1 => (match fr1[i]? with
    | some (some c) => if isCell c = true then (if (pz = true → ys.all pers = true) then (match pick fr1 ys with
      | some bs => match F c bs with
        | some (r, c') => Res.ok r (fr1.set i (some c'))
        | none => Res.bad
      | none => Res.bad) else Res.bad) else Res.bad
    | _ => Res.bad).bind k
theorem x_mut {i : Nat} {kd : D → Bool} {pz : Bool} {F : Mu} {es : Av} (h : fr[i]? = some (some (toD c))) (hk : kd (toD c) = true) (q : Rf ((es fr).bind (kMut i pz F k)) t K KE) : Rf ((eMut i kd pz F es fr).bind k) t K KE := by
  unfold eMut
  rw [h]
  dsimp only
  rw [if_pos hk]
  cases h2 : es fr with
  | ok x fr1 => rw [h2] at q; exact q
  | exc c fs fr1 => rw [h2] at q; exact q
  | bad => rw [h2] at q; exact q
theorem pick_vals (fr : Fr) : ∀ vs : List DV, pick fr (toDs vs) = some (toDs vs)
  | [] => rfl
  | v :: vs => by
    show (match look fr (toD v), pick fr (toDs vs) with | some a, some as => some (a :: as) | _, _ => none) = _
    rw [look_toD, pick_vals fr vs]; rfl
theorem k_mut {i : Nat} {pz : Bool} {F : Mu} {vs : List DV} (h : fr[i]? = some (some (toD c))) (hc : isCell (toD c) = true) {fr' : Fr} (hF : F (toD c) (toDs vs) = some (toD r, toD c')) (hf : fr.set i (some (toD c')) = fr') (q : Rf (k (toD r) fr') t K KE) : Rf (kMut i pz F k (toDs vs) fr) t K KE := by
  unfold kMut
  rw [h]
  dsimp only
  rw [if_pos hc, if_pos fun _ => all_pers_toDs vs, pick_vals]
  dsimp only
  rw [hF]
  subst hf
  exact q
/-- .. with one part that is only looked at -/
theorem x_mutL {i : Nat} {kd : D → Bool} {F : Mu} (h : fr[i]? = some (some (toD c))) (hk : kd (toD c) = true) (hc : isCell (toD c) = true) (hv : L fr e v) {fr' : Fr} (hF : F (toD c) [toD v] = some (toD r, toD c')) (hf : fr.set i (some (toD c')) = fr') (q : Rf (k (toD r) fr') t K KE) : Rf ((eMut i kd false F (aCons e aNil) fr).bind k) t K KE := by
  refine x_mut h hk ?_
  obtain ⟨x, h1, h2⟩ := hv
  unfold aCons
  rw [h1]
  show Rf (kMut i false F k [x] fr) t K KE
  unfold kMut
  rw [h]
  dsimp only
  rw [if_pos hc, if_pos (fun z => by cases z)]
  show Rf ((match (match look fr x, some ([] : List D) with | some a, some as => some (a :: as) | _, _ => none) with
      | some bs => match F (toD c) bs with
        | some (r, c') => Res.ok r (fr.set i (some c'))
        | none => Res.bad
      | none => Res.bad).bind k) t K KE
  rw [h2]
  show Rf ((match F (toD c) [toD v] with
        | some (r, c') => Res.ok r (fr.set i (some c'))
        | none => Res.bad).bind k) t K KE
  rw [hF]
  subst hf
  exact q
variable {α : Type} {E : α → DV}
def appC {α : Type} (l : List α) : Prop := l.length < 16777216
instance {α : Type} (l : List α) : Decidable (appC l) := by unfold appC; infer_instance
theorem m_app {l : List α} {a : α} (h : appC l) : appM (toD (eL E l)) (toDs [E a]) = some (toD .non, toD (eL E (l ++ [a]))) := by
  show (if (toDs (l.map E)).length < sizeLine then some (D.non, D.lst (toDs (l.map E) ++ [toD (E a)])) else none) = _
  rw [toDs_length, List.length_map, if_pos (show l.length < sizeLine from h)]
  show some (D.non, D.lst (toDs (l.map E) ++ toDs [E a])) = some (D.non, D.lst (toDs ((l ++ [a]).map E)))
  rw [List.map_append, toDs_append]; rfl
theorem m_ext {l m : List α} (h : catC l m) : extM (toD (eL E l)) [toD (eL E m)] = some (toD .non, toD (eL E (l ++ m))) := by
  show (if (toDs (l.map E)).length + (toDs (m.map E)).length ≤ sizeLine then some (D.non, D.lst (toDs (l.map E) ++ toDs (m.map E))) else none) = _
  rw [toDs_length, List.length_map, toDs_length, List.length_map, if_pos (Nat.le_trans h (by decide)), ← toDs_append, ← List.map_append]; rfl
theorem toDs_dropLast (l : List DV) : (toDs l).dropLast = toDs l.dropLast := by rw [toDs_eq, toDs_eq, List.map_dropLast]
theorem m_pop {l : List α} {a : α} (h : l.getLast? = some a) : popM (toD (eL E l)) (toDs []) = some (toD (E a), toD (eL E l.dropLast)) := by
  show (match (toDs (l.map E))[(toDs (l.map E)).length - 1]? with | some d => some (d, D.lst (toDs (l.map E)).dropLast) | none => none) = _
  rw [← List.getLast?_eq_getElem?, toDs_eq, List.getLast?_map, List.getLast?_map, h, ← toDs_eq, toDs_dropLast, ← List.map_dropLast]; rfl
theorem m_rev {l : List α} : revM (toD (eL E l)) (toDs []) = some (toD .non, toD (eL E l.reverse)) := by
  show some (D.non, D.lst (toDs (l.map E)).reverse) = _
  rw [toDs_eq, ← List.map_reverse, ← List.map_reverse, ← toDs_eq]; rfl
theorem eraseIdx_m {α β : Type} (g : α → β) : ∀ (l : List α) (k : Nat), (l.map g).eraseIdx k = (l.eraseIdx k).map g
  | [], _ => rfl
  | _ :: _, 0 => rfl
  | a :: l, k + 1 => by
    show g a :: (l.map g).eraseIdx k = g a :: (l.eraseIdx k).map g
    rw [eraseIdx_m g l k]
/-- l.pop(i) -/
def popAtT {α : Type} (l : List α) (i : Int) : Option (α × List α) := if -9223372036854775808 ≤ i ∧ i < 9223372036854775808 then (match seqIndex? i l.length with
  | some k => match l[k]? with
    | some a => some (a, l.eraseIdx k)
    | none => none
  | none => none) else none
theorem m_popAt {l : List α} {i : Int} {p : α × List α} (h : popAtT l i = some p) : popAtM (toD (eL E l)) (toDs [.int i]) = some (toD (E p.1), toD (eL E p.2)) := by
  unfold popAtT at h
  show (if -(2 ^ 63) ≤ i ∧ i < 2 ^ 63 then (match seqIndex? i (toDs (l.map E)).length with
      | some k => match (toDs (l.map E))[k]? with
        | some d => some (d, D.lst ((toDs (l.map E)).eraseIdx k))
        | none => none
      | none => none) else none) = _
  split at h
  · next c =>
    rw [if_pos (show -(2 ^ 63) ≤ i ∧ i < 2 ^ 63 by omega), toDs_length, List.length_map]
    cases hk : seqIndex? i l.length with
    | none => rw [hk] at h; cases h
    | some k =>
      rw [hk] at h
      dsimp only at h ⊢
      cases ha : l[k]? with
      | none => rw [ha] at h; cases h
      | some a =>
        rw [ha] at h
        cases h
        rw [toDs_eq, List.map_map, List.getElem?_map, ha]
        show some (toD (E a), D.lst ((l.map (toD ∘ E)).eraseIdx k)) = some (toD (E a), D.lst (toDs ((l.eraseIdx k).map E)))
        rw [toDs_eq, List.map_map, eraseIdx_m]
  · cases h
def insC {α : Type} (l : List α) (i : Int) : Prop := l.length < 16777216 ∧ 0 ≤ i ∧ i < 9223372036854775808
instance {α : Type} (l : List α) (i : Int) : Decidable (insC l i) := by unfold insC; infer_instance
theorem m_ins {l : List α} {i : Int} {a : α} (h : insC l i) : insM (toD (eL E l)) (toDs [.int i, E a]) = some (toD .non, toD (eL E (l.take i.toNat ++ [a] ++ l.drop i.toNat))) := by
  show (if (toDs (l.map E)).length < sizeLine ∧ 0 ≤ i ∧ i < 2 ^ 63 then some (D.non, D.lst ((toDs (l.map E)).take i.toNat ++ [toD (E a)] ++ (toDs (l.map E)).drop i.toNat)) else none) = _
  rw [toDs_length, List.length_map, if_pos ⟨h.1, h.2.1, by have := h.2.2; omega⟩]
  show _ = some (D.non, D.lst (toDs ((l.take i.toNat ++ [a] ++ l.drop i.toNat).map E)))
  rw [List.map_append, List.map_append, toDs_append, toDs_append, List.map_take, List.map_drop, toDs_eq (List.take _ _), toDs_eq (List.drop _ _), toDs_eq (l.map E), List.map_take, List.map_drop]
  rfl
/-! ### x += e -/
theorem s_aug {K : β → Fl → Fr → Prop} {i : Nat} {F : D → D → Option D} {b : Sv} (h : fr[i]? = some (some (toD v))) (hf : L fr f w) {fr' : Fr} (hF : F2 F v w z) (hf2 : fr.set i (some (toD z)) = fr') (q : Rf (b fr') t K KE) : Rf (sSeq (sAug i F f) b fr) t K KE := by
  obtain ⟨x, h1, h2⟩ := hf
  unfold sSeq sAug
  rw [h]
  dsimp only
  rw [if_pos (pers_toD v), h1, Res.bind, h2]
  show Rf ((match F (toD v) (toD w) with | some z => Res.ok Fl.nx (fr.set i (some z)) | none => Res.bad).bind _) t K KE
  rw [hF]
  subst hf2
  exact q
theorem f_iadd {i j : Int} : F2 iaddF (.int i) (.int j) (.int (i + j)) := rfl
theorem f_isub {i j : Int} : F2 isubF (.int i) (.int j) (.int (i - j)) := rfl
/-! ### fields -/
theorem s_fld {K : β → Fl → Fr → Prop} {i n : Nat} {cs : List Nat} {b : Sv} {c : Nat} {ns ns' : List Nat} {fs fs' : List DV} (h : fr[i]? = some (some (toD (.obj c ns fs)))) (hf : V fr f w) (hc : decide (c ∈ cs) = true) (hn : decide (ns.length < 1000) = true) (hp : putN n (toD w) ns (toDs fs) = (ns', toDs fs')) (q : Rf (b (fr.set i (some (toD (.obj c ns' fs'))))) t K KE) : Rf (sSeq (sFldS i n cs f) b fr) t K KE := by
  unfold sSeq sFldS
  rw [hf, Res.bind, if_pos (pers_toD w), h]
  show Rf ((if c ∈ cs then (if ns.length < 1000 then Res.ok Fl.nx (fr.set i (some (.obj c (putN n (toD w) ns (toDs fs)).1 (putN n (toD w) ns (toDs fs)).2))) else Res.bad) else Res.bad).bind _) t K KE
  rw [if_pos (of_decide_eq_true hc), if_pos (of_decide_eq_true hn), hp]
  exact q
end
/-! ### dicts whose keys are pairs -/
section
variable {α : Type} {f : α → DV}
abbrev eDP {α : Type} (f : α → DV) : List (PP × α) → DV := fun l => .dct (.bl true :: l.map fun p => .tup [.int p.1.1, .int p.1.2]) (l.map fun p => f p.2)
theorem v_cD {α : Type} {f : α → DV} {fr : Fr} : V fr (eC (dTm [])) (eDP f []) := rfl
def td (f : α → DV) (l : List (PP × α)) : TD := l.map fun p => (kP p.1, toD (f p.2))
theorem toD_eDP (l : List (PP × α)) : toD (eDP f l) = dTm (td f l) := by
  show D.dct (.bl true :: toDs (l.map fun p => .tup [.int p.1.1, .int p.1.2])) (toDs (l.map fun p => f p.2)) = D.dct (.bl true :: (td f l).map fun p => .tup (p.1.map kD)) ((td f l).map (·.2))
  rw [toDs_map, toDs_map]
  unfold td
  rw [List.map_map, List.map_map]
  rfl
theorem zip_td : ∀ l : List (PP × α), zipT ((td f l).map fun p => .tup (p.1.map kD)) ((td f l).map (·.2)) = some (td f l)
  | [] => rfl
  | p :: l => by
    show (match (some (kP p.1) : Option (List L2.Key)), zipT ((td f l).map fun p => .tup (p.1.map kD)) ((td f l).map (·.2)) with | some k, some r => some ((k, toD (f p.2)) :: r) | _, _ => none) = _
    rw [zip_td l]; rfl
theorem unT_td (l : List (PP × α)) : unT (toD (eDP f l)) = some (td f l) := by
  rw [toD_eDP]
  exact zip_td l
theorem kP_inj {p q : PP} : kP p = kP q ↔ p = q := by
  unfold kP
  simp [Prod.ext_iff]
def hasT {α : Type} (l : List (PP × α)) (k : PP) : Bool := l.any fun p => decide (p.1 = k)
def putT {α : Type} (l : List (PP × α)) (k : PP) (a : α) : List (PP × α) := if hasT l k = true then l.map (fun p => if p.1 = k then (p.1, a) else p) else l ++ [(k, a)]
def delT {α : Type} (l : List (PP × α)) (k : PP) : List (PP × α) := l.filter fun p => decide (p.1 ≠ k)
def getT {α : Type} (l : List (PP × α)) (k : PP) : Option α := (l.find? fun p => decide (p.1 = k)).map (·.2)
theorem any_td (l : List (PP × α)) (k : PP) : ((td f l).any fun kv => decide (kv.1 = kP k)) = hasT l k := by
  unfold td hasT
  rw [List.any_map]
  congr 1
  funext p
  show decide (kP p.1 = kP k) = _
  simp only [kP_inj]
theorem put_td (l : List (PP × α)) (k : PP) (a : α) : putK' (td f l) (kP k) (toD (f a)) = td f (putT l k a) := by
  unfold putK' putT
  rw [any_td]
  split
  · unfold td
    rw [List.map_map, List.map_map]
    congr 1
    funext p
    show (if kP p.1 = kP k then (kP p.1, toD (f a)) else (kP p.1, toD (f p.2))) = _
    simp only [kP_inj, Function.comp]
    split <;> rfl
  · unfold td
    rw [List.map_append]; rfl
theorem del_td (l : List (PP × α)) (k : PP) : dropK' (td f l) (kP k) = td f (delT l k) := by
  unfold dropK' delT td
  rw [List.filter_map]
  congr 1
  congr 1
  funext p
  show decide (kP p.1 ≠ kP k) = _
  simp only [ne_eq, kP_inj]
theorem find_td : ∀ (l : List (PP × α)) (k : PP), valV' (td f l) (kP k) = (getT l k).map fun a => toD (f a)
  | [], k => rfl
  | p :: l, k => by
    have ih := find_td l k
    unfold valV' getT at ih ⊢
    show (((kP p.1, toD (f p.2)) :: td f l).find? fun kv => decide (kv.1 = kP k)).map (·.2) = _
    rw [List.find?_cons, List.find?_cons]
    dsimp only
    have : decide (kP p.1 = kP k) = decide (p.1 = k) := by simp only [kP_inj]
    rw [this]
    cases decide (p.1 = k)
    · exact ih
    · rfl
theorem get_isSome (l : List (PP × α)) (k : PP) : (getT l k).isSome = hasT l k := by
  unfold getT hasT
  rw [Option.isSome_map, Bool.eq_iff_iff, List.find?_isSome, List.any_eq_true]
theorem keys_kP (k : PP) : toKeys [D.int k.1, D.int k.2] = some (kP k) := rfl
variable {β δ : Type} {K : β → δ → Fr → Prop} {KE : List DV → Fr → Prop} {fr : Fr} {t : O β} {e : Ev} {k : D → Fr → Res Fr δ}
theorem td_len (l : List (PP × α)) : (td f l).length = l.length := by simp [td]
theorem v_din {i : Nat} {es : Av} {l : List (PP × α)} {x y : Int} (h : fr[i]? = some (some (toD (eDP f l)))) (hk : VA fr es [.int x, .int y]) : V fr (eDin i es) (.bl (hasT l (x, y))) := by
  unfold V eDin
  rw [hk]
  show (match fr[i]? with
    | some (some c) => match toKeys [D.int x, D.int y], unT c with
      | some k, some kvs => if 2 ≤ sizeLine then Res.ok (D.bl (valV' kvs k).isSome) fr else Res.bad
      | _, _ => Res.bad
    | _ => Res.bad) = _
  rw [h]
  dsimp only
  rw [unT_td, show toKeys [D.int x, D.int y] = some (kP (x, y)) from rfl]
  dsimp only
  rw [if_pos (by decide), find_td, Option.isSome_map, get_isSome]
  rfl
theorem s_dput {K : β → Fl → Fr → Prop} {i : Nat} {es : Av} {b : Sv} {l : List (PP × α)} {x y : Int} {a : α} (h : fr[i]? = some (some (toD (eDP f l)))) (hv : V fr e (f a)) (hk : VA fr es [.int x, .int y]) (hl : appC l) (q : Rf (b (fr.set i (some (toD (eDP f (putT l (x, y) a)))))) t K KE) : Rf (sSeq (sDput i es e) b fr) t K KE := by
  unfold sSeq sDput
  rw [hv, Res.bind, if_pos (pers_toD _), h]
  dsimp only
  rw [if_pos (show isDctD (toD (eDP f l)) = true from rfl), hk]
  show Rf ((match fr[i]? with
    | some (some c) => match toKeys [D.int x, D.int y], unT c with
      | some k, some kvs => if kvs.length < sizeLine ∧ 2 ≤ sizeLine then Res.ok Fl.nx (fr.set i (some (dTm (putK' kvs k (toD (f a)))))) else .bad
      | _, _ => .bad
    | _ => .bad).bind _) t K KE
  rw [h]
  dsimp only
  rw [unT_td, show toKeys [D.int x, D.int y] = some (kP (x, y)) from rfl]
  dsimp only
  rw [if_pos ⟨by rw [td_len]; exact hl, by decide⟩, put_td, ← toD_eDP]
  exact q
theorem x_dpop {i : Nat} {es : Av} {l : List (PP × α)} {x y : Int} {a : α} (h : fr[i]? = some (some (toD (eDP f l)))) (hk : VA fr es [.int x, .int y]) {fr' : Fr} (ha : getT l (x, y) = some a) (hf : fr.set i (some (toD (eDP f (delT l (x, y))))) = fr') (q : Rf (k (toD (f a)) fr') t K KE) : Rf ((eDpop i es fr).bind k) t K KE := by
  unfold eDpop
  rw [h]
  dsimp only
  rw [if_pos (show isDctD (toD (eDP f l)) = true from rfl), hk]
  show Rf ((match fr[i]? with
    | some (some c) => match toKeys [D.int x, D.int y], unT c with
      | some k, some kvs => if 2 ≤ sizeLine then (match valV' kvs k with
        | some d => Res.ok d (fr.set i (some (dTm (dropK' kvs k))))
        | none => .bad) else .bad
      | _, _ => .bad
    | _ => .bad).bind k) t K KE
  rw [h]
  dsimp only
  rw [unT_td, show toKeys [D.int x, D.int y] = some (kP (x, y)) from rfl]
  dsimp only
  rw [if_pos (by decide), find_td, ha, del_td, ← toD_eDP]
  subst hf
  exact q
theorem pps_td : ∀ l : List (PP × α), toPPs ((td f l).map (·.1)) = some (l.map (·.1))
  | [] => rfl
  | p :: l => by
    show (match (some p.1 : Option PP), toPPs ((td f l).map (·.1)) with | some p, some r => some (p :: r) | _, _ => none) = _
    rw [pps_td l]; rfl
theorem v_sortD {i : Nat} {l : List (PP × α)} (h : fr[i]? = some (some (toD (eDP f l)))) : V fr (eSortD i) (eL (eP2 eI eI) ((l.map (·.1)).mergeSort leP)) := by
  unfold V eSortD
  rw [h]
  dsimp only
  rw [unT_td]
  dsimp only
  rw [pps_td]
  show Res.ok (D.lst _) fr = Res.ok (D.lst (toDs _)) fr
  rw [toDs_map]
  rfl
end
end KT
namespace KT
open PySem KS
section
variable {β δ : Type} {K : β → δ → Fr → Prop} {KE : List DV → Fr → Prop} {fr fr1 : Fr} {t : O β} {e f g : Ev} {k : D → Fr → Res Fr δ} {v w z r c c' : DV}
theorem x_plv {i : Nat} {ka : D → Fr → Res Fr δ} (h : fr[i]? = some (some (toD v))) (hc : isCell (toD v) = true) (q : Rf (ka (.var i) fr) t K KE) : Rf ((ePl i fr).bind ka) t K KE := by
  have : ePl i fr = .ok (.var i) fr := by
    unfold ePl
    rw [h]
    dsimp only
    rw [if_pos hc]
  rw [this]; exact q
theorem x_fz {i : Nat} (h : fr[i]? = some (some (toD v))) {fr' : Fr} (hc : isCell (toD v) = true) (hf : fr.set i (some (.tup [toD v])) = fr') (q : Rf (k (toD v) fr') t K KE) : Rf ((eFz i fr).bind k) t K KE := by
  subst hf
  have : eFz i fr = .ok (toD v) (fr.set i (some (.tup [toD v]))) := by
    unfold eFz
    rw [h]
    dsimp only
    rw [if_pos hc]
  rw [this]; exact q
theorem argC_mid {fr : Fr} {i : Nat} {v : DV} (hi : fr[i]? = some (some (toD v))) (hc : isCell (toD v) = true) (vs2 : List DV) : ∀ vs1 : List DV, argC fr (falses vs1.length ++ true :: falses vs2.length) (toDs vs1 ++ .var i :: toDs vs2) = some (toDs (vs1 ++ v :: vs2))
  | [] => argC_io hi hc (argC_vals vs2)
  | u :: vs1 => argC_v (argC_mid hi hc vs2 vs1)
theorem ioV_mid {i : Nat} (vs2 : List DV) : ∀ vs1 : List DV, ioV (falses vs1.length ++ true :: falses vs2.length) (toDs vs1 ++ .var i :: toDs vs2) = [i]
  | [] => by
    show i :: ioV (falses vs2.length) (toDs vs2) = _
    rw [ioV_vals]
  | u :: vs1 => by
    have := ioV_mid (i := i) vs2 vs1
    cases u <;> exact this
theorem ioP_mid {i : Nat} {o : D} (vs2 : List DV) : ∀ (vs1 : List DV) (outs : List D), outs[vs1.length]? = some o → ioP (falses vs1.length ++ true :: falses vs2.length) (toDs vs1 ++ .var i :: toDs vs2) outs = [(i, o)]
  | [], [], h => by cases h
  | [], o' :: os, h => by
    cases h
    show (i, o) :: ioP (falses vs2.length) (toDs vs2) os = _
    rw [ioP_vals]
  | u :: vs1, [], h => by cases h
  | u :: vs1, o' :: os, h => by
    have := ioP_mid (i := i) vs2 vs1 os (by simpa using h)
    cases u <;> exact this
/-- a call with one object handed in, that does not raise -/
theorem k_call1 {α : Type} {F : Fn} {vs1 vs2 : List DV} {ds : List D} {E f : α → DV} {ta : O α} {a : α} {ms : List Bool} {n p i : Nat} {ox : List DV → List (Nat × DV)} (hF : Rf (F (toDs (vs1 ++ v :: vs2))) ta (KF E n (os1 p f)) (KX n ox)) (ha : ta = .ok a)
    (hi : fr[i]? = some (some (toD v))) (hc : isCell (toD v) = true) (hp : p = vs1.length) (hn : n = ms.length) (hms : ms = falses vs1.length ++ true :: falses vs2.length) (hds : ds = toDs vs1 ++ .var i :: toDs vs2)
    {fr' : Fr} (hfr : fr.set i (some (toD (f a))) = fr') (q : Rf (k (toD (E a)) fr') t K KE) : Rf (kCall ms F k ds fr) t K KE := by
  subst ha hfr
  obtain ⟨d, outs, e, rfl, hl, ho⟩ := hF
  have ho := ho (p, f a) (List.mem_singleton.mpr rfl)
  dsimp only at ho
  subst hp
  subst hds
  unfold kCall
  rw [hms, argC_mid hi hc]
  dsimp only
  rw [if_pos (by rw [ioV_mid]; simp), e]
  dsimp only
  rw [if_pos (by rw [hl, hn, hms]), ioP_mid vs2 vs1 outs ho]
  exact q
theorem eO_some {α : Type} {E : α → DV} {o : Option α} {a : α} (h : o = some a) : eO E o = E a := by subst h; rfl
theorem k_cv (h : v = w) (q : Rf (k (toD w) fr) t K KE) : Rf (k (toD v) fr) t K KE := by subst h; exact q
theorem v_attr {cs : List Nat} {n c : Nat} {ns : List Nat} {fs : List DV} (h : L fr f (.obj c ns fs)) (hc : decide (c ∈ cs) = true) (hi : idx n ns (toDs fs) = some (toD z)) : V fr (eAttr cs n f) z := v_op1 h (by
  show (if c ∈ cs then idx n ns (toDs fs) else none) = _
  rw [if_pos (of_decide_eq_true hc)]; exact hi)
theorem v_isiC {kc : Nat → Option Bool} {c : Nat} {ns : List Nat} {fs : List DV} {b : Bool} (h : L fr f (.obj c ns fs)) (hk : kc c = some b) : V fr (eOp1 (isiCF kc) f) (.bl b) := v_op1 h (by
  show (kc c).map D.bl = _
  rw [hk]; rfl)
theorem v_some {α : Type} {E : α → DV} {o : Option α} {a : α} (h : o = some a) (q : V fr e (eO E o)) : V fr e (E a) := by subst h; exact q
theorem l_some {α : Type} {E : α → DV} {o : Option α} {a : α} (h : o = some a) (q : L fr e (eO E o)) : L fr e (E a) := by subst h; exact q
/-! from any value to a form -/
def Dec {α : Type} (d : DV → Option α) (E : α → DV) : Prop := ∀ v a, d v = some a → v = E a
theorem v_dec {α : Type} {d : DV → Option α} {E : α → DV} {a : α} (D : Dec d E) (h : d v = some a) (q : V fr e v) : V fr e (E a) := by rw [← D v a h]; exact q
theorem l_dec {α : Type} {d : DV → Option α} {E : α → DV} {a : α} (D : Dec d E) (h : d v = some a) (q : L fr e v) : L fr e (E a) := by rw [← D v a h]; exact q
def asI : DV → Option Int
  | .int i => some i
  | _ => none
theorem asI_of : Dec asI eI := fun v a h => by cases v <;> first | (cases h; rfl) | cases h
def asB : DV → Option Bool
  | .bl i => some i
  | _ => none
theorem asB_of : Dec asB eB := fun v a h => by cases v <;> first | (cases h; rfl) | cases h
def asS : DV → Option Str
  | .str i => some i
  | _ => none
theorem asS_of : Dec asS eS := fun v a h => by cases v <;> first | (cases h; rfl) | cases h
theorem asY_of : Dec some eY := fun v a h => by cases h; rfl
def decs {α : Type} (d : DV → Option α) : List DV → Option (List α)
  | [] => some []
  | v :: vs => match d v, decs d vs with
    | some a, some l => some (a :: l)
    | _, _ => none
theorem decs_of {α : Type} {d : DV → Option α} {E : α → DV} (D : Dec d E) : ∀ (vs : List DV) (l : List α), decs d vs = some l → vs = l.map E
  | [], l, h => by cases h; rfl
  | v :: vs, l, h => by
    unfold decs at h
    split at h
    · next a m e1 e2 => cases h; rw [D v a e1, decs_of D vs m e2]; rfl
    · cases h
def asT {α : Type} (d : DV → Option α) : DV → Option (List α)
  | .tup vs => decs d vs
  | _ => none
theorem asT_of {α : Type} {d : DV → Option α} {E : α → DV} (D : Dec d E) : Dec (asT d) (eT E) := fun v a h => by
  cases v with
  | tup vs => show DV.tup vs = .tup (a.map E); rw [← decs_of D vs a h]
  | _ => cases h
def asL {α : Type} (d : DV → Option α) : DV → Option (List α)
  | .lst vs => decs d vs
  | _ => none
theorem asL_of {α : Type} {d : DV → Option α} {E : α → DV} (D : Dec d E) : Dec (asL d) (eL E) := fun v a h => by
  cases v with
  | lst vs => show DV.lst vs = .lst (a.map E); rw [← decs_of D vs a h]
  | _ => cases h
def asP2 {α β : Type} (d : DV → Option α) (d2 : DV → Option β) : DV → Option (α × β)
  | .tup [v, w] => match d v, d2 w with
    | some a, some b => some (a, b)
    | _, _ => none
  | _ => none
theorem asP2_of {α β : Type} {d : DV → Option α} {E : α → DV} {d2 : DV → Option β} {E2 : β → DV} (D : Dec d E) (D2 : Dec d2 E2) : Dec (asP2 d d2) (eP2 E E2) := fun v a h => by
  unfold asP2 at h
  split at h
  · split at h
    · next e1 e2 => cases h; rw [D _ _ e1, D2 _ _ e2]
    · cases h
  · cases h
/-! any values -/
def ixY : DV → Int → Option DV
  | .tup vs, i => L2.atI vs i
  | .lst vs, i => L2.atI vs i
  | _, _ => none
theorem f_ixY {i : Int} (h : ixY v i = some z) : F2 ixF v (.int i) z := by
  cases v with
  | tup vs => show L2.atI (toDs vs) i = _; rw [toDs_eq, atI_m, show L2.atI vs i = some z from h]; rfl
  | lst vs => show L2.atI (toDs vs) i = _; rw [toDs_eq, atI_m, show L2.atI vs i = some z from h]; rfl
  | _ => cases h
def lenY : DV → Option Int
  | .tup vs => some vs.length
  | .lst vs => some vs.length
  | .str x => if x.length ≤ 16777216 then some x.length else none
  | _ => none
theorem f_lenY {i : Int} (h : lenY v = some i) : F1 lenF v (.int i) := by
  cases v with
  | tup vs => cases h; show some (D.int (toDs vs).length) = _; rw [toDs_length]; rfl
  | lst vs => cases h; show some (D.int (toDs vs).length) = _; rw [toDs_length]; rfl
  | str x =>
    unfold lenY at h
    dsimp only at h
    split at h
    · next c => cases h; exact f_lenX c
    · cases h
  | _ => cases h
def seqY : DV → Option (List DV)
  | .tup vs => some vs
  | .lst vs => some vs
  | _ => none
theorem vi_enY {vs : List DV} (h : seqY v = some vs) (q : V fr e v) : VI fr (iEn e) (enumT vs) (eP2 eI eY) fr := by
  cases v with
  | tup l => cases h; exact vi_enT (l := vs) (e := eY) (by show V fr e (.tup (vs.map fun v => v)); rw [List.map_id' ]; exact q)
  | lst l => cases h; exact vi_enL (l := vs) (e := eY) (by show V fr e (.lst (vs.map fun v => v)); rw [List.map_id' ]; exact q)
  | _ => cases h
def walkY : DV → Option (List DV)
  | .tup vs => some vs
  | .lst vs => some vs
  | .str x => some ((chars x).map fun d => match d with
    | .str y => DV.str y
    | _ => .non)
  | _ => none
theorem vi_Y {vs : List DV} (h : walkY v = some vs) (q : V fr e v) : VI fr (iVal e) vs eY fr := by
  cases v with
  | tup l => cases h; exact vi_T (l := vs) (e := eY) (by show V fr e (.tup (vs.map fun v => v)); rw [List.map_id' ]; exact q)
  | lst l => cases h; exact vi_L (l := vs) (e := eY) (by show V fr e (.lst (vs.map fun v => v)); rw [List.map_id' ]; exact q)
  | str x =>
    cases h
    unfold VI iVal
    rw [q, Res.bind, if_pos (pers_toD _)]
    show Res.ok (chars x) fr = _
    rw [List.map_map]
    unfold chars
    rw [List.map_map]
    rfl
  | _ => cases h
def tupY : DV → Option DV
  | .tup vs => some (.tup vs)
  | .lst vs => some (.tup vs)
  | _ => none
theorem f_tupY (h : tupY v = some w) : F1 tupF v w := by
  cases v <;> first | (cases h; rfl) | cases h
def tyY : DV → Option Tn
  | .non => some .non
  | .bl _ => some .bl
  | .int _ => some .int
  | .str _ => some .str
  | .tup _ => some .tup
  | .lst _ => some .lst
  | .scr _ => some .lst
  | .dct _ _ => some .dct
  | _ => none
theorem tyI_toD : tyI (toD v) = tyY v := by cases v <;> rfl
def isiY (u : Tn) (v : DV) : Option Bool := (tyY v).map fun t => isT t u
def isiYs (us : List Tn) (v : DV) : Option Bool := (tyY v).map fun t => isAny t us
theorem f_isi {u : Tn} {b : Bool} (h : isiY u v = some b) : F1 (isiF u) v (.bl b) := by
  unfold F1 isiF
  rw [tyI_toD]
  unfold isiY at h
  cases ht : tyY v with
  | none => rw [ht] at h; cases h
  | some t => rw [ht] at h; cases h; rfl
theorem f_isiT {us : List Tn} {b : Bool} (h : isiYs us v = some b) : F1 (isiTF us) v (.bl b) := by
  unfold F1 isiTF
  rw [tyI_toD]
  unfold isiYs at h
  cases ht : tyY v with
  | none => rw [ht] at h; cases h
  | some t => rw [ht] at h; cases h; rfl
/-! values with a test -/
theorem x_andV {a : Bool} {tb : O Bool} {F : Bool → Fr} (h : V fr f (.bl a)) (q : a = true → Rf (g fr) tb (KV eB F) KE) (hF : F false = fr := by rfl) : Rf (eAnd f g fr) (if a = true then tb else .ok false) (KV eB F) KE := by
  unfold eAnd
  rw [h]
  cases a
  · exact ⟨_, _, rfl, rfl, hF.symm⟩
  · exact q rfl
theorem x_orV {a : Bool} {tb : O Bool} {F : Bool → Fr} (h : V fr f (.bl a)) (q : a = false → Rf (g fr) tb (KV eB F) KE) (hF : F true = fr := by rfl) : Rf (eOr f g fr) (if a = true then .ok true else tb) (KV eB F) KE := by
  unfold eOr
  rw [h]
  cases a
  · exact q rfl
  · exact ⟨_, _, rfl, rfl, hF.symm⟩
theorem v_ifE {α : Type} {E : α → DV} {u : Bv} {b : Bool} {x y : α} (h : VB fr u b) (p : V fr f (E x)) (q : V fr g (E y)) : V fr (eIf u f g) (E (if b = true then x else y)) := by
  have := v_if h p q
  cases b
  · exact this
  · exact this
/-! objects -/
theorem v_make {α : Type} {F : Fn} {c n : Nat} {vs : List DV} {E f : α → DV} {ta : O α} {a : α} {es : Av} {ox : List DV → List (Nat × DV)} (hF : Rf (F (toDs (.obj c [] [] :: vs))) ta (KF E n (os1 0 f)) (KX n ox)) (ha : ta = .ok a) (h : VA fr es vs) (hE : E a = .non := by rfl) : V fr (eMake c F es) (f a) := by
  subst ha
  obtain ⟨d, outs, e, rfl, hl, ho⟩ := hF
  have ho := ho (0, f a) (List.mem_singleton.mpr rfl)
  unfold V eMake
  rw [h, Res.bind, if_pos (all_pers_toDs vs)]
  show (match F (toDs (.obj c [] [] :: vs)) with
    | .ok .non (o :: _) => Res.ok o fr
    | .exc k fs _ => .exc k fs fr
    | _ => .bad) = _
  rw [e, hE]
  cases outs with
  | nil => cases ho
  | cons o os => cases ho; rfl
def kMake (c : Nat) (F : Fn) (k : D → Fr → Res Fr δ) : List D → Fr → Res Fr δ := fun ds fr1 => (if ds.all pers = true then (match F (.obj c [] [] :: ds) with
  | .ok .non (o :: _) => Res.ok o fr1
  | .exc k fs _ => .exc k fs fr1
  | _ => .bad) else .bad).bind k
theorem x_make {c : Nat} {F : Fn} {es : Av} (q : Rf ((es fr).bind (kMake c F k)) t K KE) : Rf ((eMake c F es fr).bind k) t K KE := by
  unfold eMake
  cases h2 : es fr with
  | ok x fr1 => rw [h2] at q; exact q
  | exc c fs fr1 => rw [h2] at q; exact q
  | bad => rw [h2] at q; exact q
theorem k_make {α : Type} {F : Fn} {c n : Nat} {vs : List DV} {E f : α → DV} {ta : O α} {tk : α → O β} {ox : List DV → List (Nat × DV)} (hF : Rf (F (toDs (.obj c [] [] :: vs))) ta (KF E n (os1 0 f)) (KX n ox)) (hE : ∀ c fs st, ta = .exc c fs st → KE st fr) (hv : ∀ a, E a = .non) (q : ∀ a, Rf (k (toD (f a)) fr) (tk a) K KE) : Rf (kMake c F k (toDs vs) fr) (ta.bind tk) K KE := by
  unfold kMake
  rw [if_pos (all_pers_toDs vs)]
  cases ta with
  | bad => exact ⟨trivial⟩
  | ok a =>
    obtain ⟨d, outs, e, rfl, hl, ho⟩ := hF
    have ho := ho (0, f a) (List.mem_singleton.mpr rfl)
    show Rf ((match F (toDs (.obj c [] [] :: vs)) with
      | .ok .non (o :: _) => Res.ok o fr
      | .exc k fs _ => .exc k fs fr
      | _ => .bad).bind k) (tk a) K KE
    rw [e, hv]
    cases outs with
    | nil => cases ho
    | cons o os => cases ho; exact q a
  | exc c' fs st =>
    obtain ⟨outs, e, hl, _⟩ := hF
    show Rf ((match F (toDs (.obj c [] [] :: vs)) with
      | .ok .non (o :: _) => Res.ok o fr
      | .exc k fs _ => .exc k fs fr
      | _ => .bad).bind k) (.exc c' fs st) K KE
    rw [e]
    exact ⟨fr, rfl, hE c' fs st rfl⟩
theorem v_eqO {F : Fn} {c n c1 c2 : Nat} {ns1 ns2 : List Nat} {fs1 fs2 : List DV} {ta : O Bool} {b : Bool} {ox : List DV → List (Nat × DV)} {os : Bool → List (Nat × DV)} (hF : Rf (F (toDs [.obj c1 ns1 fs1, .obj c2 ns2 fs2])) ta (KF eB n os) (KX n ox)) (ha : ta = .ok b) (h1 : V fr f (.obj c1 ns1 fs1)) (h2 : V fr g (.obj c2 ns2 fs2)) (hc1 : c1 = c := by rfl) (hc2 : c2 = c := by rfl) : V fr (eEqO c F f g) (.bl b) := by
  subst ha
  obtain ⟨d, outs, e, rfl, hl, ho⟩ := hF
  unfold V eEqO
  rw [h1, Res.bind, h2, Res.bind, if_pos ⟨pers_toD _, pers_toD _⟩]
  show (if c1 = c ∧ c2 = c then (match F (toDs [.obj c1 ns1 fs1, .obj c2 ns2 fs2]) with
      | .ok d _ => if pers d = true then Res.ok d fr else .bad
      | _ => .bad) else .bad) = _
  rw [if_pos ⟨hc1, hc2⟩, e]
  rfl
theorem s_fldN {β : Type} {K : β → Fl → Fr → Prop} {tk : α → O β} {E : α → DV} {a : α} {i n : Nat} {cs : List Nat} {b : Sv} {c : Nat} {ns ns' : List Nat} {fs : List DV} {fs' : α → List DV} (h : fr[i]? = some (some (toD (.obj c ns fs)))) (hf : V fr f (E a)) (hc : decide (c ∈ cs) = true) (hn : decide (ns.length < 1000) = true) (hp : ∀ a, putN n (toD (E a)) ns (toDs fs) = (ns', toDs (fs' a))) (q : ∀ a, Rf (b (fr.set i (some (toD (.obj c ns' (fs' a)))))) (tk a) K KE) : Rf (sSeq (sFldS i n cs f) b fr) (O.lt a tk) K KE := s_fld h hf hc hn (hp a) (q a)
def kFld (i n : Nat) (cs : List Nat) (b : Sv) : D → Fr → Res Fr Fl := fun d fr1 => (if pers d = true then (match fr1[i]? with
  | some (some (.obj c ns fs)) => if c ∈ cs then (if ns.length < 1000 then Res.ok Fl.nx (fr1.set i (some (.obj c (putN n d ns fs).1 (putN n d ns fs).2))) else .bad) else .bad
  | _ => .bad) else .bad).bind (kQ b)
theorem s_fldX {β : Type} {t : O β} {K : β → Fl → Fr → Prop} {i n : Nat} {cs : List Nat} {b : Sv} (q : Rf ((f fr).bind (kFld i n cs b)) t K KE) : Rf (sSeq (sFldS i n cs f) b fr) t K KE := by
  unfold sSeq sFldS
  cases h2 : f fr with
  | ok x fr1 => rw [h2] at q; exact q
  | exc c fs fr1 => rw [h2] at q; exact q
  | bad => rw [h2] at q; exact q
theorem k_fldN {β α : Type} {K : β → Fl → Fr → Prop} {tk : α → O β} {E : α → DV} {a : α} {i n : Nat} {cs : List Nat} {b : Sv} {c : Nat} {ns ns' : List Nat} {fs : List DV} {fs' : α → List DV} (h : fr[i]? = some (some (toD (.obj c ns fs)))) (hc : decide (c ∈ cs) = true) (hn : decide (ns.length < 1000) = true) {fr' : α → Fr} (hp : ∀ a, putN n (toD (E a)) ns (toDs fs) = (ns', toDs (fs' a))) (hf : ∀ a, fr.set i (some (toD (.obj c ns' (fs' a)))) = fr' a) (q : ∀ a, Rf (b (fr' a)) (tk a) K KE) : Rf (kFld i n cs b (toD (E a)) fr) (O.lt a tk) K KE := by
  unfold kFld
  rw [if_pos (pers_toD _), h]
  show Rf ((if c ∈ cs then (if ns.length < 1000 then Res.ok Fl.nx (fr.set i (some (.obj c (putN n (toD (E a)) ns (toDs fs)).1 (putN n (toD (E a)) ns (toDs fs)).2))) else Res.bad) else Res.bad).bind _) _ K KE
  rw [if_pos (of_decide_eq_true hc), if_pos (of_decide_eq_true hn), hp]
  have := q a
  rw [← hf] at this
  exact this
/-! dicts -/
theorem s_dputN {β α : Type} {f : α → DV} {K : β → Fl → Fr → Prop} {tk : List (PP × α) → O β} {i : Nat} {es : Av} {b : Sv} {l : List (PP × α)} {x y : Int} {a : α} (h : fr[i]? = some (some (toD (eDP f l)))) (hv : V fr e (f a)) (hk : VA fr es [.int x, .int y]) {fr' : List (PP × α) → Fr} (hl : appC l) (hf : ∀ m, fr.set i (some (toD (eDP f m))) = fr' m) (q : ∀ m, Rf (b (fr' m)) (tk m) K KE) : Rf (sSeq (sDput i es e) b fr) (O.lt (putT l (x, y) a) tk) K KE := s_dput h hv hk hl (by rw [hf]; exact q _)
def kDput (i : Nat) (v : D) (b : Sv) : List D → Fr → Res Fr Fl := fun ks fr2 => (match fr2[i]? with
    | some (some c) => match toKeys ks, unT c with
      | some k, some kvs => if kvs.length < sizeLine ∧ ks.length ≤ sizeLine then Res.ok Fl.nx (fr2.set i (some (dTm (putK' kvs k v)))) else .bad
      | _, _ => .bad
    | _ => .bad).bind fun fl fr1 => match fl with
      | .nx => b fr1
      | fl => .ok fl fr1
theorem s_dputX {β : Type} {t : O β} {K : β → Fl → Fr → Prop} {i : Nat} {es : Av} {b : Sv} (hv : V fr e v) (h : fr[i]? = some (some (toD c))) (hd : isDctD (toD c) = true) (q : Rf ((es fr).bind (kDput i (toD v) b)) t K KE) : Rf (sSeq (sDput i es e) b fr) t K KE := by
  unfold sSeq sDput
  rw [hv, Res.bind, if_pos (pers_toD _), h]
  dsimp only
  rw [if_pos hd]
  cases h2 : es fr with
  | ok x fr1 => rw [h2] at q; exact q
  | exc c fs fr1 => rw [h2] at q; exact q
  | bad => rw [h2] at q; exact q
theorem k_dput {β α : Type} {f : α → DV} {K : β → Fl → Fr → Prop} {tk : List (PP × α) → O β} {i : Nat} {b : Sv} {l : List (PP × α)} {x y : Int} {a : α} (h : fr[i]? = some (some (toD (eDP f l)))) {fr' : List (PP × α) → Fr} (hl : appC l) (hf : ∀ m, fr.set i (some (toD (eDP f m))) = fr' m) (q : ∀ m, Rf (b (fr' m)) (tk m) K KE) : Rf (kDput i (toD (f a)) b (toDs [.int x, .int y]) fr) (O.lt (putT l (x, y) a) tk) K KE := by
  unfold kDput
  rw [h]
  dsimp only
  rw [unT_td, show toKeys (toDs [.int x, .int y]) = some (kP (x, y)) from rfl]
  dsimp only
  rw [if_pos ⟨by rw [td_len]; exact hl, (by decide : 2 ≤ sizeLine)⟩, put_td, ← toD_eDP]
  have := q (putT l (x, y) a)
  rw [← hf] at this
  exact this
/-! iterables that hand over an owned list -/
theorem vi_Lz {α : Type} {E : α → DV} {l : List α} {i : Nat} (h : fr[i]? = some (some (toD (eL E l)))) (hc : isCell (toD (eL E l)) = true) : VI fr (iVal (eFz i)) l E (fr.set i (some (.tup [toD (eL E l)]))) := by
  unfold VI iVal eFz
  rw [h]
  dsimp only
  rw [if_pos hc, Res.bind, if_pos (pers_toD _)]
  show Res.ok (toDs (l.map E)) _ = _
  rw [toDs_m]
theorem vi_enLz {α : Type} {E : α → DV} {l : List α} {i : Nat} (h : fr[i]? = some (some (toD (eL E l)))) (hc : isCell (toD (eL E l)) = true) : VI fr (iEn (eFz i)) (enumT l) (eP2 eI E) (fr.set i (some (.tup [toD (eL E l)]))) := by
  unfold VI iEn eFz
  rw [h]
  dsimp only
  rw [if_pos hc, Res.bind, if_pos (pers_toD _)]
  show Res.ok (iotaD (toDs (l.map E))) _ = _
  rw [toDs_m, iota_eq]
theorem zip_vals {α β : Type} {e1 e2 : Ev} {E : α → DV} {E2 : β → DV} {l : List α} {m : List β} (h : (e1 fr = .ok (toD (eL E l)) fr ∧ e2 fr = .ok (toD (eL E2 m)) fr) ∨ (e1 fr = .ok (toD (eT E l)) fr ∧ e2 fr = .ok (toD (eT E2 m)) fr)) : VI fr (iZp e1 e2) (l.zip m) (eP2 E E2) fr := by
  unfold VI iZp
  rw [← zip_eq]
  rcases h with ⟨h1, h2⟩ | ⟨h1, h2⟩
  · rw [h1, Res.bind, if_pos (pers_toD _), h2, Res.bind, if_pos (pers_toD _)]
    show Res.ok (zipD (toDs (l.map E)) (toDs (m.map E2))) fr = _
    rw [toDs_m, toDs_m]
  · rw [h1, Res.bind, if_pos (pers_toD _), h2, Res.bind, if_pos (pers_toD _)]
    show Res.ok (zipD (toDs (l.map E)) (toDs (m.map E2))) fr = _
    rw [toDs_m, toDs_m]
theorem vi_zipLL {α β : Type} {e1 e2 : Ev} {E : α → DV} {E2 : β → DV} {l : List α} {m : List β} (h : V fr e1 (eL E l)) (h2 : V fr e2 (eL E2 m)) : VI fr (iZp e1 e2) (l.zip m) (eP2 E E2) fr := zip_vals (.inl ⟨h, h2⟩)
theorem vi_zipTT {α β : Type} {e1 e2 : Ev} {E : α → DV} {E2 : β → DV} {l : List α} {m : List β} (h : V fr e1 (eT E l)) (h2 : V fr e2 (eT E2 m)) : VI fr (iZp e1 e2) (l.zip m) (eP2 E E2) fr := zip_vals (.inr ⟨h, h2⟩)
def charsT (x : Str) : List Str := x.cps.toList.map fun c => (⟨#[c]⟩ : Str)
theorem vi_X {x : Str} (h : V fr e (.str x)) : VI fr (iVal e) (charsT x) eS fr := by
  unfold VI iVal
  rw [h, Res.bind, if_pos (pers_toD _)]
  show Res.ok (chars x) fr = _
  unfold chars charsT
  rw [List.map_map]; rfl
/-! while's test -/
theorem wh_v {σ : Type} {u : Bv} {b : Bool} {F : σ → Fr} {s : σ} (h : VB (F s) u b) : Rf (u (F s)) (.ok b) (fun a b fr => b = a ∧ fr = F s) KE := ⟨_, _, h, rfl, rfl⟩
theorem wh_x {u : Bv} {tb : O (Bool × Unit)} (h : Rf (u fr) tb (KB fun _ => fr) KE) : Rf (u fr) (tb.bind fun p => .ok p.1) (fun a b fr' => b = a ∧ fr' = fr) KE := by
  cases tb with
  | bad => exact ⟨trivial⟩
  | exc c fs st => exact ⟨h.h⟩
  | ok p => obtain ⟨b, s, e, rfl, rfl⟩ := h; exact ⟨_, _, e, rfl, rfl⟩
def insT {α : Type} (l : List α) (i : Int) (a : α) : List α := l.take i.toNat ++ [a] ++ l.drop i.toNat
end
/-! loops and comprehensions whose iterable may do something -/
section
variable {β σ ρ : Type} {K : β → Fl → Fr → Prop} {KE : List DV → Fr → Prop} {fr fr1 : Fr} {t : O β} {b g : Sv} {e f : Ev}
def kFor (js : List Bool) (tg : Tv) (g b : Sv) : List D → Fr → Res Fr Fl := fun ds fr1 => (loopF tg (sK js g) ds (killF fr1 js)).bind (kQ b)
theorem s_forH {js : List Bool} {tg : Tv} {hI : Iv} (q : Rf ((hI fr).bind (kFor js tg g b)) t K KE) : Rf (sSeq (sFor (iK js hI) tg (sK js g)) b fr) t K KE := by
  unfold sSeq sFor iK
  cases h : hI fr with
  | ok x fr1 => rw [h] at q; exact q
  | exc c fs fr1 => rw [h] at q; exact q
  | bad => rw [h] at q; exact q
variable {α : Type} {E : α → DV} {F : σ → Fr} {G : α → σ → Fr} {tg : Tv} {js : List Bool}
theorem k_for {l : List α} {s0 : σ} {tb : α → σ → O σ} {tk : σ → O β} (h0 : killF fr js = F s0) (ht : ∀ a s, tg (toD (E a)) (F s) = some (G a s))
    (hb : ∀ a s, Rf (g (G a s)) (tb a s) (fun s fl fr => (fl = .nx ∨ fl = .cnt) ∧ killF fr js = F s) KE) (r : ∀ s, Rf (b (F s)) (tk s) K KE) : Rf (kFor js tg g b (l.map fun a => toD (E a)) fr) ((foldT l s0 tb).bind tk) K KE := by
  unfold kFor
  rw [h0]
  refine Rf.bind (fold_r ht hb l s0) fun s fl fr2 hs => ?_
  obtain ⟨rfl, rfl⟩ := hs
  exact r s
theorem k_loop {KR : ρ → Fl → Fr → Prop} {l : List α} {s0 : σ} {tb : α → σ → O (Fw ρ σ)} {tk : σ → O β} {tr : ρ → O β} (h0 : killF fr js = F s0) (ht : ∀ a s, tg (toD (E a)) (F s) = some (G a s))
    (hb : ∀ a s, Rf (g (G a s)) (tb a s) (fun w fl fr => match w with | .nx s => (fl = .nx ∨ fl = .cnt) ∧ killF fr js = F s | .brk s => fl = .brk ∧ killF fr js = F s | .ret r => (∃ d, fl = .ret d) ∧ KR r fl fr) KE) (r : ∀ s, Rf (b (F s)) (tk s) K KE)
    (hr : ∀ x d fr, KR x (.ret d) fr → Rf (Res.ok (Fl.ret d) fr) (tr x) K KE) : Rf (kFor js tg g b (l.map fun a => toD (E a)) fr) ((loopT l s0 tb).aft tk tr) K KE := by
  unfold kFor
  rw [h0]
  refine Rf.bind (loop_r ht hb l s0) fun w fl fr2 hs => ?_
  cases w with
  | nx s => obtain ⟨rfl, rfl⟩ := hs; exact r s
  | brk s => exact hs.elim
  | ret x => obtain ⟨⟨d, rfl⟩, z⟩ := hs; exact hr x d fr2 z
end
section
variable {β δ : Type} {K : β → δ → Fr → Prop} {KE : List DV → Fr → Prop} {fr fr1 : Fr} {t : O β} {e f g : Ev} {k : D → Fr → Res Fr δ} {kI : List D → Fr → Res Fr δ} {v w : DV}
theorem x_vi {α : Type} {E : α → DV} {hI : Iv} {l : List α} {fr' : Fr} (h : VI fr hI l E fr') (q : Rf (kI (l.map fun a => toD (E a)) fr') t K KE) : Rf ((hI fr).bind kI) t K KE := by rw [h]; exact q
def kRg1 (kI : List D → Fr → Res Fr δ) : D → Fr → Res Fr δ := fun d fr1 => (match look fr1 d with
  | some (.int j) => if okI j = true then Res.ok (rangeD 0 j.toNat) fr1 else .bad
  | _ => .bad).bind kI
theorem x_rg1 (q : Rf ((e fr).bind (kRg1 kI)) t K KE) : Rf ((iRg1 e fr).bind kI) t K KE := by
  unfold iRg1
  cases h : e fr with
  | ok x fr1 => rw [h] at q; exact q
  | exc c fs fr1 => rw [h] at q; exact q
  | bad => rw [h] at q; exact q
theorem k_rg1 {n : Int} (c : okR n) (q : Rf (kI ((rngT 0 n).map fun a => toD (eI a)) fr) t K KE) : Rf (kRg1 kI (toD (.int n)) fr) t K KE := by
  have : kRg1 kI (toD (.int n)) fr = kI ((rngT 0 n).map fun a => toD (eI a)) fr := by
    rw [← rangeD_eq]
    show ((if okI n = true then Res.ok (rangeD 0 n.toNat) fr else Res.bad).bind kI) = _
    rw [if_pos (okI_of c), Int.sub_zero]; rfl
  rw [this]; exact q
def kIV (kI : List D → Fr → Res Fr δ) : D → Fr → Res Fr δ := fun d fr1 => (if pers d = true then (match seqD d with
  | some ds => Res.ok ds fr1
  | none => .bad) else .bad).bind kI
theorem x_iv (q : Rf ((e fr).bind (kIV kI)) t K KE) : Rf ((iVal e fr).bind kI) t K KE := by
  unfold iVal
  cases h : e fr with
  | ok x fr1 => rw [h] at q; exact q
  | exc c fs fr1 => rw [h] at q; exact q
  | bad => rw [h] at q; exact q
theorem k_ivL {α : Type} {E : α → DV} {l : List α} (q : Rf (kI (l.map fun a => toD (E a)) fr) t K KE) : Rf (kIV kI (toD (eL E l)) fr) t K KE := by
  unfold kIV
  rw [if_pos (pers_toD _)]
  show Rf (kI (toDs (l.map E)) fr) t K KE
  rw [toDs_m]; exact q
theorem k_ivT {α : Type} {E : α → DV} {l : List α} (q : Rf (kI (l.map fun a => toD (E a)) fr) t K KE) : Rf (kIV kI (toD (eT E l)) fr) t K KE := by
  unfold kIV
  rw [if_pos (pers_toD _)]
  show Rf (kI (toDs (l.map E)) fr) t K KE
  rw [toDs_m]; exact q
def kComp (vs : List Nat) (tg : Tv) (c : Bv) (e : Ev) (k : D → Fr → Res Fr δ) : List D → Fr → Res Fr δ := fun ds fr1 => (if ds.length ≤ sizeLine then (match compL vs tg c e ds fr1 with
  | .ok r fr2 => Res.ok (D.lst r) (restF fr1 fr2 vs)
  | _ => Res.bad) else Res.bad).bind k
theorem x_compH {vs : List Nat} {tg : Tv} {c : Bv} {hI : Iv} (q : Rf ((hI fr).bind (kComp vs tg c e k)) t K KE) : Rf ((eComp vs hI tg c e fr).bind k) t K KE := by
  unfold eComp
  cases h : hI fr with
  | ok x fr1 => rw [h] at q; exact q
  | exc c fs fr1 => rw [h] at q; exact q
  | bad => rw [h] at q; exact q
theorem k_comp {σ α γ : Type} {E : α → DV} {E2 : γ → DV} {vs : List Nat} {tg : Tv} {c : Bv} {t : List γ × σ → O β} {l : List α} {s0 : σ} {G : σ → Fr} {tb : α → σ → O (Option γ × σ)} (hl : l.length ≤ 16777216) (h0 : fr = G s0) (ht : ∀ a s, (tg (toD (E a)) (wipeF (G s) vs)).isSome = true)
    (hb : ∀ a s, Rf (turnF c e (tgF tg vs (E a) (G s))) (tb a s) (fun p o fr => o = p.1.map (fun y => toD (E2 y)) ∧ wipeF fr vs = wipeF (G p.2) vs) fun _ _ => True) (hG : ∀ s, restF (G s0) (G s) vs = G s)
    (q : ∀ p, Rf (k (toD (eL E2 p.1)) (G p.2)) (t p) K KE) : Rf (kComp vs tg c e k (l.map fun a => toD (E a)) fr) ((compT l s0 tb).no.bind t) K KE := by
  subst h0
  refine Rf.no fun p hp => ?_
  obtain ⟨fr2, e1, w⟩ := compL_x (fun a s => tgF_eq (ht a s)) hb l s0 (G s0) rfl p hp
  unfold kComp
  rw [if_pos (by rw [List.length_map]; exact Nat.le_trans hl (by decide)), e1]
  show Rf ((Res.ok (D.lst _) (restF (G s0) fr2 vs)).bind k) _ _ _
  rw [restF_wipe (G s0) w, hG, ← toDs_map]
  exact q p
theorem k_ivLN {α β : Type} {E : α → DV} {l : List α} {tk : List α → O β} {K : β → δ → Fr → Prop} (q : ∀ l, Rf (kI (l.map fun a => toD (E a)) fr) (tk l) K KE) : Rf (kIV kI (toD (eL E l)) fr) (O.lt l tk) K KE := k_ivL (q l)
theorem k_ivTN {α β : Type} {E : α → DV} {l : List α} {tk : List α → O β} {K : β → δ → Fr → Prop} (q : ∀ l, Rf (kI (l.map fun a => toD (E a)) fr) (tk l) K KE) : Rf (kIV kI (toD (eT E l)) fr) (O.lt l tk) K KE := k_ivT (q l)
def leYo (v w : DV) : Option Bool := match leA (toD v) (toD w) with
  | some (.bl b) => some b
  | _ => none
theorem f_leY {v w : DV} {b : Bool} (h : leYo v w = some b) : F2 leA v w (.bl b) := by
  unfold leYo at h
  unfold F2
  split at h
  · next c e => cases h; rw [e]; rfl
  · cases h
/-! texts -/
def inStr (i j : Str) : Bool := !(Builtin.Str.occurrences j i 0 j.length 1).isEmpty
theorem f_inS {i j : Str} : F2 inA2 (.str i) (.str j) (.bl (inStr i j)) := rfl
theorem f_str {i : Int} (h : i.natAbs.log2 < 1920) : F1 strF (.int i) (.str (Str.ofString (toString i))) := if_pos h
def splC (a b : Str) : Prop := (b.length == 0) = false ∧ a.length + 2 ≤ 16777216
instance (a b : Str) : Decidable (splC a b) := by unfold splC; infer_instance
theorem v_spl {a b : Str} (h : V fr f (.str a)) (hg : L fr g (.str b)) (c : splC a b) : V fr (eM1 splF f g) (eL eS (Txt.split a b)) := by
  obtain ⟨y, h1, h2⟩ := hg
  unfold V eM1
  rw [h]
  show ((g fr).bind fun y fr2 => match look fr2 y with
    | some b => ofO (splF (.str a) b) fr2
    | _ => .bad) = _
  rw [h1, Res.bind, h2]
  show ofO (splF (.str a) (.str b)) fr = _
  unfold splF
  dsimp only
  rw [if_pos (show (b.length == 0) = false ∧ a.length + 2 ≤ sizeLine from c)]
  show Res.ok (D.lst _) fr = Res.ok (D.lst (toDs _)) fr
  rw [toDs_m]; rfl
theorem strs_m : ∀ l : List Str, strsOf (toDs (l.map eS)) = some l
  | [] => rfl
  | b :: l => by
    show (strsOf (toDs (l.map eS))).map (b :: ·) = _
    rw [strs_m l]; rfl
def joinC (a : Str) (l : List Str) : Prop := (l.map (·.length)).sum + l.length * a.length ≤ 16777216
instance (a : Str) (l : List Str) : Decidable (joinC a l) := by unfold joinC; infer_instance
theorem v_joinL {a : Str} {l : List Str} (h : V fr f (.str a)) (hg : L fr g (eL eS l)) (c : joinC a l) : V fr (eM1 joinF f g) (.str (Txt.join a l)) := by
  obtain ⟨y, h1, h2⟩ := hg
  unfold V eM1
  rw [h]
  show ((g fr).bind fun y fr2 => match look fr2 y with
    | some b => ofO (joinF (.str a) b) fr2
    | _ => .bad) = _
  rw [h1, Res.bind, h2]
  show ofO (joinF (.str a) (.lst (toDs (l.map eS)))) fr = _
  unfold joinF
  dsimp only
  rw [strs_m]
  dsimp only
  have c : (l.map (·.length)).sum + l.length * a.length ≤ 16777216 := c
  rw [if_pos c]; rfl
theorem v_joinT {a : Str} {l : List Str} (h : V fr f (.str a)) (hg : L fr g (eT eS l)) (c : joinC a l) : V fr (eM1 joinF f g) (.str (Txt.join a l)) := by
  obtain ⟨y, h1, h2⟩ := hg
  unfold V eM1
  rw [h]
  show ((g fr).bind fun y fr2 => match look fr2 y with
    | some b => ofO (joinF (.str a) b) fr2
    | _ => .bad) = _
  rw [h1, Res.bind, h2]
  show ofO (joinF (.str a) (.tup (toDs (l.map eS)))) fr = _
  unfold joinF
  dsimp only
  rw [strs_m]
  dsimp only
  have c : (l.map (·.length)).sum + l.length * a.length ≤ 16777216 := c
  rw [if_pos c]; rfl
theorem v_fmtI {i : Int} (h : L fr f (.int i)) (c : i.natAbs.log2 < 1920) : V fr (eOp1 (fun d => (fmtF d).map D.str) f) (.str (Str.ofString (toString i))) := v_op1 h (by
  show ((if i.natAbs.log2 < 1920 then some (Str.ofString (toString i)) else none).map D.str) = _
  rw [if_pos c]; rfl)
theorem v_fmtS {i : Str} (h : L fr f (.str i)) (c : i.length ≤ 16777216) : V fr (eOp1 (fun d => (fmtF d).map D.str) f) (.str i) := v_op1 h (by
  show ((if i.length ≤ sizeLine then some i else none).map D.str) = _
  rw [if_pos (Nat.le_trans c (by decide))]; rfl)
def atX (x : Str) (i : Int) : Option Str := if x.length ≤ 16777216 then (L2.atI x.cps.toList i).map fun c => ⟨#[c]⟩ else none
theorem f_ixX {x y : Str} {i : Int} (h : atX x i = some y) : F2 ixF (.str x) (.int i) (.str y) := by
  unfold atX at h
  show (if x.length ≤ sizeLine then (L2.atI x.cps.toList i).map (fun c => D.str ⟨#[c]⟩) else none) = _
  split at h
  · next c =>
    rw [if_pos (Nat.le_trans c (by decide))]
    cases ha : L2.atI x.cps.toList i with
    | none => rw [ha] at h; cases h
    | some a => rw [ha] at h; cases h; rfl
  · cases h
def kM1 (F : D → D → Option D) (x : D) (k : D → Fr → Res Fr δ) : D → Fr → Res Fr δ := fun y fr2 => (match look fr2 y with
    | some b => ofO (F x b) fr2
    | _ => Res.bad).bind k
theorem x_m1 {F : D → D → Option D} {x : Str} (h : V fr f (.str x)) (q : Rf ((g fr).bind (kM1 F (.str x) k)) t K KE) : Rf ((eM1 F f g fr).bind k) t K KE := by
  unfold eM1
  rw [h]
  show Rf (((g fr).bind fun y fr2 => match look fr2 y with
    | some b => ofO (F (.str x) b) fr2
    | _ => .bad).bind k) t K KE
  cases h2 : g fr with
  | ok x fr1 => rw [h2] at q; exact q
  | exc c fs fr1 => rw [h2] at q; exact q
  | bad => rw [h2] at q; exact q
theorem k_m1 {F : D → D → Option D} {x : Str} {z : DV} (h : F (.str x) (toD v) = some (toD z)) (q : Rf (k (toD z) fr) t K KE) : Rf (kM1 F (.str x) k (toD v) fr) t K KE := by
  unfold kM1
  rw [look_toD]
  show Rf ((ofO (F (.str x) (toD v)) fr).bind k) t K KE
  rw [h]; exact q
theorem m_spl {a b : Str} (c : splC a b) : splF (.str a) (toD (.str b)) = some (toD (eL eS (Txt.split a b))) := by
  show (if (b.length == 0) = false ∧ a.length + 2 ≤ sizeLine then some (D.lst ((Txt.split a b).map D.str)) else none) = some (D.lst (toDs _))
  rw [if_pos (show (b.length == 0) = false ∧ a.length + 2 ≤ sizeLine from c), toDs_m]; rfl
theorem m_joinL {a : Str} {l : List Str} (c : joinC a l) : joinF (.str a) (toD (eL eS l)) = some (toD (.str (Txt.join a l))) := by
  show (match strsOf (toDs (l.map eS)) with
    | some ys => if (ys.map fun y : Str => y.length).sum + ys.length * a.length ≤ 16777216 then some (D.str (Txt.join a ys)) else none
    | none => none) = _
  rw [strs_m]
  dsimp only
  have c : (l.map (·.length)).sum + l.length * a.length ≤ 16777216 := c
  rw [if_pos c]; rfl
def intS (x : Str) : Option Int := if x.length ≤ 640 then PySem.intText? x else none
theorem f_intS {x : Str} {i : Int} (h : intS x = some i) : F1 intF (.str x) (.int i) := by
  unfold intS at h
  show (if x.length ≤ 640 then (PySem.intText? x).map D.int else none) = _
  split at h
  · next c => rw [if_pos c, h]; rfl
  · cases h
theorem v_fs0 {acc : Str} : V fr (eFs [] acc) (.str acc) := rfl
theorem v_fs {fs : List Ev} {acc x y : Str} (h : V fr f (.str x)) (c : (acc ++ x).length ≤ 16777216) (q : V fr (eFs fs (acc ++ x)) (.str y)) : V fr (eFs (f :: fs) acc) (.str y) := by
  unfold V eFs
  rw [h]
  show (if (acc ++ x).length ≤ sizeLine then eFs fs (acc ++ x) fr else .bad) = _
  rw [if_pos (Nat.le_trans c (by decide))]
  exact q
end
/-! sorted -/
theorem f_sortI {l : List Int} : F1 sortF (eL eI l) (eL eI (l.mergeSort leI)) := by
  show (match intsOf (toDs (l.map eI)) with
    | some ns => some (D.lst ((ns.mergeSort leI).map D.int))
    | none => sortRs (toDs (l.map eI))) = _
  rw [ints_m]
  show some (D.lst _) = some (D.lst (toDs _))
  rw [toDs_m]; rfl
theorem rows_m : ∀ l : List (List Int), rowsOf (toDs (l.map (eT eI))) = some l
  | [] => rfl
  | r :: l => by
    show (match intsOf (toDs (r.map eI)), rowsOf (toDs (l.map (eT eI))) with
      | some r, some rs => some (r :: rs)
      | _, _ => none) = _
    rw [ints_m, rows_m l]
theorem sortRs_m {l : List (List Int)} (h : ∀ r ∈ l, r ≠ []) : sortRs (toDs (l.map (eT eI))) = some (toD (eL (eT eI) (l.mergeSort leR))) := by
  unfold sortRs
  rw [rows_m]
  dsimp only
  rw [if_pos (List.all_eq_true.mpr fun r hr => by
    cases r with
    | nil => exact absurd rfl (h _ hr)
    | cons => rfl)]
  show some (D.lst _) = some (D.lst (toDs _))
  rw [toDs_m]
  congr 2
  refine List.map_congr_left fun r _ => ?_
  show D.tup (r.map D.int) = D.tup (toDs (r.map eI))
  rw [toDs_m]; rfl
theorem f_sortLT {l : List (List Int)} (h : ∀ r ∈ l, r ≠ []) : F1 sortF (eL (eT eI) l) (eL (eT eI) (l.mergeSort leR)) := by
  cases l with
  | nil =>
    have := f_sortI (l := [])
    rw [List.mergeSort_nil] at this ⊢
    exact this
  | cons r l => exact sortRs_m h
theorem f_sortTT {l : List (List Int)} (h : ∀ r ∈ l, r ≠ []) : F1 sortF (eT (eT eI) l) (eL (eT eI) (l.mergeSort leR)) := sortRs_m h
theorem leR_pair (p q : PP) : leP p q = leR [p.1, p.2] [q.1, q.2] := by
  unfold leP leR
  rw [Bool.eq_iff_iff, decide_eq_true_eq, decide_eq_true_eq]
  simp only [List.cons_le_cons_iff]
  constructor
  · rintro (h | ⟨h1, h2⟩)
    · exact .inl h
    · refine .inr ⟨h1, ?_⟩
      rcases Int.lt_or_eq_of_le h2 with z | z
      · exact .inl z
      · exact .inr ⟨z, by simp⟩
  · rintro (h | ⟨h1, h2 | ⟨h2, _⟩⟩)
    · exact .inl h
    · exact .inr ⟨h1, by omega⟩
    · exact .inr ⟨h1, by omega⟩
theorem pairs_m (l : List PP) : toDs (l.map (eP2 eI eI)) = toDs ((l.map fun p => [p.1, p.2]).map (eT eI)) := by
  rw [List.map_map]; rfl
theorem sort_pairs (l : List PP) : (l.map fun p => [p.1, p.2]).mergeSort leR = (l.mergeSort leP).map fun p => [p.1, p.2] := (List.map_mergeSort fun a _ b _ => leR_pair a b).symm
theorem f_sortLP {l : List PP} : F1 sortF (eL (eP2 eI eI) l) (eL (eP2 eI eI) (l.mergeSort leP)) := by
  have := f_sortLT (l := l.map fun p => [p.1, p.2]) (fun r hr => by obtain ⟨p, _, rfl⟩ := List.mem_map.mp hr; exact List.cons_ne_nil _ _)
  unfold F1 at this ⊢
  show sortF (.lst (toDs (l.map (eP2 eI eI)))) = some (.lst (toDs ((l.mergeSort leP).map (eP2 eI eI))))
  rw [pairs_m, pairs_m, ← sort_pairs]
  exact this
theorem f_sortTP {l : List PP} : F1 sortF (eT (eP2 eI eI) l) (eL (eP2 eI eI) (l.mergeSort leP)) := by
  have := f_sortTT (l := l.map fun p => [p.1, p.2]) (fun r hr => by obtain ⟨p, _, rfl⟩ := List.mem_map.mp hr; exact List.cons_ne_nil _ _)
  unfold F1 at this ⊢
  show sortF (.tup (toDs (l.map (eP2 eI eI)))) = some (.lst (toDs ((l.mergeSort leP).map (eP2 eI eI))))
  rw [pairs_m, pairs_m, ← sort_pairs]
  exact this
end KT
namespace KT
open PySem KS
/-! ### dicts whose keys are tuples of ints -/
section
variable {α : Type} {f : α → DV}
abbrev eDT {α : Type} (f : α → DV) : List (List Int × α) → DV := fun l => .dct (.bl true :: l.map fun p => eT eI p.1) (l.map fun p => f p.2)
def kL (k : List Int) : List L2.Key := k.map .inl
def tdL (f : α → DV) (l : List (List Int × α)) : TD := l.map fun p => (kL p.1, toD (f p.2))
theorem v_cDT {fr : Fr} : V fr (eC (dTm [])) (eDT f []) := rfl
theorem kD_kL (k : List Int) : (kL k).map kD = toDs (k.map eI) := by
  unfold kL
  rw [toDs_m, List.map_map]; rfl
theorem toD_eDT (l : List (List Int × α)) : toD (eDT f l) = dTm (tdL f l) := by
  show D.dct (.bl true :: toDs (l.map fun p => eT eI p.1)) (toDs (l.map fun p => f p.2)) = D.dct (.bl true :: (tdL f l).map fun p => .tup (p.1.map kD)) ((tdL f l).map (·.2))
  rw [toDs_map, toDs_map]
  unfold tdL
  rw [List.map_map, List.map_map]
  congr 2
  refine List.map_congr_left fun p _ => ?_
  show D.tup (toDs (p.1.map eI)) = D.tup ((kL p.1).map kD)
  rw [kD_kL]
theorem unT_tdL (l : List (List Int × α)) : unT (toD (eDT f l)) = some (tdL f l) := by
  rw [toD_eDT]
  exact unT_dTm _
theorem kL_inj {p q : List Int} : kL p = kL q ↔ p = q := by
  unfold kL
  constructor
  · intro h
    exact (List.map_inj_right fun a b h => by cases h; rfl).mp h
  · intro h; rw [h]
theorem toKeys_L : ∀ k : List Int, toKeys (toDs (k.map eI)) = some (kL k)
  | [] => rfl
  | i :: k => by
    show (match toKey (.int i), toKeys (toDs (k.map eI)) with | some k, some ks => some (k :: ks) | _, _ => none) = _
    rw [toKeys_L k]; rfl
theorem tupKey_L (k : List Int) : tupKey (toD (eT eI k)) = some (kL k) := toKeys_L k
def hasL {α : Type} (l : List (List Int × α)) (k : List Int) : Bool := l.any fun p => decide (p.1 = k)
def putL {α : Type} (l : List (List Int × α)) (k : List Int) (a : α) : List (List Int × α) := if hasL l k = true then l.map (fun p => if p.1 = k then (p.1, a) else p) else l ++ [(k, a)]
def getL {α : Type} (l : List (List Int × α)) (k : List Int) : Option α := (l.find? fun p => decide (p.1 = k)).map (·.2)
theorem any_tdL (l : List (List Int × α)) (k : List Int) : ((tdL f l).any fun kv => decide (kv.1 = kL k)) = hasL l k := by
  unfold tdL hasL
  rw [List.any_map]
  congr 1
  funext p
  show decide (kL p.1 = kL k) = _
  simp only [kL_inj]
theorem put_tdL (l : List (List Int × α)) (k : List Int) (a : α) : putK' (tdL f l) (kL k) (toD (f a)) = tdL f (putL l k a) := by
  unfold putK' putL
  rw [any_tdL]
  split
  · unfold tdL
    rw [List.map_map, List.map_map]
    congr 1
    funext p
    show (if kL p.1 = kL k then (kL p.1, toD (f a)) else (kL p.1, toD (f p.2))) = _
    simp only [kL_inj, Function.comp]
    split <;> rfl
  · unfold tdL
    rw [List.map_append]; rfl
theorem find_tdL : ∀ (l : List (List Int × α)) (k : List Int), valV' (tdL f l) (kL k) = (getL l k).map fun a => toD (f a)
  | [], k => rfl
  | p :: l, k => by
    have ih := find_tdL l k
    unfold valV' getL at ih ⊢
    show (((kL p.1, toD (f p.2)) :: tdL f l).find? fun kv => decide (kv.1 = kL k)).map (·.2) = _
    rw [List.find?_cons, List.find?_cons]
    dsimp only
    have : decide (kL p.1 = kL k) = decide (p.1 = k) := by simp only [kL_inj]
    rw [this]
    cases decide (p.1 = k)
    · exact ih
    · rfl
theorem getL_isSome (l : List (List Int × α)) (k : List Int) : (getL l k).isSome = hasL l k := by
  unfold getL hasL
  rw [Option.isSome_map, Bool.eq_iff_iff, List.find?_isSome, List.any_eq_true]
variable {β δ : Type} {K : β → δ → Fr → Prop} {KE : List DV → Fr → Prop} {fr : Fr} {t : O β} {e e2 : Ev} {k : D → Fr → Res Fr δ}
theorem v_dinV {i : Nat} {l : List (List Int × α)} {x : List Int} (h : fr[i]? = some (some (toD (eDT f l)))) (hk : V fr e (eT eI x)) : V fr (eDinV i e) (.bl (hasL l x)) := by
  unfold V eDinV
  rw [hk, Res.bind, h]
  dsimp only
  rw [unT_tdL, tupKey_L]
  dsimp only
  rw [find_tdL, Option.isSome_map, getL_isSome]
  rfl
theorem v_dgetV {i : Nat} {l : List (List Int × α)} {x : List Int} {a : α} (h : fr[i]? = some (some (toD (eDT f l)))) (hk : V fr e (eT eI x)) (ha : V fr e2 (f a)) : V fr (eDgetV i e e2) (f ((getL l x).getD a)) := by
  unfold V eDgetV
  rw [h]
  dsimp only
  rw [if_pos (show isDctD (toD (eDT f l)) = true from rfl), hk, Res.bind, ha, Res.bind, if_pos (pers_toD _), h]
  dsimp only
  rw [unT_tdL, tupKey_L]
  dsimp only
  rw [find_tdL]
  cases getL l x <;> rfl
theorem s_dputVN {β : Type} {K : β → Fl → Fr → Prop} {tk : List (List Int × α) → O β} {i : Nat} {b : Sv} {l : List (List Int × α)} {x : List Int} {a : α} (h : fr[i]? = some (some (toD (eDT f l)))) (hv : V fr e2 (f a)) (hk : V fr e (eT eI x)) {fr' : List (List Int × α) → Fr} (hl : appC l) (hf : ∀ m, fr.set i (some (toD (eDT f m))) = fr' m) (q : ∀ m, Rf (b (fr' m)) (tk m) K KE) : Rf (sSeq (sDputV i e e2) b fr) (O.lt (putL l x a) tk) K KE := by
  unfold sSeq sDputV
  rw [hv, Res.bind, if_pos (pers_toD _), h]
  dsimp only
  rw [if_pos (show isDctD (toD (eDT f l)) = true from rfl), hk]
  show Rf ((match fr[i]? with
    | some (some c) => match tupKey (toD (eT eI x)), unT c with
      | some k, some kvs => if kvs.length < sizeLine then Res.ok Fl.nx (fr.set i (some (dTm (putK' kvs k (toD (f a)))))) else .bad
      | _, _ => .bad
    | _ => .bad).bind _) _ K KE
  rw [h]
  dsimp only
  rw [unT_tdL, tupKey_L]
  dsimp only
  rw [if_pos (by unfold tdL; rw [List.length_map]; exact hl), put_tdL, ← toD_eDT]
  have := q (putL l x a)
  rw [← hf] at this
  exact this
end
/-! x *= e -/
theorem f_imul {i j : Int} (h : mulC i j) : F2 imulF (.int i) (.int j) (.int (i * j)) := if_pos h
/-! ### l.remove -/
section
variable {α : Type} [DecidableEq α] {e : α → DV} {n : Nat}
/-- data that list.remove may look at -/
structure DatR (A : Dat e n) : Prop where
  pl : ∀ a, (A.p a).plain = true
theorem datR_I : DatR dat_I := ⟨fun a => by show PyData.plain (.int a) = true; simp [PyData.plain]⟩
theorem plainAll_m {A : Dat e n} (R : DatR A) : ∀ l : List α, PyData.plainAll (l.map A.p) = true
  | [] => by simp [PyData.plainAll]
  | a :: l => by simp [PyData.plainAll, R.pl a, plainAll_m R l]
theorem datR_T {A : Dat e n} (R : DatR A) : DatR (dat_T A) := ⟨fun l => by show PyData.plain (.tuple (l.map A.p)) = true; simp [PyData.plain, plainAll_m R l]⟩
theorem datR_P {β : Type} [DecidableEq β] {f : β → DV} {m : Nat} {A : Dat e n} {B : Dat f m} (R : DatR A) (S : DatR B) : DatR (dat_P A B) := ⟨fun p => by show PyData.plain (.tuple [A.p p.1, B.p p.2]) = true; simp [PyData.plain, PyData.plainAll, R.pl, S.pl]⟩
theorem place_m (A : Dat e n) (a : α) : ∀ l : List α, SeqAt.dataPlace (l.map A.p) (A.p a) = l.findIdx? fun b => decide (b = a)
  | [] => rfl
  | b :: l => by
    have ih := place_m A a l
    unfold SeqAt.dataPlace at ih ⊢
    rw [List.map_cons, List.findIdx?_cons, List.findIdx?_cons, ih, A.eq]
/-- the first one is left out -/
def eraseT {α : Type} [DecidableEq α] (l : List α) (a : α) : List α := match l with
  | [] => []
  | b :: l => if b = a then l else b :: eraseT l a
theorem erase_idx (a : α) : ∀ (l : List α) (j : Nat), (l.findIdx? fun b => decide (b = a)) = some j → l.eraseIdx j = eraseT l a
  | [], j, h => by cases h
  | b :: l, j, h => by
    rw [List.findIdx?_cons] at h
    by_cases c : b = a
    · subst c
      simp at h
      subst h
      simp [eraseT]
    · simp only [c, decide_false, Bool.false_eq_true, if_false, Option.map_eq_some_iff] at h
      obtain ⟨k, hk, rfl⟩ := h
      rw [List.eraseIdx_cons_succ, erase_idx a l k hk, eraseT, if_neg c]
theorem m_rem {A : Dat e n} (R : DatR A) (hn : n ≤ 60) {l : List α} {a : α} (h : memT a l = true) : remM (toD (eL e l)) (toDs [e a]) = some (toD .non, toD (eL e (eraseT l a))) := by
  have hp : ∃ j, (l.findIdx? fun b => decide (b = a)) = some j := by
    cases e : l.findIdx? fun b => decide (b = a) with
    | some j => exact ⟨j, rfl⟩
    | none =>
      rw [List.findIdx?_eq_none_iff] at e
      have := e a (memT_iff.mp h)
      simp at this
  obtain ⟨j, hj⟩ := hp
  show (match pyOfL (toDs (l.map e)), pyOf (toD (e a)) with
    | some ps, some p => if PyData.plainAll ps = true ∧ p.plain = true ∧ p.depth ≤ 60 then (match SeqAt.dataPlace ps p with
      | some j => some (D.non, D.lst ((toDs (l.map e)).eraseIdx j))
      | none => none) else none
    | _, _ => none) = _
  rw [pyOfL_eq A, A.py]
  dsimp only
  rw [if_pos ⟨plainAll_m R l, R.pl a, Nat.le_trans (A.dp a) hn⟩, place_m, hj]
  dsimp only
  rw [toDs_eq, eraseIdx_m, eraseIdx_m, erase_idx a l j hj, ← toDs_eq]
  rfl
end
/-! ### comprehensions over an owned list -/
section
variable {α γ : Type} {E : α → DV} {E2 : γ → DV} {vs : List Nat} {tg : Tv} {c : Bv} {e : Ev} {fr : Fr}
theorem compLO_v {i0 : Nat} {l : List α} {p : α → Bool} {q : α → γ} (h0 : ∀ fr', wipeF fr' vs = wipeF fr vs → fr'[i0]? = some (some (toD (eL E l)))) (ht : ∀ a, (tg (toD (E a)) (wipeF fr vs)).isSome = true) (hw : ∀ a, wipeF (tgF tg vs (E a) fr) vs = wipeF fr vs) (hc : ∀ a, VB (tgF tg vs (E a) fr) c (p a)) (he : ∀ a, p a = true → V (tgF tg vs (E a) fr) e (E2 (q a))) :
    ∀ (m : Nat) (fr0 : Fr), m ≤ l.length → wipeF fr0 vs = wipeF fr vs → ∃ fr2, compLO i0 l.length vs tg c e m fr0 = .ok ((((l.drop (l.length - m)).filter p).map q).map fun a => toD (E2 a)) fr2 ∧ wipeF fr2 vs = wipeF fr vs
  | 0, fr0, hm, hf => by
    refine ⟨fr0, ?_, hf⟩
    unfold compLO
    rw [h0 fr0 hf]
    show (if (toDs (l.map E)).length = l.length then Res.ok [] fr0 else Res.bad) = _
    rw [toDs_length, List.length_map, if_pos rfl, Nat.sub_zero, List.drop_length]
    rfl
  | m + 1, fr0, hm, hf => by
    have hlt : l.length - (m + 1) < l.length := by omega
    obtain ⟨a, ha⟩ : ∃ a, l[l.length - (m + 1)]? = some a := ⟨_, List.getElem?_eq_getElem hlt⟩
    have hdrop : l.drop (l.length - (m + 1)) = a :: l.drop (l.length - m) := by
      obtain ⟨h1, h2⟩ := List.getElem?_eq_some_iff.mp ha
      rw [List.drop_eq_getElem_cons hlt, h2]
      congr 2
      omega
    obtain ⟨fr2, ih, hf2⟩ := compLO_v h0 ht hw hc he m (tgF tg vs (E a) fr) (by omega) (hw a)
    refine ⟨fr2, ?_, hf2⟩
    unfold compLO
    rw [h0 fr0 hf]
    show (if (toDs (l.map E)).length = l.length then (match (toDs (l.map E))[l.length - (m + 1)]? with
      | some d => (match tg d (wipeF fr0 vs) with
        | none => Res.bad
        | some fr1 => (c fr1).bind fun b fr2 => if b = true then ((e fr2).bind fun y fr3 => if pers y = true then ((compLO i0 l.length vs tg c e m fr3).bind fun r fr4 => .ok (y :: r) fr4) else .bad) else compLO i0 l.length vs tg c e m fr2)
      | none => Res.bad) else Res.bad) = _
    rw [toDs_length, List.length_map, if_pos rfl, toDs_get, List.getElem?_map, ha]
    dsimp only [Option.map_some]
    rw [hf, tgF_eq (ht a)]
    dsimp only
    rw [hc a, Res.bind, hdrop]
    cases hp : p a with
    | false =>
      rw [if_neg Bool.false_ne_true, List.filter_cons_of_neg (by rw [hp]; exact Bool.false_ne_true)]
      exact ih
    | true =>
      rw [if_pos rfl, List.filter_cons_of_pos hp, he a hp, Res.bind, if_pos (pers_toD _), ih]
      rfl
theorem v_compO {i0 : Nat} {l : List α} {p : α → Bool} {q : α → γ} (hi : fr[i0]? = some (some (toD (eL E l)))) (hni : decide (i0 ∈ vs) = false) (hl : l.length ≤ 16777216) (ht : ∀ a, (tg (toD (E a)) (wipeF fr vs)).isSome = true) (hg : TgIn tg vs) (hc : ∀ a, VB (tgF tg vs (E a) fr) c (p a)) (he : ∀ a, p a = true → V (tgF tg vs (E a) fr) e (E2 (q a))) :
    V fr (eCompO i0 vs tg c e) (eL E2 ((l.filter p).map q)) := by
  have hw : ∀ a, wipeF (tgF tg vs (E a) fr) vs = wipeF fr vs := fun a => (hg _ _ _ (tgF_eq (ht a))).trans (wipeF_wipe fr vs)
  have hn : i0 ∉ vs := of_decide_eq_false hni
  have h0 : ∀ fr', wipeF fr' vs = wipeF fr vs → fr'[i0]? = some (some (toD (eL E l))) := fun fr' h => by
    have : (wipeF fr' vs)[i0]? = (wipeF fr vs)[i0]? := by rw [h]
    rw [wipeF_at, wipeF_at, if_neg hn, if_neg hn] at this
    rw [this]; exact hi
  obtain ⟨fr2, e1, hf⟩ := compLO_v h0 ht hw hc he l.length fr (Nat.le_refl _) rfl
  unfold V eCompO
  rw [hi]
  show (if (toDs (l.map E)).length ≤ sizeLine then (match compLO i0 (toDs (l.map E)).length vs tg c e (toDs (l.map E)).length fr with
    | .ok r fr2 => Res.ok (D.lst r) (restF fr fr2 vs)
    | _ => Res.bad) else Res.bad) = _
  rw [toDs_length, List.length_map, if_pos (Nat.le_trans hl (by decide)), e1, Nat.sub_self, List.drop_zero]
  show Res.ok (D.lst _) (restF fr fr2 vs) = _
  rw [restF_wipe fr hf, restF_self, ← toDs_map]
  rfl
theorem v_compO0 {i0 : Nat} {l : List α} {q : α → γ} (hi : fr[i0]? = some (some (toD (eL E l)))) (hni : decide (i0 ∈ vs) = false) (hl : l.length ≤ 16777216) (ht : ∀ a, (tg (toD (E a)) (wipeF fr vs)).isSome = true) (hg : TgIn tg vs) (he : ∀ a, V (tgF tg vs (E a) fr) e (E2 (q a))) :
    V fr (eCompO i0 vs tg bYes e) (eL E2 (l.map q)) := by
  have := v_compO (c := bYes) (p := fun _ => true) hi hni hl ht hg (fun _ => rfl) (fun a _ => he a)
  rw [List.filter_eq_self.mpr fun _ _ => rfl] at this
  exact this
theorem compLO_turn (i0 n m : Nat) (fr0 : Fr) {cur : List D} {d : D} (h : fr0[i0]? = some (some (.lst cur))) (hl : cur.length = n) (hd : cur[n - (m + 1)]? = some d) : compLO i0 n vs tg c e (m + 1) fr0 = match tg d (wipeF fr0 vs) with
    | none => .bad
    | some fr1 => (turnF c e fr1).bind fun o fr3 => (compLO i0 n vs tg c e m fr3).bind fun r fr4 => .ok (match o with | some y => y :: r | none => r) fr4 := by
  conv => lhs; unfold compLO
  rw [h]
  dsimp only
  rw [if_pos hl, hd]
  dsimp only
  cases tg d (wipeF fr0 vs) with
  | none => rfl
  | some fr1 =>
    unfold turnF
    dsimp only
    cases c fr1 with
    | bad => rfl
    | exc c fs s => rfl
    | ok b fr2 =>
      cases b with
      | false =>
        show compLO i0 n vs tg c e m fr2 = (compLO i0 n vs tg c e m fr2).bind fun r fr4 => .ok r fr4
        cases compLO i0 n vs tg c e m fr2 <;> rfl
      | true =>
        show ((e fr2).bind fun y fr3 => if pers y = true then ((compLO i0 n vs tg c e m fr3).bind fun r fr4 => .ok (y :: r) fr4) else .bad) = (((e fr2).bind fun y fr3 => if pers y = true then Res.ok (some y) fr3 else .bad)).bind _
        cases e fr2 with
        | bad => rfl
        | exc c fs s => rfl
        | ok y fr3 =>
          show (if pers y = true then ((compLO i0 n vs tg c e m fr3).bind fun r fr4 => .ok (y :: r) fr4) else .bad) = (if pers y = true then Res.ok (some y) fr3 else .bad).bind _
          split <;> rfl
theorem compLO_x {σ : Type} {i0 : Nat} {G : σ → Fr} {l : List α} {tb : α → σ → O (Option γ × σ)} (h0 : ∀ s fr', wipeF fr' vs = wipeF (G s) vs → fr'[i0]? = some (some (toD (eL E l)))) (ht : ∀ a s, (tg (toD (E a)) (wipeF (G s) vs)).isSome = true)
    (hb : ∀ a s, Rf (turnF c e (tgF tg vs (E a) (G s))) (tb a s) (fun p o fr => o = p.1.map (fun y => toD (E2 y)) ∧ wipeF fr vs = wipeF (G p.2) vs) fun _ _ => True) :
    ∀ (m : Nat) (s : σ) (fr0 : Fr), m ≤ l.length → wipeF fr0 vs = wipeF (G s) vs → ∀ p, compT (l.drop (l.length - m)) s tb = .ok p → ∃ fr2, compLO i0 l.length vs tg c e m fr0 = .ok (p.1.map fun y => toD (E2 y)) fr2 ∧ wipeF fr2 vs = wipeF (G p.2) vs
  | 0, s, fr0, hm, hf, p, hp => by
    rw [Nat.sub_zero, List.drop_length] at hp
    cases hp
    refine ⟨fr0, ?_, hf⟩
    unfold compLO
    rw [h0 s fr0 hf]
    show (if (toDs (l.map E)).length = l.length then Res.ok [] fr0 else Res.bad) = _
    rw [toDs_length, List.length_map, if_pos rfl]
    rfl
  | m + 1, s, fr0, hm, hf, p, hp => by
    have hlt : l.length - (m + 1) < l.length := by omega
    obtain ⟨a, ha⟩ : ∃ a, l[l.length - (m + 1)]? = some a := ⟨_, List.getElem?_eq_getElem hlt⟩
    have hdrop : l.drop (l.length - (m + 1)) = a :: l.drop (l.length - m) := by
      obtain ⟨h1, h2⟩ := List.getElem?_eq_some_iff.mp ha
      rw [List.drop_eq_getElem_cons hlt, h2]
      congr 2
      omega
    rw [hdrop] at hp
    unfold compT at hp
    have h1 := hb a s
    cases hq : tb a s with
    | bad => rw [hq] at hp; cases hp
    | exc k fs st => rw [hq] at hp; cases hp
    | ok o =>
      rw [hq] at hp h1
      obtain ⟨o', fr3, e1, rfl, w1⟩ := h1
      have hp : ((compT (l.drop (l.length - m)) o.2 tb).bind fun q => O.ok ((match o.1 with | some y => y :: q.1 | none => q.1), q.2)) = .ok p := hp
      cases hr : compT (l.drop (l.length - m)) o.2 tb with
      | bad => rw [hr] at hp; cases hp
      | exc k fs st => rw [hr] at hp; cases hp
      | ok q =>
        rw [hr] at hp
        cases hp
        obtain ⟨fr2, e2, w2⟩ := compLO_x h0 ht hb m o.2 fr3 (by omega) w1 q hr
        refine ⟨fr2, ?_, w2⟩
        rw [compLO_turn i0 l.length m fr0 (cur := toDs (l.map E)) (d := toD (E a)) (h0 s fr0 hf) (by rw [toDs_length, List.length_map]) (by rw [toDs_get, List.getElem?_map, ha]; rfl), hf, tgF_eq (ht a s)]
        dsimp only
        rw [e1, Res.bind, e2]
        obtain ⟨o, s2⟩ := o
        cases o <;> rfl
theorem x_compO {β δ σ : Type} {K : β → δ → Fr → Prop} {KE : List DV → Fr → Prop} {k : D → Fr → Res Fr δ} {i0 : Nat} {t : List γ × σ → O β} {l : List α} {s0 : σ} {G : σ → Fr} {tb : α → σ → O (Option γ × σ)} (hi : ∀ s, (G s)[i0]? = some (some (toD (eL E l)))) (hni : decide (i0 ∈ vs) = false) (hl : l.length ≤ 16777216) (h1 : fr = G s0) (ht : ∀ a s, (tg (toD (E a)) (wipeF (G s) vs)).isSome = true)
    (hb : ∀ a s, Rf (turnF c e (tgF tg vs (E a) (G s))) (tb a s) (fun p o fr => o = p.1.map (fun y => toD (E2 y)) ∧ wipeF fr vs = wipeF (G p.2) vs) fun _ _ => True) (hG : ∀ s, restF (G s0) (G s) vs = G s)
    (q : ∀ p, Rf (k (toD (eL E2 p.1)) (G p.2)) (t p) K KE) : Rf ((eCompO i0 vs tg c e fr).bind k) ((compT l s0 tb).no.bind t) K KE := by
  subst h1
  refine Rf.no fun p hp => ?_
  have hn : i0 ∉ vs := of_decide_eq_false hni
  have h0 : ∀ s fr', wipeF fr' vs = wipeF (G s) vs → fr'[i0]? = some (some (toD (eL E l))) := fun s fr' h => by
    have : (wipeF fr' vs)[i0]? = (wipeF (G s) vs)[i0]? := by rw [h]
    rw [wipeF_at, wipeF_at, if_neg hn, if_neg hn] at this
    rw [this]; exact hi s
  obtain ⟨fr2, e1, w⟩ := compLO_x h0 ht hb l.length s0 (G s0) (Nat.le_refl _) rfl p (by rw [Nat.sub_self]; exact hp)
  unfold eCompO
  rw [hi]
  show Rf ((if (toDs (l.map E)).length ≤ sizeLine then (match compLO i0 (toDs (l.map E)).length vs tg c e (toDs (l.map E)).length (G s0) with
    | .ok r fr2 => Res.ok (D.lst r) (restF (G s0) fr2 vs)
    | _ => Res.bad) else Res.bad).bind k) _ _ _
  rw [toDs_length, List.length_map, if_pos (Nat.le_trans hl (by decide)), e1]
  show Rf ((Res.ok (D.lst _) (restF (G s0) fr2 vs)).bind k) _ _ _
  rw [restF_wipe (G s0) w, hG, ← toDs_map]
  exact q p
end
end KT
/-! KP: plain reasoning about typed functions. -/
namespace KT
open PySem KS
/-- ends well, with P -/
def Oks {α : Type} (t : O α) (P : α → Prop) : Prop := ∃ a, t = .ok a ∧ P a
section
variable {α β σ ρ γ : Type}
theorem oks_ok {a : α} {P : α → Prop} (h : P a) : Oks (.ok a) P := ⟨a, rfl, h⟩
theorem Oks.imp {t : O α} {P Q : α → Prop} (h : Oks t P) (i : ∀ a, P a → Q a) : Oks t Q := let ⟨a, e, p⟩ := h; ⟨a, e, i a p⟩
theorem oks_bind {t : O α} {k : α → O β} {P : α → Prop} {Q : β → Prop} (h : Oks t P) (q : ∀ a, P a → Oks (k a) Q) : Oks (t.bind k) Q := by
  obtain ⟨a, rfl, p⟩ := h
  exact q a p
theorem oks_no {t : O α} {P : α → Prop} (h : Oks t P) : Oks t.no P := by
  obtain ⟨a, rfl, p⟩ := h
  exact ⟨a, rfl, p⟩
theorem oks_call {t : O α} {k : α → O β} {P : α → Prop} {Q : β → Prop} (h : Oks t P) (q : ∀ a, P a → Oks (k a) Q) : Oks (t.no.bind k) Q := oks_bind (oks_no h) q
theorem oks_ck {c : Prop} [Decidable c] {t : O α} {Q : α → Prop} (h : c) (q : Oks t Q) : Oks (O.ck c t) Q := by
  unfold O.ck
  rw [if_pos h]
  exact q
theorem oks_opt {o : Option α} {k : α → O β} {Q : β → Prop} {a : α} (h : o = some a) (q : Oks (k a) Q) : Oks ((O.opt o).bind k) Q := by
  subst h
  exact q
theorem oks_lt {a : α} {k : α → O β} {Q : β → Prop} (q : Oks (k a) Q) : Oks (O.lt a k) Q := q
theorem oks_if {c : Prop} [Decidable c] {t u : O α} {Q : α → Prop} (h1 : c → Oks t Q) (h2 : ¬ c → Oks u Q) : Oks (if c then t else u) Q := by
  split
  · next h => exact h1 h
  · next h => exact h2 h
theorem oks_ifb {b : Bool} {t u : O α} {Q : α → Prop} (h1 : b = true → Oks t Q) (h2 : b = false → Oks u Q) : Oks (if b = true then t else u) Q := by
  cases b
  · exact h2 rfl
  · exact h1 rfl
theorem Oks.eq {t : O α} {a : α} (h : t = .ok a) : Oks t (· = a) := ⟨a, h, rfl⟩
theorem Oks.to {t : O α} {a : α} (h : Oks t (· = a)) : t = .ok a := by obtain ⟨b, e, rfl⟩ := h; exact e
@[simp] theorem no_ok (a : α) : (O.ok a).no = .ok a := rfl
@[simp] theorem opt_some (a : α) : O.opt (some a) = .ok a := rfl
@[simp] theorem opt_none : O.opt (none : Option α) = .bad := rfl
theorem ck_pos {c : Prop} [Decidable c] {t : O α} (h : c) : O.ck c t = t := if_pos h
/-! loops -/
theorem oks_fold {l : List α} {s0 : σ} {b : α → σ → O σ} (I : List α → σ → Prop) {Q : σ → Prop} (h0 : I [] s0) (hb : ∀ pre a post s, l = pre ++ a :: post → I pre s → Oks (b a s) (I (pre ++ [a]))) (hq : ∀ s, I l s → Q s) : Oks (foldT l s0 b) Q := by
  suffices h : ∀ (post pre : List α) (s : σ), l = pre ++ post → I pre s → Oks (foldT post s b) Q by
    exact h l [] s0 rfl h0
  intro post
  induction post with
  | nil =>
    intro pre s e h
    rw [List.append_nil] at e
    exact ⟨s, rfl, hq s (e ▸ h)⟩
  | cons a post ih =>
    intro pre s e h
    exact oks_bind (hb pre a post s e h) fun s2 h2 => ih (pre ++ [a]) s2 (by rw [e]; simp) h2
/-- a loop that is a fold -/
theorem fold_eq {l : List α} {b : α → σ → O σ} {f : σ → α → σ} (h : ∀ a ∈ l, ∀ s, b a s = .ok (f s a)) (s : σ) : foldT l s b = .ok (l.foldl f s) := by
  induction l generalizing s with
  | nil => rfl
  | cons a l ih =>
    show (b a s).bind (fun s => foldT l s b) = _
    rw [h a (List.mem_cons_self ..)]
    exact ih (fun x hx => h x (List.mem_cons_of_mem _ hx)) _
theorem oks_loop {l : List α} {s0 : σ} {b : α → σ → O (Fw ρ σ)} (I : List α → σ → Prop) {Q : Fw ρ σ → Prop} (h0 : I [] s0) (hb : ∀ pre a post s, l = pre ++ a :: post → I pre s → Oks (b a s) fun w => match w with
    | .nx s => I (pre ++ [a]) s
    | .brk s => Q (.nx s)
    | .ret r => Q (.ret r)) (hq : ∀ s, I l s → Q (.nx s)) : Oks (loopT l s0 b) Q := by
  suffices h : ∀ (post pre : List α) (s : σ), l = pre ++ post → I pre s → Oks (loopT post s b) Q by
    exact h l [] s0 rfl h0
  intro post
  induction post with
  | nil =>
    intro pre s e h
    rw [List.append_nil] at e
    exact ⟨.nx s, rfl, hq s (e ▸ h)⟩
  | cons a post ih =>
    intro pre s e h
    unfold loopT
    refine oks_bind (hb pre a post s e h) fun w h2 => ?_
    cases w with
    | nx s2 => exact ih (pre ++ [a]) s2 (by rw [e]; simp) h2
    | brk s2 => exact ⟨_, rfl, h2⟩
    | ret r => exact ⟨_, rfl, h2⟩
theorem oks_aft {t : O (Fw ρ σ)} {k : σ → O β} {r : ρ → O β} {P : Fw ρ σ → Prop} {Q : β → Prop} (h : Oks t P) (hk : ∀ s, P (.nx s) → Oks (k s) Q) (hb : ∀ s, P (.brk s) → Oks (k s) Q) (hr : ∀ x, P (.ret x) → Oks (r x) Q) : Oks (t.aft k r) Q := by
  obtain ⟨w, rfl, p⟩ := h
  cases w with
  | nx s => exact hk s p
  | brk s => exact hb s p
  | ret x => exact hr x p
@[simp] theorem aft_nx (s : σ) (k : σ → O β) (r : ρ → O β) : (O.ok (Fw.nx (ρ := ρ) s)).aft k r = k s := rfl
@[simp] theorem aft_ret (x : ρ) (k : σ → O β) (r : ρ → O β) : (O.ok (Fw.ret (σ := σ) x)).aft k r = r x := rfl
/-- a search: the first item that ends it -/
theorem loop_find {l : List α} {s : σ} {b : α → σ → O (Fw ρ σ)} {f : α → Option ρ} (h : ∀ a ∈ l, b a s = .ok (match f a with | some r => .ret r | none => .nx s)) : loopT l s b = .ok (match l.findSome? f with | some r => .ret r | none => .nx s) := by
  induction l with
  | nil => rfl
  | cons a l ih =>
    unfold loopT
    rw [h a (List.mem_cons_self ..), List.findSome?_cons]
    cases f a with
    | some r => rfl
    | none => exact ih fun x hx => h x (List.mem_cons_of_mem _ hx)
/-- a comprehension whose parts hold no state -/
theorem comp_eq {l : List α} {b : α → Unit → O (Option γ × Unit)} {g : α → Option γ} (h : ∀ a ∈ l, b a () = .ok (g a, ())) : compT l () b = .ok (l.filterMap g, ()) := by
  induction l with
  | nil => rfl
  | cons a l ih =>
    unfold compT
    rw [h a (List.mem_cons_self ..), O.bind_ok, ih fun x hx => h x (List.mem_cons_of_mem _ hx), O.bind_ok, List.filterMap_cons]
    cases g a <;> rfl
theorem comp_map {l : List α} {b : α → Unit → O (Option γ × Unit)} {g : α → γ} (h : ∀ a ∈ l, b a () = .ok (some (g a), ())) : compT l () b = .ok (l.map g, ()) := by
  rw [comp_eq (g := fun a => some (g a)) h, List.filterMap_eq_map']
theorem oks_comp {l : List α} {s0 : σ} {b : α → σ → O (Option γ × σ)} (I : List α → List γ → σ → Prop) {Q : List γ × σ → Prop} (h0 : I [] [] s0) (hb : ∀ pre a post out s, l = pre ++ a :: post → I pre out s → Oks (b a s) fun p => I (pre ++ [a]) (out ++ p.1.toList) p.2) (hq : ∀ out s, I l out s → Q (out, s)) : Oks (compT l s0 b) Q := by
  suffices h : ∀ (post pre : List α) (out : List γ) (s : σ), l = pre ++ post → I pre out s → Oks (compT post s b) fun p => Q (out ++ p.1, p.2) by
    exact h l [] [] s0 rfl h0
  intro post
  induction post with
  | nil =>
    intro pre out s e h
    rw [List.append_nil] at e
    exact ⟨_, rfl, by simpa using hq out s (e ▸ h)⟩
  | cons a post ih =>
    intro pre out s e h
    unfold compT
    refine oks_bind (hb pre a post out s e h) fun p h2 => ?_
    refine oks_bind (ih (pre ++ [a]) _ p.2 (by rw [e]; simp) h2) fun q h3 => ?_
    refine ⟨_, rfl, ?_⟩
    obtain ⟨o, s2⟩ := p
    cases o <;> simpa using h3
end
/-! ranges, places -/
theorem mem_rng {i n a : Int} : a ∈ rngT i n ↔ i ≤ a ∧ a < n := by
  unfold rngT
  rw [List.mem_map]
  constructor
  · rintro ⟨k, hk, rfl⟩
    have := List.mem_range.mp hk
    omega
  · rintro ⟨h1, h2⟩
    exact ⟨(a - i).toNat, List.mem_range.mpr (by omega), by omega⟩
theorem rng_len (i n : Int) : (rngT i n).length = (n - i).toNat := by simp [rngT]
theorem rng_get {i n : Int} {k : Nat} (h : k < (n - i).toNat) : (rngT i n)[k]? = some (i + k) := by
  unfold rngT
  rw [List.getElem?_map, List.getElem?_range h]; rfl
theorem rng_sorted (i n : Int) : (rngT i n).Pairwise (· < ·) := by
  unfold rngT
  rw [List.pairwise_map]
  exact List.Pairwise.imp (fun h => by omega) List.pairwise_lt_range
theorem rng_nodup (i n : Int) : (rngT i n).Nodup := (rng_sorted i n).imp fun h => Int.ne_of_lt h
theorem at_nat {α : Type} {l : List α} {i : Int} (h0 : 0 ≤ i) (h : i < l.length) : L2.atI l i = l[i.toNat]? := by
  unfold L2.atI L2.ixN
  rw [if_pos h0, if_pos h]; rfl
theorem at_some {α : Type} {l : List α} {i : Int} (h0 : 0 ≤ i) (h : i < l.length) : ∃ a, L2.atI l i = some a ∧ a ∈ l ∧ l[i.toNat]? = some a := by
  rw [at_nat h0 h]
  have hl : i.toNat < l.length := by omega
  exact ⟨l[i.toNat], List.getElem?_eq_getElem hl, List.getElem_mem hl, List.getElem?_eq_getElem hl⟩
end KT
namespace Lk49
open PySem PySem.Spec L2 KS
/-! the text as functions of plain Lean -/
def kc_Net : Nat → Option Bool := fun c => if c = 0 then some true else none
def g_law_numbers : Sv :=
  (sSeq (sSet 3 (eOp2 geF (eOp1 absF (eOp1 intF (eVar 0))) (eOp2 powF (eC (.int 10)) (eC (.int 18)))))
  (sSeq (sSet 4 (eOp2 addF (eOp2 mulF (eC (.int 2)) (eOp1 absF (eOp1 intF (eVar 0)))) (eOp1 intF (eOp2 ltF (eVar 0) (eC (.int 0))))))
  (sSeq (sSetF 5 (eLst aNil))
  (sSeq (sFor (iK [false, false, false, false, false, false, true, true] (iRg1 (eVar 2))) (tgN 6)
  (sK [false, false, false, false, false, false, true, true] (sSeq (sIf (bTru (eVar 3))
  (sSeq (sX (eMut 5 isLstD true appM (aCons (eOp2 modF (eOp1 intF (eVar 4)) (eC (.int 1000))) aNil)))
  (sSeq (sSet 4 (eOp2 fdivF (eVar 4) (eC (.int 1000))))
  sNx))
  (sSeq (sSet 7 (eOp2 modF (eOp1 intF (eOp2 addF (eOp2 addF (eOp2 addF (eOp2 mulF (eVar 4) (eC (.int 48271))) (eOp2 mulF (eVar 1) (eC (.int 69621)))) (eOp2 mulF (eVar 6) (eC (.int 16807)))) (eC (.int 7)))) (eC (.int 2147483647))))
  (sSeq (sSet 7 (eOp2 modF (eOp1 intF (eOp2 addF (eOp2 addF (eOp2 mulF (eVar 7) (eVar 7)) (eOp2 mulF (eVar 6) (eC (.int 40692)))) (eC (.int 3)))) (eC (.int 2147483629))))
  (sSeq (sSet 7 (eOp2 modF (eOp1 intF (eOp2 addF (eOp2 addF (eOp2 mulF (eVar 7) (eVar 7)) (eOp2 mulF (eVar 1) (eC (.int 30269)))) (eC (.int 5)))) (eC (.int 2147483587))))
  (sSeq (sX (eMut 5 isLstD true appM (aCons (eOp2 modF (eOp1 intF (eOp2 fdivF (eVar 7) (eC (.int 5)))) (eC (.int 1000))) aNil)))
  sNx)))))
  sNx)))
  (sSeq (sRet (eFz 5))
  sNx)))))
def fn_law_numbers : Fn := runFn 3 8 g_law_numbers
def g_law_letters : Sv :=
  (sSeq (sSet 3 (eOp2 ixF (eLst (aCons (eC (.int 2)) (aCons (eC (.int 2)) (aCons (eC (.int 2)) (aCons (eC (.int 2)) (aCons (eC (.int 2)) (aCons (eC (.int 3)) (aCons (eC (.int 4)) (aCons (eC (.int 5)) aNil))))))))) (eOp2 modF (eOp1 intF (eOp2 ixF (eVar 0) (eVar 1))) (eC (.int 8)))))
  (sSeq (sRet (eTup (aCons (eVar 3) (aCons (eOp2 ixF (eLst (aCons (eC (.int 0)) (aCons (eC (.int 0)) (aCons (eOp2 ixF (eVar 2) (eC (.int 0))) (aCons (eOp2 ixF (eVar 2) (eC (.int 1))) (aCons (eOp2 ixF (eVar 2) (eC (.int 2))) (aCons (eC (.int 2)) aNil))))))) (eVar 3)) aNil))))
  sNx))
def fn_law_letters : Fn := runFn 3 4 g_law_letters
def g_law_order : Sv :=
  (sSeq (sSetF 3 (eLst aNil))
  (sSeq (sFor (iK [false, false, false, false, true] (iRg1 (eVar 2))) (tgN 4)
  (sK [false, false, false, false, true] (sSeq (sX (eMut 3 isLstD true insM (aCons (eOp2 modF (eOp1 intF (eOp2 ixF (eVar 0) (eOp2 addF (eVar 1) (eVar 4)))) (eOp2 addF (eVar 4) (eC (.int 1)))) (aCons (eVar 4) aNil))))
  sNx)))
  (sSeq (sRet (eFz 3))
  sNx)))
def fn_law_order : Fn := runFn 3 5 g_law_order
def g_law_ring_of_five : Sv :=
  (sSeq (sSet 2 (eCall [false, false, false] fn_law_order (aCons (eVar 0) (aCons (eVar 1) (aCons (eC (.int 5)) aNil)))))
  (sSeq (sSetF 3 (eLst aNil))
  (sSeq (sFor (iK [false, false, false, false, true, false, false] (iRg1 (eC (.int 5)))) (tgN 4)
  (sK [false, false, false, false, true, false, false] (sSeq (sX (eMut 3 isLstD true appM (aCons (eTup (aCons (eOp2 ixF (eVar 2) (eVar 4)) (aCons (eOp2 ixF (eVar 2) (eOp2 modF (eOp1 intF (eOp2 addF (eVar 4) (eC (.int 1)))) (eC (.int 5)))) aNil))) aNil)))
  (sSeq (sX (eMut 3 isLstD true appM (aCons (eTup (aCons (eOp2 ixF (eVar 2) (eOp2 modF (eOp1 intF (eOp2 addF (eVar 4) (eC (.int 1)))) (eC (.int 5)))) (aCons (eOp2 ixF (eVar 2) (eVar 4)) aNil))) aNil)))
  sNx))))
  (sSeq (sFor (iK [false, false, false, false, true, true, true] (iRg1 (eOp2 modF (eOp1 intF (eOp2 ixF (eVar 0) (eOp2 addF (eVar 1) (eC (.int 5))))) (eC (.int 4))))) (tgN 5)
  (sK [false, false, false, false, true, true, true] (sSeq (sSet 4 (eOp2 modF (eOp1 intF (eOp2 ixF (eVar 0) (eOp2 addF (eOp2 addF (eVar 1) (eC (.int 6))) (eVar 5)))) (eC (.int 5))))
  (sSeq (sSet 6 (eTup (aCons (eVar 4) (aCons (eOp2 modF (eOp1 intF (eOp2 addF (eOp2 addF (eVar 4) (eC (.int 1))) (eOp2 modF (eOp1 intF (eOp2 fdivF (eOp2 ixF (eVar 0) (eOp2 addF (eOp2 addF (eVar 1) (eC (.int 6))) (eVar 5))) (eC (.int 5)))) (eC (.int 4))))) (eC (.int 5))) aNil))))
  (sSeq (sIf (bE (eOp2 inA2 (eVar 6) (ePl 3)))
  (sSeq (sX (eMut 3 isLstD true remM (aCons (eVar 6) aNil)))
  sNx)
  (sSeq (sX (eMut 3 isLstD true appM (aCons (eVar 6) aNil)))
  sNx))
  sNx)))))
  (sSeq (sRet (eTup (aCons (eC (.int 5)) (aCons (eOp1 sortF (ePl 3)) aNil))))
  sNx)))))
def fn_law_ring_of_five : Fn := runFn 2 7 g_law_ring_of_five
def g_law_net : Sv :=
  (sSeq (sIf (bAnd (bE (eOp2 gtF (eVar 2) (eC (.int 4)))) (bE (eOp2 eqF (eOp2 modF (eOp1 intF (eOp2 ixF (eVar 0) (eVar 1))) (eC (.int 3))) (eC (.int 0)))))
  (sSeq (sRet (eCall [false, false] fn_law_ring_of_five (aCons (eVar 0) (aCons (eOp2 addF (eVar 1) (eC (.int 1))) aNil))))
  sNx)
  sNx)
  (sSeq (sSet 3 (eOp2 addF (eC (.int 1)) (eOp2 modF (eOp1 intF (eOp2 fdivF (eOp2 ixF (eVar 0) (eVar 1)) (eC (.int 3)))) (eVar 2))))
  (sSeq (sSetF 4 (eLst aNil))
  (sSeq (sSet 5 (eC (.int 0)))
  (sSeq (sFor (iK [false, false, false, false, false, false, true, true, true] (iRg1 (eVar 3))) (tgN 6)
  (sK [false, false, false, false, false, false, true, true, true] (sSeq (sFor (iK [false, false, false, false, false, false, false, true, true] (iRg1 (eVar 3))) (tgN 7)
  (sK [false, false, false, false, false, false, false, true, true] (sSeq (sIf (bE (eOp2 neF (eVar 6) (eVar 7)))
  (sSeq (sSet 8 (eOp2 modF (eOp1 intF (eOp2 fdivF (eOp2 ixF (eVar 0) (eOp2 addF (eOp2 addF (eVar 1) (eC (.int 1))) (eOp2 fdivF (eVar 5) (eC (.int 4))))) (eOp2 ixF (eLst (aCons (eC (.int 1)) (aCons (eC (.int 5)) (aCons (eC (.int 25)) (aCons (eC (.int 125)) aNil))))) (eOp2 modF (eOp1 intF (eVar 5)) (eC (.int 4)))))) (eC (.int 5))))
  (sSeq (sSet 5 (eOp2 addF (eVar 5) (eC (.int 1))))
  (sSeq (sIf (bE (eOp2 ltF (eVar 8) (eOp2 addF (eOp2 addF (eC (.int 1)) (eOp1 intF (eOp2 fdivF (eOp2 ixF (eVar 0) (eVar 1)) (eC (.int 300))))) (eOp2 modF (eOp1 intF (eOp2 ixF (eVar 0) (eVar 1))) (eC (.int 2))))))
  (sSeq (sX (eMut 4 isLstD true appM (aCons (eTup (aCons (eVar 6) (aCons (eVar 7) aNil))) aNil)))
  sNx)
  sNx)
  sNx)))
  sNx)
  sNx)))
  sNx)))
  (sSeq (sRet (eTup (aCons (eVar 3) (aCons (eFz 4) aNil))))
  sNx))))))
def fn_law_net : Fn := runFn 3 9 g_law_net
def g_law_knows : Sv :=
  (sSeq (sSetF 1 (eLst aNil))
  (sSeq (sFor (iK [false, false, true, false] (iRg1 (eOp2 ixF (eVar 0) (eC (.int 0))))) (tgN 2)
  (sK [false, false, true, false] (sSeq (sX (eMut 1 isLstD true appM (aCons (eComp [3] (iVal (eOp2 ixF (eVar 0) (eC (.int 1)))) (tgN 3) (bE (eOp2 eqF (eOp2 ixF (eVar 3) (eC (.int 0))) (eVar 2))) (eOp2 ixF (eVar 3) (eC (.int 1)))) aNil)))
  sNx)))
  (sSeq (sRet (eFz 1))
  sNx)))
def fn_law_knows : Fn := runFn 1 4 g_law_knows
def g_is_below : Sv :=
  (sSeq (sRet (eAnd (eOp1 (isiF .int) (eVar 0)) (eAnd (eNot (eOp1 (isiF .bl) (eVar 0))) (eChain leA ltF (eC (.int 0)) (eVar 0) (eVar 1)))))
  sNx)
def fn_is_below : Fn := runFn 2 2 g_is_below
def g_first_wrong_arc : Sv :=
  (sSeq (sIf (bNot (bE (eOp1 (isiTF [.lst, .tup]) (eVar 1))))
  (sSeq (sRet (eC (.int 0)))
  sNx)
  sNx)
  (sSeq (sSet 2 (eTup (aCons (eOp1 negF (eC (.int 1))) (aCons (eOp1 negF (eC (.int 1))) aNil))))
  (sSeq (sFor (iK [false, false, false, true, true, false] (iEn (eVar 1))) (tgT [3, 4])
  (sK [false, false, false, true, true, false] (sSeq (sIf (bOr (bNot (bE (eOp1 (isiF .tup) (eVar 4)))) (bOr (bE (eOp2 neF (eOp1 lenF (eVar 4)) (eC (.int 2)))) (bNot (bE (eOp1 allF (eComp [5] (iVal (eVar 4)) (tgN 5) bYes (eCall [false, false] fn_is_below (aCons (eVar 5) (aCons (eVar 0) aNil)))))))))
  (sSeq (sRet (eVar 3))
  sNx)
  sNx)
  (sSeq (sIf (bOr (bE (eOp2 eqF (eOp2 ixF (eVar 4) (eC (.int 0))) (eOp2 ixF (eVar 4) (eC (.int 1))))) (bE (eOp2 leA (eVar 4) (eVar 2))))
  (sSeq (sRet (eVar 3))
  sNx)
  sNx)
  (sSeq (sSet 2 (eVar 4))
  sNx)))))
  (sSeq (sRet (eC .non))
  sNx))))
def fn_first_wrong_arc : Fn := runFn 2 6 g_first_wrong_arc
def g_Net_init : Sv :=
  (sSeq (sIf (bOr (bNot (bE (eCall [false, false] fn_is_below (aCons (eVar 1) (aCons (eOp2 addF (eC (.int 12)) (eC (.int 1))) aNil))))) (bE (eOp2 ltF (eVar 1) (eC (.int 1)))))
  (sSeq (sRaise 1 2 (aCons (eC (.str (PySem.Str.ofString "size"))) (aCons (eC (.int 0)) aNil)))
  sNx)
  sNx)
  (sSeq (sSet 3 (eCall [false, false] fn_first_wrong_arc (aCons (eVar 1) (aCons (eVar 2) aNil))))
  (sSeq (sIf (bE (eOp2 notNF (eVar 3) (eC .non)))
  (sSeq (sRaise 1 2 (aCons (eC (.str (PySem.Str.ofString "arcs"))) (aCons (eVar 3) aNil)))
  sNx)
  sNx)
  (sSeq (sFldS 0 0 [0] (eVar 1))
  (sSeq (sFldS 0 1 [0] (eOp1 tupF (eVar 2)))
  (sSeq (sFldS 0 2 [0] (eOp1 tupF (eComp [4] (iRg1 (eVar 1)) (tgN 4) bYes (eOp1 tupF (eComp [5, 6] (iVal (eAttr [0] 1 (ePl 0))) (tgT [5, 6]) (bE (eOp2 eqF (eVar 5) (eVar 4))) (eVar 6))))))
  sNx))))))
def fn_Net_init : Fn := runFn 3 7 g_Net_init
def g_law_words : Sv :=
  (sSeq (sSet 2 (eLst (aCons (eTup aNil) aNil)))
  (sSeq (sFor (iK [false, false, false, true, true, true, true] (iRg1 (eVar 0))) (tgN 3)
  (sK [false, false, false, true, true, true, true] (sSeq (sSetF 4 (eLst aNil))
  (sSeq (sFor (iK [false, false, false, false, false, true, true] (iVal (eVar 2))) (tgN 5)
  (sK [false, false, false, false, false, true, true] (sSeq (sFor (iK [false, false, false, false, false, false, true] (iRg1 (eVar 1))) (tgN 6)
  (sK [false, false, false, false, false, false, true] (sSeq (sX (eMut 4 isLstD true appM (aCons (eOp2 addF (eVar 5) (eTup (aCons (eVar 6) aNil))) aNil)))
  sNx)))
  sNx)))
  (sSeq (sSet 2 (eFz 4))
  sNx)))))
  (sSeq (sRet (eVar 2))
  sNx)))
def fn_law_words : Fn := runFn 2 7 g_law_words
def g_law_excludes : Sv :=
  (sSeq (sFor (iK [false, false, false, true, false] (iRg1 (eOp1 lenF (eVar 0)))) (tgN 3)
  (sK [false, false, false, true, false] (sSeq (sIf (bAnd (bE (eOp2 neF (eOp2 ixF (eVar 1) (eVar 3)) (eOp2 ixF (eVar 2) (eVar 3)))) (bE (eOp2 eqF (eOp1 lenF (eComp [4] (iVal (eOp2 ixF (eVar 0) (eVar 3))) (tgN 4) (bE (eOp2 neF (eOp2 ixF (eVar 1) (eVar 4)) (eOp2 ixF (eVar 2) (eVar 4)))) (eVar 4))) (eC (.int 0)))))
  (sSeq (sRet (eVar 3))
  sNx)
  sNx)
  sNx)))
  (sSeq (sRet (eC .non))
  sNx))
def fn_law_excludes : Fn := runFn 3 5 g_law_excludes
def g_law_store : Sv :=
  (sSeq (sSetF 2 (eLst aNil))
  (sSeq (sFor (iK [false, false, false, true, false] (iVal (eVar 1))) (tgN 3)
  (sK [false, false, false, true, false] (sSeq (sIf (bAnd (bE (eOp2 notInA2 (eVar 3) (ePl 2))) (bE (eOp2 eqF (eOp1 lenF (eCompO 2 [4] (tgN 4) (bE (eOp2 notNF (eCall [false, false, false] fn_law_excludes (aCons (eVar 0) (aCons (eVar 4) (aCons (eVar 3) aNil)))) (eC .non))) (eVar 4))) (eC (.int 0)))))
  (sSeq (sX (eMut 2 isLstD true appM (aCons (eVar 3) aNil)))
  sNx)
  sNx)
  sNx)))
  (sSeq (sRet (eOp1 sortF (ePl 2)))
  sNx)))
def fn_law_store : Fn := runFn 2 5 g_law_store
def g_count_words : Sv :=
  (sSeq (sIf (bOr (bE (eOp1 (isiF .bl) (eVar 1))) (bOr (bNot (bE (eOp1 (isiF .int) (eVar 1)))) (bOr (bE (eOp2 ltF (eVar 1) (eC (.int 2)))) (bE (eOp2 gtF (eVar 1) (eC (.int 5)))))))
  (sSeq (sRaise 0 1 (aCons (eVar 1) aNil))
  sNx)
  sNx)
  (sSeq (sSet 2 (eC (.int 1)))
  (sSeq (sFor (iK [false, false, false, true] (iRg1 (eAttr [0] 0 (eVar 0)))) (tgN 3)
  (sK [false, false, false, true] (sSeq (sAug 2 imulF (eVar 1))
  (sSeq (sIf (bE (eOp2 gtF (eVar 2) (eC (.int 81))))
  (sSeq (sRaise 0 1 (aCons (eVar 1) aNil))
  sNx)
  sNx)
  sNx))))
  (sSeq (sRet (eVar 2))
  sNx))))
def fn_count_words : Fn := runFn 2 4 g_count_words
def g_is_word : Sv :=
  (sSeq (sIf (bOr (bNot (bE (eOp1 (isiF .tup) (eVar 2)))) (bE (eOp2 neF (eOp1 lenF (eVar 2)) (eAttr [0] 0 (eVar 0)))))
  (sSeq (sRet (eC (.bl false)))
  sNx)
  sNx)
  (sSeq (sFor (iK [false, false, false, true] (iVal (eVar 2))) (tgN 3)
  (sK [false, false, false, true] (sSeq (sIf (bOr (bE (eOp1 (isiF .bl) (eVar 3))) (bOr (bNot (bE (eOp1 (isiF .int) (eVar 3)))) (bOr (bE (eOp2 ltF (eVar 3) (eC (.int 0)))) (bE (eOp2 geF (eVar 3) (eVar 1))))))
  (sSeq (sRet (eC (.bl false)))
  sNx)
  sNx)
  sNx)))
  (sSeq (sRet (eC (.bl true)))
  sNx)))
def fn_is_word : Fn := runFn 3 4 g_is_word
def g_check_words : Sv :=
  (sSeq (sIf (bNot (bE (eOp1 (isiF .tup) (eVar 2))))
  (sSeq (sRaise 3 1 (aCons (eVar 2) aNil))
  sNx)
  sNx)
  (sSeq (sFor (iK [false, false, false, true, true] (iEn (eVar 2))) (tgT [3, 4])
  (sK [false, false, false, true, true] (sSeq (sIf (bOr (bNot (bE (eCall [false, false, false] fn_is_word (aCons (eVar 0) (aCons (eVar 1) (aCons (eVar 4) aNil)))))) (bAnd (bE (eOp2 gtF (eVar 3) (eC (.int 0)))) (bE (eOp2 leA (eVar 4) (eOp2 ixF (eVar 2) (eOp2 subF (eVar 3) (eC (.int 1))))))))
  (sSeq (sRaise 3 1 (aCons (eVar 2) aNil))
  sNx)
  sNx)
  sNx)))
  sNx))
def fn_check_words : Fn := runFn 3 5 g_check_words
def g_parting_place : Sv :=
  (sSeq (sFor (iK [false, false, false, true, false] (iRg1 (eAttr [0] 0 (eVar 0)))) (tgN 3)
  (sK [false, false, false, true, false] (sSeq (sIf (bAnd (bE (eOp2 neF (eOp2 ixF (eVar 1) (eVar 3)) (eOp2 ixF (eVar 2) (eVar 3)))) (bE (eOp1 allF (eComp [4] (iVal (eOp2 ixF (eAttr [0] 2 (eVar 0)) (eVar 3))) (tgN 4) bYes (eOp2 eqF (eOp2 ixF (eVar 1) (eVar 4)) (eOp2 ixF (eVar 2) (eVar 4)))))))
  (sSeq (sRet (eVar 3))
  sNx)
  sNx)
  sNx)))
  (sSeq (sRet (eC .non))
  sNx))
def fn_parting_place : Fn := runFn 3 5 g_parting_place
def g_first_clash : Sv :=
  (sSeq (sX (eCall [false, false] fn_count_words (aCons (eVar 0) (aCons (eVar 1) aNil))))
  (sSeq (sX (eCall [false, false, false] fn_check_words (aCons (eVar 0) (aCons (eVar 1) (aCons (eVar 2) aNil)))))
  (sSeq (sFor (iK [false, false, false, true, true, true, true] (iEn (eVar 2))) (tgT [3, 4])
  (sK [false, false, false, true, true, true, true] (sSeq (sFor (iK [false, false, false, false, false, true, true] (iVal (eSl (eVar 2) (oSome (eOp2 addF (eVar 3) (eC (.int 1)))) oNone))) (tgN 5)
  (sK [false, false, false, false, false, true, true] (sSeq (sSet 6 (eCall [false, false, false] fn_parting_place (aCons (eVar 0) (aCons (eVar 4) (aCons (eVar 5) aNil)))))
  (sSeq (sIf (bE (eOp2 notNF (eVar 6) (eC .non)))
  (sSeq (sRet (eTup (aCons (eVar 4) (aCons (eVar 5) (aCons (eVar 6) aNil)))))
  sNx)
  sNx)
  sNx))))
  sNx)))
  (sSeq (sRet (eC .non))
  sNx))))
def fn_first_clash : Fn := runFn 3 7 g_first_clash
def g_moved_words : Sv :=
  (sSeq (sRet (eOp1 tupF (eOp1 sortF (eComp [3] (iVal (eVar 1)) (tgN 3) bYes (eOp1 tupF (eComp [4] (iRg1 (eOp1 lenF (eVar 2))) (tgN 4) bYes (eOp2 modF (eOp2 addF (eOp2 ixF (eVar 3) (eVar 4)) (eOp2 ixF (eVar 2) (eVar 4))) (eVar 0))))))))
  sNx)
def fn_moved_words : Fn := runFn 3 5 g_moved_words
def g_shifted_words : Sv :=
  (sSeq (sX (eCall [false, false] fn_count_words (aCons (eVar 0) (aCons (eVar 1) aNil))))
  (sSeq (sX (eCall [false, false, false] fn_check_words (aCons (eVar 0) (aCons (eVar 1) (aCons (eVar 2) aNil)))))
  (sSeq (sIf (bNot (bE (eCall [false, false, false] fn_is_word (aCons (eVar 0) (aCons (eVar 1) (aCons (eVar 3) aNil))))))
  (sSeq (sRaise 2 1 (aCons (eVar 3) aNil))
  sNx)
  sNx)
  (sSeq (sRet (eCall [false, false, false] fn_moved_words (aCons (eVar 1) (aCons (eVar 2) (aCons (eVar 3) aNil)))))
  sNx))))
def fn_shifted_words : Fn := runFn 4 4 g_shifted_words
def g_law_pick : Sv :=
  (sSeq (sSetF 4 (eLst aNil))
  (sSeq (sFor (iK [false, false, false, false, false, true, true] (iRg1 (eVar 3))) (tgN 5)
  (sK [false, false, false, false, false, true, true] (sSeq (sSet 6 (eOp2 ixF (eVar 2) (eOp2 modF (eOp1 intF (eOp2 ixF (eVar 0) (eOp2 addF (eVar 1) (eVar 5)))) (eOp1 lenF (eVar 2)))))
  (sSeq (sIf (bE (eOp2 notInA2 (eVar 6) (ePl 4)))
  (sSeq (sX (eMut 4 isLstD true appM (aCons (eVar 6) aNil)))
  sNx)
  sNx)
  sNx))))
  (sSeq (sRet (eFz 4))
  sNx)))
def fn_law_pick : Fn := runFn 4 7 g_law_pick
def g_law : Sv :=
  (sSeq (sFor (iK [false, true, true, true, true, true, true, true, true, true, true, true, true, true, true, true, true, true, false] (iRg1 (eOp2 min2F (eOp1 lenF (eVar 0)) (eC (.int 2))))) (tgN 1)
  (sK [false, true, true, true, true, true, true, true, true, true, true, true, true, true, true, true, true, true, false] (sSeq (sSet 2 (eCall [false, false, false] fn_law_numbers (aCons (eOp2 ixF (eVar 0) (eVar 1)) (aCons (eVar 1) (aCons (eC (.int 60)) aNil)))))
  (sSeq (sSet 3 (eCall [false, false, false] fn_law_letters (aCons (eVar 2) (aCons (eC (.int 0)) (aCons (eTup (aCons (eC (.int 5)) (aCons (eC (.int 3)) (aCons (eC (.int 2)) aNil)))) aNil)))))
  (sSeq (sSet 4 (eOp2 ixF (eVar 3) (eC (.int 0))))
  (sSeq (sSet 5 (eCall [false, false, false] fn_law_net (aCons (eVar 2) (aCons (eC (.int 1)) (aCons (eOp2 ixF (eVar 3) (eC (.int 1))) aNil)))))
  (sSeq (sKn [false, false, false, false, false, false, false, false, false, false, false, false, false, false, false, false, false, false, false] (sIf (bAnd (bE (eOp2 eqF (eVar 4) (eC (.int 2)))) (bE (eOp2 eqF (eOp2 modF (eOp1 intF (eOp2 fdivF (eOp2 ixF (eVar 2) (eC (.int 0))) (eC (.int 8)))) (eC (.int 3))) (eC (.int 0)))))
  (sSeq (sSet 5 (eCall [false, false] fn_law_ring_of_five (aCons (eVar 2) (aCons (eC (.int 2)) aNil))))
  sNx)
  sNx))
  (sSeq (sSet 6 (eCall [false] fn_law_knows (aCons (eVar 5) aNil)))
  (sSeq (sSet 7 (eMake 0 fn_Net_init (aCons (eOp2 ixF (eVar 5) (eC (.int 0))) (aCons (eOp2 ixF (eVar 5) (eC (.int 1))) aNil))))
  (sSeq (sSet 8 (eCall [false, false] fn_law_words (aCons (eOp2 ixF (eVar 5) (eC (.int 0))) (aCons (eVar 4) aNil))))
  (sSeq (sSet 9 (eSl (eVar 8) (oSome (eOp2 modF (eOp1 intF (eOp2 ixF (eVar 2) (eC (.int 32)))) (eOp1 lenF (eVar 8)))) oNone))
  (sSeq (sKn [false, false, false, false, false, false, false, false, false, false, false, false, false, false, false, false, false, false, false] (sIf (bE (eOp2 eqF (eOp2 modF (eOp1 intF (eOp2 ixF (eVar 2) (eC (.int 35)))) (eC (.int 2))) (eC (.int 0))))
  (sSeq (sSet 9 (eLst aNil))
  sNx)
  sNx))
  (sSeq (sSet 10 (eCall [false, false] fn_law_store (aCons (eVar 6) (aCons (eOp2 addF (eCall [false, false, false, false] fn_law_pick (aCons (eVar 2) (aCons (eC (.int 20)) (aCons (eVar 8) (aCons (eOp2 addF (eC (.int 1)) (eOp2 modF (eOp1 intF (eOp2 ixF (eVar 2) (eC (.int 36)))) (eC (.int 12)))) aNil))))) (eVar 9)) aNil))))
  (sSeq (sIf (bE (eOp2 notNF (eCall [false, false, false] fn_first_clash (aCons (eVar 7) (aCons (eVar 4) (aCons (eOp1 tupF (eVar 10)) aNil)))) (eC .non)))
  (sSeq (sRet (eC (.bl false)))
  sNx)
  sNx)
  (sSeq (sSetF 11 (eC (dTm [])))
  (sSeq (sFor (iK [false, false, false, false, false, false, false, false, false, false, false, false, true, true, true, true, true, true, false] (iVal (eVar 8))) (tgN 12)
  (sK [false, false, false, false, false, false, false, false, false, false, false, false, true, true, true, true, true, true, false] (sSeq (sSet 13 (eCall [false, false, false, false] fn_shifted_words (aCons (eVar 7) (aCons (eVar 4) (aCons (eOp1 tupF (eVar 10)) (aCons (eVar 12) aNil))))))
  (sSeq (sIf (bOr (bNot (bE (eOp1 (isiF .tup) (eVar 13)))) (bOr (bE (eOp2 neF (eOp1 lstF (eVar 13)) (eOp1 sortF (eVar 13)))) (bE (eOp2 neF (eOp1 lenF (eVar 13)) (eOp1 lenF (eVar 10))))))
  (sSeq (sRet (eC (.bl false)))
  sNx)
  sNx)
  (sSeq (sFor (iK [false, false, false, false, false, false, false, false, false, false, false, false, false, false, true, false, false, false, false] (iVal (eVar 13))) (tgN 14)
  (sK [false, false, false, false, false, false, false, false, false, false, false, false, false, false, true, false, false, false, false] (sSeq (sIf (bE (eOp2 notInA2 (eVar 14) (eVar 8)))
  (sSeq (sRet (eC (.bl false)))
  sNx)
  sNx)
  (sSeq (sDputV 11 (eVar 14) (eOp2 addF (eDgetV 11 (eVar 14) (eC (.int 0))) (eC (.int 1))))
  sNx))))
  (sSeq (sSet 15 (eOp1 sortF (eComp [14] (iVal (eVar 10)) (tgN 14) bYes (eOp1 tupF (eComp [18] (iRg1 (eOp1 lenF (eVar 12))) (tgN 18) bYes (eOp2 modF (eOp1 intF (eOp2 addF (eOp2 ixF (eVar 14) (eVar 18)) (eOp2 ixF (eVar 12) (eVar 18)))) (eVar 4)))))))
  (sSeq (sSet 16 (eOp2 modF (eOp1 intF (eOp2 ixF (eVar 2) (eC (.int 33)))) (eOp1 lenF (eVar 10))))
  (sSeq (sSet 17 (eComp [14] (iVal (eVar 13)) (tgN 14) (bE (eOp2 notNF (eCall [false, false, false] fn_law_excludes (aCons (eVar 6) (aCons (eOp2 ixF (eVar 13) (eVar 16)) (aCons (eVar 14) aNil)))) (eC .non))) (eVar 14)))
  (sSeq (sIf (bOr (bE (eOp2 neF (eOp1 lstF (eVar 13)) (eVar 15))) (bE (eOp2 gtF (eOp1 lenF (eVar 17)) (eC (.int 0)))))
  (sSeq (sRet (eC (.bl false)))
  sNx)
  sNx)
  sNx)))))))))
  (sSeq (sFor (iK [false, false, false, false, false, false, false, false, false, false, false, false, false, false, true, false, false, false, false] (iVal (eVar 8))) (tgN 14)
  (sK [false, false, false, false, false, false, false, false, false, false, false, false, false, false, true, false, false, false, false] (sSeq (sIf (bE (eOp2 neF (eDgetV 11 (eVar 14) (eC (.int 0))) (eOp1 lenF (eVar 10))))
  (sSeq (sRet (eC (.bl false)))
  sNx)
  sNx)
  sNx)))
  sNx)))))))))))))))))
  (sSeq (sRet (eC (.bl true)))
  sNx))
def fn_law : Fn := runFn 1 19 g_law
end Lk49
namespace Lk49
open PySem KS KT
abbrev O_Net : Type := Int × (List (Int × Int)) × (List (List Int))
abbrev e_Net : O_Net → DV := fun p => .obj 0 [0, 1, 2] [eI p.1, (eT (eP2 eI eI)) p.2.1, (eT (eT eI)) p.2.2]
def T_law_numbers (cell_1 : Int) (at_2 : Int) (many_3 : Int) : O (List Int) :=
  O.lt ((decide ((10 ^ (18 : Int).toNat) ≤ (if cell_1 < 0 then -cell_1 else cell_1)))) fun great_4 =>
  O.lt (((2 * (if cell_1 < 0 then -cell_1 else cell_1)) + (if (decide (cell_1 < 0)) = true then 1 else 0))) fun rest_5 =>
  O.ck (okR many_3) <|
  (foldT (rngT 0 many_3) ((rest_5, ([] : List Int))) fun k_7 (s_9 : Int × (List Int)) =>
  (if great_4 = true then
  O.ck (appC s_9.2) <|
  O.lt ((s_9.1 / 1000)) fun rest_12 =>
  .ok ((rest_12, (s_9.2 ++ [(s_9.1 % 1000)])))
  else O.lt ((((((s_9.1 * 48271) + (at_2 * 69621)) + (k_7 * 16807)) + 7) % 2147483647)) fun mixed_13 =>
  O.ck (mulC mixed_13 mixed_13) <|
  O.lt (((((mixed_13 * mixed_13) + (k_7 * 40692)) + 3) % 2147483629)) fun mixed_15 =>
  O.ck (mulC mixed_15 mixed_15) <|
  O.lt (((((mixed_15 * mixed_15) + (at_2 * 30269)) + 5) % 2147483587)) fun mixed_17 =>
  O.ck (appC s_9.2) <|
  .ok ((s_9.1, (s_9.2 ++ [((mixed_17 / 5) % 1000)]))))).bind fun s_10 =>
  .ok s_10.2
def T_law_letters (numbers_here_1 : List Int) (k_2 : Int) (most_3 : (Int × Int × Int)) : O (Int × Int) :=
  (O.opt (L2.atI numbers_here_1 k_2)).bind fun r_5 =>
  (O.opt (L2.atI [2, 2, 2, 2, 2, 3, 4, 5] (r_5 % 8))).bind fun r_7 =>
  (O.opt (L2.atI [0, 0, most_3.1, most_3.2.1, most_3.2.2, 2] r_7)).bind fun r_9 =>
  .ok ((r_7, r_9))
def T_law_order (numbers_here_1 : List Int) (k_2 : Int) (size_3 : Int) : O (List Int) :=
  O.ck (okR size_3) <|
  (foldT (rngT 0 size_3) (([] : List Int)) fun i_5 (s_7 : (List Int)) =>
  (O.opt (L2.atI numbers_here_1 (k_2 + i_5))).bind fun r_10 =>
  O.ck (0 < (i_5 + 1)) <|
  O.ck (insC s_7 (r_10 % (i_5 + 1))) <|
  .ok ((insT s_7 (r_10 % (i_5 + 1)) i_5))).bind fun s_8 =>
  .ok s_8
def T_law_ring_of_five (numbers_here_1 : List Int) (k_2 : Int) : O (Int × (List (Int × Int))) :=
  (T_law_order numbers_here_1 k_2 5).no.bind fun r_4 =>
  (foldT (rngT 0 5) (([] : List (Int × Int))) fun i_5 (s_7 : (List (Int × Int))) =>
  (O.opt (L2.atI r_4 i_5)).bind fun r_10 =>
  (O.opt (L2.atI r_4 ((i_5 + 1) % 5))).bind fun r_12 =>
  O.ck (appC s_7) <|
  (O.opt (L2.atI r_4 ((i_5 + 1) % 5))).bind fun r_15 =>
  (O.opt (L2.atI r_4 i_5)).bind fun r_17 =>
  O.ck (appC (s_7 ++ [(r_10, r_12)])) <|
  .ok (((s_7 ++ [(r_10, r_12)]) ++ [(r_15, r_17)]))).bind fun s_8 =>
  (O.opt (L2.atI numbers_here_1 (k_2 + 5))).bind fun r_20 =>
  O.ck (okR (r_20 % 4)) <|
  (foldT (rngT 0 (r_20 % 4)) s_8 fun j_22 (s_24 : (List (Int × Int))) =>
  (O.opt (L2.atI numbers_here_1 ((k_2 + 6) + j_22))).bind fun r_27 =>
  O.lt ((r_27 % 5)) fun i_28 =>
  (O.opt (L2.atI numbers_here_1 ((k_2 + 6) + j_22))).bind fun r_30 =>
  O.lt ((i_28, (((i_28 + 1) + ((r_30 / 5) % 4)) % 5))) fun arc_31 =>
  (if (memT arc_31 s_24) = true then
  O.ck (memT arc_31 s_24 = true) <|
  .ok ((eraseT s_24 arc_31))
  else O.ck (appC s_24) <|
  .ok ((s_24 ++ [arc_31])))).bind fun s_25 =>
  .ok ((5, (s_25.mergeSort leP)))
def T_law_net (numbers_here_1 : List Int) (k_2 : Int) (most_3 : Int) : O (Int × (List (Int × Int))) :=
  ((if (decide (4 < most_3)) = true then (O.opt (L2.atI numbers_here_1 k_2)).bind fun r_7 =>
  .ok ((decide ((r_7 % 3) = 0)), ()) else .ok (false, ())) : O (Bool × Unit)).bind fun p_8 =>
  (if p_8.1 = true then
  (T_law_ring_of_five numbers_here_1 ((k_2 + 1))).no.bind fun r_10 =>
  .ok r_10
  else (O.opt (L2.atI numbers_here_1 k_2)).bind fun r_12 =>
  O.ck (0 < most_3) <|
  O.lt ((1 + ((r_12 / 3) % most_3))) fun size_14 =>
  O.ck (okR size_14) <|
  (foldT (rngT 0 size_14) ((([] : List (Int × Int)), 0)) fun i_16 (s_18 : (List (Int × Int)) × Int) =>
  O.ck (okR size_14) <|
  (foldT (rngT 0 size_14) ((s_18.1, s_18.2)) fun j_21 (s_23 : (List (Int × Int)) × Int) =>
  (if (!decide (i_16 = j_21)) = true then
  (O.opt (L2.atI numbers_here_1 ((k_2 + 1) + (s_23.2 / 4)))).bind fun r_26 =>
  (O.opt (L2.atI [1, 5, 25, 125] (s_23.2 % 4))).bind fun r_28 =>
  O.ck (divC r_28) <|
  O.lt (((r_26 / r_28) % 5)) fun seed_30 =>
  O.lt ((s_23.2 + 1)) fun at_31 =>
  (O.opt (L2.atI numbers_here_1 k_2)).bind fun r_33 =>
  (O.opt (L2.atI numbers_here_1 k_2)).bind fun r_35 =>
  (if (decide (seed_30 < ((1 + (r_33 / 300)) + (r_35 % 2)))) = true then
  O.ck (appC s_23.1) <|
  .ok (((s_23.1 ++ [(i_16, j_21)]), at_31))
  else .ok ((s_23.1, at_31)))
  else .ok ((s_23.1, s_23.2)))).bind fun s_24 =>
  .ok ((s_24.1, s_24.2))).bind fun s_19 =>
  .ok ((size_14, s_19.1)))
def T_law_knows (net_here_1 : (Int × (List (Int × Int)))) : O (List (List Int)) :=
  O.ck (okR net_here_1.1) <|
  (foldT (rngT 0 net_here_1.1) (([] : List (List Int))) fun i_3 (s_5 : (List (List Int))) =>
  O.ck (net_here_1.2.length ≤ 16777216) <|
  O.ck (appC s_5) <|
  .ok ((s_5 ++ [((net_here_1.2.filter fun arc_7 => (decide (arc_7.1 = i_3))).map fun arc_7 => arc_7.2)]))).bind fun s_6 =>
  .ok s_6
def T_is_below (value_1 : DV) (many_2 : Int) : O Bool :=
  ((O.opt (isiY .int value_1)).bind fun r_9 =>
  (if r_9 = true then (O.opt (isiY .bl value_1)).bind fun r_11 =>
  (if (!r_11) = true then (O.opt (asI value_1)).bind fun r_13 =>
  .ok (((decide (0 ≤ r_13)) && (decide (r_13 < many_2)))) else .ok false) else .ok false) : O Bool).bind fun b_7 =>
  .ok b_7
def T_first_wrong_arc (size_1 : Int) (arcs_2 : DV) : O (Option Int) :=
  (O.opt (isiYs [.lst, .tup] arcs_2)).bind fun r_4 =>
  (if (!r_4) = true then
  .ok ((some 0))
  else O.lt (((eP2 eI eI) (((-1), (-1))))) fun ahead_5 =>
  (O.opt (seqY arcs_2)).bind fun r_7 =>
  (loopT (ρ := Option Int) (enumT r_7) ahead_5 fun p_8 (s_10 : DV) =>
  ((O.opt (isiY .tup p_8.2)).bind fun r_17 =>
  (if (!r_17) = true then .ok (true, ()) else (O.opt (lenY p_8.2)).bind fun r_19 =>
  (if (!decide (r_19 = 2)) = true then .ok (true, ()) else (O.opt (walkY p_8.2)).bind fun r_41 =>
  O.ck (r_41.length ≤ 16777216) <|
  (compT r_41 () fun place_43 s_44 =>
  (T_is_below place_43 size_1).no.bind fun r_46 =>
  .ok (some r_46, ())).no.bind fun l_47 =>
  .ok ((!(l_47.1.all id)), ()))) : O (Bool × Unit)).bind fun p_49 =>
  (if p_49.1 = true then
  .ok (.ret ((some p_8.1)))
  else ((O.opt (ixY p_8.2 0)).bind fun r_59 =>
  (O.opt (ixY p_8.2 1)).bind fun r_61 =>
  (O.opt (eqY r_59 r_61)).bind fun r_63 =>
  (if r_63 = true then .ok (true, ()) else (O.opt (leYo p_8.2 s_10)).bind fun r_65 =>
  .ok (r_65, ())) : O (Bool × Unit)).bind fun p_66 =>
  (if p_66.1 = true then
  .ok (.ret ((some p_8.1)))
  else .ok (.nx p_8.2)))).aft (fun s_11 =>
  .ok none) (fun r => .ok r))
def T_Net_init (size_1 : Int) (arcs_2 : DV) : O (Unit × O_Net) :=
  (T_is_below ((eI size_1)) ((12 + 1))).no.bind fun r_4 =>
  (if ((!r_4) || (decide (size_1 < 1))) = true then
  .exc 1 [(eS ((PySem.Str.ofString "size"))), (eI 0)] []
  else (T_first_wrong_arc size_1 arcs_2).no.bind fun r_6 =>
  (if (r_6).isSome = true then
  .exc 1 [(eS ((PySem.Str.ofString "arcs"))), ((eO eI) r_6)] []
  else O.lt size_1 fun size_7 =>
  (O.opt (tupY arcs_2)).bind fun r_9 =>
  (O.opt ((asT (asP2 asI asI)) r_9)).bind fun r_11 =>
  O.lt r_11 fun arcs_12 =>
  O.ck (okR size_1) <|
  O.ck (arcs_12.length ≤ 16777216) <|
  O.ck ((rngT 0 size_1).length ≤ 16777216) <|
  O.lt (((rngT 0 size_1).map fun place_14 => ((arcs_12.filter fun p_15 => (decide (p_15.1 = place_14))).map fun p_15 => p_15.2))) fun knows_18 =>
  .ok ((), (size_7, arcs_12, knows_18))))
def T_law_words (size_1 : Int) (q_2 : Int) : O (List (List Int)) :=
  O.lt ([[]]) fun words_here_3 =>
  O.ck (okR size_1) <|
  (foldT (rngT 0 size_1) words_here_3 fun i_5 (s_7 : (List (List Int))) =>
  (foldT s_7 (([] : List (List Int))) fun word_9 (s_11 : (List (List Int))) =>
  O.ck (okR q_2) <|
  (foldT (rngT 0 q_2) s_11 fun letter_14 (s_16 : (List (List Int))) =>
  O.ck (catC word_9 [letter_14]) <|
  O.ck (appC s_16) <|
  .ok ((s_16 ++ [(word_9 ++ [letter_14])]))).bind fun s_17 =>
  .ok s_17).bind fun s_12 =>
  .ok s_12).bind fun s_8 =>
  .ok s_8
def T_law_excludes (knows_here_1 : List (List Int)) (one_2 : List Int) (other_3 : List Int) : O (Option Int) :=
  O.ck (okR ((knows_here_1).length : Int)) <|
  (loopT (ρ := Option Int) (rngT 0 ((knows_here_1).length : Int)) () fun i_5 (s_7 : Unit) =>
  ((O.opt (L2.atI one_2 i_5)).bind fun r_21 =>
  (O.opt (L2.atI other_3 i_5)).bind fun r_23 =>
  (if (!decide (r_21 = r_23)) = true then (O.opt (L2.atI knows_here_1 i_5)).bind fun r_60 =>
  O.ck (r_60.length ≤ 16777216) <|
  (compT r_60 () fun j_62 s_63 =>
  (O.opt (L2.atI one_2 j_62)).bind fun r_65 =>
  (O.opt (L2.atI other_3 j_62)).bind fun r_67 =>
  (if (!decide (r_65 = r_67)) = true then .ok (some j_62, ()) else .ok (none, ()))).no.bind fun l_68 =>
  .ok ((decide (((l_68.1).length : Int) = 0)), ()) else .ok (false, ())) : O (Bool × Unit)).bind fun p_70 =>
  (if p_70.1 = true then
  .ok (.ret ((some i_5)))
  else .ok (.nx ()))).aft (fun s_8 =>
  .ok none) (fun r => .ok r)
def T_law_store (knows_here_1 : List (List Int)) (words_here_2 : List (List Int)) : O (List (List Int)) :=
  (foldT words_here_2 (([] : List (List Int))) fun word_3 (s_5 : (List (List Int))) =>
  ((if (!memT word_3 s_5) = true then O.ck (s_5.length ≤ 16777216) <|
  (compT s_5 () fun one_26 s_27 =>
  (T_law_excludes knows_here_1 one_26 word_3).no.bind fun r_29 =>
  (if (r_29).isSome = true then .ok (some one_26, ()) else .ok (none, ()))).no.bind fun l_30 =>
  .ok ((decide (((l_30.1).length : Int) = 0)), ()) else .ok (false, ())) : O (Bool × Unit)).bind fun p_32 =>
  (if p_32.1 = true then
  O.ck (appC s_5) <|
  .ok ((s_5 ++ [word_3]))
  else .ok s_5)).bind fun s_6 =>
  O.ck (∀ r ∈ s_6, r ≠ []) <|
  .ok ((s_6.mergeSort leR))
def T_count_words (net_1 : O_Net) (q_2 : DV) : O Int :=
  ((O.opt (isiY .bl q_2)).bind fun r_8 =>
  (if r_8 = true then .ok (true, ()) else (O.opt (isiY .int q_2)).bind fun r_10 =>
  (if (!r_10) = true then .ok (true, ()) else (O.opt (asI q_2)).bind fun r_12 =>
  (if (decide (r_12 < 2)) = true then .ok (true, ()) else (O.opt (asI q_2)).bind fun r_14 =>
  .ok ((decide (5 < r_14)), ())))) : O (Bool × Unit)).bind fun p_15 =>
  (if p_15.1 = true then
  .exc 0 [q_2] []
  else O.ck (okR net_1.1) <|
  (foldT (rngT 0 net_1.1) 1 fun x_17 (s_19 : Int) =>
  (O.opt (asI q_2)).bind fun r_22 =>
  O.ck (mulC s_19 r_22) <|
  (if (decide (81 < (s_19 * r_22))) = true then
  .exc 0 [q_2] []
  else .ok ((s_19 * r_22)))).bind fun s_20 =>
  .ok s_20)
def T_is_word (net_1 : O_Net) (q_2 : Int) (value_3 : DV) : O Bool :=
  ((O.opt (isiY .tup value_3)).bind fun r_9 =>
  (if (!r_9) = true then .ok (true, ()) else (O.opt (lenY value_3)).bind fun r_11 =>
  .ok ((!decide (r_11 = net_1.1)), ())) : O (Bool × Unit)).bind fun p_12 =>
  (if p_12.1 = true then
  .ok false
  else (O.opt (walkY value_3)).bind fun r_14 =>
  (loopT (ρ := Bool) r_14 () fun letter_15 (s_17 : Unit) =>
  ((O.opt (isiY .bl letter_15)).bind fun r_24 =>
  (if r_24 = true then .ok (true, ()) else (O.opt (isiY .int letter_15)).bind fun r_26 =>
  (if (!r_26) = true then .ok (true, ()) else (O.opt (asI letter_15)).bind fun r_28 =>
  (if (decide (r_28 < 0)) = true then .ok (true, ()) else (O.opt (asI letter_15)).bind fun r_30 =>
  .ok ((decide (q_2 ≤ r_30)), ())))) : O (Bool × Unit)).bind fun p_31 =>
  (if p_31.1 = true then
  .ok (.ret false)
  else .ok (.nx ()))).aft (fun s_18 =>
  .ok true) (fun r => .ok r))
def T_check_words (net_1 : O_Net) (q_2 : Int) (words_3 : DV) : O Unit :=
  (O.opt (isiY .tup words_3)).bind fun r_5 =>
  (if (!r_5) = true then
  .exc 3 [words_3] []
  else (O.opt (seqY words_3)).bind fun r_7 =>
  (foldT (enumT r_7) () fun p_8 (s_10 : Unit) =>
  ((T_is_word net_1 q_2 p_8.2).no.bind fun r_19 =>
  (if (!r_19) = true then .ok (true, ()) else (if (decide (0 < p_8.1)) = true then (O.opt (ixY words_3 (p_8.1 - 1))).bind fun r_21 =>
  (O.opt (leYo p_8.2 r_21)).bind fun r_23 =>
  .ok (r_23, ()) else .ok (false, ()))) : O (Bool × Unit)).bind fun p_24 =>
  (if p_24.1 = true then
  .exc 3 [words_3] []
  else .ok ())).bind fun s_11 =>
  .ok ())
def T_parting_place (net_1 : O_Net) (one_2 : List Int) (other_3 : List Int) : O (Option Int) :=
  O.ck (okR net_1.1) <|
  (loopT (ρ := Option Int) (rngT 0 net_1.1) () fun place_5 (s_7 : Unit) =>
  ((O.opt (L2.atI one_2 place_5)).bind fun r_21 =>
  (O.opt (L2.atI other_3 place_5)).bind fun r_23 =>
  (if (!decide (r_21 = r_23)) = true then (O.opt (L2.atI net_1.2.2 place_5)).bind fun r_46 =>
  O.ck (r_46.length ≤ 16777216) <|
  (compT r_46 () fun known_48 s_49 =>
  (O.opt (L2.atI one_2 known_48)).bind fun r_51 =>
  (O.opt (L2.atI other_3 known_48)).bind fun r_53 =>
  .ok (some ((decide (r_51 = r_53))), ())).no.bind fun l_54 =>
  .ok ((l_54.1.all id), ()) else .ok (false, ())) : O (Bool × Unit)).bind fun p_56 =>
  (if p_56.1 = true then
  .ok (.ret ((some place_5)))
  else .ok (.nx ()))).aft (fun s_8 =>
  .ok none) (fun r => .ok r)
def T_first_clash (net_1 : O_Net) (q_2 : Int) (words_3 : List (List Int)) : O (Option ((List Int) × (List Int) × Int)) :=
  (T_count_words net_1 ((eI q_2))).no.bind fun r_5 =>
  (T_check_words net_1 q_2 (((eT (eT eI)) words_3))).no.bind fun r_7 =>
  (loopT (ρ := Option ((List Int) × (List Int) × Int)) (enumT words_3) () fun p_8 (s_10 : Unit) =>
  (loopT (ρ := Option ((List Int) × (List Int) × Int)) (cutT words_3 (some (p_8.1 + 1)) none) () fun other_12 (s_14 : Unit) =>
  (T_parting_place net_1 p_8.2 other_12).no.bind fun r_17 =>
  (if (r_17).isSome = true then
  (O.opt r_17).bind fun r_19 =>
  .ok (.ret ((some (p_8.2, other_12, r_19))))
  else .ok (.nx ()))).aft (fun s_15 =>
  .ok (.nx ())) (fun r => .ok (.ret r))).aft (fun s_11 =>
  .ok none) (fun r => .ok r)
def T_moved_words (q_1 : Int) (words_2 : List (List Int)) (by_3 : List Int) : O (List (List Int)) :=
  O.ck (words_2.length ≤ 16777216) <|
  (compT words_2 () fun word_29 s_30 =>
  O.ck (okR ((by_3).length : Int)) <|
  O.ck ((rngT 0 ((by_3).length : Int)).length ≤ 16777216) <|
  (compT (rngT 0 ((by_3).length : Int)) () fun k_47 s_48 =>
  (O.opt (L2.atI word_29 k_47)).bind fun r_50 =>
  (O.opt (L2.atI by_3 k_47)).bind fun r_52 =>
  O.ck (0 < q_1) <|
  .ok (some (((r_50 + r_52) % q_1)), ())).no.bind fun l_54 =>
  .ok (some l_54.1, ())).no.bind fun l_56 =>
  O.ck (∀ r ∈ l_56.1, r ≠ []) <|
  .ok ((l_56.1.mergeSort leR))
def T_shifted_words (net_1 : O_Net) (q_2 : Int) (words_3 : List (List Int)) (by_4 : List Int) : O (List (List Int)) :=
  (T_count_words net_1 ((eI q_2))).no.bind fun r_6 =>
  (T_check_words net_1 q_2 (((eT (eT eI)) words_3))).no.bind fun r_8 =>
  (T_is_word net_1 q_2 (((eT eI) by_4))).no.bind fun r_10 =>
  (if (!r_10) = true then
  .exc 2 [((eT eI) by_4)] []
  else (T_moved_words q_2 words_3 by_4).no.bind fun r_12 =>
  .ok r_12)
def T_law_pick (numbers_here_1 : List Int) (k_2 : Int) (words_here_3 : List (List Int)) (many_4 : Int) : O (List (List Int)) :=
  O.ck (okR many_4) <|
  (foldT (rngT 0 many_4) (([] : List (List Int))) fun j_6 (s_8 : (List (List Int))) =>
  (O.opt (L2.atI numbers_here_1 (k_2 + j_6))).bind fun r_11 =>
  O.ck (0 < ((words_here_3).length : Int)) <|
  (O.opt (L2.atI words_here_3 (r_11 % ((words_here_3).length : Int)))).bind fun r_14 =>
  (if (!memT r_14 s_8) = true then
  O.ck (appC s_8) <|
  .ok ((s_8 ++ [r_14]))
  else .ok s_8)).bind fun s_9 =>
  .ok s_9
def T_law (script_1 : List Int) : O Bool :=
  O.ck (okR (if 2 < ((script_1).length : Int) then 2 else ((script_1).length : Int))) <|
  (loopT (ρ := Bool) (rngT 0 (if 2 < ((script_1).length : Int) then 2 else ((script_1).length : Int))) () fun at_3 (s_5 : Unit) =>
  (O.opt (L2.atI script_1 at_3)).bind fun r_8 =>
  (T_law_numbers r_8 at_3 60).no.bind fun r_10 =>
  (T_law_letters r_10 0 ((5, 3, 2))).no.bind fun r_12 =>
  (T_law_net r_10 1 r_12.2).no.bind fun r_14 =>
  (((if (decide (r_12.1 = 2)) = true then (O.opt (L2.atI r_10 0)).bind fun r_20 =>
  .ok ((decide (((r_20 / 8) % 3) = 0)), ()) else .ok (false, ())) : O (Bool × Unit)).bind fun x_21 => (if x_21.1 = true then
  (T_law_ring_of_five r_10 2).no.bind fun r_24 =>
  .ok r_24
  else .ok r_14 : O (Int × (List (Int × Int))))).bind fun s_16 =>
  (T_law_knows s_16).no.bind fun r_28 =>
  (T_Net_init s_16.1 (((eL (eP2 eI eI)) s_16.2))).no.bind fun r_30 =>
  (T_law_words s_16.1 r_12.1).no.bind fun r_32 =>
  (O.opt (L2.atI r_10 32)).bind fun r_34 =>
  O.ck (0 < ((r_32).length : Int)) <|
  O.lt ((cutT r_32 (some (r_34 % ((r_32).length : Int))) none)) fun rest_36 =>
  (O.opt (L2.atI r_10 35)).bind fun r_40 =>
  (if (decide ((r_40 % 2) = 0)) = true then
  .ok (([] : List (List Int)))
  else .ok rest_36 : O (List (List Int))).bind fun s_38 =>
  (O.opt (L2.atI r_10 36)).bind fun r_42 =>
  (T_law_pick r_10 20 r_32 ((1 + (r_42 % 12)))).no.bind fun r_44 =>
  O.ck (catC r_44 s_38) <|
  (T_law_store r_28 ((r_44 ++ s_38))).no.bind fun r_47 =>
  (T_first_clash r_30.2 r_12.1 r_47).no.bind fun r_49 =>
  (if (r_49).isSome = true then
  .ok (.ret false)
  else (loopT (ρ := Bool) r_32 (([] : List (List Int × Int))) fun by_50 (s_52 : (List (List Int × Int))) =>
  (T_shifted_words r_30.2 r_12.1 r_47 by_50).no.bind fun r_55 =>
  ((O.opt (isiY .tup ((eT (eT eI)) r_55))).bind fun r_60 =>
  (if (!r_60) = true then .ok (true, ()) else O.ck (∀ r ∈ r_55, r ≠ []) <|
  (if (!decide (r_55 = (r_55.mergeSort leR))) = true then .ok (true, ()) else .ok ((!decide (((r_55).length : Int) = ((r_47).length : Int))), ()))) : O (Bool × Unit)).bind fun p_62 =>
  (if p_62.1 = true then
  .ok (.ret false)
  else (loopT (ρ := Bool) r_55 s_52 fun word_63 (s_65 : (List (List Int × Int))) =>
  (if (!memT word_63 r_32) = true then
  .ok (.ret false)
  else O.ck (appC s_65) <|
  O.lt (putL s_65 word_63 ((((getL s_65 word_63).getD 0) + 1))) fun counts_68 =>
  .ok (.nx counts_68))).aft (fun s_66 =>
  O.ck (r_47.length ≤ 16777216) <|
  (compT r_47 () fun word_86 s_87 =>
  O.ck (okR ((by_50).length : Int)) <|
  O.ck ((rngT 0 ((by_50).length : Int)).length ≤ 16777216) <|
  (compT (rngT 0 ((by_50).length : Int)) () fun i_104 s_105 =>
  (O.opt (L2.atI word_86 i_104)).bind fun r_107 =>
  (O.opt (L2.atI by_50 i_104)).bind fun r_109 =>
  O.ck (0 < r_12.1) <|
  .ok (some (((r_107 + r_109) % r_12.1)), ())).no.bind fun l_111 =>
  .ok (some l_111.1, ())).no.bind fun l_113 =>
  O.ck (∀ r ∈ l_113.1, r ≠ []) <|
  O.lt ((l_113.1.mergeSort leR)) fun due_115 =>
  (O.opt (L2.atI r_10 33)).bind fun r_117 =>
  O.ck (0 < ((r_47).length : Int)) <|
  O.lt ((r_117 % ((r_47).length : Int))) fun place_119 =>
  O.ck (r_55.length ≤ 16777216) <|
  (compT r_55 () fun word_126 s_127 =>
  (O.opt (L2.atI r_55 place_119)).bind fun r_129 =>
  (T_law_excludes r_28 r_129 word_126).no.bind fun r_131 =>
  (if (r_131).isSome = true then .ok (some word_126, ()) else .ok (none, ()))).no.bind fun l_132 =>
  (if ((!decide (r_55 = due_115)) || (decide (0 < ((l_132.1).length : Int)))) = true then
  .ok (.ret false)
  else .ok (.nx s_66))) (fun r => .ok (.ret r)))).aft (fun s_53 =>
  (loopT (ρ := Bool) r_32 () fun word_136 (s_138 : Unit) =>
  (if (!decide (((getL s_53 word_136).getD 0) = ((r_47).length : Int))) = true then
  .ok (.ret false)
  else .ok (.nx ()))).aft (fun s_139 =>
  .ok (.nx ())) (fun r => .ok (.ret r))) (fun r => .ok (.ret r)))).aft (fun s_6 =>
  .ok true) (fun r => .ok r)
end Lk49
namespace Lk49
open PySem KS KT
theorem rf_law_numbers (cell_1 : Int) (at_2 : Int) (many_3 : Int) : Rf (fn_law_numbers (toDs [eI cell_1, eI at_2, eI many_3])) (T_law_numbers cell_1 at_2 many_3) (KF (eL eI) 3 os0) (KX 3 os0) := by
  unfold fn_law_numbers T_law_numbers
  refine fn_rf0 (fr0 := ([some (toD (eI cell_1)), some (toD (eI at_2)), some (toD (eI many_3)), none, none, none, none, none] : Fr)) rfl ?_
  unfold g_law_numbers
  exact (by exact (s_set (x_v (v := eB ((decide ((10 ^ (18 : Int).toNat) ≤ (if cell_1 < 0 then -cell_1 else cell_1))))) (by exact (v_op2 ((v_op1 ((v_op1 ((v_var (i := 0) (by exact rfl))).l f_int)).l f_abs)).l ((v_op2 (v_cI).l (v_cI).l (f_pow (by decide)))).l f_ge)) (by exact (k_SetN (E := eB) (fr' := fun great_4 => ([some (toD (eI cell_1)), some (toD (eI at_2)), some (toD (eI many_3)), some (toD (eB great_4)), none, none, none, none] : Fr)) (fun _ => rfl) (fun great_4 => (by exact (s_set (x_v (v := eI (((2 * (if cell_1 < 0 then -cell_1 else cell_1)) + (if (decide (cell_1 < 0)) = true then 1 else 0)))) (by exact (v_op2 ((v_op2 (v_cI).l ((v_op1 ((v_op1 ((v_var (i := 0) (by exact rfl))).l f_int)).l f_abs)).l (f_mul (mul_l (by decide))))).l ((v_op1 ((v_op2 ((v_var (i := 0) (by exact rfl))).l (v_cI).l f_lt)).l f_intB)).l f_add)) (by exact (k_SetN (E := eI) (fr' := fun rest_5 => ([some (toD (eI cell_1)), some (toD (eI at_2)), some (toD (eI many_3)), some (toD (eB great_4)), some (toD (eI rest_5)), none, none, none] : Fr)) (fun _ => rfl) (fun rest_5 => (by exact (s_setF (x_v (v := (eL eI) ([])) (by exact (v_lst va_nil rfl)) (by exact (k_SetF (d := toD ((eL eI) ([] : List Int))) (fr' := ([some (toD (eI cell_1)), some (toD (eI at_2)), some (toD (eI many_3)), some (toD (eB great_4)), some (toD (eI rest_5)), some (toD ((eL eI) (([] : List Int)))), none, none] : Fr)) rfl (by exact (s_forH (Rf.ck fun h_6 =>
  (by exact (x_vi (by exact (vi_rg1 ((v_var (i := 2) (by exact rfl))).l h_6)) (by exact (k_for (js := [false, false, false, false, false, false, true, true]) (F := (fun (s_8 : Int × (List Int)) => ([some (toD (eI cell_1)), some (toD (eI at_2)), some (toD (eI many_3)), some (toD (eB great_4)), some (toD (eI s_8.1)), some (toD ((eL eI) s_8.2)), none, none] : Fr))) (s0 := (rest_5, ([] : List Int))) rfl (fun _ _ => rfl) (fun k_7 s_9 => (by exact (s_ifX (x_vb (vb_tru ((v_var (i := 3) (by exact rfl))).l tru_B) (by exact (k_If (by exact (s_seqE (s_x (x_mut (i := 5) rfl rfl (x_cons (by exact (x_v (v := eI ((s_9.1 % 1000))) (by exact (v_op2 ((v_op1 ((v_var (i := 4) (by exact rfl))).l f_int)).l (v_cI).l (f_mod (by decide)))) (by exact (k_A (by exact (x_nil (Rf.ck fun h_11 =>
  (by exact (k_mut (i := 5) (vs := [eI ((s_9.1 % 1000))]) (fr' := ([some (toD (eI cell_1)), some (toD (eI at_2)), some (toD (eI many_3)), some (toD (eB great_4)), some (toD (eI s_9.1)), some (toD ((eL eI) ((s_9.2 ++ [(s_9.1 % 1000)])))), some (toD (eI k_7)), none] : Fr)) rfl rfl (m_app (E := eI) (a := (s_9.1 % 1000)) h_11) rfl (by exact (k_X (by exact (s_seqE (s_set (x_v (v := eI ((s_9.1 / 1000))) (by exact (v_op2 ((v_var (i := 4) (by exact rfl))).l (v_cI).l (f_div (by decide)))) (by exact (k_SetN (E := eI) (fr' := fun rest_12 => ([some (toD (eI cell_1)), some (toD (eI at_2)), some (toD (eI many_3)), some (toD (eB great_4)), some (toD (eI rest_12)), some (toD ((eL eI) ((s_9.2 ++ [(s_9.1 % 1000)])))), some (toD (eI k_7)), none] : Fr)) (fun _ => rfl) (fun rest_12 => (by exact (s_nx (by exact (s_end ⟨.inl rfl, rfl⟩))))))))))))))))))))))))))) (by exact (s_seqE (s_set (x_v (v := eI ((((((s_9.1 * 48271) + (at_2 * 69621)) + (k_7 * 16807)) + 7) % 2147483647))) (by exact (v_op2 ((v_op1 ((v_op2 ((v_op2 ((v_op2 ((v_op2 ((v_var (i := 4) (by exact rfl))).l (v_cI).l (f_mul (mul_r (by decide))))).l ((v_op2 ((v_var (i := 1) (by exact rfl))).l (v_cI).l (f_mul (mul_r (by decide))))).l f_add)).l ((v_op2 ((v_var (i := 6) (by exact rfl))).l (v_cI).l (f_mul (mul_r (by decide))))).l f_add)).l (v_cI).l f_add)).l f_int)).l (v_cI).l (f_mod (by decide)))) (by exact (k_SetN (E := eI) (fr' := fun mixed_13 => ([some (toD (eI cell_1)), some (toD (eI at_2)), some (toD (eI many_3)), some (toD (eB great_4)), some (toD (eI s_9.1)), some (toD ((eL eI) s_9.2)), some (toD (eI k_7)), some (toD (eI mixed_13))] : Fr)) (fun _ => rfl) (fun mixed_13 => (by exact (s_seqE (s_set (Rf.ck fun h_14 =>
  (by exact (x_v (v := eI (((((mixed_13 * mixed_13) + (k_7 * 40692)) + 3) % 2147483629))) (by exact (v_op2 ((v_op1 ((v_op2 ((v_op2 ((v_op2 ((v_var (i := 7) (by exact rfl))).l ((v_var (i := 7) (by exact rfl))).l (f_mul h_14))).l ((v_op2 ((v_var (i := 6) (by exact rfl))).l (v_cI).l (f_mul (mul_r (by decide))))).l f_add)).l (v_cI).l f_add)).l f_int)).l (v_cI).l (f_mod (by decide)))) (by exact (k_SetN (E := eI) (fr' := fun mixed_15 => ([some (toD (eI cell_1)), some (toD (eI at_2)), some (toD (eI many_3)), some (toD (eB great_4)), some (toD (eI s_9.1)), some (toD ((eL eI) s_9.2)), some (toD (eI k_7)), some (toD (eI mixed_15))] : Fr)) (fun _ => rfl) (fun mixed_15 => (by exact (s_seqE (s_set (Rf.ck fun h_16 =>
  (by exact (x_v (v := eI (((((mixed_15 * mixed_15) + (at_2 * 30269)) + 5) % 2147483587))) (by exact (v_op2 ((v_op1 ((v_op2 ((v_op2 ((v_op2 ((v_var (i := 7) (by exact rfl))).l ((v_var (i := 7) (by exact rfl))).l (f_mul h_16))).l ((v_op2 ((v_var (i := 1) (by exact rfl))).l (v_cI).l (f_mul (mul_r (by decide))))).l f_add)).l (v_cI).l f_add)).l f_int)).l (v_cI).l (f_mod (by decide)))) (by exact (k_SetN (E := eI) (fr' := fun mixed_17 => ([some (toD (eI cell_1)), some (toD (eI at_2)), some (toD (eI many_3)), some (toD (eB great_4)), some (toD (eI s_9.1)), some (toD ((eL eI) s_9.2)), some (toD (eI k_7)), some (toD (eI mixed_17))] : Fr)) (fun _ => rfl) (fun mixed_17 => (by exact (s_seqE (s_x (x_mut (i := 5) rfl rfl (x_cons (by exact (x_v (v := eI (((mixed_17 / 5) % 1000))) (by exact (v_op2 ((v_op1 ((v_op2 ((v_var (i := 7) (by exact rfl))).l (v_cI).l (f_div (by decide)))).l f_int)).l (v_cI).l (f_mod (by decide)))) (by exact (k_A (by exact (x_nil (Rf.ck fun h_18 =>
  (by exact (k_mut (i := 5) (vs := [eI (((mixed_17 / 5) % 1000))]) (fr' := ([some (toD (eI cell_1)), some (toD (eI at_2)), some (toD (eI many_3)), some (toD (eB great_4)), some (toD (eI s_9.1)), some (toD ((eL eI) ((s_9.2 ++ [((mixed_17 / 5) % 1000)])))), some (toD (eI k_7)), some (toD (eI mixed_17))] : Fr)) rfl rfl (m_app (E := eI) (a := ((mixed_17 / 5) % 1000)) h_18) rfl (by exact (k_X (by exact (s_nx (by exact (s_end ⟨.inl rfl, rfl⟩))))))))))))))))))))))))))))))))))))))))))))))))))) (fun s_10 => (by exact (s_ret (x_fz (i := 5) (fr' := ([some (toD (eI cell_1)), some (toD (eI at_2)), some (toD (eI many_3)), some (toD (eB great_4)), some (toD (eI s_10.1)), some (.tup [toD ((eL eI) s_10.2)]), none, none] : Fr)) rfl rfl rfl (by exact (k_Ret (kd_ret rfl)))))))))))))))))))))))))))))))
theorem rf_law_letters (numbers_here_1 : List Int) (k_2 : Int) (most_3 : (Int × Int × Int)) : Rf (fn_law_letters (toDs [(eL eI) numbers_here_1, eI k_2, (eP3 eI eI eI) most_3])) (T_law_letters numbers_here_1 k_2 most_3) (KF (eP2 eI eI) 3 os0) (KX 3 os0) := by
  unfold fn_law_letters T_law_letters
  refine fn_rf0 (fr0 := ([some (toD ((eL eI) numbers_here_1)), some (toD (eI k_2)), some (toD ((eP3 eI eI eI) most_3)), none] : Fr)) rfl ?_
  unfold g_law_letters
  exact (by exact (s_set (Rf.opt fun r_5 h_4 =>
  (by exact (Rf.opt fun r_7 h_6 =>
  (by exact (x_v (v := eI r_7) (by exact (v_op2 ((v_lst (va_cons v_cI (va_cons v_cI (va_cons v_cI (va_cons v_cI (va_cons v_cI (va_cons v_cI (va_cons v_cI (va_cons v_cI va_nil)))))))) rfl)).l ((v_op2 ((v_op1 ((v_op2 ((v_var (i := 0) (by exact rfl))).l ((v_var (i := 1) (by exact rfl))).l (f_ixL h_4))).l f_int)).l (v_cI).l (f_mod (by decide)))).l (f_ixL h_6))) (by exact (k_Set (v := eI r_7) (fr' := ([some (toD ((eL eI) numbers_here_1)), some (toD (eI k_2)), some (toD ((eP3 eI eI eI) most_3)), some (toD (eI r_7))] : Fr)) rfl (by exact (s_ret (Rf.opt fun r_9 h_8 =>
  (by exact (x_v (v := (eP2 eI eI) ((r_7, r_9))) (by exact (v_tup (va_cons (v_var (i := 3) (by exact rfl)) (va_cons (v_op2 ((v_lst (va_cons v_cI (va_cons v_cI (va_cons (v_op2 ((v_var (i := 2) (by exact rfl))).l (v_cI).l (f_ixP (i := 0) (vs := [eI most_3.1, eI most_3.2.1, eI most_3.2.2]) (v := eI most_3.1) rfl)) (va_cons (v_op2 ((v_var (i := 2) (by exact rfl))).l (v_cI).l (f_ixP (i := 1) (vs := [eI most_3.1, eI most_3.2.1, eI most_3.2.2]) (v := eI most_3.2.1) rfl)) (va_cons (v_op2 ((v_var (i := 2) (by exact rfl))).l (v_cI).l (f_ixP (i := 2) (vs := [eI most_3.1, eI most_3.2.1, eI most_3.2.2]) (v := eI most_3.2.2) rfl)) (va_cons v_cI va_nil)))))) rfl)).l ((v_var (i := 3) (by exact rfl))).l (f_ixL h_8)) va_nil)) rfl)) (by exact (k_Ret (kd_ret rfl)))))))))))))))))
theorem rf_law_order (numbers_here_1 : List Int) (k_2 : Int) (size_3 : Int) : Rf (fn_law_order (toDs [(eL eI) numbers_here_1, eI k_2, eI size_3])) (T_law_order numbers_here_1 k_2 size_3) (KF (eL eI) 3 os0) (KX 3 os0) := by
  unfold fn_law_order T_law_order
  refine fn_rf0 (fr0 := ([some (toD ((eL eI) numbers_here_1)), some (toD (eI k_2)), some (toD (eI size_3)), none, none] : Fr)) rfl ?_
  unfold g_law_order
  exact (by exact (s_setF (x_v (v := (eL eI) ([])) (by exact (v_lst va_nil rfl)) (by exact (k_SetF (d := toD ((eL eI) ([] : List Int))) (fr' := ([some (toD ((eL eI) numbers_here_1)), some (toD (eI k_2)), some (toD (eI size_3)), some (toD ((eL eI) (([] : List Int)))), none] : Fr)) rfl (by exact (s_forH (Rf.ck fun h_4 =>
  (by exact (x_vi (by exact (vi_rg1 ((v_var (i := 2) (by exact rfl))).l h_4)) (by exact (k_for (js := [false, false, false, false, true]) (F := (fun (s_6 : (List Int)) => ([some (toD ((eL eI) numbers_here_1)), some (toD (eI k_2)), some (toD (eI size_3)), some (toD ((eL eI) s_6)), none] : Fr))) (s0 := ([] : List Int)) rfl (fun _ _ => rfl) (fun i_5 s_7 => (by exact (s_x (x_mut (i := 3) rfl rfl (x_cons (by exact (Rf.opt fun r_10 h_9 =>
  (by exact (Rf.ck fun h_11 =>
  (by exact (x_v (v := eI ((r_10 % (i_5 + 1)))) (by exact (v_op2 ((v_op1 ((v_op2 ((v_var (i := 0) (by exact rfl))).l ((v_op2 ((v_var (i := 1) (by exact rfl))).l ((v_var (i := 4) (by exact rfl))).l f_add)).l (f_ixL h_9))).l f_int)).l ((v_op2 ((v_var (i := 4) (by exact rfl))).l (v_cI).l f_add)).l (f_mod h_11))) (by exact (k_A (by exact (x_cons (by exact (x_v (v := eI i_5) (by exact (v_var (i := 4) (by exact rfl))) (by exact (k_A (by exact (x_nil (Rf.ck fun h_12 =>
  (by exact (k_mut (i := 3) (vs := [eI ((r_10 % (i_5 + 1))), eI i_5]) (fr' := ([some (toD ((eL eI) numbers_here_1)), some (toD (eI k_2)), some (toD (eI size_3)), some (toD ((eL eI) ((insT s_7 (r_10 % (i_5 + 1)) i_5)))), some (toD (eI i_5))] : Fr)) rfl rfl (m_ins (E := eI) (a := i_5) h_12) rfl (by exact (k_X (by exact (s_end ⟨.inl rfl, rfl⟩)))))))))))))))))))))))))))) (fun s_8 => (by exact (s_ret (x_fz (i := 3) (fr' := ([some (toD ((eL eI) numbers_here_1)), some (toD (eI k_2)), some (toD (eI size_3)), some (.tup [toD ((eL eI) s_8)]), none] : Fr)) rfl rfl rfl (by exact (k_Ret (kd_ret rfl)))))))))))))))))))
theorem rf_law_ring_of_five (numbers_here_1 : List Int) (k_2 : Int) : Rf (fn_law_ring_of_five (toDs [(eL eI) numbers_here_1, eI k_2])) (T_law_ring_of_five numbers_here_1 k_2) (KF (eP2 eI (eL (eP2 eI eI))) 2 os0) (KX 2 os0) := by
  unfold fn_law_ring_of_five T_law_ring_of_five
  refine fn_rf0 (fr0 := ([some (toD ((eL eI) numbers_here_1)), some (toD (eI k_2)), none, none, none, none, none] : Fr)) rfl ?_
  unfold g_law_ring_of_five
  exact (by exact (s_set (Rf.no fun r_4 h_3 =>
  (by exact (x_v (v := (eL eI) r_4) (by exact (v_call (a := r_4) (E := (eL eI)) (rf_law_order numbers_here_1 k_2 5) h_3 rfl rfl (va_cons (v_var (i := 0) (by exact rfl)) (va_cons (v_var (i := 1) (by exact rfl)) (va_cons v_cI va_nil))))) (by exact (k_Set (v := (eL eI) r_4) (fr' := ([some (toD ((eL eI) numbers_here_1)), some (toD (eI k_2)), some (toD ((eL eI) r_4)), none, none, none, none] : Fr)) rfl (by exact (s_setF (x_v (v := (eL (eP2 eI eI)) ([])) (by exact (v_lst va_nil rfl)) (by exact (k_SetF (d := toD ((eL (eP2 eI eI)) ([] : List (Int × Int)))) (fr' := ([some (toD ((eL eI) numbers_here_1)), some (toD (eI k_2)), some (toD ((eL eI) r_4)), some (toD ((eL (eP2 eI eI)) (([] : List (Int × Int))))), none, none, none] : Fr)) rfl (by exact (s_forH (x_vi (by exact (vi_rg1 (v_cI).l (by decide))) (by exact (k_for (js := [false, false, false, false, true, false, false]) (F := (fun (s_6 : (List (Int × Int))) => ([some (toD ((eL eI) numbers_here_1)), some (toD (eI k_2)), some (toD ((eL eI) r_4)), some (toD ((eL (eP2 eI eI)) s_6)), none, none, none] : Fr))) (s0 := ([] : List (Int × Int))) rfl (fun _ _ => rfl) (fun i_5 s_7 => (by exact (s_x (x_mut (i := 3) rfl rfl (x_cons (by exact (Rf.opt fun r_10 h_9 =>
  (by exact (Rf.opt fun r_12 h_11 =>
  (by exact (x_v (v := (eP2 eI eI) ((r_10, r_12))) (by exact (v_tup (va_cons (v_op2 ((v_var (i := 2) (by exact rfl))).l ((v_var (i := 4) (by exact rfl))).l (f_ixL h_9)) (va_cons (v_op2 ((v_var (i := 2) (by exact rfl))).l ((v_op2 ((v_op1 ((v_op2 ((v_var (i := 4) (by exact rfl))).l (v_cI).l f_add)).l f_int)).l (v_cI).l (f_mod (by decide)))).l (f_ixL h_11)) va_nil)) rfl)) (by exact (k_A (by exact (x_nil (Rf.ck fun h_13 =>
  (by exact (k_mut (i := 3) (vs := [(eP2 eI eI) ((r_10, r_12))]) (fr' := ([some (toD ((eL eI) numbers_here_1)), some (toD (eI k_2)), some (toD ((eL eI) r_4)), some (toD ((eL (eP2 eI eI)) ((s_7 ++ [(r_10, r_12)])))), some (toD (eI i_5)), none, none] : Fr)) rfl rfl (m_app (E := (eP2 eI eI)) (a := (r_10, r_12)) h_13) rfl (by exact (k_X (by exact (s_x (x_mut (i := 3) rfl rfl (x_cons (by exact (Rf.opt fun r_15 h_14 =>
  (by exact (Rf.opt fun r_17 h_16 =>
  (by exact (x_v (v := (eP2 eI eI) ((r_15, r_17))) (by exact (v_tup (va_cons (v_op2 ((v_var (i := 2) (by exact rfl))).l ((v_op2 ((v_op1 ((v_op2 ((v_var (i := 4) (by exact rfl))).l (v_cI).l f_add)).l f_int)).l (v_cI).l (f_mod (by decide)))).l (f_ixL h_14)) (va_cons (v_op2 ((v_var (i := 2) (by exact rfl))).l ((v_var (i := 4) (by exact rfl))).l (f_ixL h_16)) va_nil)) rfl)) (by exact (k_A (by exact (x_nil (Rf.ck fun h_18 =>
  (by exact (k_mut (i := 3) (vs := [(eP2 eI eI) ((r_15, r_17))]) (fr' := ([some (toD ((eL eI) numbers_here_1)), some (toD (eI k_2)), some (toD ((eL eI) r_4)), some (toD ((eL (eP2 eI eI)) (((s_7 ++ [(r_10, r_12)]) ++ [(r_15, r_17)])))), some (toD (eI i_5)), none, none] : Fr)) rfl rfl (m_app (E := (eP2 eI eI)) (a := (r_15, r_17)) h_18) rfl (by exact (k_X (by exact (s_end ⟨.inl rfl, rfl⟩))))))))))))))))))))))))))))))))))))))))) (fun s_8 => (by exact (s_forH (Rf.opt fun r_20 h_19 =>
  (by exact (Rf.ck fun h_21 =>
  (by exact (x_vi (by exact (vi_rg1 ((v_op2 ((v_op1 ((v_op2 ((v_var (i := 0) (by exact rfl))).l ((v_op2 ((v_var (i := 1) (by exact rfl))).l (v_cI).l f_add)).l (f_ixL h_19))).l f_int)).l (v_cI).l (f_mod (by decide)))).l h_21)) (by exact (k_for (js := [false, false, false, false, true, true, true]) (F := (fun (s_23 : (List (Int × Int))) => ([some (toD ((eL eI) numbers_here_1)), some (toD (eI k_2)), some (toD ((eL eI) r_4)), some (toD ((eL (eP2 eI eI)) s_23)), none, none, none] : Fr))) (s0 := s_8) rfl (fun _ _ => rfl) (fun j_22 s_24 => (by exact (s_set (Rf.opt fun r_27 h_26 =>
  (by exact (x_v (v := eI ((r_27 % 5))) (by exact (v_op2 ((v_op1 ((v_op2 ((v_var (i := 0) (by exact rfl))).l ((v_op2 ((v_op2 ((v_var (i := 1) (by exact rfl))).l (v_cI).l f_add)).l ((v_var (i := 5) (by exact rfl))).l f_add)).l (f_ixL h_26))).l f_int)).l (v_cI).l (f_mod (by decide)))) (by exact (k_SetN (E := eI) (fr' := fun i_28 => ([some (toD ((eL eI) numbers_here_1)), some (toD (eI k_2)), some (toD ((eL eI) r_4)), some (toD ((eL (eP2 eI eI)) s_24)), some (toD (eI i_28)), some (toD (eI j_22)), none] : Fr)) (fun _ => rfl) (fun i_28 => (by exact (s_set (Rf.opt fun r_30 h_29 =>
  (by exact (x_v (v := (eP2 eI eI) ((i_28, (((i_28 + 1) + ((r_30 / 5) % 4)) % 5)))) (by exact (v_tup (va_cons (v_var (i := 4) (by exact rfl)) (va_cons (v_op2 ((v_op1 ((v_op2 ((v_op2 ((v_var (i := 4) (by exact rfl))).l (v_cI).l f_add)).l ((v_op2 ((v_op1 ((v_op2 ((v_op2 ((v_var (i := 0) (by exact rfl))).l ((v_op2 ((v_op2 ((v_var (i := 1) (by exact rfl))).l (v_cI).l f_add)).l ((v_var (i := 5) (by exact rfl))).l f_add)).l (f_ixL h_29))).l (v_cI).l (f_div (by decide)))).l f_int)).l (v_cI).l (f_mod (by decide)))).l f_add)).l f_int)).l (v_cI).l (f_mod (by decide))) va_nil)) rfl)) (by exact (k_SetN (E := (eP2 eI eI)) (fr' := fun arc_31 => ([some (toD ((eL eI) numbers_here_1)), some (toD (eI k_2)), some (toD ((eL eI) r_4)), some (toD ((eL (eP2 eI eI)) s_24)), some (toD (eI i_28)), some (toD (eI j_22)), some (toD ((eP2 eI eI) arc_31))] : Fr)) (fun _ => rfl) (fun arc_31 => (by exact (s_ifX (x_vb (vb_E (v_op2 ((v_var (i := 6) (by exact rfl))).l (l_pl (i := 3) (by exact rfl) (by exact rfl)) (f_in (dat_P dat_I dat_I) (by decide)))) (by exact (k_If (by exact (s_seqE (s_x (x_mut (i := 3) rfl rfl (x_cons (by exact (x_v (v := (eP2 eI eI) arc_31) (by exact (v_var (i := 6) (by exact rfl))) (by exact (k_A (by exact (x_nil (Rf.ck fun h_32 =>
  (by exact (k_mut (i := 3) (vs := [(eP2 eI eI) arc_31]) (fr' := ([some (toD ((eL eI) numbers_here_1)), some (toD (eI k_2)), some (toD ((eL eI) r_4)), some (toD ((eL (eP2 eI eI)) ((eraseT s_24 arc_31)))), some (toD (eI i_28)), some (toD (eI j_22)), some (toD ((eP2 eI eI) arc_31))] : Fr)) rfl rfl (m_rem (A := (dat_P dat_I dat_I)) (datR_P datR_I datR_I) (by decide) h_32) rfl (by exact (k_X (by exact (s_nx (by exact (s_end ⟨.inl rfl, rfl⟩)))))))))))))))))))) (by exact (s_seqE (s_x (x_mut (i := 3) rfl rfl (x_cons (by exact (x_v (v := (eP2 eI eI) arc_31) (by exact (v_var (i := 6) (by exact rfl))) (by exact (k_A (by exact (x_nil (Rf.ck fun h_33 =>
  (by exact (k_mut (i := 3) (vs := [(eP2 eI eI) arc_31]) (fr' := ([some (toD ((eL eI) numbers_here_1)), some (toD (eI k_2)), some (toD ((eL eI) r_4)), some (toD ((eL (eP2 eI eI)) ((s_24 ++ [arc_31])))), some (toD (eI i_28)), some (toD (eI j_22)), some (toD ((eP2 eI eI) arc_31))] : Fr)) rfl rfl (m_app (E := (eP2 eI eI)) (a := arc_31) h_33) rfl (by exact (k_X (by exact (s_nx (by exact (s_end ⟨.inl rfl, rfl⟩)))))))))))))))))))))))))))))))))))))))))) (fun s_25 => (by exact (s_ret (x_v (v := (eP2 eI (eL (eP2 eI eI))) ((5, (s_25.mergeSort leP)))) (by exact (v_tup (va_cons v_cI (va_cons (v_op1 (l_pl (i := 3) (by exact rfl) (by exact rfl)) f_sortLP) va_nil)) rfl)) (by exact (k_Ret (kd_ret rfl))))))))))))))))))))))))))))))))))
theorem rf_law_net (numbers_here_1 : List Int) (k_2 : Int) (most_3 : Int) : Rf (fn_law_net (toDs [(eL eI) numbers_here_1, eI k_2, eI most_3])) (T_law_net numbers_here_1 k_2 most_3) (KF (eP2 eI (eL (eP2 eI eI))) 3 os0) (KX 3 os0) := by
  unfold fn_law_net T_law_net
  refine fn_rf0 (fr0 := ([some (toD ((eL eI) numbers_here_1)), some (toD (eI k_2)), some (toD (eI most_3)), none, none, none, none, none, none] : Fr)) rfl ?_
  unfold g_law_net
  exact (by exact (s_ifX (x_join (F := (fun (s_37 : Unit) => ([some (toD ((eL eI) numbers_here_1)), some (toD (eI k_2)), some (toD (eI most_3)), none, none, none, none, none, none] : Fr))) (x_and (vb_E (v_op2 ((v_var (i := 2) (by exact rfl))).l (v_cI).l f_gt)) rfl (fun _ => (x_tail (Rf.opt fun r_7 h_6 =>
  (by exact (x_vb (vb_E (v_op2 ((v_op2 ((v_op1 ((v_op2 ((v_var (i := 0) (by exact rfl))).l ((v_var (i := 1) (by exact rfl))).l (f_ixL h_6))).l f_int)).l (v_cI).l (f_mod (by decide)))).l (v_cI).l (f_eq eqb_I))) (by exact (kb_ok rfl)))))))) (fun p_8 => (k_If (by exact (s_seqE (s_ret (Rf.no fun r_10 h_9 =>
  (by exact (x_v (v := (eP2 eI (eL (eP2 eI eI))) r_10) (by exact (v_call (a := r_10) (E := (eP2 eI (eL (eP2 eI eI)))) (rf_law_ring_of_five numbers_here_1 ((k_2 + 1))) h_9 rfl rfl (va_cons (v_var (i := 0) (by exact rfl)) (va_cons (v_op2 ((v_var (i := 1) (by exact rfl))).l (v_cI).l f_add) va_nil)))) (by exact (k_Ret (kd_ret rfl))))))))) (by exact (s_nx (by exact (s_set (Rf.opt fun r_12 h_11 =>
  (by exact (Rf.ck fun h_13 =>
  (by exact (x_v (v := eI ((1 + ((r_12 / 3) % most_3)))) (by exact (v_op2 (v_cI).l ((v_op2 ((v_op1 ((v_op2 ((v_op2 ((v_var (i := 0) (by exact rfl))).l ((v_var (i := 1) (by exact rfl))).l (f_ixL h_11))).l (v_cI).l (f_div (by decide)))).l f_int)).l ((v_var (i := 2) (by exact rfl))).l (f_mod h_13))).l f_add)) (by exact (k_SetN (E := eI) (fr' := fun size_14 => ([some (toD ((eL eI) numbers_here_1)), some (toD (eI k_2)), some (toD (eI most_3)), some (toD (eI size_14)), none, none, none, none, none] : Fr)) (fun _ => rfl) (fun size_14 => (by exact (s_setF (x_v (v := (eL (eP2 eI eI)) ([])) (by exact (v_lst va_nil rfl)) (by exact (k_SetF (d := toD ((eL (eP2 eI eI)) ([] : List (Int × Int)))) (fr' := ([some (toD ((eL eI) numbers_here_1)), some (toD (eI k_2)), some (toD (eI most_3)), some (toD (eI size_14)), some (toD ((eL (eP2 eI eI)) (([] : List (Int × Int))))), none, none, none, none] : Fr)) rfl (by exact (s_set (x_v (v := eI 0) (by exact v_cI) (by exact (k_Set (v := eI 0) (fr' := ([some (toD ((eL eI) numbers_here_1)), some (toD (eI k_2)), some (toD (eI most_3)), some (toD (eI size_14)), some (toD ((eL (eP2 eI eI)) (([] : List (Int × Int))))), some (toD (eI 0)), none, none, none] : Fr)) rfl (by exact (s_forH (Rf.ck fun h_15 =>
  (by exact (x_vi (by exact (vi_rg1 ((v_var (i := 3) (by exact rfl))).l h_15)) (by exact (k_for (js := [false, false, false, false, false, false, true, true, true]) (F := (fun (s_17 : (List (Int × Int)) × Int) => ([some (toD ((eL eI) numbers_here_1)), some (toD (eI k_2)), some (toD (eI most_3)), some (toD (eI size_14)), some (toD ((eL (eP2 eI eI)) s_17.1)), some (toD (eI s_17.2)), none, none, none] : Fr))) (s0 := (([] : List (Int × Int)), 0)) rfl (fun _ _ => rfl) (fun i_16 s_18 => (by exact (s_forH (Rf.ck fun h_20 =>
  (by exact (x_vi (by exact (vi_rg1 ((v_var (i := 3) (by exact rfl))).l h_20)) (by exact (k_for (js := [false, false, false, false, false, false, false, true, true]) (F := (fun (s_22 : (List (Int × Int)) × Int) => ([some (toD ((eL eI) numbers_here_1)), some (toD (eI k_2)), some (toD (eI most_3)), some (toD (eI size_14)), some (toD ((eL (eP2 eI eI)) s_22.1)), some (toD (eI s_22.2)), some (toD (eI i_16)), none, none] : Fr))) (s0 := (s_18.1, s_18.2)) rfl (fun _ _ => rfl) (fun j_21 s_23 => (by exact (s_ifX (x_vb (vb_E (v_op2 ((v_var (i := 6) (by exact rfl))).l ((v_var (i := 7) (by exact rfl))).l (f_ne eqb_I))) (by exact (k_If (by exact (s_seqE (s_set (Rf.opt fun r_26 h_25 =>
  (by exact (Rf.opt fun r_28 h_27 =>
  (by exact (Rf.ck fun h_29 =>
  (by exact (x_v (v := eI (((r_26 / r_28) % 5))) (by exact (v_op2 ((v_op1 ((v_op2 ((v_op2 ((v_var (i := 0) (by exact rfl))).l ((v_op2 ((v_op2 ((v_var (i := 1) (by exact rfl))).l (v_cI).l f_add)).l ((v_op2 ((v_var (i := 5) (by exact rfl))).l (v_cI).l (f_div (by decide)))).l f_add)).l (f_ixL h_25))).l ((v_op2 ((v_lst (va_cons v_cI (va_cons v_cI (va_cons v_cI (va_cons v_cI va_nil)))) rfl)).l ((v_op2 ((v_op1 ((v_var (i := 5) (by exact rfl))).l f_int)).l (v_cI).l (f_mod (by decide)))).l (f_ixL h_27))).l (f_div h_29))).l f_int)).l (v_cI).l (f_mod (by decide)))) (by exact (k_SetN (E := eI) (fr' := fun seed_30 => ([some (toD ((eL eI) numbers_here_1)), some (toD (eI k_2)), some (toD (eI most_3)), some (toD (eI size_14)), some (toD ((eL (eP2 eI eI)) s_23.1)), some (toD (eI s_23.2)), some (toD (eI i_16)), some (toD (eI j_21)), some (toD (eI seed_30))] : Fr)) (fun _ => rfl) (fun seed_30 => (by exact (s_seqE (s_set (x_v (v := eI ((s_23.2 + 1))) (by exact (v_op2 ((v_var (i := 5) (by exact rfl))).l (v_cI).l f_add)) (by exact (k_SetN (E := eI) (fr' := fun at_31 => ([some (toD ((eL eI) numbers_here_1)), some (toD (eI k_2)), some (toD (eI most_3)), some (toD (eI size_14)), some (toD ((eL (eP2 eI eI)) s_23.1)), some (toD (eI at_31)), some (toD (eI i_16)), some (toD (eI j_21)), some (toD (eI seed_30))] : Fr)) (fun _ => rfl) (fun at_31 => (by exact (s_seqE (s_ifX (Rf.opt fun r_33 h_32 =>
  (by exact (Rf.opt fun r_35 h_34 =>
  (by exact (x_vb (vb_E (v_op2 ((v_var (i := 8) (by exact rfl))).l ((v_op2 ((v_op2 (v_cI).l ((v_op1 ((v_op2 ((v_op2 ((v_var (i := 0) (by exact rfl))).l ((v_var (i := 1) (by exact rfl))).l (f_ixL h_32))).l (v_cI).l (f_div (by decide)))).l f_int)).l f_add)).l ((v_op2 ((v_op1 ((v_op2 ((v_var (i := 0) (by exact rfl))).l ((v_var (i := 1) (by exact rfl))).l (f_ixL h_34))).l f_int)).l (v_cI).l (f_mod (by decide)))).l f_add)).l f_lt)) (by exact (k_If (by exact (s_seqE (s_x (x_mut (i := 4) rfl rfl (x_cons (by exact (x_v (v := (eP2 eI eI) ((i_16, j_21))) (by exact (v_tup (va_cons (v_var (i := 6) (by exact rfl)) (va_cons (v_var (i := 7) (by exact rfl)) va_nil)) rfl)) (by exact (k_A (by exact (x_nil (Rf.ck fun h_36 =>
  (by exact (k_mut (i := 4) (vs := [(eP2 eI eI) ((i_16, j_21))]) (fr' := ([some (toD ((eL eI) numbers_here_1)), some (toD (eI k_2)), some (toD (eI most_3)), some (toD (eI size_14)), some (toD ((eL (eP2 eI eI)) ((s_23.1 ++ [(i_16, j_21)])))), some (toD (eI at_31)), some (toD (eI i_16)), some (toD (eI j_21)), some (toD (eI seed_30))] : Fr)) rfl rfl (m_app (E := (eP2 eI eI)) (a := (i_16, j_21)) h_36) rfl (by exact (k_X (by exact (s_nx (by exact (s_nx (by exact (s_end ⟨.inl rfl, rfl⟩)))))))))))))))))))))) (by exact (s_nx (by exact (s_nx (by exact (s_end ⟨.inl rfl, rfl⟩)))))))))))))))))))))))))))))))))))) (by exact (s_nx (by exact (s_end ⟨.inl rfl, rfl⟩)))))))))) (fun s_24 => (by exact (s_end ⟨.inl rfl, rfl⟩))))))))))) (fun s_19 => (by exact (s_ret (x_tup (x_cons (by exact (x_v (v := eI size_14) (by exact (v_var (i := 3) (by exact rfl))) (by exact (k_A (by exact (x_cons (by exact (x_fz (i := 4) (fr' := ([some (toD ((eL eI) numbers_here_1)), some (toD (eI k_2)), some (toD (eI most_3)), some (toD (eI size_14)), some (.tup [toD ((eL (eP2 eI eI)) s_19.1)]), some (toD (eI s_19.2)), none, none, none] : Fr)) rfl rfl rfl (by exact (k_A (by exact (x_nil (k_tup (vs := [eI size_14, (eL (eP2 eI eI)) s_19.1]) rfl (k_Ret (kd_ret rfl))))))))))))))))))))))))))))))))))))))))))))))))))))))
theorem rf_law_knows (net_here_1 : (Int × (List (Int × Int)))) : Rf (fn_law_knows (toDs [(eP2 eI (eL (eP2 eI eI))) net_here_1])) (T_law_knows net_here_1) (KF (eL (eL eI)) 1 os0) (KX 1 os0) := by
  unfold fn_law_knows T_law_knows
  refine fn_rf0 (fr0 := ([some (toD ((eP2 eI (eL (eP2 eI eI))) net_here_1)), none, none, none] : Fr)) rfl ?_
  unfold g_law_knows
  exact (by exact (s_setF (x_v (v := (eL (eL eI)) ([])) (by exact (v_lst va_nil rfl)) (by exact (k_SetF (d := toD ((eL (eL eI)) ([] : List (List Int)))) (fr' := ([some (toD ((eP2 eI (eL (eP2 eI eI))) net_here_1)), some (toD ((eL (eL eI)) (([] : List (List Int))))), none, none] : Fr)) rfl (by exact (s_forH (Rf.ck fun h_2 =>
  (by exact (x_vi (by exact (vi_rg1 ((v_op2 ((v_var (i := 0) (by exact rfl))).l (v_cI).l (f_ixP (i := 0) (vs := [eI net_here_1.1, (eL (eP2 eI eI)) net_here_1.2]) (v := eI net_here_1.1) rfl))).l h_2)) (by exact (k_for (js := [false, false, true, false]) (F := (fun (s_4 : (List (List Int))) => ([some (toD ((eP2 eI (eL (eP2 eI eI))) net_here_1)), some (toD ((eL (eL eI)) s_4)), none, none] : Fr))) (s0 := ([] : List (List Int))) rfl (fun _ _ => rfl) (fun i_3 s_5 => (by exact (s_x (x_mut (i := 1) rfl rfl (x_cons (by exact (Rf.ck fun h_8 =>
  (by exact (x_v (v := (eL eI) (((net_here_1.2.filter fun arc_7 => (decide (arc_7.1 = i_3))).map fun arc_7 => arc_7.2))) (by exact (v_comp (E := (eP2 eI eI)) (E2 := eI) (vi_L (v_op2 ((v_var (i := 0) (by exact rfl))).l (v_cI).l (f_ixP (i := 1) (vs := [eI net_here_1.1, (eL (eP2 eI eI)) net_here_1.2]) (v := (eL (eP2 eI eI)) net_here_1.2) rfl))) h_8 (fun _ => rfl) (tgIn_N rfl) (fun arc_7 => (by exact (vb_E (v_op2 ((v_op2 ((v_var (i := 3) (by exact rfl))).l (v_cI).l (f_ixP (i := 0) (vs := [eI arc_7.1, eI arc_7.2]) (v := eI arc_7.1) rfl))).l ((v_var (i := 2) (by exact rfl))).l (f_eq eqb_I))))) (fun arc_7 _ => (by exact (v_op2 ((v_var (i := 3) (by exact rfl))).l (v_cI).l (f_ixP (i := 1) (vs := [eI arc_7.1, eI arc_7.2]) (v := eI arc_7.2) rfl)))))) (by exact (k_A (by exact (x_nil (Rf.ck fun h_9 =>
  (by exact (k_mut (i := 1) (vs := [(eL eI) (((net_here_1.2.filter fun arc_7 => (decide (arc_7.1 = i_3))).map fun arc_7 => arc_7.2))]) (fr' := ([some (toD ((eP2 eI (eL (eP2 eI eI))) net_here_1)), some (toD ((eL (eL eI)) ((s_5 ++ [((net_here_1.2.filter fun arc_7 => (decide (arc_7.1 = i_3))).map fun arc_7 => arc_7.2)])))), some (toD (eI i_3)), none] : Fr)) rfl rfl (m_app (E := (eL eI)) (a := ((net_here_1.2.filter fun arc_7 => (decide (arc_7.1 = i_3))).map fun arc_7 => arc_7.2)) h_9) rfl (by exact (k_X (by exact (s_end ⟨.inl rfl, rfl⟩)))))))))))))))))))) (fun s_6 => (by exact (s_ret (x_fz (i := 1) (fr' := ([some (toD ((eP2 eI (eL (eP2 eI eI))) net_here_1)), some (.tup [toD ((eL (eL eI)) s_6)]), none, none] : Fr)) rfl rfl rfl (by exact (k_Ret (kd_ret rfl)))))))))))))))))))
theorem rf_is_below (value_1 : DV) (many_2 : Int) : Rf (fn_is_below (toDs [eY value_1, eI many_2])) (T_is_below value_1 many_2) (KF eB 2 os0) (KX 2 os0) := by
  unfold fn_is_below T_is_below
  refine fn_rf0 (fr0 := ([some (toD (eY value_1)), some (toD (eI many_2))] : Fr)) rfl ?_
  unfold g_is_below
  exact (by exact (s_ret (x_joinV (E := eB) (F := fun _ => [some (toD (eY value_1)), some (toD (eI many_2))]) (Rf.opt fun r_9 h_8 =>
  (by exact (x_andV (v_op1 ((v_var (i := 0) (by exact rfl))).l (f_isi h_8)) (fun _ => (Rf.opt fun r_11 h_10 =>
  (by exact (x_andV (v_not (v_op1 ((v_var (i := 0) (by exact rfl))).l (f_isi h_10))) (fun _ => (x_tail (Rf.opt fun r_13 h_12 =>
  (by exact (x_v (v := eB (((decide (0 ≤ r_13)) && (decide (r_13 < many_2))))) (by exact (v_chain (v_cI).l ((v_dec asI_of h_12 (v_var (i := 0) (by exact rfl)))).l ((v_var (i := 1) (by exact rfl))).l f_le f_lt)) (by exact (kv_ok rfl rfl)))))))))))))) (fun b_7 => (k_Ret (kd_ret rfl))))))
theorem rf_first_wrong_arc (size_1 : Int) (arcs_2 : DV) : Rf (fn_first_wrong_arc (toDs [eI size_1, eY arcs_2])) (T_first_wrong_arc size_1 arcs_2) (KF (eO eI) 2 os0) (KX 2 os0) := by
  unfold fn_first_wrong_arc T_first_wrong_arc
  refine fn_rf0 (fr0 := ([some (toD (eI size_1)), some (toD (eY arcs_2)), none, none, none, none] : Fr)) rfl ?_
  unfold g_first_wrong_arc
  exact (by exact (s_ifX (Rf.opt fun r_4 h_3 =>
  (by exact (x_vb (vb_not (vb_E (v_op1 ((v_var (i := 1) (by exact rfl))).l (f_isiT h_3)))) (by exact (k_If (by exact (s_seqE (s_ret (x_v (v := eI 0) (by exact v_cI) (by exact (k_Ret (kd_ret rfl))))))) (by exact (s_nx (by exact (s_set (x_v (v := (eP2 eI eI) (((-1), (-1)))) (by exact (v_tup (va_cons (v_op1 (v_cI).l f_neg) (va_cons (v_op1 (v_cI).l f_neg) va_nil)) rfl)) (by exact (k_SetN (E := eY) (fr' := fun ahead_5 => ([some (toD (eI size_1)), some (toD (eY arcs_2)), some (toD (eY ahead_5)), none, none, none] : Fr)) (fun _ => rfl) (fun ahead_5 => (by exact (s_forH (Rf.opt fun r_7 h_6 =>
  (by exact (x_vi (by exact (vi_enY h_6 (v_var (i := 1) (by exact rfl)))) (by exact (k_loop (KR := (KD (eO eI) os0)) (js := [false, false, false, true, true, false]) (F := (fun (s_9 : DV) => ([some (toD (eI size_1)), some (toD (eY arcs_2)), some (toD (eY s_9)), none, none, none] : Fr))) (s0 := ahead_5) rfl (fun _ _ => rfl) (fun p_8 s_10 => (by exact (s_ifX (x_join (F := (fun (s_68 : Unit) => ([some (toD (eI size_1)), some (toD (eY arcs_2)), some (toD (eY s_10)), some (toD (eI p_8.1)), some (toD (eY p_8.2)), none] : Fr))) (Rf.opt fun r_17 h_16 =>
  (by exact (x_or (vb_not (vb_E (v_op1 ((v_var (i := 4) (by exact rfl))).l (f_isi h_16)))) rfl (fun _ => (Rf.opt fun r_19 h_18 =>
  (by exact (x_or (vb_E (v_op2 ((v_op1 ((v_var (i := 4) (by exact rfl))).l (f_lenY h_18))).l (v_cI).l (f_ne eqb_I))) rfl (fun _ => (x_tail (x_not (x_bE (x_op1 (x_compH (Rf.opt fun r_41 h_40 =>
  (by exact (x_vi (by exact (vi_Y h_40 (v_var (i := 4) (by exact rfl)))) (by exact (Rf.ck fun h_42 =>
  (by exact (k_comp (E2 := eB) (G := (fun (s_48 : Unit) => ([some (toD (eI size_1)), some (toD (eY arcs_2)), some (toD (eY s_10)), some (toD (eI p_8.1)), some (toD (eY p_8.2)), none] : Fr))) (s0 := ()) h_42 rfl (fun _ _ => rfl) (fun place_43 s_44 => (by exact (t_yes (Rf.no fun r_46 h_45 =>
  (by exact (x_v (v := eB r_46) (by exact (v_call (a := r_46) (E := eB) (rf_is_below place_43 size_1) h_45 rfl rfl (va_cons (v_var (i := 5) (by exact rfl)) (va_cons (v_var (i := 0) (by exact rfl)) va_nil)))) (by exact (k_turn (E2 := eB) (y := r_46) ⟨rfl, rfl⟩)))))))) (fun _ => rfl) (fun l_47 => (by exact (k_op1 f_all (k_E (kb_ok rfl))))))))))))))))))))))))) (fun p_49 => (k_If (by exact (s_seqE (s_ret (x_v (v := eI p_8.1) (by exact (v_var (i := 3) (by exact rfl))) (by exact (k_Ret ⟨⟨_, rfl⟩, kd_ret rfl⟩)))))) (by exact (s_nx (by exact (s_ifX (x_join (F := (fun (s_67 : Unit) => ([some (toD (eI size_1)), some (toD (eY arcs_2)), some (toD (eY s_10)), some (toD (eI p_8.1)), some (toD (eY p_8.2)), none] : Fr))) (Rf.opt fun r_59 h_58 =>
  (by exact (Rf.opt fun r_61 h_60 =>
  (by exact (Rf.opt fun r_63 h_62 =>
  (by exact (x_or (vb_E (v_op2 ((v_op2 ((v_var (i := 4) (by exact rfl))).l (v_cI).l (f_ixY h_58))).l ((v_op2 ((v_var (i := 4) (by exact rfl))).l (v_cI).l (f_ixY h_60))).l (f_eqY h_62))) rfl (fun _ => (x_tail (Rf.opt fun r_65 h_64 =>
  (by exact (x_vb (vb_E (v_op2 ((v_var (i := 4) (by exact rfl))).l ((v_var (i := 2) (by exact rfl))).l (f_leY h_64))) (by exact (kb_ok rfl)))))))))))))) (fun p_66 => (k_If (by exact (s_seqE (s_ret (x_v (v := eI p_8.1) (by exact (v_var (i := 3) (by exact rfl))) (by exact (k_Ret ⟨⟨_, rfl⟩, kd_ret rfl⟩)))))) (by exact (s_nx (by exact (s_set (x_v (v := p_8.2) (by exact (v_var (i := 4) (by exact rfl))) (by exact (k_Set (v := eY p_8.2) (fr' := ([some (toD (eI size_1)), some (toD (eY arcs_2)), some (toD (eY p_8.2)), some (toD (eI p_8.1)), some (toD (eY p_8.2)), none] : Fr)) rfl (by exact (s_end ⟨.inl rfl, rfl⟩)))))))))))))))))))))) (fun s_11 => (by exact (s_ret (x_v (v := .non) (by exact v_cN) (by exact (k_Ret (kd_ret rfl))))))) (fun x d fr h => ⟨_, _, rfl, h⟩)))))))))))))))))))))))
theorem rf_Net_init (size_1 : Int) (arcs_2 : DV) : Rf (fn_Net_init (toDs [.obj 0 [] [], eI size_1, eY arcs_2])) (T_Net_init size_1 arcs_2) (KF (fun a => eU a.1) 3 (os1 0 fun a => e_Net a.2)) (KX 3 os0) := by
  unfold fn_Net_init T_Net_init
  refine fn_rf1e (by decide) (fr0 := ([some (toD (.obj 0 [] [])), some (toD (eI size_1)), some (toD (eY arcs_2)), none, none, none, none] : Fr)) rfl ?_
  unfold g_Net_init
  exact (by exact (s_ifX (Rf.no fun r_4 h_3 =>
  (by exact (x_vb (vb_or (vb_not (vb_E (v_call (a := r_4) (E := eB) (rf_is_below ((eI size_1)) ((12 + 1))) h_3 rfl rfl (va_cons (v_var (i := 1) (by exact rfl)) (va_cons (v_op2 (v_cI).l (v_cI).l f_add) va_nil))))) (vb_E (v_op2 ((v_var (i := 1) (by exact rfl))).l (v_cI).l f_lt))) (by exact (k_If (by exact (s_seqE (s_raise (va_cons v_cS (va_cons v_cI va_nil)) rfl (kde0 (st := []))))) (by exact (s_nx (by exact (s_set (Rf.no fun r_6 h_5 =>
  (by exact (x_v (v := (eO eI) r_6) (by exact (v_call (a := r_6) (E := (eO eI)) (rf_first_wrong_arc size_1 arcs_2) h_5 rfl rfl (va_cons (v_var (i := 1) (by exact rfl)) (va_cons (v_var (i := 2) (by exact rfl)) va_nil)))) (by exact (k_Set (v := (eO eI) r_6) (fr' := ([some (toD (.obj 0 [] [])), some (toD (eI size_1)), some (toD (eY arcs_2)), some (toD ((eO eI) r_6)), none, none, none] : Fr)) rfl (by exact (s_ifX (x_vb (vb_E (v_op2 ((v_var (i := 3) (by exact rfl))).l (v_cN).l (f_isNnO fun _ => rfl))) (by exact (k_If (by exact (s_seqE (s_raise (va_cons v_cS (va_cons (v_var (i := 3) (by exact rfl)) va_nil)) rfl (kde0 (st := []))))) (by exact (s_nx (by exact (s_fldX (x_v (v := eI size_1) (by exact (v_var (i := 1) (by exact rfl))) (by exact (k_fldN (E := eI) (i := 0) (n := 0) (cs := [0]) (c := 0) (ns := []) (fs := []) (ns' := [0]) (fs' := fun size_7 => [eI size_7]) (fr' := fun size_7 => ([some (toD (.obj 0 [0] [eI size_7])), some (toD (eI size_1)), some (toD (eY arcs_2)), some (toD ((eO eI) r_6)), none, none, none] : Fr)) rfl rfl rfl (fun _ => rfl) (fun _ => rfl) (fun size_7 => (by exact (s_fldX (Rf.opt fun r_9 h_8 =>
  (by exact (x_v (v := r_9) (by exact (v_op1 ((v_var (i := 2) (by exact rfl))).l (f_tupY h_8))) (by exact (Rf.opt fun r_11 h_10 =>
  (by exact (k_cv ((asT_of (asP2_of asI_of asI_of)) _ _ h_10) (k_fldN (E := (eT (eP2 eI eI))) (i := 0) (n := 1) (cs := [0]) (c := 0) (ns := [0]) (fs := [eI size_7]) (ns' := [0, 1]) (fs' := fun arcs_12 => [eI size_7, (eT (eP2 eI eI)) arcs_12]) (fr' := fun arcs_12 => ([some (toD (.obj 0 [0, 1] [eI size_7, (eT (eP2 eI eI)) arcs_12])), some (toD (eI size_1)), some (toD (eY arcs_2)), some (toD ((eO eI) r_6)), none, none, none] : Fr)) rfl rfl rfl (fun _ => rfl) (fun _ => rfl) (fun arcs_12 => (by exact (s_fldX (Rf.ck fun h_13 =>
  (by exact (Rf.ck fun h_16 =>
  (by exact (Rf.ck fun h_17 =>
  (by exact (x_v (v := (eT (eT eI)) (((rngT 0 size_1).map fun place_14 => ((arcs_12.filter fun p_15 => (decide (p_15.1 = place_14))).map fun p_15 => p_15.2)))) (by exact (v_op1 ((v_comp0 (E := eI) (E2 := (eT eI)) (vi_rg1 ((v_var (i := 1) (by exact rfl))).l h_13) h_17 (fun _ => rfl) (tgIn_N rfl) (fun place_14 => (by exact (v_op1 ((v_comp (E := (eP2 eI eI)) (E2 := eI) (vi_T (v_attr (c := 0) (ns := [0, 1]) (fs := [eI size_7, (eT (eP2 eI eI)) arcs_12]) (z := (eT (eP2 eI eI)) arcs_12) (l_pl (i := 0) (by exact rfl) (by exact rfl)) rfl rfl)) h_16 (fun _ => rfl) (tgIn_T rfl) (fun p_15 => (by exact (vb_E (v_op2 ((v_var (i := 5) (by exact rfl))).l ((v_var (i := 4) (by exact rfl))).l (f_eq eqb_I))))) (fun p_15 _ => (by exact (v_var (i := 6) (by exact rfl)))))).l f_tupL))))).l f_tupL)) (by exact (k_fldN (E := (eT (eT eI))) (i := 0) (n := 2) (cs := [0]) (c := 0) (ns := [0, 1]) (fs := [eI size_7, (eT (eP2 eI eI)) arcs_12]) (ns' := [0, 1, 2]) (fs' := fun knows_18 => [eI size_7, (eT (eP2 eI eI)) arcs_12, (eT (eT eI)) knows_18]) (fr' := fun knows_18 => ([some (toD (.obj 0 [0, 1, 2] [eI size_7, (eT (eP2 eI eI)) arcs_12, (eT (eT eI)) knows_18])), some (toD (eI size_1)), some (toD (eY arcs_2)), some (toD ((eO eI) r_6)), none, none, none] : Fr)) rfl rfl rfl (fun _ => rfl) (fun _ => rfl) (fun knows_18 => (by exact (s_end (kd_nx1 (E := fun a => eU a.1) (i := 0) (f := fun a => e_Net a.2) (a := ((), (size_7, arcs_12, knows_18))) rfl rfl)))))))))))))))))))))))))))))))))))))))))))))))))))))))
theorem rf_law_words (size_1 : Int) (q_2 : Int) : Rf (fn_law_words (toDs [eI size_1, eI q_2])) (T_law_words size_1 q_2) (KF (eL (eT eI)) 2 os0) (KX 2 os0) := by
  unfold fn_law_words T_law_words
  refine fn_rf0 (fr0 := ([some (toD (eI size_1)), some (toD (eI q_2)), none, none, none, none, none] : Fr)) rfl ?_
  unfold g_law_words
  exact (by exact (s_set (x_v (v := (eL (eT eI)) ([[]])) (by exact (v_lst (va_cons (v_tup va_nil rfl) va_nil) rfl)) (by exact (k_SetN (E := (eL (eT eI))) (fr' := fun words_here_3 => ([some (toD (eI size_1)), some (toD (eI q_2)), some (toD ((eL (eT eI)) words_here_3)), none, none, none, none] : Fr)) (fun _ => rfl) (fun words_here_3 => (by exact (s_forH (Rf.ck fun h_4 =>
  (by exact (x_vi (by exact (vi_rg1 ((v_var (i := 0) (by exact rfl))).l h_4)) (by exact (k_for (js := [false, false, false, true, true, true, true]) (F := (fun (s_6 : (List (List Int))) => ([some (toD (eI size_1)), some (toD (eI q_2)), some (toD ((eL (eT eI)) s_6)), none, none, none, none] : Fr))) (s0 := words_here_3) rfl (fun _ _ => rfl) (fun i_5 s_7 => (by exact (s_setF (x_v (v := (eL (eT eI)) ([])) (by exact (v_lst va_nil rfl)) (by exact (k_SetF (d := toD ((eL (eT eI)) ([] : List (List Int)))) (fr' := ([some (toD (eI size_1)), some (toD (eI q_2)), some (toD ((eL (eT eI)) s_7)), some (toD (eI i_5)), some (toD ((eL (eT eI)) (([] : List (List Int))))), none, none] : Fr)) rfl (by exact (s_forH (x_vi (by exact (vi_L (v_var (i := 2) (by exact rfl)))) (by exact (k_for (js := [false, false, false, false, false, true, true]) (F := (fun (s_10 : (List (List Int))) => ([some (toD (eI size_1)), some (toD (eI q_2)), some (toD ((eL (eT eI)) s_7)), some (toD (eI i_5)), some (toD ((eL (eT eI)) s_10)), none, none] : Fr))) (s0 := ([] : List (List Int))) rfl (fun _ _ => rfl) (fun word_9 s_11 => (by exact (s_forH (Rf.ck fun h_13 =>
  (by exact (x_vi (by exact (vi_rg1 ((v_var (i := 1) (by exact rfl))).l h_13)) (by exact (k_for (js := [false, false, false, false, false, false, true]) (F := (fun (s_15 : (List (List Int))) => ([some (toD (eI size_1)), some (toD (eI q_2)), some (toD ((eL (eT eI)) s_7)), some (toD (eI i_5)), some (toD ((eL (eT eI)) s_15)), some (toD ((eT eI) word_9)), none] : Fr))) (s0 := s_11) rfl (fun _ _ => rfl) (fun letter_14 s_16 => (by exact (s_x (x_mut (i := 4) rfl rfl (x_cons (by exact (Rf.ck fun h_18 =>
  (by exact (x_v (v := (eT eI) ((word_9 ++ [letter_14]))) (by exact (v_op2 ((v_var (i := 5) (by exact rfl))).l ((v_tup (va_cons (v_var (i := 6) (by exact rfl)) va_nil) rfl)).l (f_addT h_18))) (by exact (k_A (by exact (x_nil (Rf.ck fun h_19 =>
  (by exact (k_mut (i := 4) (vs := [(eT eI) ((word_9 ++ [letter_14]))]) (fr' := ([some (toD (eI size_1)), some (toD (eI q_2)), some (toD ((eL (eT eI)) s_7)), some (toD (eI i_5)), some (toD ((eL (eT eI)) ((s_16 ++ [(word_9 ++ [letter_14])])))), some (toD ((eT eI) word_9)), some (toD (eI letter_14))] : Fr)) rfl rfl (m_app (E := (eT eI)) (a := (word_9 ++ [letter_14])) h_19) rfl (by exact (k_X (by exact (s_end ⟨.inl rfl, rfl⟩)))))))))))))))))))) (fun s_17 => (by exact (s_end ⟨.inl rfl, rfl⟩))))))))))) (fun s_12 => (by exact (s_set (x_fz (i := 4) (fr' := ([some (toD (eI size_1)), some (toD (eI q_2)), some (toD ((eL (eT eI)) s_7)), some (toD (eI i_5)), some (.tup [toD ((eL (eT eI)) s_12)]), none, none] : Fr)) rfl rfl rfl (by exact (k_Set (v := (eL (eT eI)) s_12) (fr' := ([some (toD (eI size_1)), some (toD (eI q_2)), some (toD ((eL (eT eI)) s_12)), some (toD (eI i_5)), some (.tup [toD ((eL (eT eI)) s_12)]), none, none] : Fr)) rfl (by exact (s_end ⟨.inl rfl, rfl⟩))))))))))))))))))) (fun s_8 => (by exact (s_ret (x_v (v := (eL (eT eI)) s_8) (by exact (v_var (i := 2) (by exact rfl))) (by exact (k_Ret (kd_ret rfl))))))))))))))))))))
theorem rf_law_excludes (knows_here_1 : List (List Int)) (one_2 : List Int) (other_3 : List Int) : Rf (fn_law_excludes (toDs [(eL (eL eI)) knows_here_1, (eT eI) one_2, (eT eI) other_3])) (T_law_excludes knows_here_1 one_2 other_3) (KF (eO eI) 3 os0) (KX 3 os0) := by
  unfold fn_law_excludes T_law_excludes
  refine fn_rf0 (fr0 := ([some (toD ((eL (eL eI)) knows_here_1)), some (toD ((eT eI) one_2)), some (toD ((eT eI) other_3)), none, none] : Fr)) rfl ?_
  unfold g_law_excludes
  exact (by exact (s_forH (Rf.ck fun h_4 =>
  (by exact (x_vi (by exact (vi_rg1 ((v_op1 ((v_var (i := 0) (by exact rfl))).l f_lenL)).l h_4)) (by exact (k_loop (KR := (KD (eO eI) os0)) (js := [false, false, false, true, false]) (F := (fun (s_6 : Unit) => ([some (toD ((eL (eL eI)) knows_here_1)), some (toD ((eT eI) one_2)), some (toD ((eT eI) other_3)), none, none] : Fr))) (s0 := ()) rfl (fun _ _ => rfl) (fun i_5 s_7 => (by exact (s_ifX (x_join (F := (fun (s_71 : Unit) => ([some (toD ((eL (eL eI)) knows_here_1)), some (toD ((eT eI) one_2)), some (toD ((eT eI) other_3)), some (toD (eI i_5)), none] : Fr))) (Rf.opt fun r_21 h_20 =>
  (by exact (Rf.opt fun r_23 h_22 =>
  (by exact (x_and (vb_E (v_op2 ((v_op2 ((v_var (i := 1) (by exact rfl))).l ((v_var (i := 3) (by exact rfl))).l (f_ixT h_20))).l ((v_op2 ((v_var (i := 2) (by exact rfl))).l ((v_var (i := 3) (by exact rfl))).l (f_ixT h_22))).l (f_ne eqb_I))) rfl (fun _ => (x_tail (x_bE (x_op2 (x_op1 (x_compH (Rf.opt fun r_60 h_59 =>
  (by exact (x_vi (by exact (vi_L (v_op2 ((v_var (i := 0) (by exact rfl))).l ((v_var (i := 3) (by exact rfl))).l (f_ixL h_59)))) (by exact (Rf.ck fun h_61 =>
  (by exact (k_comp (E2 := eI) (G := (fun (s_69 : Unit) => ([some (toD ((eL (eL eI)) knows_here_1)), some (toD ((eT eI) one_2)), some (toD ((eT eI) other_3)), some (toD (eI i_5)), none] : Fr))) (s0 := ()) h_61 rfl (fun _ _ => rfl) (fun j_62 s_63 => (by exact (Rf.opt fun r_65 h_64 =>
  (by exact (Rf.opt fun r_67 h_66 =>
  (by exact (t_v (vb_E (v_op2 ((v_op2 ((v_var (i := 1) (by exact rfl))).l ((v_var (i := 4) (by exact rfl))).l (f_ixT h_64))).l ((v_op2 ((v_var (i := 2) (by exact rfl))).l ((v_var (i := 4) (by exact rfl))).l (f_ixT h_66))).l (f_ne eqb_I))) (x_v (v := eI j_62) (by exact (v_var (i := 4) (by exact rfl))) (by exact (k_turn (E2 := eI) (y := j_62) ⟨rfl, rfl⟩))) ⟨_, _, rfl, rfl, rfl⟩))))))) (fun _ => rfl) (fun l_68 => (by exact (k_op1 f_lenL (k_op2a (v_cI).l (f_eq eqb_I) (k_E (kb_ok rfl)))))))))))))))))))))))) (fun p_70 => (k_If (by exact (s_seqE (s_ret (x_v (v := eI i_5) (by exact (v_var (i := 3) (by exact rfl))) (by exact (k_Ret ⟨⟨_, rfl⟩, kd_ret rfl⟩)))))) (by exact (s_nx (by exact (s_end ⟨.inl rfl, rfl⟩)))))))))) (fun s_8 => (by exact (s_ret (x_v (v := .non) (by exact v_cN) (by exact (k_Ret (kd_ret rfl))))))) (fun x d fr h => ⟨_, _, rfl, h⟩))))))))
theorem rf_law_store (knows_here_1 : List (List Int)) (words_here_2 : List (List Int)) : Rf (fn_law_store (toDs [(eL (eL eI)) knows_here_1, (eL (eT eI)) words_here_2])) (T_law_store knows_here_1 words_here_2) (KF (eL (eT eI)) 2 os0) (KX 2 os0) := by
  unfold fn_law_store T_law_store
  refine fn_rf0 (fr0 := ([some (toD ((eL (eL eI)) knows_here_1)), some (toD ((eL (eT eI)) words_here_2)), none, none, none] : Fr)) rfl ?_
  unfold g_law_store
  exact (by exact (s_setF (x_v (v := (eL (eT eI)) ([])) (by exact (v_lst va_nil rfl)) (by exact (k_SetF (d := toD ((eL (eT eI)) ([] : List (List Int)))) (fr' := ([some (toD ((eL (eL eI)) knows_here_1)), some (toD ((eL (eT eI)) words_here_2)), some (toD ((eL (eT eI)) (([] : List (List Int))))), none, none] : Fr)) rfl (by exact (s_forH (x_vi (by exact (vi_L (v_var (i := 1) (by exact rfl)))) (by exact (k_for (js := [false, false, false, true, false]) (F := (fun (s_4 : (List (List Int))) => ([some (toD ((eL (eL eI)) knows_here_1)), some (toD ((eL (eT eI)) words_here_2)), some (toD ((eL (eT eI)) s_4)), none, none] : Fr))) (s0 := ([] : List (List Int))) rfl (fun _ _ => rfl) (fun word_3 s_5 => (by exact (s_ifX (x_join (F := (fun (s_34 : Unit) => ([some (toD ((eL (eL eI)) knows_here_1)), some (toD ((eL (eT eI)) words_here_2)), some (toD ((eL (eT eI)) s_5)), some (toD ((eT eI) word_3)), none] : Fr))) (x_and (vb_E (v_op2 ((v_var (i := 3) (by exact rfl))).l (l_pl (i := 2) (by exact rfl) (by exact rfl)) (f_nin (dat_T dat_I) (by decide)))) rfl (fun _ => (x_tail (x_bE (x_op2 (x_op1 (Rf.ck fun h_25 =>
  (by exact (x_compO (E2 := (eT eI)) (i0 := 2) (G := (fun (s_31 : Unit) => ([some (toD ((eL (eL eI)) knows_here_1)), some (toD ((eL (eT eI)) words_here_2)), some (toD ((eL (eT eI)) s_5)), some (toD ((eT eI) word_3)), none] : Fr))) (s0 := ()) (fun _ => rfl) rfl h_25 rfl (fun _ _ => rfl) (fun one_26 s_27 => (by exact (Rf.no fun r_29 h_28 =>
  (by exact (t_v (vb_E (v_op2 ((v_call (a := r_29) (E := (eO eI)) (rf_law_excludes knows_here_1 one_26 word_3) h_28 rfl rfl (va_cons (v_var (i := 0) (by exact rfl)) (va_cons (v_var (i := 4) (by exact rfl)) (va_cons (v_var (i := 3) (by exact rfl)) va_nil))))).l (v_cN).l (f_isNnO fun _ => rfl))) (x_v (v := (eT eI) one_26) (by exact (v_var (i := 4) (by exact rfl))) (by exact (k_turn (E2 := (eT eI)) (y := one_26) ⟨rfl, rfl⟩))) ⟨_, _, rfl, rfl, rfl⟩))))) (fun _ => rfl) (fun l_30 => (by exact (k_op1 f_lenL (k_op2a (v_cI).l (f_eq eqb_I) (k_E (kb_ok rfl))))))))))))))) (fun p_32 => (k_If (by exact (s_seqE (s_x (x_mut (i := 2) rfl rfl (x_cons (by exact (x_v (v := (eT eI) word_3) (by exact (v_var (i := 3) (by exact rfl))) (by exact (k_A (by exact (x_nil (Rf.ck fun h_33 =>
  (by exact (k_mut (i := 2) (vs := [(eT eI) word_3]) (fr' := ([some (toD ((eL (eL eI)) knows_here_1)), some (toD ((eL (eT eI)) words_here_2)), some (toD ((eL (eT eI)) ((s_5 ++ [word_3])))), some (toD ((eT eI) word_3)), none] : Fr)) rfl rfl (m_app (E := (eT eI)) (a := word_3) h_33) rfl (by exact (k_X (by exact (s_nx (by exact (s_end ⟨.inl rfl, rfl⟩)))))))))))))))))))) (by exact (s_nx (by exact (s_end ⟨.inl rfl, rfl⟩)))))))))) (fun s_6 => (by exact (s_ret (Rf.ck fun h_35 =>
  (by exact (x_v (v := (eL (eT eI)) ((s_6.mergeSort leR))) (by exact (v_op1 (l_pl (i := 2) (by exact rfl) (by exact rfl)) (f_sortLT h_35))) (by exact (k_Ret (kd_ret rfl)))))))))))))))))))
theorem rf_count_words (net_1 : O_Net) (q_2 : DV) : Rf (fn_count_words (toDs [e_Net net_1, eY q_2])) (T_count_words net_1 q_2) (KF eI 2 os0) (KX 2 os0) := by
  unfold fn_count_words T_count_words
  refine fn_rf0 (fr0 := ([some (toD (e_Net net_1)), some (toD (eY q_2)), none, none] : Fr)) rfl ?_
  unfold g_count_words
  exact (by exact (s_ifX (x_join (F := (fun (s_24 : Unit) => ([some (toD (e_Net net_1)), some (toD (eY q_2)), none, none] : Fr))) (Rf.opt fun r_8 h_7 =>
  (by exact (x_or (vb_E (v_op1 ((v_var (i := 1) (by exact rfl))).l (f_isi h_7))) rfl (fun _ => (Rf.opt fun r_10 h_9 =>
  (by exact (x_or (vb_not (vb_E (v_op1 ((v_var (i := 1) (by exact rfl))).l (f_isi h_9)))) rfl (fun _ => (Rf.opt fun r_12 h_11 =>
  (by exact (x_or (vb_E (v_op2 ((v_dec asI_of h_11 (v_var (i := 1) (by exact rfl)))).l (v_cI).l f_lt)) rfl (fun _ => (x_tail (Rf.opt fun r_14 h_13 =>
  (by exact (x_vb (vb_E (v_op2 ((v_dec asI_of h_13 (v_var (i := 1) (by exact rfl)))).l (v_cI).l f_gt)) (by exact (kb_ok rfl)))))))))))))))))) (fun p_15 => (k_If (by exact (s_seqE (s_raise (va_cons (v_var (i := 1) (by exact rfl)) va_nil) rfl (kde0 (st := []))))) (by exact (s_nx (by exact (s_set (x_v (v := eI 1) (by exact v_cI) (by exact (k_Set (v := eI 1) (fr' := ([some (toD (e_Net net_1)), some (toD (eY q_2)), some (toD (eI 1)), none] : Fr)) rfl (by exact (s_forH (Rf.ck fun h_16 =>
  (by exact (x_vi (by exact (vi_rg1 ((v_attr (c := 0) (ns := [0, 1, 2]) (fs := [eI net_1.1, (eT (eP2 eI eI)) net_1.2.1, (eT (eT eI)) net_1.2.2]) (z := eI net_1.1) ((v_var (i := 0) (by exact rfl))).l rfl rfl)).l h_16)) (by exact (k_for (js := [false, false, false, true]) (F := (fun (s_18 : Int) => ([some (toD (e_Net net_1)), some (toD (eY q_2)), some (toD (eI s_18)), none] : Fr))) (s0 := 1) rfl (fun _ _ => rfl) (fun x_17 s_19 => (by exact (Rf.opt fun r_22 h_21 =>
  (by exact (Rf.ck fun h_23 =>
  (by exact (s_aug (i := 2) (v := .int s_19) (fr' := ([some (toD (e_Net net_1)), some (toD (eY q_2)), some (toD (eI ((s_19 * r_22)))), some (toD (eI x_17))] : Fr)) rfl ((v_dec asI_of h_21 (v_var (i := 1) (by exact rfl)))).l (f_imul h_23) rfl (by exact (s_ifX (x_vb (vb_E (v_op2 ((v_var (i := 2) (by exact rfl))).l (v_cI).l f_gt)) (by exact (k_If (by exact (s_seqE (s_raise (va_cons (v_var (i := 1) (by exact rfl)) va_nil) rfl (kde0 (st := []))))) (by exact (s_nx (by exact (s_end ⟨.inl rfl, rfl⟩)))))))))))))))) (fun s_20 => (by exact (s_ret (x_v (v := eI s_20) (by exact (v_var (i := 2) (by exact rfl))) (by exact (k_Ret (kd_ret rfl))))))))))))))))))))))))))
theorem rf_is_word (net_1 : O_Net) (q_2 : Int) (value_3 : DV) : Rf (fn_is_word (toDs [e_Net net_1, eI q_2, eY value_3])) (T_is_word net_1 q_2 value_3) (KF eB 3 os0) (KX 3 os0) := by
  unfold fn_is_word T_is_word
  refine fn_rf0 (fr0 := ([some (toD (e_Net net_1)), some (toD (eI q_2)), some (toD (eY value_3)), none] : Fr)) rfl ?_
  unfold g_is_word
  exact (by exact (s_ifX (x_join (F := (fun (s_33 : Unit) => ([some (toD (e_Net net_1)), some (toD (eI q_2)), some (toD (eY value_3)), none] : Fr))) (Rf.opt fun r_9 h_8 =>
  (by exact (x_or (vb_not (vb_E (v_op1 ((v_var (i := 2) (by exact rfl))).l (f_isi h_8)))) rfl (fun _ => (x_tail (Rf.opt fun r_11 h_10 =>
  (by exact (x_vb (vb_E (v_op2 ((v_op1 ((v_var (i := 2) (by exact rfl))).l (f_lenY h_10))).l ((v_attr (c := 0) (ns := [0, 1, 2]) (fs := [eI net_1.1, (eT (eP2 eI eI)) net_1.2.1, (eT (eT eI)) net_1.2.2]) (z := eI net_1.1) ((v_var (i := 0) (by exact rfl))).l rfl rfl)).l (f_ne eqb_I))) (by exact (kb_ok rfl)))))))))) (fun p_12 => (k_If (by exact (s_seqE (s_ret (x_v (v := eB false) (by exact v_cB) (by exact (k_Ret (kd_ret rfl))))))) (by exact (s_nx (by exact (s_forH (Rf.opt fun r_14 h_13 =>
  (by exact (x_vi (by exact (vi_Y h_13 (v_var (i := 2) (by exact rfl)))) (by exact (k_loop (KR := (KD eB os0)) (js := [false, false, false, true]) (F := (fun (s_16 : Unit) => ([some (toD (e_Net net_1)), some (toD (eI q_2)), some (toD (eY value_3)), none] : Fr))) (s0 := ()) rfl (fun _ _ => rfl) (fun letter_15 s_17 => (by exact (s_ifX (x_join (F := (fun (s_32 : Unit) => ([some (toD (e_Net net_1)), some (toD (eI q_2)), some (toD (eY value_3)), some (toD (eY letter_15))] : Fr))) (Rf.opt fun r_24 h_23 =>
  (by exact (x_or (vb_E (v_op1 ((v_var (i := 3) (by exact rfl))).l (f_isi h_23))) rfl (fun _ => (Rf.opt fun r_26 h_25 =>
  (by exact (x_or (vb_not (vb_E (v_op1 ((v_var (i := 3) (by exact rfl))).l (f_isi h_25)))) rfl (fun _ => (Rf.opt fun r_28 h_27 =>
  (by exact (x_or (vb_E (v_op2 ((v_dec asI_of h_27 (v_var (i := 3) (by exact rfl)))).l (v_cI).l f_lt)) rfl (fun _ => (x_tail (Rf.opt fun r_30 h_29 =>
  (by exact (x_vb (vb_E (v_op2 ((v_dec asI_of h_29 (v_var (i := 3) (by exact rfl)))).l ((v_var (i := 1) (by exact rfl))).l f_ge)) (by exact (kb_ok rfl)))))))))))))))))) (fun p_31 => (k_If (by exact (s_seqE (s_ret (x_v (v := eB false) (by exact v_cB) (by exact (k_Ret ⟨⟨_, rfl⟩, kd_ret rfl⟩)))))) (by exact (s_nx (by exact (s_end ⟨.inl rfl, rfl⟩)))))))))) (fun s_18 => (by exact (s_ret (x_v (v := eB true) (by exact v_cB) (by exact (k_Ret (kd_ret rfl))))))) (fun x d fr h => ⟨_, _, rfl, h⟩)))))))))))))))
theorem rf_check_words (net_1 : O_Net) (q_2 : Int) (words_3 : DV) : Rf (fn_check_words (toDs [e_Net net_1, eI q_2, eY words_3])) (T_check_words net_1 q_2 words_3) (KF eU 3 os0) (KX 3 os0) := by
  unfold fn_check_words T_check_words
  refine fn_rf0 (fr0 := ([some (toD (e_Net net_1)), some (toD (eI q_2)), some (toD (eY words_3)), none, none] : Fr)) rfl ?_
  unfold g_check_words
  exact (by exact (s_ifX (Rf.opt fun r_5 h_4 =>
  (by exact (x_vb (vb_not (vb_E (v_op1 ((v_var (i := 2) (by exact rfl))).l (f_isi h_4)))) (by exact (k_If (by exact (s_seqE (s_raise (va_cons (v_var (i := 2) (by exact rfl)) va_nil) rfl (kde0 (st := []))))) (by exact (s_nx (by exact (s_forH (Rf.opt fun r_7 h_6 =>
  (by exact (x_vi (by exact (vi_enY h_6 (v_var (i := 2) (by exact rfl)))) (by exact (k_for (js := [false, false, false, true, true]) (F := (fun (s_9 : Unit) => ([some (toD (e_Net net_1)), some (toD (eI q_2)), some (toD (eY words_3)), none, none] : Fr))) (s0 := ()) rfl (fun _ _ => rfl) (fun p_8 s_10 => (by exact (s_ifX (x_join (F := (fun (s_25 : Unit) => ([some (toD (e_Net net_1)), some (toD (eI q_2)), some (toD (eY words_3)), some (toD (eI p_8.1)), some (toD (eY p_8.2))] : Fr))) (Rf.no fun r_19 h_18 =>
  (by exact (x_or (vb_not (vb_E (v_call (a := r_19) (E := eB) (rf_is_word net_1 q_2 p_8.2) h_18 rfl rfl (va_cons (v_var (i := 0) (by exact rfl)) (va_cons (v_var (i := 1) (by exact rfl)) (va_cons (v_var (i := 4) (by exact rfl)) va_nil)))))) rfl (fun _ => (x_and (vb_E (v_op2 ((v_var (i := 3) (by exact rfl))).l (v_cI).l f_gt)) rfl (fun _ => (x_tail (Rf.opt fun r_21 h_20 =>
  (by exact (Rf.opt fun r_23 h_22 =>
  (by exact (x_vb (vb_E (v_op2 ((v_var (i := 4) (by exact rfl))).l ((v_op2 ((v_var (i := 2) (by exact rfl))).l ((v_op2 ((v_var (i := 3) (by exact rfl))).l (v_cI).l f_sub)).l (f_ixY h_20))).l (f_leY h_22))) (by exact (kb_ok rfl)))))))))))))) (fun p_24 => (k_If (by exact (s_seqE (s_raise (va_cons (v_var (i := 2) (by exact rfl)) va_nil) rfl (kde0 (st := []))))) (by exact (s_nx (by exact (s_end ⟨.inl rfl, rfl⟩)))))))))) (fun s_11 => (by exact (s_end (kd_nx rfl))))))))))))))))))))
theorem rf_parting_place (net_1 : O_Net) (one_2 : List Int) (other_3 : List Int) : Rf (fn_parting_place (toDs [e_Net net_1, (eT eI) one_2, (eT eI) other_3])) (T_parting_place net_1 one_2 other_3) (KF (eO eI) 3 os0) (KX 3 os0) := by
  unfold fn_parting_place T_parting_place
  refine fn_rf0 (fr0 := ([some (toD (e_Net net_1)), some (toD ((eT eI) one_2)), some (toD ((eT eI) other_3)), none, none] : Fr)) rfl ?_
  unfold g_parting_place
  exact (by exact (s_forH (Rf.ck fun h_4 =>
  (by exact (x_vi (by exact (vi_rg1 ((v_attr (c := 0) (ns := [0, 1, 2]) (fs := [eI net_1.1, (eT (eP2 eI eI)) net_1.2.1, (eT (eT eI)) net_1.2.2]) (z := eI net_1.1) ((v_var (i := 0) (by exact rfl))).l rfl rfl)).l h_4)) (by exact (k_loop (KR := (KD (eO eI) os0)) (js := [false, false, false, true, false]) (F := (fun (s_6 : Unit) => ([some (toD (e_Net net_1)), some (toD ((eT eI) one_2)), some (toD ((eT eI) other_3)), none, none] : Fr))) (s0 := ()) rfl (fun _ _ => rfl) (fun place_5 s_7 => (by exact (s_ifX (x_join (F := (fun (s_57 : Unit) => ([some (toD (e_Net net_1)), some (toD ((eT eI) one_2)), some (toD ((eT eI) other_3)), some (toD (eI place_5)), none] : Fr))) (Rf.opt fun r_21 h_20 =>
  (by exact (Rf.opt fun r_23 h_22 =>
  (by exact (x_and (vb_E (v_op2 ((v_op2 ((v_var (i := 1) (by exact rfl))).l ((v_var (i := 3) (by exact rfl))).l (f_ixT h_20))).l ((v_op2 ((v_var (i := 2) (by exact rfl))).l ((v_var (i := 3) (by exact rfl))).l (f_ixT h_22))).l (f_ne eqb_I))) rfl (fun _ => (x_tail (x_bE (x_op1 (x_compH (Rf.opt fun r_46 h_45 =>
  (by exact (x_vi (by exact (vi_T (v_op2 ((v_attr (c := 0) (ns := [0, 1, 2]) (fs := [eI net_1.1, (eT (eP2 eI eI)) net_1.2.1, (eT (eT eI)) net_1.2.2]) (z := (eT (eT eI)) net_1.2.2) ((v_var (i := 0) (by exact rfl))).l rfl rfl)).l ((v_var (i := 3) (by exact rfl))).l (f_ixT h_45)))) (by exact (Rf.ck fun h_47 =>
  (by exact (k_comp (E2 := eB) (G := (fun (s_55 : Unit) => ([some (toD (e_Net net_1)), some (toD ((eT eI) one_2)), some (toD ((eT eI) other_3)), some (toD (eI place_5)), none] : Fr))) (s0 := ()) h_47 rfl (fun _ _ => rfl) (fun known_48 s_49 => (by exact (t_yes (Rf.opt fun r_51 h_50 =>
  (by exact (Rf.opt fun r_53 h_52 =>
  (by exact (x_v (v := eB ((decide (r_51 = r_53)))) (by exact (v_op2 ((v_op2 ((v_var (i := 1) (by exact rfl))).l ((v_var (i := 4) (by exact rfl))).l (f_ixT h_50))).l ((v_op2 ((v_var (i := 2) (by exact rfl))).l ((v_var (i := 4) (by exact rfl))).l (f_ixT h_52))).l (f_eq eqb_I))) (by exact (k_turn (E2 := eB) (y := (decide (r_51 = r_53))) ⟨rfl, rfl⟩)))))))))) (fun _ => rfl) (fun l_54 => (by exact (k_op1 f_all (k_E (kb_ok rfl)))))))))))))))))))))) (fun p_56 => (k_If (by exact (s_seqE (s_ret (x_v (v := eI place_5) (by exact (v_var (i := 3) (by exact rfl))) (by exact (k_Ret ⟨⟨_, rfl⟩, kd_ret rfl⟩)))))) (by exact (s_nx (by exact (s_end ⟨.inl rfl, rfl⟩)))))))))) (fun s_8 => (by exact (s_ret (x_v (v := .non) (by exact v_cN) (by exact (k_Ret (kd_ret rfl))))))) (fun x d fr h => ⟨_, _, rfl, h⟩))))))))
theorem rf_first_clash (net_1 : O_Net) (q_2 : Int) (words_3 : List (List Int)) : Rf (fn_first_clash (toDs [e_Net net_1, eI q_2, (eT (eT eI)) words_3])) (T_first_clash net_1 q_2 words_3) (KF (eO (eP3 (eT eI) (eT eI) eI)) 3 os0) (KX 3 os0) := by
  unfold fn_first_clash T_first_clash
  refine fn_rf0 (fr0 := ([some (toD (e_Net net_1)), some (toD (eI q_2)), some (toD ((eT (eT eI)) words_3)), none, none, none, none] : Fr)) rfl ?_
  unfold g_first_clash
  exact (by exact (s_x (Rf.no fun r_5 h_4 =>
  (by exact (x_v (v := eI r_5) (by exact (v_call (a := r_5) (E := eI) (rf_count_words net_1 ((eI q_2))) h_4 rfl rfl (va_cons (v_var (i := 0) (by exact rfl)) (va_cons (v_var (i := 1) (by exact rfl)) va_nil)))) (by exact (k_X (by exact (s_x (Rf.no fun r_7 h_6 =>
  (by exact (x_v (v := .non) (by exact (v_call (a := r_7) (E := eU) (rf_check_words net_1 q_2 (((eT (eT eI)) words_3))) h_6 rfl rfl (va_cons (v_var (i := 0) (by exact rfl)) (va_cons (v_var (i := 1) (by exact rfl)) (va_cons (v_var (i := 2) (by exact rfl)) va_nil))))) (by exact (k_X (by exact (s_forH (x_vi (by exact (vi_enT (v_var (i := 2) (by exact rfl)))) (by exact (k_loop (KR := (KD (eO (eP3 (eT eI) (eT eI) eI)) os0)) (js := [false, false, false, true, true, true, true]) (F := (fun (s_9 : Unit) => ([some (toD (e_Net net_1)), some (toD (eI q_2)), some (toD ((eT (eT eI)) words_3)), none, none, none, none] : Fr))) (s0 := ()) rfl (fun _ _ => rfl) (fun p_8 s_10 => (by exact (s_forH (x_vi (by exact (vi_T (v_slT ((v_var (i := 2) (by exact rfl))).l (vo_some ((v_op2 ((v_var (i := 3) (by exact rfl))).l (v_cI).l f_add)).l) vo_none))) (by exact (k_loop (KR := (KD (eO (eP3 (eT eI) (eT eI) eI)) os0)) (js := [false, false, false, false, false, true, true]) (F := (fun (s_13 : Unit) => ([some (toD (e_Net net_1)), some (toD (eI q_2)), some (toD ((eT (eT eI)) words_3)), some (toD (eI p_8.1)), some (toD ((eT eI) p_8.2)), none, none] : Fr))) (s0 := ()) rfl (fun _ _ => rfl) (fun other_12 s_14 => (by exact (s_set (Rf.no fun r_17 h_16 =>
  (by exact (x_v (v := (eO eI) r_17) (by exact (v_call (a := r_17) (E := (eO eI)) (rf_parting_place net_1 p_8.2 other_12) h_16 rfl rfl (va_cons (v_var (i := 0) (by exact rfl)) (va_cons (v_var (i := 4) (by exact rfl)) (va_cons (v_var (i := 5) (by exact rfl)) va_nil))))) (by exact (k_Set (v := (eO eI) r_17) (fr' := ([some (toD (e_Net net_1)), some (toD (eI q_2)), some (toD ((eT (eT eI)) words_3)), some (toD (eI p_8.1)), some (toD ((eT eI) p_8.2)), some (toD ((eT eI) other_12)), some (toD ((eO eI) r_17))] : Fr)) rfl (by exact (s_ifX (x_vb (vb_E (v_op2 ((v_var (i := 6) (by exact rfl))).l (v_cN).l (f_isNnO fun _ => rfl))) (by exact (k_If (by exact (s_seqE (s_ret (Rf.opt fun r_19 h_18 =>
  (by exact (x_v (v := (eP3 (eT eI) (eT eI) eI) ((p_8.2, other_12, r_19))) (by exact (v_tup (va_cons (v_var (i := 4) (by exact rfl)) (va_cons (v_var (i := 5) (by exact rfl)) (va_cons (v_some h_18 (v_var (i := 6) (by exact rfl))) va_nil))) rfl)) (by exact (k_Ret ⟨⟨_, rfl⟩, kd_ret rfl⟩)))))))) (by exact (s_nx (by exact (s_end ⟨.inl rfl, rfl⟩))))))))))))))))) (fun s_15 => (by exact (s_end ⟨.inl rfl, rfl⟩))) (fun x d fr h => ⟨_, _, rfl, ⟨d, rfl⟩, h⟩))))))) (fun s_11 => (by exact (s_ret (x_v (v := .non) (by exact v_cN) (by exact (k_Ret (kd_ret rfl))))))) (fun x d fr h => ⟨_, _, rfl, h⟩))))))))))))))))))))
theorem rf_moved_words (q_1 : Int) (words_2 : List (List Int)) (by_3 : List Int) : Rf (fn_moved_words (toDs [eI q_1, (eT (eT eI)) words_2, (eT eI) by_3])) (T_moved_words q_1 words_2 by_3) (KF (eT (eT eI)) 3 os0) (KX 3 os0) := by
  unfold fn_moved_words T_moved_words
  refine fn_rf0 (fr0 := ([some (toD (eI q_1)), some (toD ((eT (eT eI)) words_2)), some (toD ((eT eI) by_3)), none, none] : Fr)) rfl ?_
  unfold g_moved_words
  exact (by exact (s_ret (x_op1 (x_op1 (x_compH (x_vi (by exact (vi_T (v_var (i := 1) (by exact rfl)))) (by exact (Rf.ck fun h_28 =>
  (by exact (k_comp (E2 := (eT eI)) (G := (fun (s_58 : Unit) => ([some (toD (eI q_1)), some (toD ((eT (eT eI)) words_2)), some (toD ((eT eI) by_3)), none, none] : Fr))) (s0 := ()) h_28 rfl (fun _ _ => rfl) (fun word_29 s_30 => (by exact (t_yes (x_op1 (x_compH (Rf.ck fun h_45 =>
  (by exact (x_vi (by exact (vi_rg1 ((v_op1 ((v_var (i := 2) (by exact rfl))).l f_lenT)).l h_45)) (by exact (Rf.ck fun h_46 =>
  (by exact (k_comp (E2 := eI) (G := (fun (s_55 : Unit) => ([some (toD (eI q_1)), some (toD ((eT (eT eI)) words_2)), some (toD ((eT eI) by_3)), some (toD ((eT eI) word_29)), none] : Fr))) (s0 := ()) h_46 rfl (fun _ _ => rfl) (fun k_47 s_48 => (by exact (t_yes (Rf.opt fun r_50 h_49 =>
  (by exact (Rf.opt fun r_52 h_51 =>
  (by exact (Rf.ck fun h_53 =>
  (by exact (x_v (v := eI (((r_50 + r_52) % q_1))) (by exact (v_op2 ((v_op2 ((v_op2 ((v_var (i := 3) (by exact rfl))).l ((v_var (i := 4) (by exact rfl))).l (f_ixT h_49))).l ((v_op2 ((v_var (i := 2) (by exact rfl))).l ((v_var (i := 4) (by exact rfl))).l (f_ixT h_51))).l f_add)).l ((v_var (i := 0) (by exact rfl))).l (f_mod h_53))) (by exact (k_turn (E2 := eI) (y := ((r_50 + r_52) % q_1)) ⟨rfl, rfl⟩)))))))))))) (fun _ => rfl) (fun l_54 => (by exact (k_op1 f_tupL (k_turn (E2 := (eT eI)) (y := l_54.1) ⟨rfl, rfl⟩)))))))))))))))) (fun _ => rfl) (fun l_56 => (by exact (Rf.ck fun h_57 =>
  (by exact (k_op1 (f_sortLT h_57) (k_op1 f_tupL (k_Ret (kd_ret rfl))))))))))))))))))
theorem rf_shifted_words (net_1 : O_Net) (q_2 : Int) (words_3 : List (List Int)) (by_4 : List Int) : Rf (fn_shifted_words (toDs [e_Net net_1, eI q_2, (eT (eT eI)) words_3, (eT eI) by_4])) (T_shifted_words net_1 q_2 words_3 by_4) (KF (eT (eT eI)) 4 os0) (KX 4 os0) := by
  unfold fn_shifted_words T_shifted_words
  refine fn_rf0 (fr0 := ([some (toD (e_Net net_1)), some (toD (eI q_2)), some (toD ((eT (eT eI)) words_3)), some (toD ((eT eI) by_4))] : Fr)) rfl ?_
  unfold g_shifted_words
  exact (by exact (s_x (Rf.no fun r_6 h_5 =>
  (by exact (x_v (v := eI r_6) (by exact (v_call (a := r_6) (E := eI) (rf_count_words net_1 ((eI q_2))) h_5 rfl rfl (va_cons (v_var (i := 0) (by exact rfl)) (va_cons (v_var (i := 1) (by exact rfl)) va_nil)))) (by exact (k_X (by exact (s_x (Rf.no fun r_8 h_7 =>
  (by exact (x_v (v := .non) (by exact (v_call (a := r_8) (E := eU) (rf_check_words net_1 q_2 (((eT (eT eI)) words_3))) h_7 rfl rfl (va_cons (v_var (i := 0) (by exact rfl)) (va_cons (v_var (i := 1) (by exact rfl)) (va_cons (v_var (i := 2) (by exact rfl)) va_nil))))) (by exact (k_X (by exact (s_ifX (Rf.no fun r_10 h_9 =>
  (by exact (x_vb (vb_not (vb_E (v_call (a := r_10) (E := eB) (rf_is_word net_1 q_2 (((eT eI) by_4))) h_9 rfl rfl (va_cons (v_var (i := 0) (by exact rfl)) (va_cons (v_var (i := 1) (by exact rfl)) (va_cons (v_var (i := 3) (by exact rfl)) va_nil)))))) (by exact (k_If (by exact (s_seqE (s_raise (va_cons (v_var (i := 3) (by exact rfl)) va_nil) rfl (kde0 (st := []))))) (by exact (s_nx (by exact (s_ret (Rf.no fun r_12 h_11 =>
  (by exact (x_v (v := (eT (eT eI)) r_12) (by exact (v_call (a := r_12) (E := (eT (eT eI))) (rf_moved_words q_2 words_3 by_4) h_11 rfl rfl (va_cons (v_var (i := 1) (by exact rfl)) (va_cons (v_var (i := 2) (by exact rfl)) (va_cons (v_var (i := 3) (by exact rfl)) va_nil))))) (by exact (k_Ret (kd_ret rfl)))))))))))))))))))))))))))))))
theorem rf_law_pick (numbers_here_1 : List Int) (k_2 : Int) (words_here_3 : List (List Int)) (many_4 : Int) : Rf (fn_law_pick (toDs [(eL eI) numbers_here_1, eI k_2, (eL (eT eI)) words_here_3, eI many_4])) (T_law_pick numbers_here_1 k_2 words_here_3 many_4) (KF (eL (eT eI)) 4 os0) (KX 4 os0) := by
  unfold fn_law_pick T_law_pick
  refine fn_rf0 (fr0 := ([some (toD ((eL eI) numbers_here_1)), some (toD (eI k_2)), some (toD ((eL (eT eI)) words_here_3)), some (toD (eI many_4)), none, none, none] : Fr)) rfl ?_
  unfold g_law_pick
  exact (by exact (s_setF (x_v (v := (eL (eT eI)) ([])) (by exact (v_lst va_nil rfl)) (by exact (k_SetF (d := toD ((eL (eT eI)) ([] : List (List Int)))) (fr' := ([some (toD ((eL eI) numbers_here_1)), some (toD (eI k_2)), some (toD ((eL (eT eI)) words_here_3)), some (toD (eI many_4)), some (toD ((eL (eT eI)) (([] : List (List Int))))), none, none] : Fr)) rfl (by exact (s_forH (Rf.ck fun h_5 =>
  (by exact (x_vi (by exact (vi_rg1 ((v_var (i := 3) (by exact rfl))).l h_5)) (by exact (k_for (js := [false, false, false, false, false, true, true]) (F := (fun (s_7 : (List (List Int))) => ([some (toD ((eL eI) numbers_here_1)), some (toD (eI k_2)), some (toD ((eL (eT eI)) words_here_3)), some (toD (eI many_4)), some (toD ((eL (eT eI)) s_7)), none, none] : Fr))) (s0 := ([] : List (List Int))) rfl (fun _ _ => rfl) (fun j_6 s_8 => (by exact (s_set (Rf.opt fun r_11 h_10 =>
  (by exact (Rf.ck fun h_12 =>
  (by exact (Rf.opt fun r_14 h_13 =>
  (by exact (x_v (v := (eT eI) r_14) (by exact (v_op2 ((v_var (i := 2) (by exact rfl))).l ((v_op2 ((v_op1 ((v_op2 ((v_var (i := 0) (by exact rfl))).l ((v_op2 ((v_var (i := 1) (by exact rfl))).l ((v_var (i := 5) (by exact rfl))).l f_add)).l (f_ixL h_10))).l f_int)).l ((v_op1 ((v_var (i := 2) (by exact rfl))).l f_lenL)).l (f_mod h_12))).l (f_ixL h_13))) (by exact (k_Set (v := (eT eI) r_14) (fr' := ([some (toD ((eL eI) numbers_here_1)), some (toD (eI k_2)), some (toD ((eL (eT eI)) words_here_3)), some (toD (eI many_4)), some (toD ((eL (eT eI)) s_8)), some (toD (eI j_6)), some (toD ((eT eI) r_14))] : Fr)) rfl (by exact (s_ifX (x_vb (vb_E (v_op2 ((v_var (i := 6) (by exact rfl))).l (l_pl (i := 4) (by exact rfl) (by exact rfl)) (f_nin (dat_T dat_I) (by decide)))) (by exact (k_If (by exact (s_seqE (s_x (x_mut (i := 4) rfl rfl (x_cons (by exact (x_v (v := (eT eI) r_14) (by exact (v_var (i := 6) (by exact rfl))) (by exact (k_A (by exact (x_nil (Rf.ck fun h_15 =>
  (by exact (k_mut (i := 4) (vs := [(eT eI) r_14]) (fr' := ([some (toD ((eL eI) numbers_here_1)), some (toD (eI k_2)), some (toD ((eL (eT eI)) words_here_3)), some (toD (eI many_4)), some (toD ((eL (eT eI)) ((s_8 ++ [r_14])))), some (toD (eI j_6)), some (toD ((eT eI) r_14))] : Fr)) rfl rfl (m_app (E := (eT eI)) (a := r_14) h_15) rfl (by exact (k_X (by exact (s_nx (by exact (s_end ⟨.inl rfl, rfl⟩)))))))))))))))))))) (by exact (s_nx (by exact (s_end ⟨.inl rfl, rfl⟩))))))))))))))))))))) (fun s_9 => (by exact (s_ret (x_fz (i := 4) (fr' := ([some (toD ((eL eI) numbers_here_1)), some (toD (eI k_2)), some (toD ((eL (eT eI)) words_here_3)), some (toD (eI many_4)), some (.tup [toD ((eL (eT eI)) s_9)]), none, none] : Fr)) rfl rfl rfl (by exact (k_Ret (kd_ret rfl)))))))))))))))))))
theorem rf_law (script_1 : List Int) : Rf (fn_law (toDs [eSc script_1])) (T_law script_1) (KF eB 1 os0) (KX 1 os0) := by
  unfold fn_law T_law
  refine fn_rf0 (fr0 := ([some (toD (eSc script_1)), none, none, none, none, none, none, none, none, none, none, none, none, none, none, none, none, none, none] : Fr)) rfl ?_
  unfold g_law
  exact (by exact (s_forH (Rf.ck fun h_2 =>
  (by exact (x_vi (by exact (vi_rg1 ((v_op2 ((v_op1 ((v_var (i := 0) (by exact rfl))).l f_lenS)).l (v_cI).l f_min2)).l h_2)) (by exact (k_loop (KR := (KD eB os0)) (js := [false, true, true, true, true, true, true, true, true, true, true, true, true, true, true, true, true, true, false]) (F := (fun (s_4 : Unit) => ([some (toD (eSc script_1)), none, none, none, none, none, none, none, none, none, none, none, none, none, none, none, none, none, none] : Fr))) (s0 := ()) rfl (fun _ _ => rfl) (fun at_3 s_5 => (by exact (s_set (Rf.opt fun r_8 h_7 =>
  (by exact (Rf.no fun r_10 h_9 =>
  (by exact (x_v (v := (eL eI) r_10) (by exact (v_call (a := r_10) (E := (eL eI)) (rf_law_numbers r_8 at_3 60) h_9 rfl rfl (va_cons (v_op2 ((v_var (i := 0) (by exact rfl))).l ((v_var (i := 1) (by exact rfl))).l (f_ixS h_7)) (va_cons (v_var (i := 1) (by exact rfl)) (va_cons v_cI va_nil))))) (by exact (k_Set (v := (eL eI) r_10) (fr' := ([some (toD (eSc script_1)), some (toD (eI at_3)), some (toD ((eL eI) r_10)), none, none, none, none, none, none, none, none, none, none, none, none, none, none, none, none] : Fr)) rfl (by exact (s_set (Rf.no fun r_12 h_11 =>
  (by exact (x_v (v := (eP2 eI eI) r_12) (by exact (v_call (a := r_12) (E := (eP2 eI eI)) (rf_law_letters r_10 0 ((5, 3, 2))) h_11 rfl rfl (va_cons (v_var (i := 2) (by exact rfl)) (va_cons v_cI (va_cons (v_tup (va_cons v_cI (va_cons v_cI (va_cons v_cI va_nil))) rfl) va_nil))))) (by exact (k_Set (v := (eP2 eI eI) r_12) (fr' := ([some (toD (eSc script_1)), some (toD (eI at_3)), some (toD ((eL eI) r_10)), some (toD ((eP2 eI eI) r_12)), none, none, none, none, none, none, none, none, none, none, none, none, none, none, none] : Fr)) rfl (by exact (s_set (x_v (v := eI r_12.1) (by exact (v_op2 ((v_var (i := 3) (by exact rfl))).l (v_cI).l (f_ixP (i := 0) (vs := [eI r_12.1, eI r_12.2]) (v := eI r_12.1) rfl))) (by exact (k_Set (v := eI r_12.1) (fr' := ([some (toD (eSc script_1)), some (toD (eI at_3)), some (toD ((eL eI) r_10)), some (toD ((eP2 eI eI) r_12)), some (toD (eI r_12.1)), none, none, none, none, none, none, none, none, none, none, none, none, none, none] : Fr)) rfl (by exact (s_set (Rf.no fun r_14 h_13 =>
  (by exact (x_v (v := (eP2 eI (eL (eP2 eI eI))) r_14) (by exact (v_call (a := r_14) (E := (eP2 eI (eL (eP2 eI eI)))) (rf_law_net r_10 1 r_12.2) h_13 rfl rfl (va_cons (v_var (i := 2) (by exact rfl)) (va_cons v_cI (va_cons (v_op2 ((v_var (i := 3) (by exact rfl))).l (v_cI).l (f_ixP (i := 1) (vs := [eI r_12.1, eI r_12.2]) (v := eI r_12.2) rfl)) va_nil))))) (by exact (k_Set (v := (eP2 eI (eL (eP2 eI eI))) r_14) (fr' := ([some (toD (eSc script_1)), some (toD (eI at_3)), some (toD ((eL eI) r_10)), some (toD ((eP2 eI eI) r_12)), some (toD (eI r_12.1)), some (toD ((eP2 eI (eL (eP2 eI eI))) r_14)), none, none, none, none, none, none, none, none, none, none, none, none, none] : Fr)) rfl (by exact (s_ifXJ (js := [false, false, false, false, false, false, false, false, false, false, false, false, false, false, false, false, false, false, false]) (G := (fun (s_22 : Unit) => ([some (toD (eSc script_1)), some (toD (eI at_3)), some (toD ((eL eI) r_10)), some (toD ((eP2 eI eI) r_12)), some (toD (eI r_12.1)), some (toD ((eP2 eI (eL (eP2 eI eI))) r_14)), none, none, none, none, none, none, none, none, none, none, none, none, none] : Fr))) (F := (fun (s_15 : (Int × (List (Int × Int)))) => ([some (toD (eSc script_1)), some (toD (eI at_3)), some (toD ((eL eI) r_10)), some (toD ((eP2 eI eI) r_12)), some (toD (eI r_12.1)), some (toD ((eP2 eI (eL (eP2 eI eI))) s_15)), none, none, none, none, none, none, none, none, none, none, none, none, none] : Fr))) (ta := fun x_21 => (T_law_ring_of_five r_10 2).no.bind fun r_26 =>
  .ok r_26) (tb := fun x_21 => .ok r_14) (x_and (vb_E (v_op2 ((v_var (i := 4) (by exact rfl))).l (v_cI).l (f_eq eqb_I))) rfl (fun _ => (x_tail (Rf.opt fun r_20 h_19 =>
  (by exact (x_vb (vb_E (v_op2 ((v_op2 ((v_op1 ((v_op2 ((v_op2 ((v_var (i := 2) (by exact rfl))).l (v_cI).l (f_ixL h_19))).l (v_cI).l (f_div (by decide)))).l f_int)).l (v_cI).l (f_mod (by decide)))).l (v_cI).l (f_eq eqb_I))) (by exact (kb_ok rfl)))))))) (fun x_21 => (by exact (s_set (Rf.no fun r_26 h_25 =>
  (by exact (x_v (v := (eP2 eI (eL (eP2 eI eI))) r_26) (by exact (v_call (a := r_26) (E := (eP2 eI (eL (eP2 eI eI)))) (rf_law_ring_of_five r_10 2) h_25 rfl rfl (va_cons (v_var (i := 2) (by exact rfl)) (va_cons v_cI va_nil)))) (by exact (k_Set (v := (eP2 eI (eL (eP2 eI eI))) r_26) (fr' := ([some (toD (eSc script_1)), some (toD (eI at_3)), some (toD ((eL eI) r_10)), some (toD ((eP2 eI eI) r_12)), some (toD (eI r_12.1)), some (toD ((eP2 eI (eL (eP2 eI eI))) r_26)), none, none, none, none, none, none, none, none, none, none, none, none, none] : Fr)) rfl (by exact (s_end ⟨rfl, rfl⟩)))))))))) (fun x_21 => (by exact (s_end ⟨rfl, rfl⟩))) (fun s_16 => (by exact (s_set (Rf.no fun r_28 h_27 =>
  (by exact (x_v (v := (eL (eL eI)) r_28) (by exact (v_call (a := r_28) (E := (eL (eL eI))) (rf_law_knows s_16) h_27 rfl rfl (va_cons (v_var (i := 5) (by exact rfl)) va_nil))) (by exact (k_Set (v := (eL (eL eI)) r_28) (fr' := ([some (toD (eSc script_1)), some (toD (eI at_3)), some (toD ((eL eI) r_10)), some (toD ((eP2 eI eI) r_12)), some (toD (eI r_12.1)), some (toD ((eP2 eI (eL (eP2 eI eI))) s_16)), some (toD ((eL (eL eI)) r_28)), none, none, none, none, none, none, none, none, none, none, none, none] : Fr)) rfl (by exact (s_set (Rf.no fun r_30 h_29 =>
  (by exact (x_v (v := e_Net r_30.2) (by exact (v_make (a := r_30) (rf_Net_init s_16.1 (((eL (eP2 eI eI)) s_16.2))) h_29 (va_cons (v_op2 ((v_var (i := 5) (by exact rfl))).l (v_cI).l (f_ixP (i := 0) (vs := [eI s_16.1, (eL (eP2 eI eI)) s_16.2]) (v := eI s_16.1) rfl)) (va_cons (v_op2 ((v_var (i := 5) (by exact rfl))).l (v_cI).l (f_ixP (i := 1) (vs := [eI s_16.1, (eL (eP2 eI eI)) s_16.2]) (v := (eL (eP2 eI eI)) s_16.2) rfl)) va_nil)))) (by exact (k_Set (v := e_Net r_30.2) (fr' := ([some (toD (eSc script_1)), some (toD (eI at_3)), some (toD ((eL eI) r_10)), some (toD ((eP2 eI eI) r_12)), some (toD (eI r_12.1)), some (toD ((eP2 eI (eL (eP2 eI eI))) s_16)), some (toD ((eL (eL eI)) r_28)), some (toD (e_Net r_30.2)), none, none, none, none, none, none, none, none, none, none, none] : Fr)) rfl (by exact (s_set (Rf.no fun r_32 h_31 =>
  (by exact (x_v (v := (eL (eT eI)) r_32) (by exact (v_call (a := r_32) (E := (eL (eT eI))) (rf_law_words s_16.1 r_12.1) h_31 rfl rfl (va_cons (v_op2 ((v_var (i := 5) (by exact rfl))).l (v_cI).l (f_ixP (i := 0) (vs := [eI s_16.1, (eL (eP2 eI eI)) s_16.2]) (v := eI s_16.1) rfl)) (va_cons (v_var (i := 4) (by exact rfl)) va_nil)))) (by exact (k_Set (v := (eL (eT eI)) r_32) (fr' := ([some (toD (eSc script_1)), some (toD (eI at_3)), some (toD ((eL eI) r_10)), some (toD ((eP2 eI eI) r_12)), some (toD (eI r_12.1)), some (toD ((eP2 eI (eL (eP2 eI eI))) s_16)), some (toD ((eL (eL eI)) r_28)), some (toD (e_Net r_30.2)), some (toD ((eL (eT eI)) r_32)), none, none, none, none, none, none, none, none, none, none] : Fr)) rfl (by exact (s_set (Rf.opt fun r_34 h_33 =>
  (by exact (Rf.ck fun h_35 =>
  (by exact (x_v (v := (eL (eT eI)) ((cutT r_32 (some (r_34 % ((r_32).length : Int))) none))) (by exact (v_slL ((v_var (i := 8) (by exact rfl))).l (vo_some ((v_op2 ((v_op1 ((v_op2 ((v_var (i := 2) (by exact rfl))).l (v_cI).l (f_ixL h_33))).l f_int)).l ((v_op1 ((v_var (i := 8) (by exact rfl))).l f_lenL)).l (f_mod h_35))).l) vo_none)) (by exact (k_SetN (E := (eL (eT eI))) (fr' := fun rest_36 => ([some (toD (eSc script_1)), some (toD (eI at_3)), some (toD ((eL eI) r_10)), some (toD ((eP2 eI eI) r_12)), some (toD (eI r_12.1)), some (toD ((eP2 eI (eL (eP2 eI eI))) s_16)), some (toD ((eL (eL eI)) r_28)), some (toD (e_Net r_30.2)), some (toD ((eL (eT eI)) r_32)), some (toD ((eL (eT eI)) rest_36)), none, none, none, none, none, none, none, none, none] : Fr)) (fun _ => rfl) (fun rest_36 => (by exact (Rf.opt fun r_40 h_39 =>
  (by exact (s_if (js := [false, false, false, false, false, false, false, false, false, false, false, false, false, false, false, false, false, false, false]) (F := (fun (s_37 : (List (List Int))) => ([some (toD (eSc script_1)), some (toD (eI at_3)), some (toD ((eL eI) r_10)), some (toD ((eP2 eI eI) r_12)), some (toD (eI r_12.1)), some (toD ((eP2 eI (eL (eP2 eI eI))) s_16)), some (toD ((eL (eL eI)) r_28)), some (toD (e_Net r_30.2)), some (toD ((eL (eT eI)) r_32)), some (toD ((eL (eT eI)) s_37)), none, none, none, none, none, none, none, none, none] : Fr))) (vb_E (v_op2 ((v_op2 ((v_op1 ((v_op2 ((v_var (i := 2) (by exact rfl))).l (v_cI).l (f_ixL h_39))).l f_int)).l (v_cI).l (f_mod (by decide)))).l (v_cI).l (f_eq eqb_I))) (by exact (s_set (x_v (v := (eL (eT eI)) ([])) (by exact (v_lst va_nil rfl)) (by exact (k_Set (v := (eL (eT eI)) ([] : List (List Int))) (fr' := ([some (toD (eSc script_1)), some (toD (eI at_3)), some (toD ((eL eI) r_10)), some (toD ((eP2 eI eI) r_12)), some (toD (eI r_12.1)), some (toD ((eP2 eI (eL (eP2 eI eI))) s_16)), some (toD ((eL (eL eI)) r_28)), some (toD (e_Net r_30.2)), some (toD ((eL (eT eI)) r_32)), some (toD ((eL (eT eI)) (([] : List (List Int))))), none, none, none, none, none, none, none, none, none] : Fr)) rfl (by exact (s_end ⟨rfl, rfl⟩))))))) (by exact (s_end ⟨rfl, rfl⟩)) (fun s_38 => (by exact (s_set (Rf.opt fun r_42 h_41 =>
  (by exact (Rf.no fun r_44 h_43 =>
  (by exact (Rf.ck fun h_45 =>
  (by exact (Rf.no fun r_47 h_46 =>
  (by exact (x_v (v := (eL (eT eI)) r_47) (by exact (v_call (a := r_47) (E := (eL (eT eI))) (rf_law_store r_28 ((r_44 ++ s_38))) h_46 rfl rfl (va_cons (v_var (i := 6) (by exact rfl)) (va_cons (v_op2 ((v_call (a := r_44) (E := (eL (eT eI))) (rf_law_pick r_10 20 r_32 ((1 + (r_42 % 12)))) h_43 rfl rfl (va_cons (v_var (i := 2) (by exact rfl)) (va_cons v_cI (va_cons (v_var (i := 8) (by exact rfl)) (va_cons (v_op2 (v_cI).l ((v_op2 ((v_op1 ((v_op2 ((v_var (i := 2) (by exact rfl))).l (v_cI).l (f_ixL h_41))).l f_int)).l (v_cI).l (f_mod (by decide)))).l f_add) va_nil)))))).l ((v_var (i := 9) (by exact rfl))).l (f_addL h_45)) va_nil)))) (by exact (k_Set (v := (eL (eT eI)) r_47) (fr' := ([some (toD (eSc script_1)), some (toD (eI at_3)), some (toD ((eL eI) r_10)), some (toD ((eP2 eI eI) r_12)), some (toD (eI r_12.1)), some (toD ((eP2 eI (eL (eP2 eI eI))) s_16)), some (toD ((eL (eL eI)) r_28)), some (toD (e_Net r_30.2)), some (toD ((eL (eT eI)) r_32)), some (toD ((eL (eT eI)) s_38)), some (toD ((eL (eT eI)) r_47)), none, none, none, none, none, none, none, none] : Fr)) rfl (by exact (s_ifX (Rf.no fun r_49 h_48 =>
  (by exact (x_vb (vb_E (v_op2 ((v_call (a := r_49) (E := (eO (eP3 (eT eI) (eT eI) eI))) (rf_first_clash r_30.2 r_12.1 r_47) h_48 rfl rfl (va_cons (v_var (i := 7) (by exact rfl)) (va_cons (v_var (i := 4) (by exact rfl)) (va_cons (v_op1 ((v_var (i := 10) (by exact rfl))).l f_tupL) va_nil))))).l (v_cN).l (f_isNnO fun _ => rfl))) (by exact (k_If (by exact (s_seqE (s_ret (x_v (v := eB false) (by exact v_cB) (by exact (k_Ret ⟨⟨_, rfl⟩, kd_ret rfl⟩)))))) (by exact (s_nx (by exact (s_setF (x_v (v := (eDT eI) ([])) (by exact v_cDT) (by exact (k_SetF (d := toD ((eDT eI) ([] : List (List Int × Int)))) (fr' := ([some (toD (eSc script_1)), some (toD (eI at_3)), some (toD ((eL eI) r_10)), some (toD ((eP2 eI eI) r_12)), some (toD (eI r_12.1)), some (toD ((eP2 eI (eL (eP2 eI eI))) s_16)), some (toD ((eL (eL eI)) r_28)), some (toD (e_Net r_30.2)), some (toD ((eL (eT eI)) r_32)), some (toD ((eL (eT eI)) s_38)), some (toD ((eL (eT eI)) r_47)), some (toD ((eDT eI) (([] : List (List Int × Int))))), none, none, none, none, none, none, none] : Fr)) rfl (by exact (s_forH (x_vi (by exact (vi_L (v_var (i := 8) (by exact rfl)))) (by exact (k_loop (KR := (KD eB os0)) (js := [false, false, false, false, false, false, false, false, false, false, false, false, true, true, true, true, true, true, false]) (F := (fun (s_51 : (List (List Int × Int))) => ([some (toD (eSc script_1)), some (toD (eI at_3)), some (toD ((eL eI) r_10)), some (toD ((eP2 eI eI) r_12)), some (toD (eI r_12.1)), some (toD ((eP2 eI (eL (eP2 eI eI))) s_16)), some (toD ((eL (eL eI)) r_28)), some (toD (e_Net r_30.2)), some (toD ((eL (eT eI)) r_32)), some (toD ((eL (eT eI)) s_38)), some (toD ((eL (eT eI)) r_47)), some (toD ((eDT eI) s_51)), none, none, none, none, none, none, none] : Fr))) (s0 := ([] : List (List Int × Int))) rfl (fun _ _ => rfl) (fun by_50 s_52 => (by exact (s_set (Rf.no fun r_55 h_54 =>
  (by exact (x_v (v := (eT (eT eI)) r_55) (by exact (v_call (a := r_55) (E := (eT (eT eI))) (rf_shifted_words r_30.2 r_12.1 r_47 by_50) h_54 rfl rfl (va_cons (v_var (i := 7) (by exact rfl)) (va_cons (v_var (i := 4) (by exact rfl)) (va_cons (v_op1 ((v_var (i := 10) (by exact rfl))).l f_tupL) (va_cons (v_var (i := 12) (by exact rfl)) va_nil)))))) (by exact (k_Set (v := (eT (eT eI)) r_55) (fr' := ([some (toD (eSc script_1)), some (toD (eI at_3)), some (toD ((eL eI) r_10)), some (toD ((eP2 eI eI) r_12)), some (toD (eI r_12.1)), some (toD ((eP2 eI (eL (eP2 eI eI))) s_16)), some (toD ((eL (eL eI)) r_28)), some (toD (e_Net r_30.2)), some (toD ((eL (eT eI)) r_32)), some (toD ((eL (eT eI)) s_38)), some (toD ((eL (eT eI)) r_47)), some (toD ((eDT eI) s_52)), some (toD ((eT eI) by_50)), some (toD ((eT (eT eI)) r_55)), none, none, none, none, none] : Fr)) rfl (by exact (s_ifX (x_join (F := (fun (s_135 : Unit) => ([some (toD (eSc script_1)), some (toD (eI at_3)), some (toD ((eL eI) r_10)), some (toD ((eP2 eI eI) r_12)), some (toD (eI r_12.1)), some (toD ((eP2 eI (eL (eP2 eI eI))) s_16)), some (toD ((eL (eL eI)) r_28)), some (toD (e_Net r_30.2)), some (toD ((eL (eT eI)) r_32)), some (toD ((eL (eT eI)) s_38)), some (toD ((eL (eT eI)) r_47)), some (toD ((eDT eI) s_52)), some (toD ((eT eI) by_50)), some (toD ((eT (eT eI)) r_55)), none, none, none, none, none] : Fr))) (Rf.opt fun r_60 h_59 =>
  (by exact (x_or (vb_not (vb_E (v_op1 ((v_var (i := 13) (by exact rfl))).l (f_isi h_59)))) rfl (fun _ => (Rf.ck fun h_61 =>
  (by exact (x_or (vb_E (v_op2 ((v_op1 ((v_var (i := 13) (by exact rfl))).l f_lstT)).l ((v_op1 ((v_var (i := 13) (by exact rfl))).l (f_sortTT h_61))).l (f_ne (eqb_L (dat_T dat_I) (by decide))))) rfl (fun _ => (x_tail (x_vb (vb_E (v_op2 ((v_op1 ((v_var (i := 13) (by exact rfl))).l f_lenT)).l ((v_op1 ((v_var (i := 10) (by exact rfl))).l f_lenL)).l (f_ne eqb_I))) (by exact (kb_ok rfl)))))))))))) (fun p_62 => (k_If (by exact (s_seqE (s_ret (x_v (v := eB false) (by exact v_cB) (by exact (k_Ret ⟨⟨_, rfl⟩, kd_ret rfl⟩)))))) (by exact (s_nx (by exact (s_forH (x_vi (by exact (vi_T (v_var (i := 13) (by exact rfl)))) (by exact (k_loop (KR := (KD eB os0)) (js := [false, false, false, false, false, false, false, false, false, false, false, false, false, false, true, false, false, false, false]) (F := (fun (s_64 : (List (List Int × Int))) => ([some (toD (eSc script_1)), some (toD (eI at_3)), some (toD ((eL eI) r_10)), some (toD ((eP2 eI eI) r_12)), some (toD (eI r_12.1)), some (toD ((eP2 eI (eL (eP2 eI eI))) s_16)), some (toD ((eL (eL eI)) r_28)), some (toD (e_Net r_30.2)), some (toD ((eL (eT eI)) r_32)), some (toD ((eL (eT eI)) s_38)), some (toD ((eL (eT eI)) r_47)), some (toD ((eDT eI) s_64)), some (toD ((eT eI) by_50)), some (toD ((eT (eT eI)) r_55)), none, none, none, none, none] : Fr))) (s0 := s_52) rfl (fun _ _ => rfl) (fun word_63 s_65 => (by exact (s_ifX (x_vb (vb_E (v_op2 ((v_var (i := 14) (by exact rfl))).l ((v_var (i := 8) (by exact rfl))).l (f_nin (dat_T dat_I) (by decide)))) (by exact (k_If (by exact (s_seqE (s_ret (x_v (v := eB false) (by exact v_cB) (by exact (k_Ret ⟨⟨_, rfl⟩, kd_ret rfl⟩)))))) (by exact (s_nx (by exact (Rf.ck fun h_67 =>
  (by exact (s_dputVN (f := eI) (a := (((getL s_65 word_63).getD 0) + 1)) (i := 11) (fr' := fun counts_68 => ([some (toD (eSc script_1)), some (toD (eI at_3)), some (toD ((eL eI) r_10)), some (toD ((eP2 eI eI) r_12)), some (toD (eI r_12.1)), some (toD ((eP2 eI (eL (eP2 eI eI))) s_16)), some (toD ((eL (eL eI)) r_28)), some (toD (e_Net r_30.2)), some (toD ((eL (eT eI)) r_32)), some (toD ((eL (eT eI)) s_38)), some (toD ((eL (eT eI)) r_47)), some (toD ((eDT eI) counts_68)), some (toD ((eT eI) by_50)), some (toD ((eT (eT eI)) r_55)), some (toD ((eT eI) word_63)), none, none, none, none] : Fr)) rfl (v_op2 ((v_dgetV (f := eI) (a := 0) (i := 11) rfl (v_var (i := 14) (by exact rfl)) v_cI)).l (v_cI).l f_add) (v_var (i := 14) (by exact rfl)) h_67 (fun _ => rfl) (fun counts_68 => (by exact (s_end ⟨.inl rfl, rfl⟩))))))))))))))) (fun s_66 => (by exact (s_set (x_op1 (x_compH (x_vi (by exact (vi_L (v_var (i := 10) (by exact rfl)))) (by exact (Rf.ck fun h_85 =>
  (by exact (k_comp (E2 := (eT eI)) (G := (fun (s_134 : Unit) => ([some (toD (eSc script_1)), some (toD (eI at_3)), some (toD ((eL eI) r_10)), some (toD ((eP2 eI eI) r_12)), some (toD (eI r_12.1)), some (toD ((eP2 eI (eL (eP2 eI eI))) s_16)), some (toD ((eL (eL eI)) r_28)), some (toD (e_Net r_30.2)), some (toD ((eL (eT eI)) r_32)), some (toD ((eL (eT eI)) s_38)), some (toD ((eL (eT eI)) r_47)), some (toD ((eDT eI) s_66)), some (toD ((eT eI) by_50)), some (toD ((eT (eT eI)) r_55)), none, none, none, none, none] : Fr))) (s0 := ()) h_85 rfl (fun _ _ => rfl) (fun word_86 s_87 => (by exact (t_yes (x_op1 (x_compH (Rf.ck fun h_102 =>
  (by exact (x_vi (by exact (vi_rg1 ((v_op1 ((v_var (i := 12) (by exact rfl))).l f_lenT)).l h_102)) (by exact (Rf.ck fun h_103 =>
  (by exact (k_comp (E2 := eI) (G := (fun (s_112 : Unit) => ([some (toD (eSc script_1)), some (toD (eI at_3)), some (toD ((eL eI) r_10)), some (toD ((eP2 eI eI) r_12)), some (toD (eI r_12.1)), some (toD ((eP2 eI (eL (eP2 eI eI))) s_16)), some (toD ((eL (eL eI)) r_28)), some (toD (e_Net r_30.2)), some (toD ((eL (eT eI)) r_32)), some (toD ((eL (eT eI)) s_38)), some (toD ((eL (eT eI)) r_47)), some (toD ((eDT eI) s_66)), some (toD ((eT eI) by_50)), some (toD ((eT (eT eI)) r_55)), some (toD ((eT eI) word_86)), none, none, none, none] : Fr))) (s0 := ()) h_103 rfl (fun _ _ => rfl) (fun i_104 s_105 => (by exact (t_yes (Rf.opt fun r_107 h_106 =>
  (by exact (Rf.opt fun r_109 h_108 =>
  (by exact (Rf.ck fun h_110 =>
  (by exact (x_v (v := eI (((r_107 + r_109) % r_12.1))) (by exact (v_op2 ((v_op1 ((v_op2 ((v_op2 ((v_var (i := 14) (by exact rfl))).l ((v_var (i := 18) (by exact rfl))).l (f_ixT h_106))).l ((v_op2 ((v_var (i := 12) (by exact rfl))).l ((v_var (i := 18) (by exact rfl))).l (f_ixT h_108))).l f_add)).l f_int)).l ((v_var (i := 4) (by exact rfl))).l (f_mod h_110))) (by exact (k_turn (E2 := eI) (y := ((r_107 + r_109) % r_12.1)) ⟨rfl, rfl⟩)))))))))))) (fun _ => rfl) (fun l_111 => (by exact (k_op1 f_tupL (k_turn (E2 := (eT eI)) (y := l_111.1) ⟨rfl, rfl⟩)))))))))))))))) (fun _ => rfl) (fun l_113 => (by exact (Rf.ck fun h_114 =>
  (by exact (k_op1 (f_sortLT h_114) (k_SetN (E := (eL (eT eI))) (fr' := fun due_115 => ([some (toD (eSc script_1)), some (toD (eI at_3)), some (toD ((eL eI) r_10)), some (toD ((eP2 eI eI) r_12)), some (toD (eI r_12.1)), some (toD ((eP2 eI (eL (eP2 eI eI))) s_16)), some (toD ((eL (eL eI)) r_28)), some (toD (e_Net r_30.2)), some (toD ((eL (eT eI)) r_32)), some (toD ((eL (eT eI)) s_38)), some (toD ((eL (eT eI)) r_47)), some (toD ((eDT eI) s_66)), some (toD ((eT eI) by_50)), some (toD ((eT (eT eI)) r_55)), none, some (toD ((eL (eT eI)) due_115)), none, none, none] : Fr)) (fun _ => rfl) (fun due_115 => (by exact (s_set (Rf.opt fun r_117 h_116 =>
  (by exact (Rf.ck fun h_118 =>
  (by exact (x_v (v := eI ((r_117 % ((r_47).length : Int)))) (by exact (v_op2 ((v_op1 ((v_op2 ((v_var (i := 2) (by exact rfl))).l (v_cI).l (f_ixL h_116))).l f_int)).l ((v_op1 ((v_var (i := 10) (by exact rfl))).l f_lenL)).l (f_mod h_118))) (by exact (k_SetN (E := eI) (fr' := fun place_119 => ([some (toD (eSc script_1)), some (toD (eI at_3)), some (toD ((eL eI) r_10)), some (toD ((eP2 eI eI) r_12)), some (toD (eI r_12.1)), some (toD ((eP2 eI (eL (eP2 eI eI))) s_16)), some (toD ((eL (eL eI)) r_28)), some (toD (e_Net r_30.2)), some (toD ((eL (eT eI)) r_32)), some (toD ((eL (eT eI)) s_38)), some (toD ((eL (eT eI)) r_47)), some (toD ((eDT eI) s_66)), some (toD ((eT eI) by_50)), some (toD ((eT (eT eI)) r_55)), none, some (toD ((eL (eT eI)) due_115)), some (toD (eI place_119)), none, none] : Fr)) (fun _ => rfl) (fun place_119 => (by exact (s_set (x_compH (x_vi (by exact (vi_T (v_var (i := 13) (by exact rfl)))) (by exact (Rf.ck fun h_125 =>
  (by exact (k_comp (E2 := (eT eI)) (G := (fun (s_133 : Unit) => ([some (toD (eSc script_1)), some (toD (eI at_3)), some (toD ((eL eI) r_10)), some (toD ((eP2 eI eI) r_12)), some (toD (eI r_12.1)), some (toD ((eP2 eI (eL (eP2 eI eI))) s_16)), some (toD ((eL (eL eI)) r_28)), some (toD (e_Net r_30.2)), some (toD ((eL (eT eI)) r_32)), some (toD ((eL (eT eI)) s_38)), some (toD ((eL (eT eI)) r_47)), some (toD ((eDT eI) s_66)), some (toD ((eT eI) by_50)), some (toD ((eT (eT eI)) r_55)), none, some (toD ((eL (eT eI)) due_115)), some (toD (eI place_119)), none, none] : Fr))) (s0 := ()) h_125 rfl (fun _ _ => rfl) (fun word_126 s_127 => (by exact (Rf.opt fun r_129 h_128 =>
  (by exact (Rf.no fun r_131 h_130 =>
  (by exact (t_v (vb_E (v_op2 ((v_call (a := r_131) (E := (eO eI)) (rf_law_excludes r_28 r_129 word_126) h_130 rfl rfl (va_cons (v_var (i := 6) (by exact rfl)) (va_cons (v_op2 ((v_var (i := 13) (by exact rfl))).l ((v_var (i := 16) (by exact rfl))).l (f_ixT h_128)) (va_cons (v_var (i := 14) (by exact rfl)) va_nil))))).l (v_cN).l (f_isNnO fun _ => rfl))) (x_v (v := (eT eI) word_126) (by exact (v_var (i := 14) (by exact rfl))) (by exact (k_turn (E2 := (eT eI)) (y := word_126) ⟨rfl, rfl⟩))) ⟨_, _, rfl, rfl, rfl⟩))))))) (fun _ => rfl) (fun l_132 => (by exact (k_Set (v := (eL (eT eI)) l_132.1) (fr' := ([some (toD (eSc script_1)), some (toD (eI at_3)), some (toD ((eL eI) r_10)), some (toD ((eP2 eI eI) r_12)), some (toD (eI r_12.1)), some (toD ((eP2 eI (eL (eP2 eI eI))) s_16)), some (toD ((eL (eL eI)) r_28)), some (toD (e_Net r_30.2)), some (toD ((eL (eT eI)) r_32)), some (toD ((eL (eT eI)) s_38)), some (toD ((eL (eT eI)) r_47)), some (toD ((eDT eI) s_66)), some (toD ((eT eI) by_50)), some (toD ((eT (eT eI)) r_55)), none, some (toD ((eL (eT eI)) due_115)), some (toD (eI place_119)), some (toD ((eL (eT eI)) l_132.1)), none] : Fr)) rfl (by exact (s_ifX (x_vb (vb_or (vb_E (v_op2 ((v_op1 ((v_var (i := 13) (by exact rfl))).l f_lstT)).l ((v_var (i := 15) (by exact rfl))).l (f_ne (eqb_L (dat_T dat_I) (by decide))))) (vb_E (v_op2 ((v_op1 ((v_var (i := 17) (by exact rfl))).l f_lenL)).l (v_cI).l f_gt))) (by exact (k_If (by exact (s_seqE (s_ret (x_v (v := eB false) (by exact v_cB) (by exact (k_Ret ⟨⟨_, rfl⟩, kd_ret rfl⟩)))))) (by exact (s_nx (by exact (s_end ⟨.inl rfl, rfl⟩))))))))))))))))))))))))))))))))))))))))))))))) (fun x d fr h => ⟨_, _, rfl, ⟨d, rfl⟩, h⟩))))))))))))))))))))) (fun s_53 => (by exact (s_forH (x_vi (by exact (vi_L (v_var (i := 8) (by exact rfl)))) (by exact (k_loop (KR := (KD eB os0)) (js := [false, false, false, false, false, false, false, false, false, false, false, false, false, false, true, false, false, false, false]) (F := (fun (s_137 : Unit) => ([some (toD (eSc script_1)), some (toD (eI at_3)), some (toD ((eL eI) r_10)), some (toD ((eP2 eI eI) r_12)), some (toD (eI r_12.1)), some (toD ((eP2 eI (eL (eP2 eI eI))) s_16)), some (toD ((eL (eL eI)) r_28)), some (toD (e_Net r_30.2)), some (toD ((eL (eT eI)) r_32)), some (toD ((eL (eT eI)) s_38)), some (toD ((eL (eT eI)) r_47)), some (toD ((eDT eI) s_53)), none, none, none, none, none, none, none] : Fr))) (s0 := ()) rfl (fun _ _ => rfl) (fun word_136 s_138 => (by exact (s_ifX (x_vb (vb_E (v_op2 ((v_dgetV (f := eI) (a := 0) (i := 11) rfl (v_var (i := 14) (by exact rfl)) v_cI)).l ((v_op1 ((v_var (i := 10) (by exact rfl))).l f_lenL)).l (f_ne eqb_I))) (by exact (k_If (by exact (s_seqE (s_ret (x_v (v := eB false) (by exact v_cB) (by exact (k_Ret ⟨⟨_, rfl⟩, kd_ret rfl⟩)))))) (by exact (s_nx (by exact (s_end ⟨.inl rfl, rfl⟩)))))))))) (fun s_139 => (by exact (s_end ⟨.inl rfl, rfl⟩))) (fun x d fr h => ⟨_, _, rfl, ⟨d, rfl⟩, h⟩))))))) (fun x d fr h => ⟨_, _, rfl, ⟨d, rfl⟩, h⟩))))))))))))))))))))))))))))))))))))))))))))))))))))))))))))))))))))))))))))))))))))))))))))))))))))) (fun s_6 => (by exact (s_ret (x_v (v := eB true) (by exact v_cB) (by exact (k_Ret (kd_ret rfl))))))) (fun x d fr h => ⟨_, _, rfl, h⟩))))))))
theorem law_of {ns : List Int} (h : T_law ns = .ok true) : ∃ outs, fn_law [.scr ns] = .ok (.bl true) outs := by
  have q := rf_law ns
  rw [h] at q
  obtain ⟨d, outs, e, rfl, _⟩ := q
  exact ⟨outs, e⟩
end Lk49
namespace Lk49
open PySem PySem.Spec L2 KS PyProof.Rows
def main_body : List Stmt := PySem.Challenge.pw_keptandsaid_k49_whole_shifts_have_each_w.main.body
def st_law_numbers : Stmt := (main_body.getD 22 (.Pass ⟨0, 0, 0, 0⟩))
def st_law_letters : Stmt := (main_body.getD 29 (.Pass ⟨0, 0, 0, 0⟩))
def st_law_order : Stmt := (main_body.getD 23 (.Pass ⟨0, 0, 0, 0⟩))
def st_law_ring_of_five : Stmt := (main_body.getD 24 (.Pass ⟨0, 0, 0, 0⟩))
def st_law_net : Stmt := (main_body.getD 25 (.Pass ⟨0, 0, 0, 0⟩))
def st_law_knows : Stmt := (main_body.getD 26 (.Pass ⟨0, 0, 0, 0⟩))
def st_is_below : Stmt := (main_body.getD 18 (.Pass ⟨0, 0, 0, 0⟩))
def st_first_wrong_arc : Stmt := (main_body.getD 19 (.Pass ⟨0, 0, 0, 0⟩))
def st_Net_init : Stmt := (inClass (main_body.getD 20 (.Pass ⟨0, 0, 0, 0⟩)) 0)
def st_law_words : Stmt := (main_body.getD 27 (.Pass ⟨0, 0, 0, 0⟩))
def st_law_excludes : Stmt := (main_body.getD 28 (.Pass ⟨0, 0, 0, 0⟩))
def st_law_store : Stmt := (main_body.getD 31 (.Pass ⟨0, 0, 0, 0⟩))
def st_count_words : Stmt := (main_body.getD 9 (.Pass ⟨0, 0, 0, 0⟩))
def st_is_word : Stmt := (main_body.getD 10 (.Pass ⟨0, 0, 0, 0⟩))
def st_check_words : Stmt := (main_body.getD 11 (.Pass ⟨0, 0, 0, 0⟩))
def st_parting_place : Stmt := (main_body.getD 12 (.Pass ⟨0, 0, 0, 0⟩))
def st_first_clash : Stmt := (main_body.getD 13 (.Pass ⟨0, 0, 0, 0⟩))
def st_moved_words : Stmt := (main_body.getD 14 (.Pass ⟨0, 0, 0, 0⟩))
def st_shifted_words : Stmt := (main_body.getD 15 (.Pass ⟨0, 0, 0, 0⟩))
def st_law_pick : Stmt := (main_body.getD 30 (.Pass ⟨0, 0, 0, 0⟩))
def st_law : Stmt := (main_body.getD 32 (.Pass ⟨0, 0, 0, 0⟩))
def st_xInvalidNet : Stmt := (inClass (main_body.getD 4 (.Pass ⟨0, 0, 0, 0⟩)) 0)
def st_xInvalidNumber : Stmt := (inClass (main_body.getD 3 (.Pass ⟨0, 0, 0, 0⟩)) 0)
def st_xInvalidWords : Stmt := (inClass (main_body.getD 6 (.Pass ⟨0, 0, 0, 0⟩)) 0)
def st_xInvalidWord : Stmt := (inClass (main_body.getD 5 (.Pass ⟨0, 0, 0, 0⟩)) 0)
structure Txt (G : SE) where
  f_law_numbers : Addr
  fd_law_numbers : FuncData
  f_law_letters : Addr
  fd_law_letters : FuncData
  f_law_order : Addr
  fd_law_order : FuncData
  f_law_ring_of_five : Addr
  fd_law_ring_of_five : FuncData
  f_law_net : Addr
  fd_law_net : FuncData
  f_law_knows : Addr
  fd_law_knows : FuncData
  f_is_below : Addr
  fd_is_below : FuncData
  f_first_wrong_arc : Addr
  fd_first_wrong_arc : FuncData
  f_Net_init : Addr
  fd_Net_init : FuncData
  f_law_words : Addr
  fd_law_words : FuncData
  f_law_excludes : Addr
  fd_law_excludes : FuncData
  f_law_store : Addr
  fd_law_store : FuncData
  f_count_words : Addr
  fd_count_words : FuncData
  f_is_word : Addr
  fd_is_word : FuncData
  f_check_words : Addr
  fd_check_words : FuncData
  f_parting_place : Addr
  fd_parting_place : FuncData
  f_first_clash : Addr
  fd_first_clash : FuncData
  f_moved_words : Addr
  fd_moved_words : FuncData
  f_shifted_words : Addr
  fd_shifted_words : FuncData
  f_law_pick : Addr
  fd_law_pick : FuncData
  f_law : Addr
  fd_law : FuncData
  of_InvalidNet : Addr
  od_InvalidNet : FuncData
  of_InvalidNumber : Addr
  od_InvalidNumber : FuncData
  of_InvalidWords : Addr
  od_InvalidWords : FuncData
  of_InvalidWord : Addr
  od_InvalidWord : FuncData
  F_law_numbers : Fun G.K (PySem.Str.ofString "_law_numbers") (PySem.Str.ofString "_law_numbers") st_law_numbers f_law_numbers fd_law_numbers
  b_law_numbers : Binds G.K fd_law_numbers [(PySem.Str.ofString "_law_cell"), (PySem.Str.ofString "_law_at"), (PySem.Str.ofString "_law_many")] []
  m_law_numbers : G.mg (PySem.Str.ofString "_law_numbers") = some (.ref f_law_numbers)
  F_law_letters : Fun G.K (PySem.Str.ofString "_law_letters") (PySem.Str.ofString "_law_letters") st_law_letters f_law_letters fd_law_letters
  b_law_letters : Binds G.K fd_law_letters [(PySem.Str.ofString "_law_numbers_here"), (PySem.Str.ofString "_law_k"), (PySem.Str.ofString "_law_most")] []
  m_law_letters : G.mg (PySem.Str.ofString "_law_letters") = some (.ref f_law_letters)
  F_law_order : Fun G.K (PySem.Str.ofString "_law_order") (PySem.Str.ofString "_law_order") st_law_order f_law_order fd_law_order
  b_law_order : Binds G.K fd_law_order [(PySem.Str.ofString "_law_numbers_here"), (PySem.Str.ofString "_law_k"), (PySem.Str.ofString "_law_size")] []
  m_law_order : G.mg (PySem.Str.ofString "_law_order") = some (.ref f_law_order)
  F_law_ring_of_five : Fun G.K (PySem.Str.ofString "_law_ring_of_five") (PySem.Str.ofString "_law_ring_of_five") st_law_ring_of_five f_law_ring_of_five fd_law_ring_of_five
  b_law_ring_of_five : Binds G.K fd_law_ring_of_five [(PySem.Str.ofString "_law_numbers_here"), (PySem.Str.ofString "_law_k")] []
  m_law_ring_of_five : G.mg (PySem.Str.ofString "_law_ring_of_five") = some (.ref f_law_ring_of_five)
  F_law_net : Fun G.K (PySem.Str.ofString "_law_net") (PySem.Str.ofString "_law_net") st_law_net f_law_net fd_law_net
  b_law_net : Binds G.K fd_law_net [(PySem.Str.ofString "_law_numbers_here"), (PySem.Str.ofString "_law_k"), (PySem.Str.ofString "_law_most")] []
  m_law_net : G.mg (PySem.Str.ofString "_law_net") = some (.ref f_law_net)
  F_law_knows : Fun G.K (PySem.Str.ofString "_law_knows") (PySem.Str.ofString "_law_knows") st_law_knows f_law_knows fd_law_knows
  b_law_knows : Binds G.K fd_law_knows [(PySem.Str.ofString "_law_net_here")] []
  m_law_knows : G.mg (PySem.Str.ofString "_law_knows") = some (.ref f_law_knows)
  F_is_below : Fun G.K (PySem.Str.ofString "is_below") (PySem.Str.ofString "is_below") st_is_below f_is_below fd_is_below
  b_is_below : Binds G.K fd_is_below [(PySem.Str.ofString "value"), (PySem.Str.ofString "many")] []
  m_is_below : G.mg (PySem.Str.ofString "is_below") = some (.ref f_is_below)
  F_first_wrong_arc : Fun G.K (PySem.Str.ofString "first_wrong_arc") (PySem.Str.ofString "first_wrong_arc") st_first_wrong_arc f_first_wrong_arc fd_first_wrong_arc
  b_first_wrong_arc : Binds G.K fd_first_wrong_arc [(PySem.Str.ofString "size"), (PySem.Str.ofString "arcs")] []
  m_first_wrong_arc : G.mg (PySem.Str.ofString "first_wrong_arc") = some (.ref f_first_wrong_arc)
  F_Net_init : Fun G.K (PySem.Str.ofString "__init__") (PySem.Str.ofString "Net.__init__") st_Net_init f_Net_init fd_Net_init
  b_Net_init : Binds G.K fd_Net_init [(PySem.Str.ofString "self"), (PySem.Str.ofString "size"), (PySem.Str.ofString "arcs")] []
  F_law_words : Fun G.K (PySem.Str.ofString "_law_words") (PySem.Str.ofString "_law_words") st_law_words f_law_words fd_law_words
  b_law_words : Binds G.K fd_law_words [(PySem.Str.ofString "_law_size"), (PySem.Str.ofString "_law_q")] []
  m_law_words : G.mg (PySem.Str.ofString "_law_words") = some (.ref f_law_words)
  F_law_excludes : Fun G.K (PySem.Str.ofString "_law_excludes") (PySem.Str.ofString "_law_excludes") st_law_excludes f_law_excludes fd_law_excludes
  b_law_excludes : Binds G.K fd_law_excludes [(PySem.Str.ofString "_law_knows_here"), (PySem.Str.ofString "_law_one"), (PySem.Str.ofString "_law_other")] []
  m_law_excludes : G.mg (PySem.Str.ofString "_law_excludes") = some (.ref f_law_excludes)
  F_law_store : Fun G.K (PySem.Str.ofString "_law_store") (PySem.Str.ofString "_law_store") st_law_store f_law_store fd_law_store
  b_law_store : Binds G.K fd_law_store [(PySem.Str.ofString "_law_knows_here"), (PySem.Str.ofString "_law_words_here")] []
  m_law_store : G.mg (PySem.Str.ofString "_law_store") = some (.ref f_law_store)
  F_count_words : Fun G.K (PySem.Str.ofString "count_words") (PySem.Str.ofString "count_words") st_count_words f_count_words fd_count_words
  b_count_words : Binds G.K fd_count_words [(PySem.Str.ofString "net"), (PySem.Str.ofString "q")] []
  m_count_words : G.mg (PySem.Str.ofString "count_words") = some (.ref f_count_words)
  F_is_word : Fun G.K (PySem.Str.ofString "is_word") (PySem.Str.ofString "is_word") st_is_word f_is_word fd_is_word
  b_is_word : Binds G.K fd_is_word [(PySem.Str.ofString "net"), (PySem.Str.ofString "q"), (PySem.Str.ofString "value")] []
  m_is_word : G.mg (PySem.Str.ofString "is_word") = some (.ref f_is_word)
  F_check_words : Fun G.K (PySem.Str.ofString "check_words") (PySem.Str.ofString "check_words") st_check_words f_check_words fd_check_words
  b_check_words : Binds G.K fd_check_words [(PySem.Str.ofString "net"), (PySem.Str.ofString "q"), (PySem.Str.ofString "words")] []
  m_check_words : G.mg (PySem.Str.ofString "check_words") = some (.ref f_check_words)
  F_parting_place : Fun G.K (PySem.Str.ofString "parting_place") (PySem.Str.ofString "parting_place") st_parting_place f_parting_place fd_parting_place
  b_parting_place : Binds G.K fd_parting_place [(PySem.Str.ofString "net"), (PySem.Str.ofString "one"), (PySem.Str.ofString "other")] []
  m_parting_place : G.mg (PySem.Str.ofString "parting_place") = some (.ref f_parting_place)
  F_first_clash : Fun G.K (PySem.Str.ofString "first_clash") (PySem.Str.ofString "first_clash") st_first_clash f_first_clash fd_first_clash
  b_first_clash : Binds G.K fd_first_clash [(PySem.Str.ofString "net"), (PySem.Str.ofString "q"), (PySem.Str.ofString "words")] []
  m_first_clash : G.mg (PySem.Str.ofString "first_clash") = some (.ref f_first_clash)
  F_moved_words : Fun G.K (PySem.Str.ofString "moved_words") (PySem.Str.ofString "moved_words") st_moved_words f_moved_words fd_moved_words
  b_moved_words : Binds G.K fd_moved_words [(PySem.Str.ofString "q"), (PySem.Str.ofString "words"), (PySem.Str.ofString "by")] []
  m_moved_words : G.mg (PySem.Str.ofString "moved_words") = some (.ref f_moved_words)
  F_shifted_words : Fun G.K (PySem.Str.ofString "shifted_words") (PySem.Str.ofString "shifted_words") st_shifted_words f_shifted_words fd_shifted_words
  b_shifted_words : Binds G.K fd_shifted_words [(PySem.Str.ofString "net"), (PySem.Str.ofString "q"), (PySem.Str.ofString "words"), (PySem.Str.ofString "by")] []
  m_shifted_words : G.mg (PySem.Str.ofString "shifted_words") = some (.ref f_shifted_words)
  F_law_pick : Fun G.K (PySem.Str.ofString "_law_pick") (PySem.Str.ofString "_law_pick") st_law_pick f_law_pick fd_law_pick
  b_law_pick : Binds G.K fd_law_pick [(PySem.Str.ofString "_law_numbers_here"), (PySem.Str.ofString "_law_k"), (PySem.Str.ofString "_law_words_here"), (PySem.Str.ofString "_law_many")] []
  m_law_pick : G.mg (PySem.Str.ofString "_law_pick") = some (.ref f_law_pick)
  F_law : Fun G.K (PySem.Str.ofString "law") (PySem.Str.ofString "law") st_law f_law fd_law
  b_law : Binds G.K fd_law [(PySem.Str.ofString "_law_script")] []
  m_law : G.mg (PySem.Str.ofString "law") = some (.ref f_law)
  n_abs : G.mg (PySem.Str.ofString "abs") = none
  n_all : G.mg (PySem.Str.ofString "all") = none
  n_bool : G.mg (PySem.Str.ofString "bool") = none
  n_enumerate : G.mg (PySem.Str.ofString "enumerate") = none
  n_int : G.mg (PySem.Str.ofString "int") = none
  n_isinstance : G.mg (PySem.Str.ofString "isinstance") = none
  n_len : G.mg (PySem.Str.ofString "len") = none
  n_list : G.mg (PySem.Str.ofString "list") = none
  n_min : G.mg (PySem.Str.ofString "min") = none
  n_range : G.mg (PySem.Str.ofString "range") = none
  n_sorted : G.mg (PySem.Str.ofString "sorted") = none
  n_tuple : G.mg (PySem.Str.ofString "tuple") = none
  c_MOST_PLACES : ∃ u, G.mg (PySem.Str.ofString "MOST_PLACES") = some u ∧ RelV (.int 12) u
  c_MOST_WORDS : ∃ u, G.mg (PySem.Str.ofString "MOST_WORDS") = some u ∧ RelV (.int 81) u
  m_Net : G.mg (PySem.Str.ofString "Net") = some (.ref (G.cls 0))
  mk_Net : Mk G.K (G.cls 0) f_Net_init
  kc_Net : ∀ c b, kc_Net c = some b → C8.InsC G.K (G.cls c) ∧ PySem.W.kitOne G.K (.ref (G.cls c)) (.ref (G.cls 0)) = some b
  fx_size : (PySem.Str.ofString "size") = G.fld 0
  inj_size : ∀ m, G.fld m = G.fld 0 → m = 0
  fc_size : ∀ c ∈ ([0] : List Nat), Cls G.K (G.cls c) ∧ NoAttr G.K (G.cls c) (PySem.Str.ofString "size")
  f1_Net_size : ∀ c ∈ ([0] : List Nat), Cls G.K (G.cls c) ∧ NoAttr G.K (G.cls c) (PySem.Str.ofString "size")
  fx_arcs : (PySem.Str.ofString "arcs") = G.fld 1
  inj_arcs : ∀ m, G.fld m = G.fld 1 → m = 1
  fc_arcs : ∀ c ∈ ([0] : List Nat), Cls G.K (G.cls c) ∧ NoAttr G.K (G.cls c) (PySem.Str.ofString "arcs")
  f1_Net_arcs : ∀ c ∈ ([0] : List Nat), Cls G.K (G.cls c) ∧ NoAttr G.K (G.cls c) (PySem.Str.ofString "arcs")
  fx_knows : (PySem.Str.ofString "knows") = G.fld 2
  inj_knows : ∀ m, G.fld m = G.fld 2 → m = 2
  fc_knows : ∀ c ∈ ([0] : List Nat), Cls G.K (G.cls c) ∧ NoAttr G.K (G.cls c) (PySem.Str.ofString "knows")
  f1_Net_knows : ∀ c ∈ ([0] : List Nat), Cls G.K (G.cls c) ∧ NoAttr G.K (G.cls c) (PySem.Str.ofString "knows")
  ox_InvalidNet : OexC G.K (G.ecls 1)
  oi_InvalidNet : PySem.W.findIn G.K (.ref (G.ecls 1)) (PySem.Str.ofString "__init__") = some (some (.ref of_InvalidNet))
  ot_InvalidNet : PySem.W.typeIn G.K (.ref of_InvalidNet) = some (.type "function")
  oF_InvalidNet : Fun G.K (PySem.Str.ofString "__init__") (PySem.Str.ofString "InvalidNet.__init__") st_xInvalidNet of_InvalidNet od_InvalidNet
  ob_InvalidNet : Binds G.K od_InvalidNet [(PySem.Str.ofString "self"), (PySem.Str.ofString "part"), (PySem.Str.ofString "place")] []
  om_InvalidNet : G.mg (PySem.Str.ofString "InvalidNet") = some (.ref (G.ecls 1))
  oe_InvalidNet : G.efld 1 = [(PySem.Str.ofString "part"), (PySem.Str.ofString "place")]
  on_InvalidNet : ∀ n ∈ ([(PySem.Str.ofString "part"), (PySem.Str.ofString "place")] : List Str), PySem.W.findIn G.K (.ref (G.ecls 1)) n = some none
  ox_InvalidNumber : OexC G.K (G.ecls 0)
  oi_InvalidNumber : PySem.W.findIn G.K (.ref (G.ecls 0)) (PySem.Str.ofString "__init__") = some (some (.ref of_InvalidNumber))
  ot_InvalidNumber : PySem.W.typeIn G.K (.ref of_InvalidNumber) = some (.type "function")
  oF_InvalidNumber : Fun G.K (PySem.Str.ofString "__init__") (PySem.Str.ofString "InvalidNumber.__init__") st_xInvalidNumber of_InvalidNumber od_InvalidNumber
  ob_InvalidNumber : Binds G.K od_InvalidNumber [(PySem.Str.ofString "self"), (PySem.Str.ofString "value")] []
  om_InvalidNumber : G.mg (PySem.Str.ofString "InvalidNumber") = some (.ref (G.ecls 0))
  oe_InvalidNumber : G.efld 0 = [(PySem.Str.ofString "value")]
  on_InvalidNumber : ∀ n ∈ ([(PySem.Str.ofString "value")] : List Str), PySem.W.findIn G.K (.ref (G.ecls 0)) n = some none
  ox_InvalidWords : OexC G.K (G.ecls 3)
  oi_InvalidWords : PySem.W.findIn G.K (.ref (G.ecls 3)) (PySem.Str.ofString "__init__") = some (some (.ref of_InvalidWords))
  ot_InvalidWords : PySem.W.typeIn G.K (.ref of_InvalidWords) = some (.type "function")
  oF_InvalidWords : Fun G.K (PySem.Str.ofString "__init__") (PySem.Str.ofString "InvalidWords.__init__") st_xInvalidWords of_InvalidWords od_InvalidWords
  ob_InvalidWords : Binds G.K od_InvalidWords [(PySem.Str.ofString "self"), (PySem.Str.ofString "value")] []
  om_InvalidWords : G.mg (PySem.Str.ofString "InvalidWords") = some (.ref (G.ecls 3))
  oe_InvalidWords : G.efld 3 = [(PySem.Str.ofString "value")]
  on_InvalidWords : ∀ n ∈ ([(PySem.Str.ofString "value")] : List Str), PySem.W.findIn G.K (.ref (G.ecls 3)) n = some none
  ox_InvalidWord : OexC G.K (G.ecls 2)
  oi_InvalidWord : PySem.W.findIn G.K (.ref (G.ecls 2)) (PySem.Str.ofString "__init__") = some (some (.ref of_InvalidWord))
  ot_InvalidWord : PySem.W.typeIn G.K (.ref of_InvalidWord) = some (.type "function")
  oF_InvalidWord : Fun G.K (PySem.Str.ofString "__init__") (PySem.Str.ofString "InvalidWord.__init__") st_xInvalidWord of_InvalidWord od_InvalidWord
  ob_InvalidWord : Binds G.K od_InvalidWord [(PySem.Str.ofString "self"), (PySem.Str.ofString "value")] []
  om_InvalidWord : G.mg (PySem.Str.ofString "InvalidWord") = some (.ref (G.ecls 2))
  oe_InvalidWord : G.efld 2 = [(PySem.Str.ofString "value")]
  on_InvalidWord : ∀ n ∈ ([(PySem.Str.ofString "value")] : List Str), PySem.W.findIn G.K (.ref (G.ecls 2)) n = some none
section
variable {G : SE}
abbrev WB (E : XK) : WX := fun cls d _ H => E cls d H
theorem sc_xInvalidNet : FnScope [(PySem.Str.ofString "self"), (PySem.Str.ofString "part"), (PySem.Str.ofString "place")] [(PySem.Str.ofString "self"), (PySem.Str.ofString "part"), (PySem.Str.ofString "place")] (defScope st_xInvalidNet) := ⟨rfl, rfl, rfl, by decide +kernel, rfl, by decide +kernel, by decide +kernel⟩
theorem Txt.ok_InvalidNet (T : Txt G) : FnOk G.P G.w G.K G.mg G.base (L2.CX G.P G.w) 1 T.of_InvalidNet T.od_InvalidNet [(PySem.Str.ofString "self"), (PySem.Str.ofString "part"), (PySem.Str.ofString "place")] (oexSp (G.ecls 1) (G.efld 1)) := by
  rw [T.oe_InvalidNet]
  exact fn_oex 0 T.oF_InvalidNet sc_xInvalidNet rfl (by decide) T.ox_InvalidNet (by decide) (by decide) (by decide +kernel) T.on_InvalidNet fun cdv A outer s H E => (pss_cons (ps_ost (pe_var (i := 0) rfl (by first | exact Or.inl rfl | exact Or.inr (Or.inl rfl))) (pe_var (i := 1) rfl (by first | exact Or.inl rfl | exact Or.inr (Or.inl rfl)))) (pss_cons (ps_ost (pe_var (i := 0) rfl (by first | exact Or.inl rfl | exact Or.inr (Or.inl rfl))) (pe_var (i := 2) rfl (by first | exact Or.inl rfl | exact Or.inr (Or.inl rfl)))) pss_nil))
theorem Txt.ol_InvalidNet (T : Txt G) : (G.efld 1).length = 2 := by rw [T.oe_InvalidNet]; rfl
theorem sc_xInvalidNumber : FnScope [(PySem.Str.ofString "self"), (PySem.Str.ofString "value")] [(PySem.Str.ofString "self"), (PySem.Str.ofString "value")] (defScope st_xInvalidNumber) := ⟨rfl, rfl, rfl, by decide +kernel, rfl, by decide +kernel, by decide +kernel⟩
theorem Txt.ok_InvalidNumber (T : Txt G) : FnOk G.P G.w G.K G.mg G.base (L2.CX G.P G.w) 1 T.of_InvalidNumber T.od_InvalidNumber [(PySem.Str.ofString "self"), (PySem.Str.ofString "value")] (oexSp (G.ecls 0) (G.efld 0)) := by
  rw [T.oe_InvalidNumber]
  exact fn_oex 0 T.oF_InvalidNumber sc_xInvalidNumber rfl (by decide) T.ox_InvalidNumber (by decide) (by decide) (by decide +kernel) T.on_InvalidNumber fun cdv A outer s H E => (pss_cons (ps_ost (pe_var (i := 0) rfl (by first | exact Or.inl rfl | exact Or.inr (Or.inl rfl))) (pe_var (i := 1) rfl (by first | exact Or.inl rfl | exact Or.inr (Or.inl rfl)))) pss_nil)
theorem Txt.ol_InvalidNumber (T : Txt G) : (G.efld 0).length = 1 := by rw [T.oe_InvalidNumber]; rfl
theorem sc_xInvalidWords : FnScope [(PySem.Str.ofString "self"), (PySem.Str.ofString "value")] [(PySem.Str.ofString "self"), (PySem.Str.ofString "value")] (defScope st_xInvalidWords) := ⟨rfl, rfl, rfl, by decide +kernel, rfl, by decide +kernel, by decide +kernel⟩
theorem Txt.ok_InvalidWords (T : Txt G) : FnOk G.P G.w G.K G.mg G.base (L2.CX G.P G.w) 1 T.of_InvalidWords T.od_InvalidWords [(PySem.Str.ofString "self"), (PySem.Str.ofString "value")] (oexSp (G.ecls 3) (G.efld 3)) := by
  rw [T.oe_InvalidWords]
  exact fn_oex 0 T.oF_InvalidWords sc_xInvalidWords rfl (by decide) T.ox_InvalidWords (by decide) (by decide) (by decide +kernel) T.on_InvalidWords fun cdv A outer s H E => (pss_cons (ps_ost (pe_var (i := 0) rfl (by first | exact Or.inl rfl | exact Or.inr (Or.inl rfl))) (pe_var (i := 1) rfl (by first | exact Or.inl rfl | exact Or.inr (Or.inl rfl)))) pss_nil)
theorem Txt.ol_InvalidWords (T : Txt G) : (G.efld 3).length = 1 := by rw [T.oe_InvalidWords]; rfl
theorem sc_xInvalidWord : FnScope [(PySem.Str.ofString "self"), (PySem.Str.ofString "value")] [(PySem.Str.ofString "self"), (PySem.Str.ofString "value")] (defScope st_xInvalidWord) := ⟨rfl, rfl, rfl, by decide +kernel, rfl, by decide +kernel, by decide +kernel⟩
theorem Txt.ok_InvalidWord (T : Txt G) : FnOk G.P G.w G.K G.mg G.base (L2.CX G.P G.w) 1 T.of_InvalidWord T.od_InvalidWord [(PySem.Str.ofString "self"), (PySem.Str.ofString "value")] (oexSp (G.ecls 2) (G.efld 2)) := by
  rw [T.oe_InvalidWord]
  exact fn_oex 0 T.oF_InvalidWord sc_xInvalidWord rfl (by decide) T.ox_InvalidWord (by decide) (by decide) (by decide +kernel) T.on_InvalidWord fun cdv A outer s H E => (pss_cons (ps_ost (pe_var (i := 0) rfl (by first | exact Or.inl rfl | exact Or.inr (Or.inl rfl))) (pe_var (i := 1) rfl (by first | exact Or.inl rfl | exact Or.inr (Or.inl rfl)))) pss_nil)
theorem Txt.ol_InvalidWord (T : Txt G) : (G.efld 2).length = 1 := by rw [T.oe_InvalidWord]; rfl
theorem sc_law_numbers : FnScope [(PySem.Str.ofString "_law_cell"), (PySem.Str.ofString "_law_at"), (PySem.Str.ofString "_law_many"), (PySem.Str.ofString "_law_great"), (PySem.Str.ofString "_law_rest"), (PySem.Str.ofString "_law_numbers_here"), (PySem.Str.ofString "_law_k"), (PySem.Str.ofString "_law_mixed")] [(PySem.Str.ofString "_law_cell"), (PySem.Str.ofString "_law_at"), (PySem.Str.ofString "_law_many")] (defScope st_law_numbers) := ⟨rfl, rfl, rfl, by decide +kernel, rfl, by decide +kernel, by decide +kernel⟩
theorem ok_law_numbers (T : Txt G) : FnOk G.P G.w G.K G.mg G.base (L2.CX G.P G.w) 1 T.f_law_numbers T.fd_law_numbers [(PySem.Str.ofString "_law_cell"), (PySem.Str.ofString "_law_at"), (PySem.Str.ofString "_law_many")] (spOf G [false, false, false] false fn_law_numbers) :=
  fnok_of (G := G) (M := [5]) T.F_law_numbers sc_law_numbers rfl (by decide) (.inl rfl) fun cdv A outer s H E io Hv hio hr =>
  (ss_cons (s_set (i := 3) (show ¬ 3 ∈ ([5] : List Nat) by decide) sc_law_numbers.nd (d_cmp ops_ge op_ge (d_b1 cas_abs call_abs T.n_abs (d_t1 cas_int call_intA T.n_int (d_var (i := 0) (show ¬ 0 ∈ ([5] : List Nat) by decide)))) (d_pow d_int d_int) rfl))
  (ss_cons (s_set (i := 4) (show ¬ 4 ∈ ([5] : List Nat) by decide) sc_law_numbers.nd (d_add (d_mul d_int (d_b1 cas_abs call_abs T.n_abs (d_t1 cas_int call_intA T.n_int (d_var (i := 0) (show ¬ 0 ∈ ([5] : List Nat) by decide))))) (d_t1 cas_int call_intA T.n_int (d_cmp ops_lt op_lt (d_var (i := 0) (show ¬ 0 ∈ ([5] : List Nat) by decide)) d_int rfl))))
  (ss_cons (s_setF (i := 5) (show 5 ∈ ([5] : List Nat) by decide) (io_ne hio (by decide)) sc_law_numbers.nd (d_lst a_nil))
  (ss_cons (s_for (passes_of rfl) rfl (i_iK (io_not (js := [false, false, false, false, false, false, true, true]) hio rfl) (i_range1 (d_var (i := 2) (show ¬ 2 ∈ ([5] : List Nat) by decide)) T.n_range)) (g_name (i := 6) (show ¬ 6 ∈ ([5] : List Nat) by decide) sc_law_numbers.nd)
  (ss_sK (io_not (js := [false, false, false, false, false, false, true, true]) hio rfl) (ss_cons (s_if (dt_tru (d_var (i := 3) (show ¬ 3 ∈ ([5] : List Nat) by decide)))
  (ss_cons (s_expr (d_mut (i := 5) kd_lst tyV_lst mus_append mt_append F.plainAttrs_list F.slot_list_append F.type_list_append (show 5 ∈ ([5] : List Nat) by decide) (a_cons (d_mod (d_t1 cas_int call_intA T.n_int (d_var (i := 4) (show ¬ 4 ∈ ([5] : List Nat) by decide))) d_int) a_nil)))
  (ss_cons (s_set (i := 4) (show ¬ 4 ∈ ([5] : List Nat) by decide) sc_law_numbers.nd (d_fdiv (d_var (i := 4) (show ¬ 4 ∈ ([5] : List Nat) by decide)) d_int))
  ss_nil))
  (ss_cons (s_set (i := 7) (show ¬ 7 ∈ ([5] : List Nat) by decide) sc_law_numbers.nd (d_mod (d_t1 cas_int call_intA T.n_int (d_add (d_add (d_add (d_mul (d_var (i := 4) (show ¬ 4 ∈ ([5] : List Nat) by decide)) d_int) (d_mul (d_var (i := 1) (show ¬ 1 ∈ ([5] : List Nat) by decide)) d_int)) (d_mul (d_var (i := 6) (show ¬ 6 ∈ ([5] : List Nat) by decide)) d_int)) d_int)) d_int))
  (ss_cons (s_set (i := 7) (show ¬ 7 ∈ ([5] : List Nat) by decide) sc_law_numbers.nd (d_mod (d_t1 cas_int call_intA T.n_int (d_add (d_add (d_mul (d_var (i := 7) (show ¬ 7 ∈ ([5] : List Nat) by decide)) (d_var (i := 7) (show ¬ 7 ∈ ([5] : List Nat) by decide))) (d_mul (d_var (i := 6) (show ¬ 6 ∈ ([5] : List Nat) by decide)) d_int)) d_int)) d_int))
  (ss_cons (s_set (i := 7) (show ¬ 7 ∈ ([5] : List Nat) by decide) sc_law_numbers.nd (d_mod (d_t1 cas_int call_intA T.n_int (d_add (d_add (d_mul (d_var (i := 7) (show ¬ 7 ∈ ([5] : List Nat) by decide)) (d_var (i := 7) (show ¬ 7 ∈ ([5] : List Nat) by decide))) (d_mul (d_var (i := 1) (show ¬ 1 ∈ ([5] : List Nat) by decide)) d_int)) d_int)) d_int))
  (ss_cons (s_expr (d_mut (i := 5) kd_lst tyV_lst mus_append mt_append F.plainAttrs_list F.slot_list_append F.type_list_append (show 5 ∈ ([5] : List Nat) by decide) (a_cons (d_mod (d_t1 cas_int call_intA T.n_int (d_fdiv (d_var (i := 7) (show ¬ 7 ∈ ([5] : List Nat) by decide)) d_int)) d_int) a_nil)))
  ss_nil)))))
  ss_nil)))
  (ss_cons (s_ret rfl (d_fz (i := 5) (show 5 ∈ ([5] : List Nat) by decide) (io_ne hio (by decide))))
  ss_nil)))))
theorem sc_law_letters : FnScope [(PySem.Str.ofString "_law_numbers_here"), (PySem.Str.ofString "_law_k"), (PySem.Str.ofString "_law_most"), (PySem.Str.ofString "_law_q")] [(PySem.Str.ofString "_law_numbers_here"), (PySem.Str.ofString "_law_k"), (PySem.Str.ofString "_law_most")] (defScope st_law_letters) := ⟨rfl, rfl, rfl, by decide +kernel, rfl, by decide +kernel, by decide +kernel⟩
theorem ok_law_letters (T : Txt G) : FnOk G.P G.w G.K G.mg G.base (L2.CX G.P G.w) 1 T.f_law_letters T.fd_law_letters [(PySem.Str.ofString "_law_numbers_here"), (PySem.Str.ofString "_law_k"), (PySem.Str.ofString "_law_most")] (spOf G [false, false, false] false fn_law_letters) :=
  fnok_of (G := G) (M := []) T.F_law_letters sc_law_letters rfl (by decide) (.inl rfl) fun cdv A outer s H E io Hv hio hr =>
  (ss_cons (s_set (i := 3) (show ¬ 3 ∈ ([] : List Nat) by decide) sc_law_letters.nd (d_ix (DF.de (d_lst (a_cons d_int (a_cons d_int (a_cons d_int (a_cons d_int (a_cons d_int (a_cons d_int (a_cons d_int (a_cons d_int a_nil)))))))))) (d_mod (d_t1 cas_int call_intA T.n_int (d_ix (d_var (i := 0) (show ¬ 0 ∈ ([] : List Nat) by decide)) (d_var (i := 1) (show ¬ 1 ∈ ([] : List Nat) by decide)))) d_int)))
  (ss_cons (s_ret rfl (d_tup (a_cons (d_var (i := 3) (show ¬ 3 ∈ ([] : List Nat) by decide)) (a_cons (d_ix (DF.de (d_lst (a_cons d_int (a_cons d_int (a_cons (d_ix (d_var (i := 2) (show ¬ 2 ∈ ([] : List Nat) by decide)) d_int) (a_cons (d_ix (d_var (i := 2) (show ¬ 2 ∈ ([] : List Nat) by decide)) d_int) (a_cons (d_ix (d_var (i := 2) (show ¬ 2 ∈ ([] : List Nat) by decide)) d_int) (a_cons d_int a_nil)))))))) (d_var (i := 3) (show ¬ 3 ∈ ([] : List Nat) by decide))) a_nil))))
  ss_nil))
theorem sc_law_order : FnScope [(PySem.Str.ofString "_law_numbers_here"), (PySem.Str.ofString "_law_k"), (PySem.Str.ofString "_law_size"), (PySem.Str.ofString "_law_order_here"), (PySem.Str.ofString "_law_i")] [(PySem.Str.ofString "_law_numbers_here"), (PySem.Str.ofString "_law_k"), (PySem.Str.ofString "_law_size")] (defScope st_law_order) := ⟨rfl, rfl, rfl, by decide +kernel, rfl, by decide +kernel, by decide +kernel⟩
theorem ok_law_order (T : Txt G) : FnOk G.P G.w G.K G.mg G.base (L2.CX G.P G.w) 1 T.f_law_order T.fd_law_order [(PySem.Str.ofString "_law_numbers_here"), (PySem.Str.ofString "_law_k"), (PySem.Str.ofString "_law_size")] (spOf G [false, false, false] false fn_law_order) :=
  fnok_of (G := G) (M := [3]) T.F_law_order sc_law_order rfl (by decide) (.inl rfl) fun cdv A outer s H E io Hv hio hr =>
  (ss_cons (s_setF (i := 3) (show 3 ∈ ([3] : List Nat) by decide) (io_ne hio (by decide)) sc_law_order.nd (d_lst a_nil))
  (ss_cons (s_for (passes_of rfl) rfl (i_iK (io_not (js := [false, false, false, false, true]) hio rfl) (i_range1 (d_var (i := 2) (show ¬ 2 ∈ ([3] : List Nat) by decide)) T.n_range)) (g_name (i := 4) (show ¬ 4 ∈ ([3] : List Nat) by decide) sc_law_order.nd)
  (ss_sK (io_not (js := [false, false, false, false, true]) hio rfl) (ss_cons (s_expr (d_mut (i := 3) kd_lst tyV_lst mus_insert mt_insert F.plainAttrs_list F.slot_list_insert F.type_list_insert (show 3 ∈ ([3] : List Nat) by decide) (a_cons (d_mod (d_t1 cas_int call_intA T.n_int (d_ix (d_var (i := 0) (show ¬ 0 ∈ ([3] : List Nat) by decide)) (d_add (d_var (i := 1) (show ¬ 1 ∈ ([3] : List Nat) by decide)) (d_var (i := 4) (show ¬ 4 ∈ ([3] : List Nat) by decide))))) (d_add (d_var (i := 4) (show ¬ 4 ∈ ([3] : List Nat) by decide)) d_int)) (a_cons (d_var (i := 4) (show ¬ 4 ∈ ([3] : List Nat) by decide)) a_nil))))
  ss_nil)))
  (ss_cons (s_ret rfl (d_fz (i := 3) (show 3 ∈ ([3] : List Nat) by decide) (io_ne hio (by decide))))
  ss_nil)))
theorem sc_law_ring_of_five : FnScope [(PySem.Str.ofString "_law_numbers_here"), (PySem.Str.ofString "_law_k"), (PySem.Str.ofString "_law_order_here"), (PySem.Str.ofString "_law_arcs"), (PySem.Str.ofString "_law_i"), (PySem.Str.ofString "_law_j"), (PySem.Str.ofString "_law_arc")] [(PySem.Str.ofString "_law_numbers_here"), (PySem.Str.ofString "_law_k")] (defScope st_law_ring_of_five) := ⟨rfl, rfl, rfl, by decide +kernel, rfl, by decide +kernel, by decide +kernel⟩
theorem ok_law_ring_of_five (T : Txt G) : FnOk G.P G.w G.K G.mg G.base (L2.CX G.P G.w) 2 T.f_law_ring_of_five T.fd_law_ring_of_five [(PySem.Str.ofString "_law_numbers_here"), (PySem.Str.ofString "_law_k")] (spOf G [false, false] false fn_law_ring_of_five) :=
  fnok_of (G := G) (M := [3]) T.F_law_ring_of_five sc_law_ring_of_five rfl (by decide) (.inl rfl) fun cdv A outer s H E io Hv hio hr =>
  (ss_cons (s_set (i := 2) (show ¬ 2 ∈ ([3] : List Nat) by decide) sc_law_ring_of_five.nd (d_call (ok_law_order T) (hr.mono (by decide)) T.m_law_order T.F_law_order.kp T.b_law_order (fun σ => passAt (takes_of rfl rfl rfl rfl) σ) (a_cons (d_var (i := 0) (show ¬ 0 ∈ ([3] : List Nat) by decide)) (a_cons (d_var (i := 1) (show ¬ 1 ∈ ([3] : List Nat) by decide)) (a_cons d_int a_nil)))))
  (ss_cons (s_setF (i := 3) (show 3 ∈ ([3] : List Nat) by decide) (io_ne hio (by decide)) sc_law_ring_of_five.nd (d_lst a_nil))
  (ss_cons (s_for (passes_of rfl) rfl (i_iK (io_not (js := [false, false, false, false, true, false, false]) hio rfl) (i_range1 d_int T.n_range)) (g_name (i := 4) (show ¬ 4 ∈ ([3] : List Nat) by decide) sc_law_ring_of_five.nd)
  (ss_sK (io_not (js := [false, false, false, false, true, false, false]) hio rfl) (ss_cons (s_expr (d_mut (i := 3) kd_lst tyV_lst mus_append mt_append F.plainAttrs_list F.slot_list_append F.type_list_append (show 3 ∈ ([3] : List Nat) by decide) (a_cons (d_tup (a_cons (d_ix (d_var (i := 2) (show ¬ 2 ∈ ([3] : List Nat) by decide)) (d_var (i := 4) (show ¬ 4 ∈ ([3] : List Nat) by decide))) (a_cons (d_ix (d_var (i := 2) (show ¬ 2 ∈ ([3] : List Nat) by decide)) (d_mod (d_t1 cas_int call_intA T.n_int (d_add (d_var (i := 4) (show ¬ 4 ∈ ([3] : List Nat) by decide)) d_int)) d_int)) a_nil))) a_nil)))
  (ss_cons (s_expr (d_mut (i := 3) kd_lst tyV_lst mus_append mt_append F.plainAttrs_list F.slot_list_append F.type_list_append (show 3 ∈ ([3] : List Nat) by decide) (a_cons (d_tup (a_cons (d_ix (d_var (i := 2) (show ¬ 2 ∈ ([3] : List Nat) by decide)) (d_mod (d_t1 cas_int call_intA T.n_int (d_add (d_var (i := 4) (show ¬ 4 ∈ ([3] : List Nat) by decide)) d_int)) d_int)) (a_cons (d_ix (d_var (i := 2) (show ¬ 2 ∈ ([3] : List Nat) by decide)) (d_var (i := 4) (show ¬ 4 ∈ ([3] : List Nat) by decide))) a_nil))) a_nil)))
  ss_nil))))
  (ss_cons (s_for (passes_of rfl) rfl (i_iK (io_not (js := [false, false, false, false, true, true, true]) hio rfl) (i_range1 (d_mod (d_t1 cas_int call_intA T.n_int (d_ix (d_var (i := 0) (show ¬ 0 ∈ ([3] : List Nat) by decide)) (d_add (d_var (i := 1) (show ¬ 1 ∈ ([3] : List Nat) by decide)) d_int))) d_int) T.n_range)) (g_name (i := 5) (show ¬ 5 ∈ ([3] : List Nat) by decide) sc_law_ring_of_five.nd)
  (ss_sK (io_not (js := [false, false, false, false, true, true, true]) hio rfl) (ss_cons (s_set (i := 4) (show ¬ 4 ∈ ([3] : List Nat) by decide) sc_law_ring_of_five.nd (d_mod (d_t1 cas_int call_intA T.n_int (d_ix (d_var (i := 0) (show ¬ 0 ∈ ([3] : List Nat) by decide)) (d_add (d_add (d_var (i := 1) (show ¬ 1 ∈ ([3] : List Nat) by decide)) d_int) (d_var (i := 5) (show ¬ 5 ∈ ([3] : List Nat) by decide))))) d_int))
  (ss_cons (s_set (i := 6) (show ¬ 6 ∈ ([3] : List Nat) by decide) sc_law_ring_of_five.nd (d_tup (a_cons (d_var (i := 4) (show ¬ 4 ∈ ([3] : List Nat) by decide)) (a_cons (d_mod (d_t1 cas_int call_intA T.n_int (d_add (d_add (d_var (i := 4) (show ¬ 4 ∈ ([3] : List Nat) by decide)) d_int) (d_mod (d_t1 cas_int call_intA T.n_int (d_fdiv (d_ix (d_var (i := 0) (show ¬ 0 ∈ ([3] : List Nat) by decide)) (d_add (d_add (d_var (i := 1) (show ¬ 1 ∈ ([3] : List Nat) by decide)) d_int) (d_var (i := 5) (show ¬ 5 ∈ ([3] : List Nat) by decide)))) d_int)) d_int))) d_int) a_nil))))
  (ss_cons (s_if (dt_cmp (ops_inA2) (op_inA2 (u65 hr)) (d_var (i := 6) (show ¬ 6 ∈ ([3] : List Nat) by decide)) (d_pl (i := 3) (show 3 ∈ ([3] : List Nat) by decide)) rfl)
  (ss_cons (s_expr (d_mut (i := 3) kd_lst tyV_lst (mus_remove rfl) (mt_removeD (u65 hr)) F.plainAttrs_list F.slot_list_remove F.type_list_remove (show 3 ∈ ([3] : List Nat) by decide) (a_cons (d_var (i := 6) (show ¬ 6 ∈ ([3] : List Nat) by decide)) a_nil)))
  ss_nil)
  (ss_cons (s_expr (d_mut (i := 3) kd_lst tyV_lst mus_append mt_append F.plainAttrs_list F.slot_list_append F.type_list_append (show 3 ∈ ([3] : List Nat) by decide) (a_cons (d_var (i := 6) (show ¬ 6 ∈ ([3] : List Nat) by decide)) a_nil)))
  ss_nil))
  ss_nil)))))
  (ss_cons (s_ret rfl (d_tup (a_cons d_int (a_cons (DF.de (d_b1F (caf_sort rfl) (cr_sortA (u16 hr)) T.n_sorted (d_pl (i := 3) (show 3 ∈ ([3] : List Nat) by decide)))) a_nil))))
  ss_nil)))))
theorem sc_law_net : FnScope [(PySem.Str.ofString "_law_numbers_here"), (PySem.Str.ofString "_law_k"), (PySem.Str.ofString "_law_most"), (PySem.Str.ofString "_law_size"), (PySem.Str.ofString "_law_arcs"), (PySem.Str.ofString "_law_at"), (PySem.Str.ofString "_law_i"), (PySem.Str.ofString "_law_j"), (PySem.Str.ofString "_law_seed")] [(PySem.Str.ofString "_law_numbers_here"), (PySem.Str.ofString "_law_k"), (PySem.Str.ofString "_law_most")] (defScope st_law_net) := ⟨rfl, rfl, rfl, by decide +kernel, rfl, by decide +kernel, by decide +kernel⟩
theorem ok_law_net (T : Txt G) : FnOk G.P G.w G.K G.mg G.base (L2.CX G.P G.w) 3 T.f_law_net T.fd_law_net [(PySem.Str.ofString "_law_numbers_here"), (PySem.Str.ofString "_law_k"), (PySem.Str.ofString "_law_most")] (spOf G [false, false, false] false fn_law_net) :=
  fnok_of (G := G) (M := [4]) T.F_law_net sc_law_net rfl (by decide) (.inl rfl) fun cdv A outer s H E io Hv hio hr =>
  (ss_cons (s_if (DW.dt (dw_and (dt_cmp ops_gt op_gt (d_var (i := 2) (show ¬ 2 ∈ ([4] : List Nat) by decide)) d_int rfl) (dw_and1 (dt_cmp (ops_eqA) (op_eqA (u64 hr)) (d_mod (d_t1 cas_int call_intA T.n_int (d_ix (d_var (i := 0) (show ¬ 0 ∈ ([4] : List Nat) by decide)) (d_var (i := 1) (show ¬ 1 ∈ ([4] : List Nat) by decide)))) d_int) d_int rfl))))
  (ss_cons (s_ret rfl (d_call (ok_law_ring_of_five T) (hr.mono (by decide)) T.m_law_ring_of_five T.F_law_ring_of_five.kp T.b_law_ring_of_five (fun σ => passAt (takes_of rfl rfl rfl rfl) σ) (a_cons (d_var (i := 0) (show ¬ 0 ∈ ([4] : List Nat) by decide)) (a_cons (d_add (d_var (i := 1) (show ¬ 1 ∈ ([4] : List Nat) by decide)) d_int) a_nil))))
  ss_nil)
  ss_nil)
  (ss_cons (s_set (i := 3) (show ¬ 3 ∈ ([4] : List Nat) by decide) sc_law_net.nd (d_add d_int (d_mod (d_t1 cas_int call_intA T.n_int (d_fdiv (d_ix (d_var (i := 0) (show ¬ 0 ∈ ([4] : List Nat) by decide)) (d_var (i := 1) (show ¬ 1 ∈ ([4] : List Nat) by decide))) d_int)) (d_var (i := 2) (show ¬ 2 ∈ ([4] : List Nat) by decide)))))
  (ss_cons (s_setF (i := 4) (show 4 ∈ ([4] : List Nat) by decide) (io_ne hio (by decide)) sc_law_net.nd (d_lst a_nil))
  (ss_cons (s_set (i := 5) (show ¬ 5 ∈ ([4] : List Nat) by decide) sc_law_net.nd d_int)
  (ss_cons (s_for (passes_of rfl) rfl (i_iK (io_not (js := [false, false, false, false, false, false, true, true, true]) hio rfl) (i_range1 (d_var (i := 3) (show ¬ 3 ∈ ([4] : List Nat) by decide)) T.n_range)) (g_name (i := 6) (show ¬ 6 ∈ ([4] : List Nat) by decide) sc_law_net.nd)
  (ss_sK (io_not (js := [false, false, false, false, false, false, true, true, true]) hio rfl) (ss_cons (s_for (passes_of rfl) rfl (i_iK (io_not (js := [false, false, false, false, false, false, false, true, true]) hio rfl) (i_range1 (d_var (i := 3) (show ¬ 3 ∈ ([4] : List Nat) by decide)) T.n_range)) (g_name (i := 7) (show ¬ 7 ∈ ([4] : List Nat) by decide) sc_law_net.nd)
  (ss_sK (io_not (js := [false, false, false, false, false, false, false, true, true]) hio rfl) (ss_cons (s_if (dt_cmp (ops_neA) (op_neA (u64 hr)) (d_var (i := 6) (show ¬ 6 ∈ ([4] : List Nat) by decide)) (d_var (i := 7) (show ¬ 7 ∈ ([4] : List Nat) by decide)) rfl)
  (ss_cons (s_set (i := 8) (show ¬ 8 ∈ ([4] : List Nat) by decide) sc_law_net.nd (d_mod (d_t1 cas_int call_intA T.n_int (d_fdiv (d_ix (d_var (i := 0) (show ¬ 0 ∈ ([4] : List Nat) by decide)) (d_add (d_add (d_var (i := 1) (show ¬ 1 ∈ ([4] : List Nat) by decide)) d_int) (d_fdiv (d_var (i := 5) (show ¬ 5 ∈ ([4] : List Nat) by decide)) d_int))) (d_ix (DF.de (d_lst (a_cons d_int (a_cons d_int (a_cons d_int (a_cons d_int a_nil)))))) (d_mod (d_t1 cas_int call_intA T.n_int (d_var (i := 5) (show ¬ 5 ∈ ([4] : List Nat) by decide))) d_int)))) d_int))
  (ss_cons (s_set (i := 5) (show ¬ 5 ∈ ([4] : List Nat) by decide) sc_law_net.nd (d_add (d_var (i := 5) (show ¬ 5 ∈ ([4] : List Nat) by decide)) d_int))
  (ss_cons (s_if (dt_cmp ops_lt op_lt (d_var (i := 8) (show ¬ 8 ∈ ([4] : List Nat) by decide)) (d_add (d_add d_int (d_t1 cas_int call_intA T.n_int (d_fdiv (d_ix (d_var (i := 0) (show ¬ 0 ∈ ([4] : List Nat) by decide)) (d_var (i := 1) (show ¬ 1 ∈ ([4] : List Nat) by decide))) d_int))) (d_mod (d_t1 cas_int call_intA T.n_int (d_ix (d_var (i := 0) (show ¬ 0 ∈ ([4] : List Nat) by decide)) (d_var (i := 1) (show ¬ 1 ∈ ([4] : List Nat) by decide)))) d_int)) rfl)
  (ss_cons (s_expr (d_mut (i := 4) kd_lst tyV_lst mus_append mt_append F.plainAttrs_list F.slot_list_append F.type_list_append (show 4 ∈ ([4] : List Nat) by decide) (a_cons (d_tup (a_cons (d_var (i := 6) (show ¬ 6 ∈ ([4] : List Nat) by decide)) (a_cons (d_var (i := 7) (show ¬ 7 ∈ ([4] : List Nat) by decide)) a_nil))) a_nil)))
  ss_nil)
  ss_nil)
  ss_nil)))
  ss_nil)
  ss_nil)))
  ss_nil)))
  (ss_cons (s_ret rfl (d_tup (a_cons (d_var (i := 3) (show ¬ 3 ∈ ([4] : List Nat) by decide)) (a_cons (d_fz (i := 4) (show 4 ∈ ([4] : List Nat) by decide) (io_ne hio (by decide))) a_nil))))
  ss_nil))))))
theorem sc_law_knows : FnScope [(PySem.Str.ofString "_law_net_here"), (PySem.Str.ofString "_law_knows_here"), (PySem.Str.ofString "_law_i"), (PySem.Str.ofString "_law_arc")] [(PySem.Str.ofString "_law_net_here")] (defScope st_law_knows) := ⟨rfl, rfl, rfl, by decide +kernel, rfl, by decide +kernel, by decide +kernel⟩
theorem ok_law_knows (T : Txt G) : FnOk G.P G.w G.K G.mg G.base (L2.CX G.P G.w) 1 T.f_law_knows T.fd_law_knows [(PySem.Str.ofString "_law_net_here")] (spOf G [false] false fn_law_knows) :=
  fnok_of (G := G) (M := [1]) T.F_law_knows sc_law_knows rfl (by decide) (.inl rfl) fun cdv A outer s H E io Hv hio hr =>
  (ss_cons (s_setF (i := 1) (show 1 ∈ ([1] : List Nat) by decide) (io_ne hio (by decide)) sc_law_knows.nd (d_lst a_nil))
  (ss_cons (s_for (passes_of rfl) rfl (i_iK (io_not (js := [false, false, true, false]) hio rfl) (i_range1 (d_ix (d_var (i := 0) (show ¬ 0 ∈ ([1] : List Nat) by decide)) d_int) T.n_range)) (g_name (i := 2) (show ¬ 2 ∈ ([1] : List Nat) by decide) sc_law_knows.nd)
  (ss_sK (io_not (js := [false, false, true, false]) hio rfl) (ss_cons (s_expr (d_mut (i := 1) kd_lst tyV_lst mus_append mt_append F.plainAttrs_list F.slot_list_append F.type_list_append (show 1 ∈ ([1] : List Nat) by decide) (a_cons (DF.de (d_lc (own := [((PySem.Str.ofString "_law_arc"), 3)]) (show ∀ v ∈ ([3] : List Nat), ¬ v ∈ ([1] : List Nat) by decide) (by decide) rfl sc_law_knows.nd (i_val (d_ix (d_var (i := 0) (show ¬ 0 ∈ ([1] : List Nat) by decide)) d_int)) (blkOk_by (by kernel_rfl)) (fun _ _ _ _ _ => (g_name (i := 3) (show ¬ 3 ∈ ([1] : List Nat) by decide) sc_law_knows.nd)) (fun _ _ _ _ _ => (pts1 (dt_cmp (ops_eqA) (op_eqA (u64 hr)) (d_ix (d_var (i := 3) (show ¬ 3 ∈ ([1] : List Nat) by decide)) d_int) (d_var (i := 2) (show ¬ 2 ∈ ([1] : List Nat) by decide)) rfl))) (fun _ _ _ _ _ => (d_ix (d_var (i := 3) (show ¬ 3 ∈ ([1] : List Nat) by decide)) d_int)))) a_nil)))
  ss_nil)))
  (ss_cons (s_ret rfl (d_fz (i := 1) (show 1 ∈ ([1] : List Nat) by decide) (io_ne hio (by decide))))
  ss_nil)))
theorem sc_is_below : FnScope [(PySem.Str.ofString "value"), (PySem.Str.ofString "many")] [(PySem.Str.ofString "value"), (PySem.Str.ofString "many")] (defScope st_is_below) := ⟨rfl, rfl, rfl, by decide +kernel, rfl, by decide +kernel, by decide +kernel⟩
theorem ok_is_below (T : Txt G) : FnOk G.P G.w G.K G.mg G.base (L2.CX G.P G.w) 1 T.f_is_below T.fd_is_below [(PySem.Str.ofString "value"), (PySem.Str.ofString "many")] (spOf G [false, false] false fn_is_below) :=
  fnok_of (G := G) (M := []) T.F_is_below sc_is_below rfl (by decide) (.inl rfl) fun cdv A outer s H E io Hv hio hr =>
  (ss_cons (s_ret rfl (d_and (d_isi .int (d_var (i := 0) (show ¬ 0 ∈ ([] : List Nat) by decide)) T.n_isinstance T.n_int (by decide +kernel)) (d_and (d_not (d_isi .bl (d_var (i := 0) (show ¬ 0 ∈ ([] : List Nat) by decide)) T.n_isinstance T.n_bool (by decide +kernel))) (d_one (d_chain (ops_leA) ops_lt (op_leA (u0 hr)) op_lt d_int (d_var (i := 0) (show ¬ 0 ∈ ([] : List Nat) by decide)) (d_var (i := 1) (show ¬ 1 ∈ ([] : List Nat) by decide)))))))
  ss_nil)
theorem sc_first_wrong_arc : FnScope [(PySem.Str.ofString "size"), (PySem.Str.ofString "arcs"), (PySem.Str.ofString "ahead"), (PySem.Str.ofString "number"), (PySem.Str.ofString "arc"), (PySem.Str.ofString "place")] [(PySem.Str.ofString "size"), (PySem.Str.ofString "arcs")] (defScope st_first_wrong_arc) := ⟨rfl, rfl, rfl, by decide +kernel, rfl, by decide +kernel, by decide +kernel⟩
theorem ok_first_wrong_arc (T : Txt G) : FnOk G.P G.w G.K G.mg G.base (L2.CX G.P G.w) 2 T.f_first_wrong_arc T.fd_first_wrong_arc [(PySem.Str.ofString "size"), (PySem.Str.ofString "arcs")] (spOf G [false, false] false fn_first_wrong_arc) :=
  fnok_of (G := G) (M := []) T.F_first_wrong_arc sc_first_wrong_arc rfl (by decide) (.inl rfl) fun cdv A outer s H E io Hv hio hr =>
  (ss_cons (s_if (dt_not (dt_val (d_isi2 .lst .tup (d_var (i := 1) (show ¬ 1 ∈ ([] : List Nat) by decide)) T.n_isinstance T.n_list (by decide +kernel) T.n_tuple (by decide +kernel))))
  (ss_cons (s_ret rfl d_int)
  ss_nil)
  ss_nil)
  (ss_cons (s_set (i := 2) (show ¬ 2 ∈ ([] : List Nat) by decide) sc_first_wrong_arc.nd (d_tup (a_cons (d_neg d_int) (a_cons (d_neg d_int) a_nil))))
  (ss_cons (s_for (passes_of rfl) rfl (i_iK (io_not (js := [false, false, false, true, true, false]) hio rfl) (i_enum (d_var (i := 1) (show ¬ 1 ∈ ([] : List Nat) by decide)) T.n_enumerate)) (g_tup rfl (gs_cons (i := 3) (show ¬ 3 ∈ ([] : List Nat) by decide) sc_first_wrong_arc.nd (gs_cons (i := 4) (show ¬ 4 ∈ ([] : List Nat) by decide) sc_first_wrong_arc.nd gs_nil)))
  (ss_sK (io_not (js := [false, false, false, true, true, false]) hio rfl) (ss_cons (s_if (DW.dt (dw_or (dt_not (dt_val (d_isi .tup (d_var (i := 4) (show ¬ 4 ∈ ([] : List Nat) by decide)) T.n_isinstance T.n_tuple (by decide +kernel)))) (dw_or (dt_cmp (ops_neA) (op_neA (u64 hr)) (d_b1 (cas_len rfl) call_len T.n_len (d_var (i := 4) (show ¬ 4 ∈ ([] : List Nat) by decide))) d_int rfl) (dw_or1 (dt_not (dt_val (d_b1 (cas_all rfl) (cr_all rfl) T.n_all (DF.de (d_lc (own := [((PySem.Str.ofString "place"), 5)]) (show ∀ v ∈ ([5] : List Nat), ¬ v ∈ ([] : List Nat) by decide) (by decide) rfl sc_first_wrong_arc.nd (i_val (d_var (i := 4) (show ¬ 4 ∈ ([] : List Nat) by decide))) (blkOk_by (by kernel_rfl)) (fun _ _ _ _ _ => (g_name (i := 5) (show ¬ 5 ∈ ([] : List Nat) by decide) sc_first_wrong_arc.nd)) (fun _ _ _ _ _ => d_yes) (fun _ _ _ _ _ => (d_call (ok_is_below T) (hr.mono (by decide)) T.m_is_below T.F_is_below.kp T.b_is_below (fun σ => passAt takes0 σ) (a_cons (d_var (i := 5) (show ¬ 5 ∈ ([] : List Nat) by decide)) (a_cons (d_var (i := 0) (show ¬ 0 ∈ ([] : List Nat) by decide)) a_nil)))))))))))))
  (ss_cons (s_ret rfl (d_var (i := 3) (show ¬ 3 ∈ ([] : List Nat) by decide)))
  ss_nil)
  ss_nil)
  (ss_cons (s_if (DW.dt (dw_or (dt_cmp (ops_eqA) (op_eqA (u64 hr)) (d_ix (d_var (i := 4) (show ¬ 4 ∈ ([] : List Nat) by decide)) d_int) (d_ix (d_var (i := 4) (show ¬ 4 ∈ ([] : List Nat) by decide)) d_int) rfl) (dw_or1 (dt_cmp (ops_leA) (op_leA (u0 hr)) (d_var (i := 4) (show ¬ 4 ∈ ([] : List Nat) by decide)) (d_var (i := 2) (show ¬ 2 ∈ ([] : List Nat) by decide)) rfl))))
  (ss_cons (s_ret rfl (d_var (i := 3) (show ¬ 3 ∈ ([] : List Nat) by decide)))
  ss_nil)
  ss_nil)
  (ss_cons (s_set (i := 2) (show ¬ 2 ∈ ([] : List Nat) by decide) sc_first_wrong_arc.nd (d_var (i := 4) (show ¬ 4 ∈ ([] : List Nat) by decide)))
  ss_nil)))))
  (ss_cons (s_ret rfl d_non)
  ss_nil))))
theorem sc_Net_init : FnScope [(PySem.Str.ofString "self"), (PySem.Str.ofString "size"), (PySem.Str.ofString "arcs"), (PySem.Str.ofString "wrong"), (PySem.Str.ofString "place"), (PySem.Str.ofString "i"), (PySem.Str.ofString "j")] [(PySem.Str.ofString "self"), (PySem.Str.ofString "size"), (PySem.Str.ofString "arcs")] (defScope st_Net_init) := ⟨rfl, rfl, rfl, by decide +kernel, rfl, by decide +kernel, by decide +kernel⟩
theorem ok_Net_init (T : Txt G) : FnOk G.P G.w G.K G.mg G.base (L2.CX G.P G.w) 3 T.f_Net_init T.fd_Net_init [(PySem.Str.ofString "self"), (PySem.Str.ofString "size"), (PySem.Str.ofString "arcs")] (spOf G [true, false, false] false fn_Net_init) :=
  fnok_of (G := G) (M := [0]) T.F_Net_init sc_Net_init rfl (by decide) (.inl rfl) fun cdv A outer s H E io Hv hio hr =>
  (ss_cons (s_if (DW.dt (dw_or (dt_not (dt_val (d_call (ok_is_below T) (hr.mono (by decide)) T.m_is_below T.F_is_below.kp T.b_is_below (fun σ => passAt (takes_of rfl rfl rfl rfl) σ) (a_cons (d_var (i := 1) (show ¬ 1 ∈ ([0] : List Nat) by decide)) (a_cons (d_add (d_globE T.c_MOST_PLACES repI) d_int) a_nil))))) (dw_or1 (dt_cmp ops_lt op_lt (d_var (i := 1) (show ¬ 1 ∈ ([0] : List Nat) by decide)) d_int rfl))))
  (ss_cons (s_raise (c := 1) T.ox_InvalidNet T.oi_InvalidNet T.ot_InvalidNet T.ok_InvalidNet (hr.mono (by decide)) T.ob_InvalidNet T.om_InvalidNet T.ol_InvalidNet (by decide) rfl (takes_of rfl rfl rfl rfl) (a_cons d_str (a_cons d_int a_nil)))
  ss_nil)
  ss_nil)
  (ss_cons (s_set (i := 3) (show ¬ 3 ∈ ([0] : List Nat) by decide) sc_Net_init.nd (d_call (ok_first_wrong_arc T) (hr.mono (by decide)) T.m_first_wrong_arc T.F_first_wrong_arc.kp T.b_first_wrong_arc (fun σ => passAt (takes_of rfl rfl rfl rfl) σ) (a_cons (d_var (i := 1) (show ¬ 1 ∈ ([0] : List Nat) by decide)) (a_cons (d_var (i := 2) (show ¬ 2 ∈ ([0] : List Nat) by decide)) a_nil))))
  (ss_cons (s_if (dt_cmp ops_notN op_notN (d_var (i := 3) (show ¬ 3 ∈ ([0] : List Nat) by decide)) d_non rfl)
  (ss_cons (s_raise (c := 1) T.ox_InvalidNet T.oi_InvalidNet T.ot_InvalidNet T.ok_InvalidNet (hr.mono (by decide)) T.ob_InvalidNet T.om_InvalidNet T.ol_InvalidNet (by decide) rfl (takes_of rfl rfl rfl rfl) (a_cons d_str (a_cons (d_var (i := 3) (show ¬ 3 ∈ ([0] : List Nat) by decide)) a_nil)))
  ss_nil)
  ss_nil)
  (ss_cons (s_fldS (i := 0) (n := 0) (cs := [0]) (show 0 ∈ ([0] : List Nat) by decide) (d_var (i := 1) (show ¬ 1 ∈ ([0] : List Nat) by decide)) T.fx_size T.inj_size T.f1_Net_size)
  (ss_cons (s_fldS (i := 0) (n := 1) (cs := [0]) (show 0 ∈ ([0] : List Nat) by decide) (d_t1 (cas_tup rfl) call_tuple_of T.n_tuple (d_var (i := 2) (show ¬ 2 ∈ ([0] : List Nat) by decide))) T.fx_arcs T.inj_arcs T.f1_Net_arcs)
  (ss_cons (s_fldS (i := 0) (n := 2) (cs := [0]) (show 0 ∈ ([0] : List Nat) by decide) (d_t1 (cas_tup rfl) call_tuple_of T.n_tuple (DF.de (d_lc (own := [((PySem.Str.ofString "place"), 4)]) (show ∀ v ∈ ([4] : List Nat), ¬ v ∈ ([0] : List Nat) by decide) (by decide) rfl sc_Net_init.nd (i_range1 (d_var (i := 1) (show ¬ 1 ∈ ([0] : List Nat) by decide)) T.n_range) (blkOk_by (by kernel_rfl)) (fun _ _ _ _ _ => (g_name (i := 4) (show ¬ 4 ∈ ([0] : List Nat) by decide) sc_Net_init.nd)) (fun _ _ _ _ _ => d_yes) (fun _ _ _ _ _ => (d_t1 (cas_tup rfl) call_tuple_of T.n_tuple (DF.de (d_lc (own := [((PySem.Str.ofString "i"), 5), ((PySem.Str.ofString "j"), 6)]) (show ∀ v ∈ ([5, 6] : List Nat), ¬ v ∈ ([0] : List Nat) by decide) (by decide) rfl sc_Net_init.nd (i_val (d_attr (n := 1) (cs := [0]) (d_pl (i := 0) (show 0 ∈ ([0] : List Nat) by decide)) T.fx_arcs T.inj_arcs T.fc_arcs)) (blkOk_by (by kernel_rfl)) (fun _ _ _ _ _ => (g_tup rfl (gs_cons (i := 5) (show ¬ 5 ∈ ([0] : List Nat) by decide) sc_Net_init.nd (gs_cons (i := 6) (show ¬ 6 ∈ ([0] : List Nat) by decide) sc_Net_init.nd gs_nil)))) (fun _ _ _ _ _ => (pts1 (dt_cmp (ops_eqA) (op_eqA (u64 hr)) (d_var (i := 5) (show ¬ 5 ∈ ([0] : List Nat) by decide)) (d_var (i := 4) (show ¬ 4 ∈ ([0] : List Nat) by decide)) rfl))) (fun _ _ _ _ _ => (d_var (i := 6) (show ¬ 6 ∈ ([0] : List Nat) by decide)))))))))) T.fx_knows T.inj_knows T.f1_Net_knows)
  ss_nil))))))
theorem sc_law_words : FnScope [(PySem.Str.ofString "_law_size"), (PySem.Str.ofString "_law_q"), (PySem.Str.ofString "_law_words_here"), (PySem.Str.ofString "_law_i"), (PySem.Str.ofString "_law_longer"), (PySem.Str.ofString "_law_word"), (PySem.Str.ofString "_law_letter")] [(PySem.Str.ofString "_law_size"), (PySem.Str.ofString "_law_q")] (defScope st_law_words) := ⟨rfl, rfl, rfl, by decide +kernel, rfl, by decide +kernel, by decide +kernel⟩
theorem ok_law_words (T : Txt G) : FnOk G.P G.w G.K G.mg G.base (L2.CX G.P G.w) 1 T.f_law_words T.fd_law_words [(PySem.Str.ofString "_law_size"), (PySem.Str.ofString "_law_q")] (spOf G [false, false] false fn_law_words) :=
  fnok_of (G := G) (M := [4]) T.F_law_words sc_law_words rfl (by decide) (.inl rfl) fun cdv A outer s H E io Hv hio hr =>
  (ss_cons (s_set (i := 2) (show ¬ 2 ∈ ([4] : List Nat) by decide) sc_law_words.nd (DF.de (d_lst (a_cons (d_tup a_nil) a_nil))))
  (ss_cons (s_for (passes_of rfl) rfl (i_iK (io_not (js := [false, false, false, true, true, true, true]) hio rfl) (i_range1 (d_var (i := 0) (show ¬ 0 ∈ ([4] : List Nat) by decide)) T.n_range)) (g_name (i := 3) (show ¬ 3 ∈ ([4] : List Nat) by decide) sc_law_words.nd)
  (ss_sK (io_not (js := [false, false, false, true, true, true, true]) hio rfl) (ss_cons (s_setF (i := 4) (show 4 ∈ ([4] : List Nat) by decide) (io_ne hio (by decide)) sc_law_words.nd (d_lst a_nil))
  (ss_cons (s_for (passes_of rfl) rfl (i_iK (io_not (js := [false, false, false, false, false, true, true]) hio rfl) (i_val (d_var (i := 2) (show ¬ 2 ∈ ([4] : List Nat) by decide)))) (g_name (i := 5) (show ¬ 5 ∈ ([4] : List Nat) by decide) sc_law_words.nd)
  (ss_sK (io_not (js := [false, false, false, false, false, true, true]) hio rfl) (ss_cons (s_for (passes_of rfl) rfl (i_iK (io_not (js := [false, false, false, false, false, false, true]) hio rfl) (i_range1 (d_var (i := 1) (show ¬ 1 ∈ ([4] : List Nat) by decide)) T.n_range)) (g_name (i := 6) (show ¬ 6 ∈ ([4] : List Nat) by decide) sc_law_words.nd)
  (ss_sK (io_not (js := [false, false, false, false, false, false, true]) hio rfl) (ss_cons (s_expr (d_mut (i := 4) kd_lst tyV_lst mus_append mt_append F.plainAttrs_list F.slot_list_append F.type_list_append (show 4 ∈ ([4] : List Nat) by decide) (a_cons (d_add (d_var (i := 5) (show ¬ 5 ∈ ([4] : List Nat) by decide)) (d_tup (a_cons (d_var (i := 6) (show ¬ 6 ∈ ([4] : List Nat) by decide)) a_nil))) a_nil)))
  ss_nil)))
  ss_nil)))
  (ss_cons (s_set (i := 2) (show ¬ 2 ∈ ([4] : List Nat) by decide) sc_law_words.nd (d_fz (i := 4) (show 4 ∈ ([4] : List Nat) by decide) (io_ne hio (by decide))))
  ss_nil)))))
  (ss_cons (s_ret rfl (d_var (i := 2) (show ¬ 2 ∈ ([4] : List Nat) by decide)))
  ss_nil)))
theorem sc_law_excludes : FnScope [(PySem.Str.ofString "_law_knows_here"), (PySem.Str.ofString "_law_one"), (PySem.Str.ofString "_law_other"), (PySem.Str.ofString "_law_i"), (PySem.Str.ofString "_law_j")] [(PySem.Str.ofString "_law_knows_here"), (PySem.Str.ofString "_law_one"), (PySem.Str.ofString "_law_other")] (defScope st_law_excludes) := ⟨rfl, rfl, rfl, by decide +kernel, rfl, by decide +kernel, by decide +kernel⟩
theorem ok_law_excludes (T : Txt G) : FnOk G.P G.w G.K G.mg G.base (L2.CX G.P G.w) 1 T.f_law_excludes T.fd_law_excludes [(PySem.Str.ofString "_law_knows_here"), (PySem.Str.ofString "_law_one"), (PySem.Str.ofString "_law_other")] (spOf G [false, false, false] false fn_law_excludes) :=
  fnok_of (G := G) (M := []) T.F_law_excludes sc_law_excludes rfl (by decide) (.inl rfl) fun cdv A outer s H E io Hv hio hr =>
  (ss_cons (s_for (passes_of rfl) rfl (i_iK (io_not (js := [false, false, false, true, false]) hio rfl) (i_range1 (d_b1 (cas_len rfl) call_len T.n_len (d_var (i := 0) (show ¬ 0 ∈ ([] : List Nat) by decide))) T.n_range)) (g_name (i := 3) (show ¬ 3 ∈ ([] : List Nat) by decide) sc_law_excludes.nd)
  (ss_sK (io_not (js := [false, false, false, true, false]) hio rfl) (ss_cons (s_if (DW.dt (dw_and (dt_cmp (ops_neA) (op_neA (u64 hr)) (d_ix (d_var (i := 1) (show ¬ 1 ∈ ([] : List Nat) by decide)) (d_var (i := 3) (show ¬ 3 ∈ ([] : List Nat) by decide))) (d_ix (d_var (i := 2) (show ¬ 2 ∈ ([] : List Nat) by decide)) (d_var (i := 3) (show ¬ 3 ∈ ([] : List Nat) by decide))) rfl) (dw_and1 (dt_cmp (ops_eqA) (op_eqA (u64 hr)) (d_b1 (cas_len rfl) call_len T.n_len (DF.de (d_lc (own := [((PySem.Str.ofString "_law_j"), 4)]) (show ∀ v ∈ ([4] : List Nat), ¬ v ∈ ([] : List Nat) by decide) (by decide) rfl sc_law_excludes.nd (i_val (d_ix (d_var (i := 0) (show ¬ 0 ∈ ([] : List Nat) by decide)) (d_var (i := 3) (show ¬ 3 ∈ ([] : List Nat) by decide)))) (blkOk_by (by kernel_rfl)) (fun _ _ _ _ _ => (g_name (i := 4) (show ¬ 4 ∈ ([] : List Nat) by decide) sc_law_excludes.nd)) (fun _ _ _ _ _ => (pts1 (dt_cmp (ops_neA) (op_neA (u64 hr)) (d_ix (d_var (i := 1) (show ¬ 1 ∈ ([] : List Nat) by decide)) (d_var (i := 4) (show ¬ 4 ∈ ([] : List Nat) by decide))) (d_ix (d_var (i := 2) (show ¬ 2 ∈ ([] : List Nat) by decide)) (d_var (i := 4) (show ¬ 4 ∈ ([] : List Nat) by decide))) rfl))) (fun _ _ _ _ _ => (d_var (i := 4) (show ¬ 4 ∈ ([] : List Nat) by decide)))))) d_int rfl))))
  (ss_cons (s_ret rfl (d_var (i := 3) (show ¬ 3 ∈ ([] : List Nat) by decide)))
  ss_nil)
  ss_nil)
  ss_nil)))
  (ss_cons (s_ret rfl d_non)
  ss_nil))
theorem sc_law_store : FnScope [(PySem.Str.ofString "_law_knows_here"), (PySem.Str.ofString "_law_words_here"), (PySem.Str.ofString "_law_store_here"), (PySem.Str.ofString "_law_word"), (PySem.Str.ofString "_law_one")] [(PySem.Str.ofString "_law_knows_here"), (PySem.Str.ofString "_law_words_here")] (defScope st_law_store) := ⟨rfl, rfl, rfl, by decide +kernel, rfl, by decide +kernel, by decide +kernel⟩
theorem ok_law_store (T : Txt G) : FnOk G.P G.w G.K G.mg G.base (L2.CX G.P G.w) 2 T.f_law_store T.fd_law_store [(PySem.Str.ofString "_law_knows_here"), (PySem.Str.ofString "_law_words_here")] (spOf G [false, false] false fn_law_store) :=
  fnok_of (G := G) (M := [2]) T.F_law_store sc_law_store rfl (by decide) (.inl rfl) fun cdv A outer s H E io Hv hio hr =>
  (ss_cons (s_setF (i := 2) (show 2 ∈ ([2] : List Nat) by decide) (io_ne hio (by decide)) sc_law_store.nd (d_lst a_nil))
  (ss_cons (s_for (passes_of rfl) rfl (i_iK (io_not (js := [false, false, false, true, false]) hio rfl) (i_val (d_var (i := 1) (show ¬ 1 ∈ ([2] : List Nat) by decide)))) (g_name (i := 3) (show ¬ 3 ∈ ([2] : List Nat) by decide) sc_law_store.nd)
  (ss_sK (io_not (js := [false, false, false, true, false]) hio rfl) (ss_cons (s_if (DW.dt (dw_and (dt_cmp (ops_notInA2) (op_notInA2 (u65 hr)) (d_var (i := 3) (show ¬ 3 ∈ ([2] : List Nat) by decide)) (d_pl (i := 2) (show 2 ∈ ([2] : List Nat) by decide)) rfl) (dw_and1 (dt_cmp (ops_eqA) (op_eqA (u64 hr)) (d_b1 (cas_len rfl) call_len T.n_len (DF.de (d_lcO (own := [((PySem.Str.ofString "_law_one"), 4)]) (i0 := 2) (show ∀ v ∈ ([4] : List Nat), ¬ v ∈ ([2] : List Nat) by decide) (by decide) (show 2 ∈ ([2] : List Nat) by decide) rfl sc_law_store.nd (blkOk_by (by kernel_rfl)) (fun _ _ _ _ _ => (g_name (i := 4) (show ¬ 4 ∈ ([2] : List Nat) by decide) sc_law_store.nd)) (fun _ _ _ _ _ => (pts1 (dt_cmp ops_notN op_notN (d_call (ok_law_excludes T) (hr.mono (by decide)) T.m_law_excludes T.F_law_excludes.kp T.b_law_excludes (fun σ => passAt takes0 σ) (a_cons (d_var (i := 0) (show ¬ 0 ∈ ([2] : List Nat) by decide)) (a_cons (d_var (i := 4) (show ¬ 4 ∈ ([2] : List Nat) by decide)) (a_cons (d_var (i := 3) (show ¬ 3 ∈ ([2] : List Nat) by decide)) a_nil)))) d_non rfl))) (fun _ _ _ _ _ => (d_var (i := 4) (show ¬ 4 ∈ ([2] : List Nat) by decide)))))) d_int rfl))))
  (ss_cons (s_expr (d_mut (i := 2) kd_lst tyV_lst mus_append mt_append F.plainAttrs_list F.slot_list_append F.type_list_append (show 2 ∈ ([2] : List Nat) by decide) (a_cons (d_var (i := 3) (show ¬ 3 ∈ ([2] : List Nat) by decide)) a_nil)))
  ss_nil)
  ss_nil)
  ss_nil)))
  (ss_cons (s_ret rfl (DF.de (d_b1F (caf_sort rfl) (cr_sortA (u16 hr)) T.n_sorted (d_pl (i := 2) (show 2 ∈ ([2] : List Nat) by decide)))))
  ss_nil)))
theorem sc_count_words : FnScope [(PySem.Str.ofString "net"), (PySem.Str.ofString "q"), (PySem.Str.ofString "total"), (PySem.Str.ofString "_")] [(PySem.Str.ofString "net"), (PySem.Str.ofString "q")] (defScope st_count_words) := ⟨rfl, rfl, rfl, by decide +kernel, rfl, by decide +kernel, by decide +kernel⟩
theorem ok_count_words (T : Txt G) : FnOk G.P G.w G.K G.mg G.base (L2.CX G.P G.w) 3 T.f_count_words T.fd_count_words [(PySem.Str.ofString "net"), (PySem.Str.ofString "q")] (spOf G [false, false] false fn_count_words) :=
  fnok_of (G := G) (M := []) T.F_count_words sc_count_words rfl (by decide) (.inl rfl) fun cdv A outer s H E io Hv hio hr =>
  (ss_cons (s_if (DW.dt (dw_or (dt_val (d_isi .bl (d_var (i := 1) (show ¬ 1 ∈ ([] : List Nat) by decide)) T.n_isinstance T.n_bool (by decide +kernel))) (dw_or (dt_not (dt_val (d_isi .int (d_var (i := 1) (show ¬ 1 ∈ ([] : List Nat) by decide)) T.n_isinstance T.n_int (by decide +kernel)))) (dw_or (dt_cmp ops_lt op_lt (d_var (i := 1) (show ¬ 1 ∈ ([] : List Nat) by decide)) d_int rfl) (dw_or1 (dt_cmp ops_gt op_gt (d_var (i := 1) (show ¬ 1 ∈ ([] : List Nat) by decide)) d_int rfl))))))
  (ss_cons (s_raise (c := 0) T.ox_InvalidNumber T.oi_InvalidNumber T.ot_InvalidNumber T.ok_InvalidNumber (hr.mono (by decide)) T.ob_InvalidNumber T.om_InvalidNumber T.ol_InvalidNumber (by decide) rfl (takes_of rfl rfl rfl rfl) (a_cons (d_var (i := 1) (show ¬ 1 ∈ ([] : List Nat) by decide)) a_nil))
  ss_nil)
  ss_nil)
  (ss_cons (s_set (i := 2) (show ¬ 2 ∈ ([] : List Nat) by decide) sc_count_words.nd d_int)
  (ss_cons (s_for (passes_of rfl) rfl (i_iK (io_not (js := [false, false, false, true]) hio rfl) (i_range1 (d_attr (n := 0) (cs := [0]) (d_var (i := 0) (show ¬ 0 ∈ ([] : List Nat) by decide)) T.fx_size T.inj_size T.fc_size) T.n_range)) (g_name (i := 3) (show ¬ 3 ∈ ([] : List Nat) by decide) sc_count_words.nd)
  (ss_sK (io_not (js := [false, false, false, true]) hio rfl) (ss_cons (s_aug (i := 2) (show ¬ 2 ∈ ([] : List Nat) by decide) ops_imul ip_mul sc_count_words.nd (d_var (i := 1) (show ¬ 1 ∈ ([] : List Nat) by decide)))
  (ss_cons (s_if (dt_cmp ops_gt op_gt (d_var (i := 2) (show ¬ 2 ∈ ([] : List Nat) by decide)) (d_globE T.c_MOST_WORDS repI) rfl)
  (ss_cons (s_raise (c := 0) T.ox_InvalidNumber T.oi_InvalidNumber T.ot_InvalidNumber T.ok_InvalidNumber (hr.mono (by decide)) T.ob_InvalidNumber T.om_InvalidNumber T.ol_InvalidNumber (by decide) rfl (takes_of rfl rfl rfl rfl) (a_cons (d_var (i := 1) (show ¬ 1 ∈ ([] : List Nat) by decide)) a_nil))
  ss_nil)
  ss_nil)
  ss_nil))))
  (ss_cons (s_ret rfl (d_var (i := 2) (show ¬ 2 ∈ ([] : List Nat) by decide)))
  ss_nil))))
theorem sc_is_word : FnScope [(PySem.Str.ofString "net"), (PySem.Str.ofString "q"), (PySem.Str.ofString "value"), (PySem.Str.ofString "letter")] [(PySem.Str.ofString "net"), (PySem.Str.ofString "q"), (PySem.Str.ofString "value")] (defScope st_is_word) := ⟨rfl, rfl, rfl, by decide +kernel, rfl, by decide +kernel, by decide +kernel⟩
theorem ok_is_word (T : Txt G) : FnOk G.P G.w G.K G.mg G.base (L2.CX G.P G.w) 1 T.f_is_word T.fd_is_word [(PySem.Str.ofString "net"), (PySem.Str.ofString "q"), (PySem.Str.ofString "value")] (spOf G [false, false, false] false fn_is_word) :=
  fnok_of (G := G) (M := []) T.F_is_word sc_is_word rfl (by decide) (.inl rfl) fun cdv A outer s H E io Hv hio hr =>
  (ss_cons (s_if (DW.dt (dw_or (dt_not (dt_val (d_isi .tup (d_var (i := 2) (show ¬ 2 ∈ ([] : List Nat) by decide)) T.n_isinstance T.n_tuple (by decide +kernel)))) (dw_or1 (dt_cmp (ops_neA) (op_neA (u64 hr)) (d_b1 (cas_len rfl) call_len T.n_len (d_var (i := 2) (show ¬ 2 ∈ ([] : List Nat) by decide))) (d_attr (n := 0) (cs := [0]) (d_var (i := 0) (show ¬ 0 ∈ ([] : List Nat) by decide)) T.fx_size T.inj_size T.fc_size) rfl))))
  (ss_cons (s_ret rfl d_bl)
  ss_nil)
  ss_nil)
  (ss_cons (s_for (passes_of rfl) rfl (i_iK (io_not (js := [false, false, false, true]) hio rfl) (i_val (d_var (i := 2) (show ¬ 2 ∈ ([] : List Nat) by decide)))) (g_name (i := 3) (show ¬ 3 ∈ ([] : List Nat) by decide) sc_is_word.nd)
  (ss_sK (io_not (js := [false, false, false, true]) hio rfl) (ss_cons (s_if (DW.dt (dw_or (dt_val (d_isi .bl (d_var (i := 3) (show ¬ 3 ∈ ([] : List Nat) by decide)) T.n_isinstance T.n_bool (by decide +kernel))) (dw_or (dt_not (dt_val (d_isi .int (d_var (i := 3) (show ¬ 3 ∈ ([] : List Nat) by decide)) T.n_isinstance T.n_int (by decide +kernel)))) (dw_or (dt_cmp ops_lt op_lt (d_var (i := 3) (show ¬ 3 ∈ ([] : List Nat) by decide)) d_int rfl) (dw_or1 (dt_cmp ops_ge op_ge (d_var (i := 3) (show ¬ 3 ∈ ([] : List Nat) by decide)) (d_var (i := 1) (show ¬ 1 ∈ ([] : List Nat) by decide)) rfl))))))
  (ss_cons (s_ret rfl d_bl)
  ss_nil)
  ss_nil)
  ss_nil)))
  (ss_cons (s_ret rfl d_bl)
  ss_nil)))
theorem sc_check_words : FnScope [(PySem.Str.ofString "net"), (PySem.Str.ofString "q"), (PySem.Str.ofString "words"), (PySem.Str.ofString "place"), (PySem.Str.ofString "word")] [(PySem.Str.ofString "net"), (PySem.Str.ofString "q"), (PySem.Str.ofString "words")] (defScope st_check_words) := ⟨rfl, rfl, rfl, by decide +kernel, rfl, by decide +kernel, by decide +kernel⟩
theorem ok_check_words (T : Txt G) : FnOk G.P G.w G.K G.mg G.base (L2.CX G.P G.w) 3 T.f_check_words T.fd_check_words [(PySem.Str.ofString "net"), (PySem.Str.ofString "q"), (PySem.Str.ofString "words")] (spOf G [false, false, false] false fn_check_words) :=
  fnok_of (G := G) (M := []) T.F_check_words sc_check_words rfl (by decide) (.inl rfl) fun cdv A outer s H E io Hv hio hr =>
  (ss_cons (s_if (dt_not (dt_val (d_isi .tup (d_var (i := 2) (show ¬ 2 ∈ ([] : List Nat) by decide)) T.n_isinstance T.n_tuple (by decide +kernel))))
  (ss_cons (s_raise (c := 3) T.ox_InvalidWords T.oi_InvalidWords T.ot_InvalidWords T.ok_InvalidWords (hr.mono (by decide)) T.ob_InvalidWords T.om_InvalidWords T.ol_InvalidWords (by decide) rfl (takes_of rfl rfl rfl rfl) (a_cons (d_var (i := 2) (show ¬ 2 ∈ ([] : List Nat) by decide)) a_nil))
  ss_nil)
  ss_nil)
  (ss_cons (s_for (passes_of rfl) rfl (i_iK (io_not (js := [false, false, false, true, true]) hio rfl) (i_enum (d_var (i := 2) (show ¬ 2 ∈ ([] : List Nat) by decide)) T.n_enumerate)) (g_tup rfl (gs_cons (i := 3) (show ¬ 3 ∈ ([] : List Nat) by decide) sc_check_words.nd (gs_cons (i := 4) (show ¬ 4 ∈ ([] : List Nat) by decide) sc_check_words.nd gs_nil)))
  (ss_sK (io_not (js := [false, false, false, true, true]) hio rfl) (ss_cons (s_if (DW.dt (dw_or (dt_not (dt_val (d_call (ok_is_word T) (hr.mono (by decide)) T.m_is_word T.F_is_word.kp T.b_is_word (fun σ => passAt (takes_of rfl rfl rfl rfl) σ) (a_cons (d_var (i := 0) (show ¬ 0 ∈ ([] : List Nat) by decide)) (a_cons (d_var (i := 1) (show ¬ 1 ∈ ([] : List Nat) by decide)) (a_cons (d_var (i := 4) (show ¬ 4 ∈ ([] : List Nat) by decide)) a_nil)))))) (dw_or1 (DW.dt (dw_and (dt_cmp ops_gt op_gt (d_var (i := 3) (show ¬ 3 ∈ ([] : List Nat) by decide)) d_int rfl) (dw_and1 (dt_cmp (ops_leA) (op_leA (u0 hr)) (d_var (i := 4) (show ¬ 4 ∈ ([] : List Nat) by decide)) (d_ix (d_var (i := 2) (show ¬ 2 ∈ ([] : List Nat) by decide)) (d_sub (d_var (i := 3) (show ¬ 3 ∈ ([] : List Nat) by decide)) d_int)) rfl)))))))
  (ss_cons (s_raise (c := 3) T.ox_InvalidWords T.oi_InvalidWords T.ot_InvalidWords T.ok_InvalidWords (hr.mono (by decide)) T.ob_InvalidWords T.om_InvalidWords T.ol_InvalidWords (by decide) rfl (takes_of rfl rfl rfl rfl) (a_cons (d_var (i := 2) (show ¬ 2 ∈ ([] : List Nat) by decide)) a_nil))
  ss_nil)
  ss_nil)
  ss_nil)))
  ss_nil))
theorem sc_parting_place : FnScope [(PySem.Str.ofString "net"), (PySem.Str.ofString "one"), (PySem.Str.ofString "other"), (PySem.Str.ofString "place"), (PySem.Str.ofString "known")] [(PySem.Str.ofString "net"), (PySem.Str.ofString "one"), (PySem.Str.ofString "other")] (defScope st_parting_place) := ⟨rfl, rfl, rfl, by decide +kernel, rfl, by decide +kernel, by decide +kernel⟩
theorem ok_parting_place (T : Txt G) : FnOk G.P G.w G.K G.mg G.base (L2.CX G.P G.w) 1 T.f_parting_place T.fd_parting_place [(PySem.Str.ofString "net"), (PySem.Str.ofString "one"), (PySem.Str.ofString "other")] (spOf G [false, false, false] false fn_parting_place) :=
  fnok_of (G := G) (M := []) T.F_parting_place sc_parting_place rfl (by decide) (.inl rfl) fun cdv A outer s H E io Hv hio hr =>
  (ss_cons (s_for (passes_of rfl) rfl (i_iK (io_not (js := [false, false, false, true, false]) hio rfl) (i_range1 (d_attr (n := 0) (cs := [0]) (d_var (i := 0) (show ¬ 0 ∈ ([] : List Nat) by decide)) T.fx_size T.inj_size T.fc_size) T.n_range)) (g_name (i := 3) (show ¬ 3 ∈ ([] : List Nat) by decide) sc_parting_place.nd)
  (ss_sK (io_not (js := [false, false, false, true, false]) hio rfl) (ss_cons (s_if (DW.dt (dw_and (dt_cmp (ops_neA) (op_neA (u64 hr)) (d_ix (d_var (i := 1) (show ¬ 1 ∈ ([] : List Nat) by decide)) (d_var (i := 3) (show ¬ 3 ∈ ([] : List Nat) by decide))) (d_ix (d_var (i := 2) (show ¬ 2 ∈ ([] : List Nat) by decide)) (d_var (i := 3) (show ¬ 3 ∈ ([] : List Nat) by decide))) rfl) (dw_and1 (dt_val (d_b1 (cas_all rfl) (cr_all rfl) T.n_all (DF.de (d_lc (own := [((PySem.Str.ofString "known"), 4)]) (show ∀ v ∈ ([4] : List Nat), ¬ v ∈ ([] : List Nat) by decide) (by decide) rfl sc_parting_place.nd (i_val (d_ix (d_attr (n := 2) (cs := [0]) (d_var (i := 0) (show ¬ 0 ∈ ([] : List Nat) by decide)) T.fx_knows T.inj_knows T.fc_knows) (d_var (i := 3) (show ¬ 3 ∈ ([] : List Nat) by decide)))) (blkOk_by (by kernel_rfl)) (fun _ _ _ _ _ => (g_name (i := 4) (show ¬ 4 ∈ ([] : List Nat) by decide) sc_parting_place.nd)) (fun _ _ _ _ _ => d_yes) (fun _ _ _ _ _ => (d_cmp (ops_eqA) (op_eqA (u64 hr)) (d_ix (d_var (i := 1) (show ¬ 1 ∈ ([] : List Nat) by decide)) (d_var (i := 4) (show ¬ 4 ∈ ([] : List Nat) by decide))) (d_ix (d_var (i := 2) (show ¬ 2 ∈ ([] : List Nat) by decide)) (d_var (i := 4) (show ¬ 4 ∈ ([] : List Nat) by decide))) rfl)))))))))
  (ss_cons (s_ret rfl (d_var (i := 3) (show ¬ 3 ∈ ([] : List Nat) by decide)))
  ss_nil)
  ss_nil)
  ss_nil)))
  (ss_cons (s_ret rfl d_non)
  ss_nil))
theorem sc_first_clash : FnScope [(PySem.Str.ofString "net"), (PySem.Str.ofString "q"), (PySem.Str.ofString "words"), (PySem.Str.ofString "first"), (PySem.Str.ofString "one"), (PySem.Str.ofString "other"), (PySem.Str.ofString "place")] [(PySem.Str.ofString "net"), (PySem.Str.ofString "q"), (PySem.Str.ofString "words")] (defScope st_first_clash) := ⟨rfl, rfl, rfl, by decide +kernel, rfl, by decide +kernel, by decide +kernel⟩
theorem ok_first_clash (T : Txt G) : FnOk G.P G.w G.K G.mg G.base (L2.CX G.P G.w) 4 T.f_first_clash T.fd_first_clash [(PySem.Str.ofString "net"), (PySem.Str.ofString "q"), (PySem.Str.ofString "words")] (spOf G [false, false, false] false fn_first_clash) :=
  fnok_of (G := G) (M := []) T.F_first_clash sc_first_clash rfl (by decide) (.inl rfl) fun cdv A outer s H E io Hv hio hr =>
  (ss_cons (s_expr (d_call (ok_count_words T) (hr.mono (by decide)) T.m_count_words T.F_count_words.kp T.b_count_words (fun σ => passAt (takes_of rfl rfl rfl rfl) σ) (a_cons (d_var (i := 0) (show ¬ 0 ∈ ([] : List Nat) by decide)) (a_cons (d_var (i := 1) (show ¬ 1 ∈ ([] : List Nat) by decide)) a_nil))))
  (ss_cons (s_expr (d_call (ok_check_words T) (hr.mono (by decide)) T.m_check_words T.F_check_words.kp T.b_check_words (fun σ => passAt (takes_of rfl rfl rfl rfl) σ) (a_cons (d_var (i := 0) (show ¬ 0 ∈ ([] : List Nat) by decide)) (a_cons (d_var (i := 1) (show ¬ 1 ∈ ([] : List Nat) by decide)) (a_cons (d_var (i := 2) (show ¬ 2 ∈ ([] : List Nat) by decide)) a_nil)))))
  (ss_cons (s_for (passes_of rfl) rfl (i_iK (io_not (js := [false, false, false, true, true, true, true]) hio rfl) (i_enum (d_var (i := 2) (show ¬ 2 ∈ ([] : List Nat) by decide)) T.n_enumerate)) (g_tup rfl (gs_cons (i := 3) (show ¬ 3 ∈ ([] : List Nat) by decide) sc_first_clash.nd (gs_cons (i := 4) (show ¬ 4 ∈ ([] : List Nat) by decide) sc_first_clash.nd gs_nil)))
  (ss_sK (io_not (js := [false, false, false, true, true, true, true]) hio rfl) (ss_cons (s_for (passes_of rfl) rfl (i_iK (io_not (js := [false, false, false, false, false, true, true]) hio rfl) (i_val (d_sl (d_var (i := 2) (show ¬ 2 ∈ ([] : List Nat) by decide)) (do_some (d_add (d_var (i := 3) (show ¬ 3 ∈ ([] : List Nat) by decide)) d_int)) do_none))) (g_name (i := 5) (show ¬ 5 ∈ ([] : List Nat) by decide) sc_first_clash.nd)
  (ss_sK (io_not (js := [false, false, false, false, false, true, true]) hio rfl) (ss_cons (s_set (i := 6) (show ¬ 6 ∈ ([] : List Nat) by decide) sc_first_clash.nd (d_call (ok_parting_place T) (hr.mono (by decide)) T.m_parting_place T.F_parting_place.kp T.b_parting_place (fun σ => passAt (takes_of rfl rfl rfl rfl) σ) (a_cons (d_var (i := 0) (show ¬ 0 ∈ ([] : List Nat) by decide)) (a_cons (d_var (i := 4) (show ¬ 4 ∈ ([] : List Nat) by decide)) (a_cons (d_var (i := 5) (show ¬ 5 ∈ ([] : List Nat) by decide)) a_nil)))))
  (ss_cons (s_if (dt_cmp ops_notN op_notN (d_var (i := 6) (show ¬ 6 ∈ ([] : List Nat) by decide)) d_non rfl)
  (ss_cons (s_ret rfl (d_tup (a_cons (d_var (i := 4) (show ¬ 4 ∈ ([] : List Nat) by decide)) (a_cons (d_var (i := 5) (show ¬ 5 ∈ ([] : List Nat) by decide)) (a_cons (d_var (i := 6) (show ¬ 6 ∈ ([] : List Nat) by decide)) a_nil)))))
  ss_nil)
  ss_nil)
  ss_nil))))
  ss_nil)))
  (ss_cons (s_ret rfl d_non)
  ss_nil))))
theorem sc_moved_words : FnScope [(PySem.Str.ofString "q"), (PySem.Str.ofString "words"), (PySem.Str.ofString "by"), (PySem.Str.ofString "word"), (PySem.Str.ofString "k")] [(PySem.Str.ofString "q"), (PySem.Str.ofString "words"), (PySem.Str.ofString "by")] (defScope st_moved_words) := ⟨rfl, rfl, rfl, by decide +kernel, rfl, by decide +kernel, by decide +kernel⟩
theorem ok_moved_words (T : Txt G) : FnOk G.P G.w G.K G.mg G.base (L2.CX G.P G.w) 1 T.f_moved_words T.fd_moved_words [(PySem.Str.ofString "q"), (PySem.Str.ofString "words"), (PySem.Str.ofString "by")] (spOf G [false, false, false] false fn_moved_words) :=
  fnok_of (G := G) (M := []) T.F_moved_words sc_moved_words rfl (by decide) (.inl rfl) fun cdv A outer s H E io Hv hio hr =>
  (ss_cons (s_ret rfl (d_t1 (cas_tup rfl) call_tuple_of T.n_tuple (DF.de (d_b1F (caf_sort rfl) (cr_sortA (u16 hr)) T.n_sorted (DF.de (d_lc (own := [((PySem.Str.ofString "word"), 3)]) (show ∀ v ∈ ([3] : List Nat), ¬ v ∈ ([] : List Nat) by decide) (by decide) rfl sc_moved_words.nd (i_val (d_var (i := 1) (show ¬ 1 ∈ ([] : List Nat) by decide))) (blkOk_by (by kernel_rfl)) (fun _ _ _ _ _ => (g_name (i := 3) (show ¬ 3 ∈ ([] : List Nat) by decide) sc_moved_words.nd)) (fun _ _ _ _ _ => d_yes) (fun _ _ _ _ _ => (d_t1 (cas_tup rfl) call_tuple_of T.n_tuple (DF.de (d_lc (own := [((PySem.Str.ofString "k"), 4)]) (show ∀ v ∈ ([4] : List Nat), ¬ v ∈ ([] : List Nat) by decide) (by decide) rfl sc_moved_words.nd (i_range1 (d_b1 (cas_len rfl) call_len T.n_len (d_var (i := 2) (show ¬ 2 ∈ ([] : List Nat) by decide))) T.n_range) (blkOk_by (by kernel_rfl)) (fun _ _ _ _ _ => (g_name (i := 4) (show ¬ 4 ∈ ([] : List Nat) by decide) sc_moved_words.nd)) (fun _ _ _ _ _ => d_yes) (fun _ _ _ _ _ => (d_mod (d_add (d_ix (d_var (i := 3) (show ¬ 3 ∈ ([] : List Nat) by decide)) (d_var (i := 4) (show ¬ 4 ∈ ([] : List Nat) by decide))) (d_ix (d_var (i := 2) (show ¬ 2 ∈ ([] : List Nat) by decide)) (d_var (i := 4) (show ¬ 4 ∈ ([] : List Nat) by decide)))) (d_var (i := 0) (show ¬ 0 ∈ ([] : List Nat) by decide))))))))))))))
  ss_nil)
theorem sc_shifted_words : FnScope [(PySem.Str.ofString "net"), (PySem.Str.ofString "q"), (PySem.Str.ofString "words"), (PySem.Str.ofString "by")] [(PySem.Str.ofString "net"), (PySem.Str.ofString "q"), (PySem.Str.ofString "words"), (PySem.Str.ofString "by")] (defScope st_shifted_words) := ⟨rfl, rfl, rfl, by decide +kernel, rfl, by decide +kernel, by decide +kernel⟩
theorem ok_shifted_words (T : Txt G) : FnOk G.P G.w G.K G.mg G.base (L2.CX G.P G.w) 4 T.f_shifted_words T.fd_shifted_words [(PySem.Str.ofString "net"), (PySem.Str.ofString "q"), (PySem.Str.ofString "words"), (PySem.Str.ofString "by")] (spOf G [false, false, false, false] false fn_shifted_words) :=
  fnok_of (G := G) (M := []) T.F_shifted_words sc_shifted_words rfl (by decide) (.inl rfl) fun cdv A outer s H E io Hv hio hr =>
  (ss_cons (s_expr (d_call (ok_count_words T) (hr.mono (by decide)) T.m_count_words T.F_count_words.kp T.b_count_words (fun σ => passAt (takes_of rfl rfl rfl rfl) σ) (a_cons (d_var (i := 0) (show ¬ 0 ∈ ([] : List Nat) by decide)) (a_cons (d_var (i := 1) (show ¬ 1 ∈ ([] : List Nat) by decide)) a_nil))))
  (ss_cons (s_expr (d_call (ok_check_words T) (hr.mono (by decide)) T.m_check_words T.F_check_words.kp T.b_check_words (fun σ => passAt (takes_of rfl rfl rfl rfl) σ) (a_cons (d_var (i := 0) (show ¬ 0 ∈ ([] : List Nat) by decide)) (a_cons (d_var (i := 1) (show ¬ 1 ∈ ([] : List Nat) by decide)) (a_cons (d_var (i := 2) (show ¬ 2 ∈ ([] : List Nat) by decide)) a_nil)))))
  (ss_cons (s_if (dt_not (dt_val (d_call (ok_is_word T) (hr.mono (by decide)) T.m_is_word T.F_is_word.kp T.b_is_word (fun σ => passAt (takes_of rfl rfl rfl rfl) σ) (a_cons (d_var (i := 0) (show ¬ 0 ∈ ([] : List Nat) by decide)) (a_cons (d_var (i := 1) (show ¬ 1 ∈ ([] : List Nat) by decide)) (a_cons (d_var (i := 3) (show ¬ 3 ∈ ([] : List Nat) by decide)) a_nil))))))
  (ss_cons (s_raise (c := 2) T.ox_InvalidWord T.oi_InvalidWord T.ot_InvalidWord T.ok_InvalidWord (hr.mono (by decide)) T.ob_InvalidWord T.om_InvalidWord T.ol_InvalidWord (by decide) rfl (takes_of rfl rfl rfl rfl) (a_cons (d_var (i := 3) (show ¬ 3 ∈ ([] : List Nat) by decide)) a_nil))
  ss_nil)
  ss_nil)
  (ss_cons (s_ret rfl (d_call (ok_moved_words T) (hr.mono (by decide)) T.m_moved_words T.F_moved_words.kp T.b_moved_words (fun σ => passAt (takes_of rfl rfl rfl rfl) σ) (a_cons (d_var (i := 1) (show ¬ 1 ∈ ([] : List Nat) by decide)) (a_cons (d_var (i := 2) (show ¬ 2 ∈ ([] : List Nat) by decide)) (a_cons (d_var (i := 3) (show ¬ 3 ∈ ([] : List Nat) by decide)) a_nil)))))
  ss_nil))))
theorem sc_law_pick : FnScope [(PySem.Str.ofString "_law_numbers_here"), (PySem.Str.ofString "_law_k"), (PySem.Str.ofString "_law_words_here"), (PySem.Str.ofString "_law_many"), (PySem.Str.ofString "_law_picked"), (PySem.Str.ofString "_law_j"), (PySem.Str.ofString "_law_word")] [(PySem.Str.ofString "_law_numbers_here"), (PySem.Str.ofString "_law_k"), (PySem.Str.ofString "_law_words_here"), (PySem.Str.ofString "_law_many")] (defScope st_law_pick) := ⟨rfl, rfl, rfl, by decide +kernel, rfl, by decide +kernel, by decide +kernel⟩
theorem ok_law_pick (T : Txt G) : FnOk G.P G.w G.K G.mg G.base (L2.CX G.P G.w) 1 T.f_law_pick T.fd_law_pick [(PySem.Str.ofString "_law_numbers_here"), (PySem.Str.ofString "_law_k"), (PySem.Str.ofString "_law_words_here"), (PySem.Str.ofString "_law_many")] (spOf G [false, false, false, false] false fn_law_pick) :=
  fnok_of (G := G) (M := [4]) T.F_law_pick sc_law_pick rfl (by decide) (.inl rfl) fun cdv A outer s H E io Hv hio hr =>
  (ss_cons (s_setF (i := 4) (show 4 ∈ ([4] : List Nat) by decide) (io_ne hio (by decide)) sc_law_pick.nd (d_lst a_nil))
  (ss_cons (s_for (passes_of rfl) rfl (i_iK (io_not (js := [false, false, false, false, false, true, true]) hio rfl) (i_range1 (d_var (i := 3) (show ¬ 3 ∈ ([4] : List Nat) by decide)) T.n_range)) (g_name (i := 5) (show ¬ 5 ∈ ([4] : List Nat) by decide) sc_law_pick.nd)
  (ss_sK (io_not (js := [false, false, false, false, false, true, true]) hio rfl) (ss_cons (s_set (i := 6) (show ¬ 6 ∈ ([4] : List Nat) by decide) sc_law_pick.nd (d_ix (d_var (i := 2) (show ¬ 2 ∈ ([4] : List Nat) by decide)) (d_mod (d_t1 cas_int call_intA T.n_int (d_ix (d_var (i := 0) (show ¬ 0 ∈ ([4] : List Nat) by decide)) (d_add (d_var (i := 1) (show ¬ 1 ∈ ([4] : List Nat) by decide)) (d_var (i := 5) (show ¬ 5 ∈ ([4] : List Nat) by decide))))) (d_b1 (cas_len rfl) call_len T.n_len (d_var (i := 2) (show ¬ 2 ∈ ([4] : List Nat) by decide))))))
  (ss_cons (s_if (dt_cmp (ops_notInA2) (op_notInA2 (u65 hr)) (d_var (i := 6) (show ¬ 6 ∈ ([4] : List Nat) by decide)) (d_pl (i := 4) (show 4 ∈ ([4] : List Nat) by decide)) rfl)
  (ss_cons (s_expr (d_mut (i := 4) kd_lst tyV_lst mus_append mt_append F.plainAttrs_list F.slot_list_append F.type_list_append (show 4 ∈ ([4] : List Nat) by decide) (a_cons (d_var (i := 6) (show ¬ 6 ∈ ([4] : List Nat) by decide)) a_nil)))
  ss_nil)
  ss_nil)
  ss_nil))))
  (ss_cons (s_ret rfl (d_fz (i := 4) (show 4 ∈ ([4] : List Nat) by decide) (io_ne hio (by decide))))
  ss_nil)))
theorem sc_law : FnScope [(PySem.Str.ofString "_law_script"), (PySem.Str.ofString "_law_at"), (PySem.Str.ofString "_law_numbers_here"), (PySem.Str.ofString "_law_drawn"), (PySem.Str.ofString "_law_q"), (PySem.Str.ofString "_law_net_here"), (PySem.Str.ofString "_law_knows_here"), (PySem.Str.ofString "_law_told"), (PySem.Str.ofString "_law_words_here"), (PySem.Str.ofString "_law_rest"), (PySem.Str.ofString "_law_store_here"), (PySem.Str.ofString "_law_counts"), (PySem.Str.ofString "_law_by"), (PySem.Str.ofString "_law_shifted"), (PySem.Str.ofString "_law_word"), (PySem.Str.ofString "_law_due"), (PySem.Str.ofString "_law_place"), (PySem.Str.ofString "_law_clashes"), (PySem.Str.ofString "_law_i")] [(PySem.Str.ofString "_law_script")] (defScope st_law) := ⟨rfl, rfl, rfl, by decide +kernel, rfl, by decide +kernel, by decide +kernel⟩
theorem ok_law (T : Txt G) : FnOk G.P G.w G.K G.mg G.base (L2.CX G.P G.w) 5 T.f_law T.fd_law [(PySem.Str.ofString "_law_script")] (spOf G [false] false fn_law) :=
  fnok_of (G := G) (M := [11]) T.F_law sc_law rfl (by decide) (.inl rfl) fun cdv A outer s H E io Hv hio hr =>
  (ss_cons (s_for (passes_of rfl) rfl (i_iK (io_not (js := [false, true, true, true, true, true, true, true, true, true, true, true, true, true, true, true, true, true, false]) hio rfl) (i_range1 (d_b2 cas_min2 (call_min2 rfl) T.n_min (d_b1 (cas_len rfl) call_len T.n_len (d_var (i := 0) (show ¬ 0 ∈ ([11] : List Nat) by decide))) d_int) T.n_range)) (g_name (i := 1) (show ¬ 1 ∈ ([11] : List Nat) by decide) sc_law.nd)
  (ss_sK (io_not (js := [false, true, true, true, true, true, true, true, true, true, true, true, true, true, true, true, true, true, false]) hio rfl) (ss_cons (s_set (i := 2) (show ¬ 2 ∈ ([11] : List Nat) by decide) sc_law.nd (d_call (ok_law_numbers T) (hr.mono (by decide)) T.m_law_numbers T.F_law_numbers.kp T.b_law_numbers (fun σ => passAt (takes_of rfl rfl rfl rfl) σ) (a_cons (d_ix (d_var (i := 0) (show ¬ 0 ∈ ([11] : List Nat) by decide)) (d_var (i := 1) (show ¬ 1 ∈ ([11] : List Nat) by decide))) (a_cons (d_var (i := 1) (show ¬ 1 ∈ ([11] : List Nat) by decide)) (a_cons d_int a_nil)))))
  (ss_cons (s_set (i := 3) (show ¬ 3 ∈ ([11] : List Nat) by decide) sc_law.nd (d_call (ok_law_letters T) (hr.mono (by decide)) T.m_law_letters T.F_law_letters.kp T.b_law_letters (fun σ => passAt (takes_of rfl rfl rfl rfl) σ) (a_cons (d_var (i := 2) (show ¬ 2 ∈ ([11] : List Nat) by decide)) (a_cons d_int (a_cons (d_tup (a_cons d_int (a_cons d_int (a_cons d_int a_nil)))) a_nil)))))
  (ss_cons (s_set (i := 4) (show ¬ 4 ∈ ([11] : List Nat) by decide) sc_law.nd (d_ix (d_var (i := 3) (show ¬ 3 ∈ ([11] : List Nat) by decide)) d_int))
  (ss_cons (s_set (i := 5) (show ¬ 5 ∈ ([11] : List Nat) by decide) sc_law.nd (d_call (ok_law_net T) (hr.mono (by decide)) T.m_law_net T.F_law_net.kp T.b_law_net (fun σ => passAt (takes_of rfl rfl rfl rfl) σ) (a_cons (d_var (i := 2) (show ¬ 2 ∈ ([11] : List Nat) by decide)) (a_cons d_int (a_cons (d_ix (d_var (i := 3) (show ¬ 3 ∈ ([11] : List Nat) by decide)) d_int) a_nil)))))
  (ss_cons (s_sKn (io_not (js := [false, false, false, false, false, false, false, false, false, false, false, false, false, false, false, false, false, false, false]) hio rfl) (s_if (DW.dt (dw_and (dt_cmp (ops_eqA) (op_eqA (u64 hr)) (d_var (i := 4) (show ¬ 4 ∈ ([11] : List Nat) by decide)) d_int rfl) (dw_and1 (dt_cmp (ops_eqA) (op_eqA (u64 hr)) (d_mod (d_t1 cas_int call_intA T.n_int (d_fdiv (d_ix (d_var (i := 2) (show ¬ 2 ∈ ([11] : List Nat) by decide)) d_int) d_int)) d_int) d_int rfl))))
  (ss_cons (s_set (i := 5) (show ¬ 5 ∈ ([11] : List Nat) by decide) sc_law.nd (d_call (ok_law_ring_of_five T) (hr.mono (by decide)) T.m_law_ring_of_five T.F_law_ring_of_five.kp T.b_law_ring_of_five (fun σ => passAt (takes_of rfl rfl rfl rfl) σ) (a_cons (d_var (i := 2) (show ¬ 2 ∈ ([11] : List Nat) by decide)) (a_cons d_int a_nil))))
  ss_nil)
  ss_nil))
  (ss_cons (s_set (i := 6) (show ¬ 6 ∈ ([11] : List Nat) by decide) sc_law.nd (d_call (ok_law_knows T) (hr.mono (by decide)) T.m_law_knows T.F_law_knows.kp T.b_law_knows (fun σ => passAt (takes_of rfl rfl rfl rfl) σ) (a_cons (d_var (i := 5) (show ¬ 5 ∈ ([11] : List Nat) by decide)) a_nil)))
  (ss_cons (s_set (i := 7) (show ¬ 7 ∈ ([11] : List Nat) by decide) sc_law.nd (DF.de (d_make (c := 0) 2 T.mk_Net (ok_Net_init T) (aLenC (aLenC aLenN)) (hr.mono (by decide)) T.m_Net T.b_Net_init (fun σ => passAt (takes_of rfl rfl rfl rfl) σ) (a_cons (d_ix (d_var (i := 5) (show ¬ 5 ∈ ([11] : List Nat) by decide)) d_int) (a_cons (d_ix (d_var (i := 5) (show ¬ 5 ∈ ([11] : List Nat) by decide)) d_int) a_nil)))))
  (ss_cons (s_set (i := 8) (show ¬ 8 ∈ ([11] : List Nat) by decide) sc_law.nd (d_call (ok_law_words T) (hr.mono (by decide)) T.m_law_words T.F_law_words.kp T.b_law_words (fun σ => passAt (takes_of rfl rfl rfl rfl) σ) (a_cons (d_ix (d_var (i := 5) (show ¬ 5 ∈ ([11] : List Nat) by decide)) d_int) (a_cons (d_var (i := 4) (show ¬ 4 ∈ ([11] : List Nat) by decide)) a_nil))))
  (ss_cons (s_set (i := 9) (show ¬ 9 ∈ ([11] : List Nat) by decide) sc_law.nd (d_sl (d_var (i := 8) (show ¬ 8 ∈ ([11] : List Nat) by decide)) (do_some (d_mod (d_t1 cas_int call_intA T.n_int (d_ix (d_var (i := 2) (show ¬ 2 ∈ ([11] : List Nat) by decide)) d_int)) (d_b1 (cas_len rfl) call_len T.n_len (d_var (i := 8) (show ¬ 8 ∈ ([11] : List Nat) by decide))))) do_none))
  (ss_cons (s_sKn (io_not (js := [false, false, false, false, false, false, false, false, false, false, false, false, false, false, false, false, false, false, false]) hio rfl) (s_if (dt_cmp (ops_eqA) (op_eqA (u64 hr)) (d_mod (d_t1 cas_int call_intA T.n_int (d_ix (d_var (i := 2) (show ¬ 2 ∈ ([11] : List Nat) by decide)) d_int)) d_int) d_int rfl)
  (ss_cons (s_set (i := 9) (show ¬ 9 ∈ ([11] : List Nat) by decide) sc_law.nd (DF.de (d_lst a_nil)))
  ss_nil)
  ss_nil))
  (ss_cons (s_set (i := 10) (show ¬ 10 ∈ ([11] : List Nat) by decide) sc_law.nd (d_call (ok_law_store T) (hr.mono (by decide)) T.m_law_store T.F_law_store.kp T.b_law_store (fun σ => passAt (takes_of rfl rfl rfl rfl) σ) (a_cons (d_var (i := 6) (show ¬ 6 ∈ ([11] : List Nat) by decide)) (a_cons (d_add (d_call (ok_law_pick T) (hr.mono (by decide)) T.m_law_pick T.F_law_pick.kp T.b_law_pick (fun σ => passAt (takes_of rfl rfl rfl rfl) σ) (a_cons (d_var (i := 2) (show ¬ 2 ∈ ([11] : List Nat) by decide)) (a_cons d_int (a_cons (d_var (i := 8) (show ¬ 8 ∈ ([11] : List Nat) by decide)) (a_cons (d_add d_int (d_mod (d_t1 cas_int call_intA T.n_int (d_ix (d_var (i := 2) (show ¬ 2 ∈ ([11] : List Nat) by decide)) d_int)) d_int)) a_nil))))) (d_var (i := 9) (show ¬ 9 ∈ ([11] : List Nat) by decide))) a_nil))))
  (ss_cons (s_if (dt_cmp ops_notN op_notN (d_call (ok_first_clash T) (hr.mono (by decide)) T.m_first_clash T.F_first_clash.kp T.b_first_clash (fun σ => passAt (takes_of rfl rfl rfl rfl) σ) (a_cons (d_var (i := 7) (show ¬ 7 ∈ ([11] : List Nat) by decide)) (a_cons (d_var (i := 4) (show ¬ 4 ∈ ([11] : List Nat) by decide)) (a_cons (d_t1 (cas_tup rfl) call_tuple_of T.n_tuple (d_var (i := 10) (show ¬ 10 ∈ ([11] : List Nat) by decide))) a_nil)))) d_non rfl)
  (ss_cons (s_ret rfl d_bl)
  ss_nil)
  ss_nil)
  (ss_cons (s_setF (i := 11) (show 11 ∈ ([11] : List Nat) by decide) (io_ne hio (by decide)) sc_law.nd d_dnew)
  (ss_cons (s_for (passes_of rfl) rfl (i_iK (io_not (js := [false, false, false, false, false, false, false, false, false, false, false, false, true, true, true, true, true, true, false]) hio rfl) (i_val (d_var (i := 8) (show ¬ 8 ∈ ([11] : List Nat) by decide)))) (g_name (i := 12) (show ¬ 12 ∈ ([11] : List Nat) by decide) sc_law.nd)
  (ss_sK (io_not (js := [false, false, false, false, false, false, false, false, false, false, false, false, true, true, true, true, true, true, false]) hio rfl) (ss_cons (s_set (i := 13) (show ¬ 13 ∈ ([11] : List Nat) by decide) sc_law.nd (d_call (ok_shifted_words T) (hr.mono (by decide)) T.m_shifted_words T.F_shifted_words.kp T.b_shifted_words (fun σ => passAt (takes_of rfl rfl rfl rfl) σ) (a_cons (d_var (i := 7) (show ¬ 7 ∈ ([11] : List Nat) by decide)) (a_cons (d_var (i := 4) (show ¬ 4 ∈ ([11] : List Nat) by decide)) (a_cons (d_t1 (cas_tup rfl) call_tuple_of T.n_tuple (d_var (i := 10) (show ¬ 10 ∈ ([11] : List Nat) by decide))) (a_cons (d_var (i := 12) (show ¬ 12 ∈ ([11] : List Nat) by decide)) a_nil))))))
  (ss_cons (s_if (DW.dt (dw_or (dt_not (dt_val (d_isi .tup (d_var (i := 13) (show ¬ 13 ∈ ([11] : List Nat) by decide)) T.n_isinstance T.n_tuple (by decide +kernel)))) (dw_or (dt_cmp (ops_neA) (op_neA (u64 hr)) (DF.de (d_t1F (caf_lst rfl) call_list_of T.n_list (d_var (i := 13) (show ¬ 13 ∈ ([11] : List Nat) by decide)))) (DF.de (d_b1F (caf_sort rfl) (cr_sortA (u16 hr)) T.n_sorted (d_var (i := 13) (show ¬ 13 ∈ ([11] : List Nat) by decide)))) rfl) (dw_or1 (dt_cmp (ops_neA) (op_neA (u64 hr)) (d_b1 (cas_len rfl) call_len T.n_len (d_var (i := 13) (show ¬ 13 ∈ ([11] : List Nat) by decide))) (d_b1 (cas_len rfl) call_len T.n_len (d_var (i := 10) (show ¬ 10 ∈ ([11] : List Nat) by decide))) rfl)))))
  (ss_cons (s_ret rfl d_bl)
  ss_nil)
  ss_nil)
  (ss_cons (s_for (passes_of rfl) rfl (i_iK (io_not (js := [false, false, false, false, false, false, false, false, false, false, false, false, false, false, true, false, false, false, false]) hio rfl) (i_val (d_var (i := 13) (show ¬ 13 ∈ ([11] : List Nat) by decide)))) (g_name (i := 14) (show ¬ 14 ∈ ([11] : List Nat) by decide) sc_law.nd)
  (ss_sK (io_not (js := [false, false, false, false, false, false, false, false, false, false, false, false, false, false, true, false, false, false, false]) hio rfl) (ss_cons (s_if (dt_cmp (ops_notInA2) (op_notInA2 (u65 hr)) (d_var (i := 14) (show ¬ 14 ∈ ([11] : List Nat) by decide)) (d_var (i := 8) (show ¬ 8 ∈ ([11] : List Nat) by decide)) rfl)
  (ss_cons (s_ret rfl d_bl)
  ss_nil)
  ss_nil)
  (ss_cons (s_dputV (i := 11) (u1 hr) (show 11 ∈ ([11] : List Nat) by decide) (d_var (i := 14) (show ¬ 14 ∈ ([11] : List Nat) by decide)) (d_add (d_dgetV (i := 11) (u1 hr) (show 11 ∈ ([11] : List Nat) by decide) (d_var (i := 14) (show ¬ 14 ∈ ([11] : List Nat) by decide)) d_int) d_int))
  ss_nil))))
  (ss_cons (s_set (i := 15) (show ¬ 15 ∈ ([11] : List Nat) by decide) sc_law.nd (DF.de (d_b1F (caf_sort rfl) (cr_sortA (u16 hr)) T.n_sorted (DF.de (d_lc (own := [((PySem.Str.ofString "_law_word"), 14)]) (show ∀ v ∈ ([14] : List Nat), ¬ v ∈ ([11] : List Nat) by decide) (by decide) rfl sc_law.nd (i_val (d_var (i := 10) (show ¬ 10 ∈ ([11] : List Nat) by decide))) (blkOk_by (by kernel_rfl)) (fun _ _ _ _ _ => (g_name (i := 14) (show ¬ 14 ∈ ([11] : List Nat) by decide) sc_law.nd)) (fun _ _ _ _ _ => d_yes) (fun _ _ _ _ _ => (d_t1 (cas_tup rfl) call_tuple_of T.n_tuple (DF.de (d_lc (own := [((PySem.Str.ofString "_law_i"), 18)]) (show ∀ v ∈ ([18] : List Nat), ¬ v ∈ ([11] : List Nat) by decide) (by decide) rfl sc_law.nd (i_range1 (d_b1 (cas_len rfl) call_len T.n_len (d_var (i := 12) (show ¬ 12 ∈ ([11] : List Nat) by decide))) T.n_range) (blkOk_by (by kernel_rfl)) (fun _ _ _ _ _ => (g_name (i := 18) (show ¬ 18 ∈ ([11] : List Nat) by decide) sc_law.nd)) (fun _ _ _ _ _ => d_yes) (fun _ _ _ _ _ => (d_mod (d_t1 cas_int call_intA T.n_int (d_add (d_ix (d_var (i := 14) (show ¬ 14 ∈ ([11] : List Nat) by decide)) (d_var (i := 18) (show ¬ 18 ∈ ([11] : List Nat) by decide))) (d_ix (d_var (i := 12) (show ¬ 12 ∈ ([11] : List Nat) by decide)) (d_var (i := 18) (show ¬ 18 ∈ ([11] : List Nat) by decide))))) (d_var (i := 4) (show ¬ 4 ∈ ([11] : List Nat) by decide)))))))))))))
  (ss_cons (s_set (i := 16) (show ¬ 16 ∈ ([11] : List Nat) by decide) sc_law.nd (d_mod (d_t1 cas_int call_intA T.n_int (d_ix (d_var (i := 2) (show ¬ 2 ∈ ([11] : List Nat) by decide)) d_int)) (d_b1 (cas_len rfl) call_len T.n_len (d_var (i := 10) (show ¬ 10 ∈ ([11] : List Nat) by decide)))))
  (ss_cons (s_setLcV (i := 17) (own := [((PySem.Str.ofString "_law_word"), 14)]) (show ∀ v ∈ ([14] : List Nat), ¬ v ∈ ([11] : List Nat) by decide) (by decide) (show ¬ 17 ∈ ([11] : List Nat) by decide) rfl sc_law.nd (i_val (d_var (i := 13) (show ¬ 13 ∈ ([11] : List Nat) by decide))) (blkOk_by (by kernel_rfl)) (fun _ _ _ _ _ => (g_name (i := 14) (show ¬ 14 ∈ ([11] : List Nat) by decide) sc_law.nd)) (fun _ _ _ _ _ => (pts1 (dt_cmp ops_notN op_notN (d_call (ok_law_excludes T) (hr.mono (by decide)) T.m_law_excludes T.F_law_excludes.kp T.b_law_excludes (fun σ => passAt takes0 σ) (a_cons (d_var (i := 6) (show ¬ 6 ∈ ([11] : List Nat) by decide)) (a_cons (d_ix (d_var (i := 13) (show ¬ 13 ∈ ([11] : List Nat) by decide)) (d_var (i := 16) (show ¬ 16 ∈ ([11] : List Nat) by decide))) (a_cons (d_var (i := 14) (show ¬ 14 ∈ ([11] : List Nat) by decide)) a_nil)))) d_non rfl))) (fun _ _ _ _ _ => (d_var (i := 14) (show ¬ 14 ∈ ([11] : List Nat) by decide))) (sw_true rfl rfl rfl (by decide +kernel)))
  (ss_cons (s_if (DW.dt (dw_or (dt_cmp (ops_neA) (op_neA (u64 hr)) (DF.de (d_t1F (caf_lst rfl) call_list_of T.n_list (d_var (i := 13) (show ¬ 13 ∈ ([11] : List Nat) by decide)))) (d_var (i := 15) (show ¬ 15 ∈ ([11] : List Nat) by decide)) rfl) (dw_or1 (dt_cmp ops_gt op_gt (d_b1 (cas_len rfl) call_len T.n_len (d_var (i := 17) (show ¬ 17 ∈ ([11] : List Nat) by decide))) d_int rfl))))
  (ss_cons (s_ret rfl d_bl)
  ss_nil)
  ss_nil)
  ss_nil)))))))))
  (ss_cons (s_for (passes_of rfl) rfl (i_iK (io_not (js := [false, false, false, false, false, false, false, false, false, false, false, false, false, false, true, false, false, false, false]) hio rfl) (i_val (d_var (i := 8) (show ¬ 8 ∈ ([11] : List Nat) by decide)))) (g_name (i := 14) (show ¬ 14 ∈ ([11] : List Nat) by decide) sc_law.nd)
  (ss_sK (io_not (js := [false, false, false, false, false, false, false, false, false, false, false, false, false, false, true, false, false, false, false]) hio rfl) (ss_cons (s_if (dt_cmp (ops_neA) (op_neA (u64 hr)) (d_dgetV (i := 11) (u1 hr) (show 11 ∈ ([11] : List Nat) by decide) (d_var (i := 14) (show ¬ 14 ∈ ([11] : List Nat) by decide)) d_int) (d_b1 (cas_len rfl) call_len T.n_len (d_var (i := 10) (show ¬ 10 ∈ ([11] : List Nat) by decide))) rfl)
  (ss_cons (s_ret rfl d_bl)
  ss_nil)
  ss_nil)
  ss_nil)))
  ss_nil)))))))))))))))))
  (ss_cons (s_ret rfl d_bl)
  ss_nil))
end
end Lk49
namespace Lk49
open PySem KS KT
theorem numbers (cell at_ many : Int) (h0 : 0 ≤ many) (h1 : many < 1000) : Oks (T_law_numbers cell at_ many) fun l => l.length = many.toNat ∧ ∀ x ∈ l, 0 ≤ x ∧ x < 1000 := by
  unfold T_law_numbers
  refine oks_lt (oks_lt ?_)
  refine oks_ck (by unfold okR; omega) ?_
  refine oks_bind (P := fun s => s.2.length = many.toNat ∧ ∀ x ∈ s.2, 0 ≤ x ∧ x < 1000) ?_ fun s h => oks_ok h
  refine oks_fold (fun pre s => s.2.length = pre.length ∧ ∀ x ∈ s.2, 0 ≤ x ∧ x < 1000) ⟨rfl, fun x hx => by cases hx⟩ ?_ ?_
  · rintro pre a post ⟨rest, out⟩ e ⟨hl, hx⟩
    dsimp only at hl hx
    have hlen : pre.length + 1 ≤ 1000 := by
      have := congrArg List.length e
      rw [rng_len] at this
      simp at this
      omega
    have app : appC out := by unfold appC; omega
    have add : ∀ y : Int, 0 ≤ y → y < 1000 → (out ++ [y]).length = (pre ++ [a]).length ∧ ∀ x ∈ out ++ [y], 0 ≤ x ∧ x < 1000 := fun y y0 y1 => by
      refine ⟨by simp [hl], fun x h => ?_⟩
      rcases List.mem_append.mp h with h | h
      · exact hx x h
      · rw [List.mem_singleton.mp h]; exact ⟨y0, y1⟩
    refine oks_ifb (fun _ => ?_) fun _ => ?_
    · refine oks_ck app (oks_lt (oks_ok ?_))
      exact add _ (by dsimp only; omega) (by dsimp only; omega)
    · refine oks_lt (oks_ck (.inl (by omega)) (oks_lt (oks_ck (.inl (by omega)) (oks_lt (oks_ck app (oks_ok ?_))))))
      exact add _ (by omega) (by omega)
  · rintro s ⟨hl, hx⟩
    exact ⟨by rw [hl, rng_len]; omega, hx⟩
/-- the draws -/
structure Nums (l : List Int) : Prop where
  len : l.length = 60
  rng : ∀ x ∈ l, 0 ≤ x ∧ x < 1000
theorem Nums.at {l : List Int} (h : Nums l) {i : Int} (h0 : 0 ≤ i) (h1 : i < 60) : ∃ x, L2.atI l i = some x ∧ 0 ≤ x ∧ x < 1000 := by
  obtain ⟨x, e, m, _⟩ := at_some (l := l) h0 (by rw [h.len]; exact h1)
  exact ⟨x, e, h.rng x m⟩
theorem letters {l : List Int} (N : Nums l) {k : Int} (h0 : 0 ≤ k) (h1 : k < 60) (a b c : Int) : Oks (T_law_letters l k (a, b, c)) fun p => (p.1 = 2 ∧ p.2 = a) ∨ (p.1 = 3 ∧ p.2 = b) ∨ (p.1 = 4 ∧ p.2 = c) ∨ (p.1 = 5 ∧ p.2 = 2) := by
  unfold T_law_letters
  obtain ⟨x, e, x0, x1⟩ := N.at h0 h1
  refine oks_opt e ?_
  have hx : x % 8 = 0 ∨ x % 8 = 1 ∨ x % 8 = 2 ∨ x % 8 = 3 ∨ x % 8 = 4 ∨ x % 8 = 5 ∨ x % 8 = 6 ∨ x % 8 = 7 := by omega
  rcases hx with h | h | h | h | h | h | h | h <;> rw [h]
  · exact oks_opt (a := 2) rfl (oks_opt (a := a) rfl (oks_ok (by simp)))
  · exact oks_opt (a := 2) rfl (oks_opt (a := a) rfl (oks_ok (by simp)))
  · exact oks_opt (a := 2) rfl (oks_opt (a := a) rfl (oks_ok (by simp)))
  · exact oks_opt (a := 2) rfl (oks_opt (a := a) rfl (oks_ok (by simp)))
  · exact oks_opt (a := 2) rfl (oks_opt (a := a) rfl (oks_ok (by simp)))
  · exact oks_opt (a := 3) rfl (oks_opt (a := b) rfl (oks_ok (by simp)))
  · exact oks_opt (a := 4) rfl (oks_opt (a := c) rfl (oks_ok (by simp)))
  · exact oks_opt (a := 5) rfl (oks_opt (a := 2) rfl (oks_ok (by simp)))
theorem ins_perm {α : Type} (l : List α) (i : Int) (a : α) : (insT l i a).Perm (a :: l) := by
  unfold insT
  rw [List.append_assoc]
  refine (List.perm_middle (a := a) (l₁ := l.take i.toNat) (l₂ := l.drop i.toNat)).trans ?_
  rw [List.take_append_drop]
theorem rng_snoc {n : Int} {pre post : List Int} {a : Int} (e : rngT 0 n = pre ++ a :: post) : a = pre.length ∧ (pre.length : Int) < n ∧ pre = rngT 0 pre.length := by
  have hl := congrArg List.length e
  rw [rng_len, List.length_append, List.length_cons] at hl
  have h1 : pre.length < (n - 0).toNat := by omega
  have h2 := rng_get (i := 0) h1
  rw [e] at h2
  simp at h2
  refine ⟨h2, by omega, ?_⟩
  refine List.ext_getElem? fun j => ?_
  by_cases hj : j < pre.length
  · have h3 := rng_get (i := 0) (n := n) (k := j) (by omega)
    rw [e, List.getElem?_append_left hj] at h3
    rw [h3, rng_get (by omega)]
  · rw [List.getElem?_eq_none (by omega), List.getElem?_eq_none (by rw [rng_len]; omega)]
theorem rng_succ (k : Nat) : rngT 0 ((k : Int) + 1) = rngT 0 k ++ [(k : Int)] := by
  unfold rngT
  rw [show ((k : Int) + 1 - 0).toNat = k + 1 by omega, show ((k : Int) - 0).toNat = k by omega, List.range_succ, List.map_append]
  simp
theorem order {l : List Int} (N : Nums l) {k size : Int} (h0 : 0 ≤ k) (s0 : 0 ≤ size) (h1 : k + size ≤ 60) : Oks (T_law_order l k size) fun o => o.Perm (rngT 0 size) := by
  unfold T_law_order
  refine oks_ck (by unfold okR; omega) ?_
  refine oks_bind (P := fun o => o.Perm (rngT 0 size)) ?_ fun s h => oks_ok h
  refine oks_fold (fun pre o => o.Perm pre) (.refl _) ?_ fun s h => h
  intro pre a post o e h
  obtain ⟨ha, hn, _⟩ := rng_snoc e
  obtain ⟨x, ex, x0, x1⟩ := N.at (i := k + a) (by omega) (by omega)
  refine oks_opt ex (oks_ck (by omega) (oks_ck ?_ (oks_ok ?_)))
  · have hl := h.length_eq
    have m1 := Int.emod_nonneg x (show a + 1 ≠ 0 by omega)
    have m2 := Int.emod_lt_of_pos x (show 0 < a + 1 by omega)
    unfold insC
    omega
  · exact (ins_perm _ _ _).trans ((List.Perm.cons a h).trans (by
      have := (List.perm_middle (a := a) (l₁ := pre) (l₂ := [])).symm
      simpa using this))
end Lk49
namespace Lk49
open PySem KS KT
def ltP (p q : Int × Int) : Prop := p.1 < q.1 ∨ (p.1 = q.1 ∧ p.2 < q.2)
/-- a net's arcs -/
structure VN (n : Int) (as : List (Int × Int)) : Prop where
  lo : 1 ≤ n
  hi : n ≤ 5
  rng : ∀ p ∈ as, (0 ≤ p.1 ∧ p.1 < n) ∧ (0 ≤ p.2 ∧ p.2 < n) ∧ p.1 ≠ p.2
  ord : as.Pairwise ltP
  len : as.length ≤ 100
theorem leP_iff {p q : Int × Int} : leP p q = true ↔ p.1 < q.1 ∨ (p.1 = q.1 ∧ p.2 ≤ q.2) := by
  unfold leP
  rw [decide_eq_true_iff]
theorem ord_sort {l : List (Int × Int)} (h : l.Nodup) : (l.mergeSort leP).Pairwise ltP := by
  have h1 : (l.mergeSort leP).Pairwise fun a b => leP a b = true := List.pairwise_mergeSort (fun a b c h1 h2 => by
    rw [leP_iff] at *; omega) (fun a b => by
    have : leP a b = true ∨ leP b a = true := by rw [leP_iff, leP_iff]; omega
    rcases this with h | h <;> simp [h]) l
  have h2 : (l.mergeSort leP).Pairwise (· ≠ ·) := ((List.mergeSort_perm l leP).nodup_iff).mpr h
  refine (h1.and h2).imp ?_
  rintro ⟨a, b⟩ ⟨c, d⟩ ⟨h, n⟩
  rw [leP_iff] at h
  unfold ltP
  dsimp only at h ⊢
  have : ¬ (a = c ∧ b = d) := fun ⟨x, y⟩ => n (by rw [x, y])
  omega
theorem len_of_nodup : ∀ {l : List (Int × Int)} {n : Int}, l.Nodup → True := fun _ => trivial
theorem erase_sub {α : Type} [DecidableEq α] (l : List α) (a : α) : (eraseT l a).Sublist l := by
  induction l with
  | nil => exact .refl _
  | cons b l ih =>
    unfold eraseT
    split
    · exact List.sublist_cons_self ..
    · exact ih.cons₂ b
theorem five {o : List Int} (h : o.Perm (rngT 0 5)) : ∃ a b c d e : Int, o = [a, b, c, d, e] ∧ [a, b, c, d, e].Nodup ∧ ∀ x ∈ [a, b, c, d, e], 0 ≤ x ∧ x < 5 := by
  have hl := h.length_eq
  rw [rng_len] at hl
  have hn := (h.nodup_iff).mpr (rng_nodup 0 5)
  have hm : ∀ x ∈ o, 0 ≤ x ∧ x < 5 := fun x hx => mem_rng.mp ((h.mem_iff).mp hx)
  match o, hl, hn, hm with
  | [a, b, c, d, e], _, hn, hm => exact ⟨a, b, c, d, e, rfl, hn, hm⟩
theorem ring {l : List Int} (N : Nums l) {k : Int} (h0 : 0 ≤ k) (h1 : k ≤ 10) : Oks (T_law_ring_of_five l k) fun p => p.1 = 5 ∧ VN 5 p.2 := by
  unfold T_law_ring_of_five
  refine oks_call (order N h0 (by omega) (by omega)) fun o ho => ?_
  obtain ⟨a, b, c, d, e, rfl, hn, hm⟩ := five ho
  refine oks_bind (P := fun s => s = [(a, b), (b, a), (b, c), (c, b), (c, d), (d, c), (d, e), (e, d), (e, a), (a, e)]) ⟨_, rfl, rfl⟩ fun s hs => ?_
  obtain ⟨x, ex, x0, x1⟩ := N.at (i := k + 5) (by omega) (by omega)
  refine oks_opt ex (oks_ck (by unfold okR; omega) ?_)
  refine oks_bind (P := fun s => s.Nodup ∧ s.length ≤ 13 ∧ ∀ p ∈ s, (0 ≤ p.1 ∧ p.1 < 5) ∧ (0 ≤ p.2 ∧ p.2 < 5) ∧ p.1 ≠ p.2) ?_ fun s hs => ?_
  · refine oks_fold (fun pre s => s.Nodup ∧ s.length ≤ 10 + pre.length ∧ ∀ p ∈ s, (0 ≤ p.1 ∧ p.1 < 5) ∧ (0 ≤ p.2 ∧ p.2 < 5) ∧ p.1 ≠ p.2) ?_ ?_ ?_
    · subst hs
      simp only [List.nodup_cons, List.mem_cons, not_or, List.not_mem_nil, not_false_eq_true, and_true, List.nodup_nil, or_false, forall_eq_or_imp, forall_eq] at hn hm
      obtain ⟨⟨h1, h2, h3, h4⟩, ⟨h5, h6, h7⟩, ⟨h8, h9⟩, h10⟩ := hn
      refine ⟨?_, by simp, ?_⟩
      · simp only [List.nodup_cons, List.mem_cons, not_or, List.not_mem_nil, not_false_eq_true, and_true, List.nodup_nil, or_false, Prod.mk.injEq]
        omega
      · simp only [List.mem_cons, List.not_mem_nil, or_false, forall_eq_or_imp, forall_eq]
        omega
    · rintro pre j post s e1 ⟨hd, hl, hr⟩
      obtain ⟨hj, hjn, _⟩ := rng_snoc e1
      have m1 : x % 4 < 4 := Int.emod_lt_of_pos x (by omega)
      obtain ⟨y, ey, y0, y1⟩ := N.at (i := k + 6 + j) (by omega) (by omega)
      refine oks_opt ey (oks_lt (oks_opt ey (oks_lt ?_)))
      have n1 : 0 ≤ y % 5 ∧ y % 5 < 5 := by omega
      have n2 : 0 ≤ y / 5 % 4 ∧ y / 5 % 4 < 4 := by omega
      generalize hz : ((y % 5, (y % 5 + 1 + y / 5 % 4) % 5) : Int × Int) = z
      have hz' : (0 ≤ z.1 ∧ z.1 < 5) ∧ (0 ≤ z.2 ∧ z.2 < 5) ∧ z.1 ≠ z.2 := by
        subst hz
        dsimp only
        generalize y % 5 = u at *
        generalize y / 5 % 4 = v at *
        omega
      refine oks_ifb (fun hin => ?_) fun hin => ?_
      · refine oks_ck hin (oks_ok ⟨(erase_sub s z).nodup hd, ?_, fun p hp => hr p ((erase_sub s z).mem hp)⟩)
        have := (erase_sub s z).length_le
        simp only [List.length_append, List.length_cons, List.length_nil]
        omega
      · refine oks_ck (by unfold appC; omega) (oks_ok ⟨?_, ?_, fun p hp => ?_⟩)
        · refine List.nodup_append.mpr ⟨hd, by simp, fun p hp q hq => ?_⟩
          rw [List.mem_singleton.mp hq]
          rintro rfl
          rw [memT_iff.mpr hp] at hin
          cases hin
        · simp only [List.length_append, List.length_cons, List.length_nil]
          omega
        · rcases List.mem_append.mp hp with hp | hp
          · exact hr p hp
          · rw [List.mem_singleton.mp hp]; exact hz'
    · rintro s ⟨hd, hl, hr⟩
      refine ⟨hd, ?_, hr⟩
      rw [rng_len] at hl
      have m1 : x % 4 < 4 := Int.emod_lt_of_pos x (by omega)
      omega
  · obtain ⟨hd, hl, hr⟩ := hs
    refine oks_ok ⟨rfl, by decide, by decide, fun p hp => hr p (List.mem_mergeSort.mp hp), ord_sort hd, ?_⟩
    dsimp only
    rw [List.length_mergeSort]
    omega
theorem pow5 {i : Int} (h0 : 0 ≤ i) (h1 : i < 4) : ∃ x : Int, L2.atI [1, 5, 25, 125] i = some x ∧ 1 ≤ x ∧ x ≤ 125 := by
  have : i = 0 ∨ i = 1 ∨ i = 2 ∨ i = 3 := by omega
  rcases this with rfl | rfl | rfl | rfl
  · exact ⟨1, rfl, by decide, by decide⟩
  · exact ⟨5, rfl, by decide, by decide⟩
  · exact ⟨25, rfl, by decide, by decide⟩
  · exact ⟨125, rfl, by decide, by decide⟩
theorem net {l : List Int} (N : Nums l) {k m : Int} (h0 : 0 ≤ k) (h1 : k ≤ 9) (m0 : 1 ≤ m) (m1 : m ≤ 5) : Oks (T_law_net l k m) fun p => VN p.1 p.2 ∧ (p.1 ≤ m) := by
  unfold T_law_net
  obtain ⟨x, ex, x0, x1⟩ := N.at (i := k) (by omega) (by omega)
  rw [ex]
  refine oks_bind (P := fun p => p.1 = true → 4 < m) ?_ fun p hp => ?_
  · refine oks_ifb (fun h => ?_) fun h => ?_
    · exact oks_ok fun _ => of_decide_eq_true h
    · exact oks_ok fun h => by cases h
  refine oks_ifb (fun h => ?_) fun h => ?_
  · refine oks_call (ring N (by omega) (by omega)) fun p hp2 => oks_ok ?_
    have := hp h
    rw [hp2.1]
    exact ⟨hp2.2, by omega⟩
  refine oks_opt rfl (oks_ck (by omega) (oks_lt ?_))
  have d1 := Int.emod_nonneg (x / 3) (show m ≠ 0 by omega)
  have d2 := Int.emod_lt_of_pos (x / 3) (show 0 < m by omega)
  generalize hn : 1 + x / 3 % m = n
  have n1 : 1 ≤ n := by omega
  have n2 : n ≤ m := by omega
  refine oks_ck (by unfold okR; omega) ?_
  refine oks_bind (P := fun s => s.1.Pairwise ltP ∧ s.1.length ≤ 25 ∧ ∀ p ∈ s.1, (0 ≤ p.1 ∧ p.1 < n) ∧ (0 ≤ p.2 ∧ p.2 < n) ∧ p.1 ≠ p.2) ?_ fun s hs => ?_
  · refine oks_fold (fun pre s => s.1.Pairwise ltP ∧ (s.1.length : Int) ≤ s.2 ∧ 0 ≤ s.2 ∧ s.2 ≤ 5 * (pre.length : Int) ∧ ∀ p ∈ s.1, (0 ≤ p.1 ∧ p.1 < (pre.length : Int)) ∧ (0 ≤ p.2 ∧ p.2 < n) ∧ p.1 ≠ p.2) ?_ ?_ ?_
    · exact ⟨.nil, by decide, by decide, by decide, fun p hp => by cases hp⟩
    · rintro pre i post ⟨as, at_⟩ e1 ⟨ho, hl, ha, hb, hr⟩
      obtain ⟨hi, hin, _⟩ := rng_snoc e1
      dsimp only at ho hl ha hb hr
      refine oks_ck (by unfold okR; omega) ?_
      refine oks_bind (P := fun s => s.1.Pairwise ltP ∧ (s.1.length : Int) ≤ s.2 ∧ 0 ≤ s.2 ∧ s.2 ≤ 5 * (pre.length : Int) + n ∧ ∀ p ∈ s.1, (0 ≤ p.1 ∧ p.1 ≤ i) ∧ (0 ≤ p.2 ∧ p.2 < n) ∧ p.1 ≠ p.2) ?_ fun s hs => ?_
      · refine oks_fold (fun pre2 s => s.1.Pairwise ltP ∧ (s.1.length : Int) ≤ s.2 ∧ 0 ≤ s.2 ∧ s.2 ≤ 5 * (pre.length : Int) + (pre2.length : Int) ∧ ∀ p ∈ s.1, (0 ≤ p.1 ∧ (p.1 < i ∨ (p.1 = i ∧ p.2 < (pre2.length : Int)))) ∧ (0 ≤ p.2 ∧ p.2 < n) ∧ p.1 ≠ p.2) ?_ ?_ ?_
        · refine ⟨ho, hl, ha, by simpa using hb, fun p hp => ?_⟩
          have := hr p hp
          refine ⟨⟨this.1.1, .inl ?_⟩, this.2⟩
          omega
        · rintro pre2 j post2 ⟨as2, at2⟩ e2 ⟨ho2, hl2, ha2, hb2, hr2⟩
          obtain ⟨hj, hjn, _⟩ := rng_snoc e2
          dsimp only at ho2 hl2 ha2 hb2 hr2
          have keep : ∀ p ∈ as2, (0 ≤ p.1 ∧ (p.1 < i ∨ (p.1 = i ∧ p.2 < ((pre2 ++ [j]).length : Int)))) ∧ (0 ≤ p.2 ∧ p.2 < n) ∧ p.1 ≠ p.2 := fun p hp => by
            have := hr2 p hp
            simp only [List.length_append, List.length_cons, List.length_nil]
            omega
          refine oks_ifb (fun hne => ?_) fun hne => ?_
          · have hne' : i ≠ j := by
              intro h
              rw [decide_eq_true h] at hne
              cases hne
            obtain ⟨y, ey, y0, y1⟩ := N.at (i := k + 1 + at2 / 4) (by omega) (by omega)
            obtain ⟨w, ew, w0, w1⟩ := pow5 (i := at2 % 4) (by omega) (by omega)
            refine oks_opt ey (oks_opt ew (oks_ck (by unfold divC; omega) (oks_lt (oks_lt ?_))))
            refine oks_opt rfl (oks_opt rfl ?_)
            refine oks_if (fun _ => ?_) fun _ => ?_
            · refine oks_ck (by unfold appC; dsimp only; omega) (oks_ok ?_)
              refine ⟨?_, ?_, by dsimp only; omega, ?_, fun p hp => ?_⟩
              · refine List.pairwise_append.mpr ⟨ho2, by simp, fun p hp q hq => ?_⟩
                rw [List.mem_singleton.mp hq]
                have := hr2 p hp
                unfold ltP
                dsimp only at *
                omega
              · simp only [List.length_append, List.length_cons, List.length_nil]
                omega
              · simp only [List.length_append, List.length_cons, List.length_nil]
                omega
              · rcases List.mem_append.mp hp with hp | hp
                · exact keep p hp
                · rw [List.mem_singleton.mp hp]
                  simp only [List.length_append, List.length_cons, List.length_nil]
                  refine ⟨⟨by omega, .inr ⟨trivial, by omega⟩⟩, ⟨by omega, by omega⟩, hne'⟩
            · refine oks_ok ⟨ho2, by dsimp only; omega, by dsimp only; omega, ?_, keep⟩
              simp only [List.length_append, List.length_cons, List.length_nil]
              omega
          · refine oks_ok ⟨ho2, by dsimp only; omega, by dsimp only; omega, ?_, keep⟩
            simp only [List.length_append, List.length_cons, List.length_nil]
            omega
        · rintro s ⟨ho2, hl2, ha2, hb2, hr2⟩
          rw [rng_len] at hb2
          refine ⟨ho2, hl2, ha2, by omega, fun p hp => ?_⟩
          have := hr2 p hp
          omega
      · obtain ⟨ho2, hl2, ha2, hb2, hr2⟩ := hs
        refine oks_ok ⟨ho2, hl2, ha2, ?_, fun p hp => ?_⟩
        · simp only [List.length_append, List.length_cons, List.length_nil]
          omega
        · have := hr2 p hp
          simp only [List.length_append, List.length_cons, List.length_nil]
          omega
    · rintro s ⟨ho, hl, ha, hb, hr⟩
      rw [rng_len] at hb hr
      refine ⟨ho, by omega, fun p hp => ?_⟩
      have := hr p hp
      omega
  · obtain ⟨ho, hl, hr⟩ := hs
    exact oks_ok ⟨⟨n1, by dsimp only; omega, hr, ho, by dsimp only; omega⟩, n2⟩
end Lk49
namespace Lk49
open PySem KS KT
theorem leTs_pp (p q : Int × Int) : leTs [p.1, p.2] [q.1, q.2] = decide (p.1 < q.1 ∨ (p.1 = q.1 ∧ p.2 ≤ q.2)) := by
  unfold leTs
  show Ob.lexAt _ _ _ 0 2 = _
  rw [Ob.lexAt_succ, Ob.lexAt_succ, Ob.lexAt_zero]
  simp only [List.getD_cons_zero, List.getD_cons_succ, Nat.zero_add]
  by_cases h1 : p.1 = q.1
  · by_cases h2 : p.2 = q.2
    · simp [h1, h2]
    · simp [h1, h2]
  · simp [h1]
    omega
abbrev eA : Int × Int → DV := eP2 eI eI
theorem le_arc (p q : Int × Int) : leYo (eA p) (eA q) = some (decide (p.1 < q.1 ∨ (p.1 = q.1 ∧ p.2 ≤ q.2))) := by
  rw [← leTs_pp]
  rfl
theorem below (x m : Int) : T_is_below (eI x) m = .ok (decide (0 ≤ x) && decide (x < m)) := rfl
theorem enum_snd {α : Type} (l : List α) : (enumT l).map (·.2) = l := by
  unfold enumT
  rw [List.map_map]
  exact List.zipIdx_map_fst ..
theorem enum_get {α : Type} (l : List α) (k : Nat) : (enumT l)[k]? = (l[k]?).map fun a => ((k : Int), a) := by
  unfold enumT
  rw [List.getElem?_map, List.getElem?_zipIdx]
  cases l[k]? <;> simp
theorem enum_snoc {α : Type} {l : List α} {pre post : List (Int × α)} {p : Int × α} (e : enumT l = pre ++ p :: post) : p.1 = pre.length ∧ l[pre.length]? = some p.2 := by
  have h := enum_get l pre.length
  rw [e, List.getElem?_append_right (Nat.le_refl _), Nat.sub_self, List.getElem?_cons_zero] at h
  cases hl : l[pre.length]? with
  | none => rw [hl] at h; cases h
  | some a =>
    rw [hl] at h
    injection h with h
    rw [h]
    exact ⟨rfl, rfl⟩
theorem wrong_arc {n : Int} {as : List (Int × Int)} (h : VN n as) {C : DV} (hC : C = .lst (as.map eA) ∨ C = .tup (as.map eA)) : T_first_wrong_arc n C = .ok none := by
  refine Oks.to ?_
  unfold T_first_wrong_arc
  have h1 : isiYs [.lst, .tup] C = some true := by rcases hC with rfl | rfl <;> rfl
  have h2 : seqY C = some (as.map eA) := by rcases hC with rfl | rfl <;> rfl
  refine oks_opt h1 (oks_ifb (fun h => by cases h) fun _ => oks_lt (oks_opt h2 ?_))
  refine oks_aft (P := fun w => match w with
    | .nx _ => True
    | .brk _ => True
    | .ret _ => False) ?_ (fun s _ => oks_ok rfl) (fun s _ => oks_ok rfl) (fun x h => h.elim)
  refine oks_loop (fun pre s => ∃ q, s = eA q ∧ ∀ a ∈ as.drop pre.length, ltP q a) ?_ ?_ fun s _ => trivial
  · refine ⟨(-1, -1), rfl, fun a ha => ?_⟩
    have := h.rng a (List.mem_of_mem_drop ha)
    exact .inl (by dsimp only; omega)
  · rintro pre p post s e ⟨q, rfl, hq⟩
    obtain ⟨_, hp⟩ := enum_snoc e
    rw [List.getElem?_map, Option.map_eq_some_iff] at hp
    obtain ⟨a, ha, he⟩ := hp
    have hd : as.drop pre.length = a :: as.drop (pre.length + 1) := by
      obtain ⟨hlt, rfl⟩ := List.getElem?_eq_some_iff.mp ha
      exact List.drop_eq_getElem_cons hlt
    have ham : a ∈ as := List.mem_of_getElem? ha
    have hr := h.rng a ham
    have hqa : ltP q a := hq a (by rw [hd]; exact List.mem_cons_self ..)
    have hnext : ∀ b ∈ as.drop (pre.length + 1), ltP a b := by
      have : (as.drop pre.length).Pairwise ltP := h.ord.sublist (List.drop_sublist ..)
      rw [hd, List.pairwise_cons] at this
      exact this.1
    rw [← he]
    refine oks_bind (P := fun p => p.1 = false) ?_ fun b hb => ?_
    · refine oks_opt (a := true) rfl (oks_ifb (fun h => by cases h) fun _ => ?_)
      refine oks_opt (a := 2) rfl (oks_ifb (fun h => by cases h) fun _ => ?_)
      refine oks_opt (a := [.int a.1, .int a.2]) rfl (oks_ck (show (2 : Nat) ≤ 16777216 by decide) ?_)
      refine oks_call (P := fun l => l.1 = [true, true]) ?_ fun l hl => oks_ok (by dsimp only; rw [hl]; rfl)
      refine ⟨([true, true], ()), ?_, rfl⟩
      unfold compT compT compT
      rw [show (DV.int a.1) = eI a.1 from rfl, show (DV.int a.2) = eI a.2 from rfl, below, below, decide_eq_true hr.1.1, decide_eq_true hr.1.2, decide_eq_true hr.2.1.1, decide_eq_true hr.2.1.2]
      rfl
    · rw [hb]
      refine oks_ifb (fun h => by cases h) fun _ => ?_
      refine oks_bind (P := fun p => p.1 = false) ?_ fun b hb => ?_
      · refine oks_opt (a := .int a.1) rfl (oks_opt (a := .int a.2) rfl (oks_opt (a := decide (a.1 = a.2)) (eqb_I ..) ?_))
        rw [decide_eq_false hr.2.2]
        refine oks_ifb (fun h => by cases h) fun _ => ?_
        refine oks_opt (le_arc a q) (oks_ok ?_)
        unfold ltP at hqa
        exact decide_eq_false (by omega)
      · rw [hb]
        refine oks_ifb (fun h => by cases h) fun _ => oks_ok ?_
        dsimp only
        refine ⟨a, rfl, ?_⟩
        rw [List.length_append]
        exact hnext
theorem decs_m {α : Type} {d : DV → Option α} {E : α → DV} (h : ∀ a, d (E a) = some a) : ∀ l : List α, decs d (l.map E) = some l
  | [] => rfl
  | a :: l => by
    rw [List.map_cons, decs, h, decs_m h l]
/-- whom each place knows -/
def kn (n : Int) (as : List (Int × Int)) : List (List Int) := (rngT 0 n).map fun i => (as.filter fun p => decide (p.1 = i)).map fun p => p.2
theorem init {n : Int} {as : List (Int × Int)} (h : VN n as) : T_Net_init n (eL eA as) = .ok ((), (n, as, kn n as)) := by
  refine Oks.to ?_
  unfold T_Net_init
  have lo := h.lo
  have hi := h.hi
  refine oks_call (Oks.eq (below n (12 + 1))) ?_
  rintro _ rfl
  refine oks_if (fun h2 => ?_) fun _ => ?_
  · exfalso
    simp at h2
    omega
  refine oks_call (Oks.eq (wrong_arc h (.inl rfl))) ?_
  rintro _ rfl
  refine oks_if (fun h2 => by cases h2) fun _ => oks_lt ?_
  refine oks_opt (a := eT eA as) rfl ?_
  refine oks_opt (a := as) (decs_m (d := asP2 asI asI) (E := eA) (fun a => rfl) as) (oks_lt ?_)
  have hl := h.len
  refine oks_ck (by unfold okR; omega) (oks_ck (by omega) (oks_ck ?_ (oks_lt (oks_ok rfl))))
  rw [rng_len]
  omega
theorem knows {n : Int} {as : List (Int × Int)} (h : VN n as) : T_law_knows (n, as) = .ok (kn n as) := by
  refine Oks.to ?_
  unfold T_law_knows
  have lo := h.lo
  have hi := h.hi
  have hl := h.len
  refine oks_ck (by unfold okR; dsimp only; omega) ?_
  refine oks_bind (P := fun s => s = kn n as) ?_ fun s hs => oks_ok hs
  refine oks_fold (fun pre s => s = pre.map fun i => (as.filter fun p => decide (p.1 = i)).map fun p => p.2) rfl ?_ ?_
  · rintro pre i post s e rfl
    obtain ⟨hi2, hin, _⟩ := rng_snoc e
    dsimp only at hin
    refine oks_ck (by dsimp only; omega) (oks_ck ?_ (oks_ok ?_))
    · unfold appC
      rw [List.length_map]
      omega
    · rw [List.map_append]
      rfl
  · rintro s rfl
    rfl
theorem kn_len {n : Int} {as : List (Int × Int)} (h : 0 ≤ n) : ((kn n as).length : Int) = n := by
  unfold kn
  rw [List.length_map, rng_len]
  omega
theorem kn_at {n : Int} {as : List (Int × Int)} {i : Int} (h0 : 0 ≤ i) (h1 : i < n) : L2.atI (kn n as) i = some ((as.filter fun p => decide (p.1 = i)).map fun p => p.2) := by
  rw [at_nat h0 (by rw [kn_len (by omega)]; exact h1)]
  unfold kn
  rw [List.getElem?_map, rng_get (by omega), Option.map_some]
  congr 3
  funext p
  congr 1
  rw [show (0 : Int) + (i.toNat : Int) = i by omega]
end Lk49
namespace Lk49
open PySem KS KT
/-! words -/
def Wd (n : Nat) (q : Int) (w : List Int) : Prop := w.length = n ∧ ∀ x ∈ w, 0 ≤ x ∧ x < q
def grow (q : Int) (w : List Int) : List (List Int) := (rngT 0 q).map fun x => w ++ [x]
def allW (q : Int) : Nat → List (List Int)
  | 0 => [[]]
  | k + 1 => (allW q k).flatMap (grow q)
theorem mem_allW {q : Int} : ∀ {n : Nat} {w : List Int}, w ∈ allW q n ↔ Wd n q w
  | 0, w => by
    unfold allW Wd
    rw [List.mem_singleton]
    constructor
    · rintro rfl
      exact ⟨rfl, fun x hx => by cases hx⟩
    · rintro ⟨h, _⟩
      exact List.length_eq_zero_iff.mp h
  | n + 1, w => by
    unfold allW
    rw [List.mem_flatMap]
    constructor
    · rintro ⟨v, hv, hw⟩
      obtain ⟨x, hx, rfl⟩ := List.mem_map.mp hw
      obtain ⟨hl, hr⟩ := mem_allW.mp hv
      refine ⟨by rw [List.length_append, hl]; rfl, fun y hy => ?_⟩
      rcases List.mem_append.mp hy with hy | hy
      · exact hr y hy
      · rw [List.mem_singleton.mp hy]; exact mem_rng.mp hx
    · rintro ⟨hl, hr⟩
      have hne : w ≠ [] := by rintro rfl; cases hl
      refine ⟨w.dropLast, mem_allW.mpr ⟨by rw [List.length_dropLast, hl]; rfl, fun y hy => hr y (List.dropLast_subset w hy)⟩, ?_⟩
      exact List.mem_map.mpr ⟨w.getLast hne, mem_rng.mpr (hr _ (List.getLast_mem hne)), List.dropLast_concat_getLast hne⟩
theorem allW_nodup {q : Int} : ∀ n, (allW q n).Nodup
  | 0 => by unfold allW; simp
  | n + 1 => by
    unfold allW
    refine List.pairwise_flatMap.mpr ⟨fun v _ => ?_, ?_⟩
    · unfold grow
      rw [List.pairwise_map]
      refine (rng_nodup 0 q).imp fun h e => h ?_
      have := List.append_cancel_left e
      simpa using this
    · refine (allW_nodup n).imp fun {a b} h x hx y hy => ?_
      obtain ⟨i, _, rfl⟩ := List.mem_map.mp hx
      obtain ⟨j, _, rfl⟩ := List.mem_map.mp hy
      rintro e
      have := congrArg List.dropLast e
      rw [List.dropLast_concat, List.dropLast_concat] at this
      exact h this
theorem grow_len (q : Int) (w : List Int) : (grow q w).length = q.toNat := by
  unfold grow
  rw [List.length_map, rng_len]
  omega
theorem flat_len (q : Int) : ∀ l : List (List Int), (l.flatMap (grow q)).length = l.length * q.toNat
  | [] => by simp
  | a :: l => by
    rw [List.flatMap_cons, List.length_append, grow_len, flat_len q l, List.length_cons, Nat.succ_mul]
    omega
theorem allW_len (q : Int) : ∀ n, (allW q n).length = q.toNat ^ n
  | 0 => rfl
  | n + 1 => by
    unfold allW
    rw [flat_len, allW_len q n, Nat.pow_succ]
theorem allW_le {q : Int} (h : q ≤ 5) {n : Nat} (hn : n ≤ 5) : (allW q n).length ≤ 3125 := by
  rw [allW_len]
  calc q.toNat ^ n ≤ 5 ^ n := Nat.pow_le_pow_left (by omega) n
    _ ≤ 5 ^ 5 := Nat.pow_le_pow_right (by decide) hn
theorem words {n q : Int} (h0 : 0 ≤ n) (h1 : n ≤ 5) (q0 : 0 ≤ q) (q1 : q ≤ 5) : T_law_words n q = .ok (allW q n.toNat) := by
  refine Oks.to ?_
  unfold T_law_words
  refine oks_lt (oks_ck (by unfold okR; omega) ?_)
  refine oks_bind (P := fun s => s = allW q n.toNat) ?_ fun s hs => oks_ok hs
  refine oks_fold (fun pre s => s = allW q pre.length) rfl ?_ fun s hs => ?_
  · rintro pre i post s e rfl
    obtain ⟨hi, hin, _⟩ := rng_snoc e
    have hk : pre.length ≤ 4 := by omega
    refine oks_bind (P := fun s => s = allW q (pre.length + 1)) ?_ fun s hs => oks_ok (by rw [hs, List.length_append]; rfl)
    refine oks_fold (fun pre2 s => s = pre2.flatMap (grow q)) rfl ?_ fun s hs => hs
    rintro pre2 w post2 s e2 rfl
    have hw : Wd pre.length q w := mem_allW.mp (by rw [e2]; simp)
    have hl2 : pre2.length ≤ 3125 := by
      have h := congrArg List.length e2
      have h3 := allW_le q1 (n := pre.length) (by omega)
      rw [List.length_append] at h
      omega
    have hlf : (pre2.flatMap (grow q)).length ≤ 15625 := by
      rw [flat_len]
      calc pre2.length * q.toNat ≤ 3125 * 5 := Nat.mul_le_mul hl2 (by omega)
        _ ≤ 15625 := by decide
    refine oks_ck (by unfold okR; omega) ?_
    refine oks_bind (P := fun s => s = (pre2 ++ [w]).flatMap (grow q)) ?_ fun s hs => oks_ok hs
    refine oks_fold (fun pre3 s => s = pre2.flatMap (grow q) ++ pre3.map fun x => w ++ [x]) (by simp) ?_ ?_
    · rintro pre3 x post3 s e3 rfl
      obtain ⟨hx, hxn, _⟩ := rng_snoc e3
      refine oks_ck ?_ (oks_ck ?_ (oks_ok ?_))
      · unfold catC
        rw [hw.1]
        simp only [List.length_cons, List.length_nil]
        omega
      · unfold appC
        rw [List.length_append, List.length_map]
        omega
      · rw [List.map_append, List.append_assoc]
        rfl
    · rintro s rfl
      rw [List.flatMap_append]
      simp [grow]
  · rw [hs, rng_len, Int.sub_zero]
/-! letters by place -/
def gt (w : List Int) (i : Int) : Int := (L2.atI w i).getD 0
theorem gt_at {n : Nat} {w : List Int} {i : Int} (hl : w.length = n) (h0 : 0 ≤ i) (h1 : i < n) : L2.atI w i = some (gt w i) := by
  obtain ⟨x, e, _, _⟩ := at_some (l := w) h0 (by omega)
  unfold gt
  rw [e]; rfl
theorem gt_nat {w : List Int} {i : Int} (h0 : 0 ≤ i) (h1 : i < w.length) : gt w i = w[i.toNat]'(by omega) := by
  unfold gt
  rw [at_nat h0 h1, List.getElem?_eq_getElem (by omega)]
  rfl
theorem gt_rng {n : Nat} {q : Int} {w : List Int} {i : Int} (h : Wd n q w) (h0 : 0 ≤ i) (h1 : i < n) : 0 ≤ gt w i ∧ gt w i < q := by
  obtain ⟨x, e, m, _⟩ := at_some (l := w) h0 (by rw [h.1]; exact h1)
  unfold gt
  rw [e]
  exact h.2 x m
theorem gt_ext {n : Nat} {v w : List Int} (hv : v.length = n) (hw : w.length = n) (h : ∀ i : Int, 0 ≤ i → i < n → gt v i = gt w i) : v = w := by
  refine List.ext_getElem (by rw [hv, hw]) fun j h1 h2 => ?_
  have := h j (by omega) (by omega)
  rw [gt_nat (by omega) (by omega), gt_nat (by omega) (by omega)] at this
  exact this
/-! two words that exclude one another -/
def exP (as : List (Int × Int)) (a b : List Int) (i : Int) : Bool := !decide (gt a i = gt b i) && as.all fun p => !decide (p.1 = i) || decide (gt a p.2 = gt b p.2)
def exC (n : Int) (as : List (Int × Int)) (a b : List Int) : Option Int := (rngT 0 n).findSome? fun i => if exP as a b i = true then some i else none
theorem known {n : Int} {as : List (Int × Int)} (h : VN n as) {i j : Int} (hj : j ∈ (as.filter fun p => decide (p.1 = i)).map fun p => p.2) : 0 ≤ j ∧ j < n := by
  obtain ⟨p, hp, rfl⟩ := List.mem_map.mp hj
  exact (h.rng p (List.mem_filter.mp hp).1).2.1
theorem excludes {n : Int} {as : List (Int × Int)} (h : VN n as) {a b : List Int} (ha : (a.length : Int) = n) (hb : (b.length : Int) = n) : T_law_excludes (kn n as) a b = .ok (exC n as a b) := by
  refine Oks.to ?_
  unfold T_law_excludes
  have lo := h.lo
  have hi := h.hi
  have hl := h.len
  rw [kn_len (by omega)]
  refine oks_ck (by unfold okR; omega) ?_
  rw [loop_find (f := fun i => if exP as a b i = true then some (some i) else none) fun i hi2 => ?_]
  · unfold exC
    have : ∀ l : List Int, (l.findSome? fun i => if exP as a b i = true then some (some i) else none) = (l.findSome? fun i => if exP as a b i = true then some i else none).map some := fun l => by
      induction l with
      | nil => rfl
      | cons x l ih =>
        rw [List.findSome?_cons, List.findSome?_cons]
        by_cases c : exP as a b x = true
        · rw [if_pos c, if_pos c]; rfl
        · rw [if_neg c, if_neg c]; exact ih
    rw [this]
    cases (rngT 0 n).findSome? fun i => if exP as a b i = true then some i else none <;> exact oks_ok rfl
  · obtain ⟨i0, i1⟩ := mem_rng.mp hi2
    refine Oks.to ?_
    have ga : ∀ j : Int, 0 ≤ j → j < n → L2.atI a j = some (gt a j) := fun j h0 h1 => gt_at rfl h0 (by omega)
    have gb : ∀ j : Int, 0 ≤ j → j < n → L2.atI b j = some (gt b j) := fun j h0 h1 => gt_at rfl h0 (by omega)
    refine oks_bind (P := fun p => p.1 = exP as a b i) ?_ fun p hp => ?_
    · refine oks_opt (ga i i0 i1) (oks_opt (gb i i0 i1) (oks_ifb (fun c => ?_) fun c => ?_))
      · refine oks_opt (kn_at i0 i1) (oks_ck ?_ ?_)
        · rw [List.length_map]
          have := List.length_filter_le (fun p : Int × Int => decide (p.1 = i)) as
          omega
        · rw [comp_eq (g := fun j => if (!decide (gt a j = gt b j)) = true then some j else none) fun j hj => ?_]
          · refine oks_ok ?_
            unfold exP
            rw [c, Bool.true_and, Bool.eq_iff_iff, decide_eq_true_iff, List.all_eq_true]
            dsimp only
            constructor
            · intro h p hp
              have h0 := List.length_eq_zero_iff.mp (Int.ofNat_eq_zero.mp h)
              rw [List.filterMap_eq_nil_iff] at h0
              by_cases hpi : p.1 = i
              · have := h0 p.2 (List.mem_map.mpr ⟨p, List.mem_filter.mpr ⟨hp, decide_eq_true hpi⟩, rfl⟩)
                by_cases hg : gt a p.2 = gt b p.2
                · rw [decide_eq_true hg, Bool.or_true]
                · rw [decide_eq_false hg] at this
                  cases this
              · rw [decide_eq_false hpi]; rfl
            · intro h
              have : (List.filterMap (fun j => if (!decide (gt a j = gt b j)) = true then some j else none) ((as.filter fun p => decide (p.1 = i)).map fun p => p.2)) = [] := by
                rw [List.filterMap_eq_nil_iff]
                intro j hj
                obtain ⟨p, hp, rfl⟩ := List.mem_map.mp hj
                obtain ⟨hp1, hp2⟩ := List.mem_filter.mp hp
                have := h p hp1
                rw [hp2, Bool.not_true, Bool.false_or] at this
                rw [this]; rfl
              rw [this]; rfl
          · obtain ⟨j0, j1⟩ := known h hj
            rw [ga j j0 j1, gb j j0 j1]
            dsimp only [opt_some, O.bind_ok]
            cases decide (gt a j = gt b j) <;> rfl
      · refine oks_ok ?_
        unfold exP
        rw [c]; rfl
    · rw [hp]
      by_cases c : exP as a b i = true
      · rw [if_pos c, if_pos c]; exact oks_ok rfl
      · rw [if_neg c, if_neg c]; exact oks_ok rfl
end Lk49
namespace Lk49
open PySem KS KT
theorem lexAt_shift (e r : Nat → Bool) (z : Bool) : ∀ k i, Ob.lexAt e r z (i + 1) k = Ob.lexAt (fun j => e (j + 1)) (fun j => r (j + 1)) z i k
  | 0, _ => rfl
  | k + 1, i => by
    rw [Ob.lexAt_succ, Ob.lexAt_succ, lexAt_shift e r z k (i + 1)]
theorem leTs_cons (x y : Int) (p q : List Int) : leTs (x :: p) (y :: q) = if x = y then leTs p q else decide (x ≤ y) := by
  unfold leTs
  rw [List.length_cons, List.length_cons, Nat.succ_min_succ, Ob.lexAt_succ, lexAt_shift]
  simp only [List.getD_cons_zero, List.getD_cons_succ, decide_eq_true_eq, Nat.add_le_add_iff_right]
theorem leTs_eq : ∀ p q : List Int, leTs p q = decide (p ≤ q)
  | [], q => by
    unfold leTs
    rw [List.length_nil, Nat.zero_min, Ob.lexAt_zero]
    simp
  | x :: p, [] => by
    unfold leTs
    rw [List.length_nil, Nat.min_zero, Ob.lexAt_zero]
    simp
  | x :: p, y :: q => by
    rw [leTs_cons, leTs_eq p q]
    by_cases h : x = y
    · rw [if_pos h, Bool.eq_iff_iff, decide_eq_true_eq, decide_eq_true_eq, List.cons_le_cons_iff]
      constructor
      · intro h2; exact .inr ⟨h, h2⟩
      · rintro (h2 | ⟨_, h2⟩)
        · omega
        · exact h2
    · rw [if_neg h, Bool.eq_iff_iff, decide_eq_true_eq, decide_eq_true_eq, List.cons_le_cons_iff]
      constructor
      · intro h2; exact .inl (by omega)
      · rintro (h2 | ⟨h3, h2⟩)
        · omega
        · exact absurd h3 h
theorem intsOf_m : ∀ p : List Int, intsOf (toDs (p.map eI)) = some p
  | [] => rfl
  | x :: p => by
    have := intsOf_m p
    show intsOf (D.int x :: toDs (p.map eI)) = _
    unfold intsOf
    rw [this]
    rfl
abbrev eW : List Int → DV := eT eI
theorem le_word (p q : List Int) : leYo (eW p) (eW q) = some (decide (p ≤ q)) := by
  rw [← leTs_eq]
  unfold leYo
  have : leA (toD (eW p)) (toD (eW q)) = some (.bl (leTs p q)) := by
    show leTF (.tup (toDs (p.map eI))) (.tup (toDs (q.map eI))) = _
    unfold leTF
    dsimp only
    rw [intsOf_m, intsOf_m]
  rw [this]
/-! a word is told as one -/
theorem is_word {n : Nat} {q : Int} {as : List (Int × Int)} {k : List (List Int)} {w : List Int} (h : Wd n q w) : T_is_word (n, as, k) q (eW w) = .ok true := by
  refine Oks.to ?_
  unfold T_is_word
  refine oks_bind (P := fun p => p.1 = false) ?_ fun p hp => ?_
  · refine oks_opt (a := true) rfl (oks_ifb (fun h => by cases h) fun _ => ?_)
    refine oks_opt (a := (w.length : Int)) (by show some ((w.map eI).length : Int) = _; rw [List.length_map]) (oks_ok ?_)
    dsimp only
    rw [h.1, decide_eq_true rfl]; rfl
  · rw [hp]
    refine oks_ifb (fun h => by cases h) fun _ => ?_
    refine oks_opt (a := w.map eI) rfl ?_
    refine oks_aft (P := fun w => match w with
      | .nx _ => True
      | .brk _ => True
      | .ret _ => False) ?_ (fun s _ => oks_ok rfl) (fun s _ => oks_ok rfl) (fun x h => h.elim)
    refine oks_loop (fun pre s => True) trivial ?_ fun s _ => trivial
    rintro pre d post s e _
    have hd : d ∈ w.map eI := by rw [e]; simp
    obtain ⟨x, hx, rfl⟩ := List.mem_map.mp hd
    obtain ⟨x0, x1⟩ := h.2 x hx
    refine oks_bind (P := fun p => p.1 = false) ?_ fun p hp => ?_
    · refine oks_opt (a := false) rfl (oks_ifb (fun h => by cases h) fun _ => ?_)
      refine oks_opt (a := true) rfl (oks_ifb (fun h => by cases h) fun _ => ?_)
      refine oks_opt (a := x) rfl (oks_ifb (fun h => ?_) fun _ => ?_)
      · have := of_decide_eq_true h
        omega
      · exact oks_opt (a := x) rfl (oks_ok (decide_eq_false (by omega)))
    · rw [hp]
      exact oks_ifb (fun h => by cases h) fun _ => oks_ok trivial
/-- rising words -/
structure VW (n : Nat) (q : Int) (ws : List (List Int)) : Prop where
  wd : ∀ w ∈ ws, Wd n q w
  ord : ws.Pairwise (· < ·)
theorem check {n : Nat} {q : Int} {as : List (Int × Int)} {k : List (List Int)} {ws : List (List Int)} (h : VW n q ws) : T_check_words (n, as, k) q (eT eW ws) = .ok () := by
  refine Oks.to ?_
  unfold T_check_words
  refine oks_opt (a := true) rfl (oks_ifb (fun h => by cases h) fun _ => ?_)
  refine oks_opt (a := ws.map eW) rfl ?_
  refine oks_bind (P := fun s => True) ?_ fun s _ => oks_ok rfl
  refine oks_fold (fun pre s => True) trivial ?_ fun s _ => trivial
  rintro pre p post s e _
  obtain ⟨hk, hp⟩ := enum_snoc e
  rw [List.getElem?_map, Option.map_eq_some_iff] at hp
  obtain ⟨w, hw, he⟩ := hp
  rw [← he, hk]
  refine oks_bind (P := fun p => p.1 = false) ?_ fun p hp => ?_
  · refine oks_call (Oks.eq (is_word (h.wd w (List.mem_of_getElem? hw)))) ?_
    rintro _ rfl
    refine oks_ifb (fun h => by cases h) fun _ => oks_ifb (fun hpos => ?_) fun _ => oks_ok rfl
    have hpos := of_decide_eq_true hpos
    obtain ⟨hlt, hwe⟩ := List.getElem?_eq_some_iff.mp hw
    have hlt2 : pre.length - 1 < ws.length := by omega
    refine oks_opt (a := eW ws[pre.length - 1]) ?_ (oks_opt (le_word _ _) (oks_ok ?_))
    · show L2.atI (ws.map eW) _ = _
      rw [at_nat (by omega) (by rw [List.length_map]; omega), List.getElem?_map, show ((pre.length : Int) - 1).toNat = pre.length - 1 by omega, List.getElem?_eq_getElem hlt2]
      rfl
    · refine decide_eq_false (List.not_le.mpr ?_)
      rw [← hwe]
      exact List.pairwise_iff_getElem.mp h.ord _ _ hlt2 hlt (by omega)
  · rw [hp]
    exact oks_ifb (fun h => by cases h) fun _ => oks_ok trivial
theorem mul_pow (q : Int) (k : Nat) : q ^ (k + 1) = q ^ k * q := Int.pow_succ q k
theorem pow_mono {q : Int} (h : 1 ≤ q) : ∀ {i n : Nat}, i ≤ n → q ^ i ≤ q ^ n := by
  intro i n hn
  induction hn with
  | refl => exact Int.le_refl _
  | @step m _ ih =>
    rw [Int.pow_succ]
    have h0 : 0 ≤ q ^ m := Int.pow_nonneg (by omega)
    have := Int.mul_le_mul_of_nonneg_left h h0
    rw [Int.mul_one] at this
    exact Int.le_trans ih this
theorem count {n : Nat} {q : Int} {as : List (Int × Int)} {k : List (List Int)} (q0 : 2 ≤ q) (q1 : q ≤ 5) (hn : n ≤ 12) (h : q ^ n ≤ 81) : T_count_words (n, as, k) (eI q) = .ok (q ^ n) := by
  refine Oks.to ?_
  unfold T_count_words
  refine oks_bind (P := fun p => p.1 = false) ?_ fun p hp => ?_
  · refine oks_opt (a := false) rfl (oks_ifb (fun h => by cases h) fun _ => ?_)
    refine oks_opt (a := true) rfl (oks_ifb (fun h => by cases h) fun _ => ?_)
    refine oks_opt (a := q) rfl (oks_ifb (fun h => ?_) fun _ => ?_)
    · have := of_decide_eq_true h
      omega
    · exact oks_opt (a := q) rfl (oks_ok (decide_eq_false (by omega)))
  · rw [hp]
    refine oks_ifb (fun h => by cases h) fun _ => ?_
    refine oks_ck (by unfold okR; dsimp only; omega) ?_
    refine oks_bind (P := fun s => s = q ^ n) ?_ fun s hs => oks_ok hs
    refine oks_fold (fun pre s => s = q ^ pre.length) (by simp) ?_ fun s hs => ?_
    · rintro pre i post s e rfl
      obtain ⟨_, hin, _⟩ := rng_snoc e
      dsimp only at hin
      refine oks_opt (a := q) rfl (oks_ck (.inr (by omega)) ?_)
      have h2 : q ^ pre.length * q ≤ 81 := by
        rw [← Int.pow_succ]
        exact Int.le_trans (pow_mono (by omega) (by omega)) h
      refine oks_ifb (fun h => ?_) fun _ => oks_ok ?_
      · have := of_decide_eq_true h
        omega
      · rw [List.length_append, List.length_cons, List.length_nil, Int.pow_succ]
    · rw [hs, rng_len]
      congr 1
end Lk49
namespace Lk49
open PySem KS KT
theorem find_opt {ρ : Type} (f : Int → Bool) (g : Int → ρ) : ∀ l : List Int, (l.findSome? fun i => if f i = true then some (g i) else none) = (l.findSome? fun i => if f i = true then some i else none).map g
  | [] => rfl
  | x :: l => by
    rw [List.findSome?_cons, List.findSome?_cons]
    by_cases c : f x = true
    · rw [if_pos c, if_pos c]; rfl
    · rw [if_neg c, if_neg c]; exact find_opt f g l
theorem parting {n : Int} {as : List (Int × Int)} (h : VN n as) {a b : List Int} (ha : (a.length : Int) = n) (hb : (b.length : Int) = n) : T_parting_place (n, as, kn n as) a b = .ok (exC n as a b) := by
  refine Oks.to ?_
  unfold T_parting_place
  have lo := h.lo
  have hi := h.hi
  have hl := h.len
  refine oks_ck (by unfold okR; dsimp only; omega) ?_
  rw [loop_find (f := fun i => if exP as a b i = true then some (some i) else none) fun i hi2 => ?_]
  · rw [find_opt]
    unfold exC
    cases (rngT 0 n).findSome? fun i => if exP as a b i = true then some i else none <;> exact oks_ok rfl
  · obtain ⟨i0, i1⟩ := mem_rng.mp hi2
    refine Oks.to ?_
    have ga : ∀ j : Int, 0 ≤ j → j < n → L2.atI a j = some (gt a j) := fun j h0 h1 => gt_at rfl h0 (by omega)
    have gb : ∀ j : Int, 0 ≤ j → j < n → L2.atI b j = some (gt b j) := fun j h0 h1 => gt_at rfl h0 (by omega)
    refine oks_bind (P := fun p => p.1 = exP as a b i) ?_ fun p hp => ?_
    · refine oks_opt (ga i i0 i1) (oks_opt (gb i i0 i1) (oks_ifb (fun c => ?_) fun c => ?_))
      · refine oks_opt (kn_at i0 i1) (oks_ck ?_ ?_)
        · rw [List.length_map]
          have := List.length_filter_le (fun p : Int × Int => decide (p.1 = i)) as
          omega
        · rw [comp_map (g := fun j => decide (gt a j = gt b j)) fun j hj => ?_]
          · refine oks_ok ?_
            unfold exP
            rw [c, Bool.true_and, Bool.eq_iff_iff, List.all_eq_true, List.all_eq_true]
            dsimp only
            constructor
            · intro h p hp
              by_cases hpi : p.1 = i
              · have := h _ (List.mem_map.mpr ⟨p.2, List.mem_map.mpr ⟨p, List.mem_filter.mpr ⟨hp, decide_eq_true hpi⟩, rfl⟩, rfl⟩)
                rw [show decide (gt a p.2 = gt b p.2) = true from this, Bool.or_true]
              · rw [decide_eq_false hpi]; rfl
            · intro h d hd
              obtain ⟨j, hj, rfl⟩ := List.mem_map.mp hd
              obtain ⟨p, hp, rfl⟩ := List.mem_map.mp hj
              obtain ⟨hp1, hp2⟩ := List.mem_filter.mp hp
              have := h p hp1
              rw [hp2, Bool.not_true, Bool.false_or] at this
              exact this
          · obtain ⟨j0, j1⟩ := known h hj
            rw [ga j j0 j1, gb j j0 j1]
            rfl
      · refine oks_ok ?_
        unfold exP
        rw [c]; rfl
    · rw [hp]
      by_cases c : exP as a b i = true
      · rw [if_pos c, if_pos c]; exact oks_ok rfl
      · rw [if_neg c, if_neg c]; exact oks_ok rfl
/-! what holds of exC -/
theorem exP_comm (as : List (Int × Int)) (a b : List Int) (i : Int) : exP as a b i = exP as b a i := by
  unfold exP
  simp only [eq_comm (a := gt a _)]
theorem exC_comm (n : Int) (as : List (Int × Int)) (a b : List Int) : exC n as a b = exC n as b a := by
  unfold exC
  simp only [exP_comm as a b]
theorem exC_self (n : Int) (as : List (Int × Int)) (a : List Int) : exC n as a a = none := by
  unfold exC
  rw [List.findSome?_eq_none_iff]
  intro i _
  unfold exP
  simp
/-- the sum of two words -/
def plus (q : Int) (w by_ : List Int) : List Int := (rngT 0 by_.length).map fun i => (gt w i + gt by_ i) % q
theorem plus_len {q : Int} {w v : List Int} : (plus q w v).length = v.length := by
  unfold plus
  rw [List.length_map, rng_len]
  omega
theorem plus_gt {q : Int} {w v : List Int} {i : Int} (h0 : 0 ≤ i) (h1 : i < v.length) : gt (plus q w v) i = (gt w i + gt v i) % q := by
  unfold gt
  rw [at_nat h0 (by rw [plus_len]; exact h1)]
  unfold plus
  rw [List.getElem?_map, rng_get (by omega), show (0 : Int) + (i.toNat : Int) = i by omega]
  rfl
theorem plus_wd {n : Nat} {q : Int} (hq : 0 < q) {w v : List Int} (h : v.length = n) : Wd n q (plus q w v) := by
  refine ⟨by rw [plus_len, h], fun x hx => ?_⟩
  unfold plus at hx
  obtain ⟨i, _, rfl⟩ := List.mem_map.mp hx
  exact ⟨Int.emod_nonneg _ (by omega), Int.emod_lt_of_pos _ hq⟩
theorem emod_inj {q x y c : Int} (x0 : 0 ≤ x) (x1 : x < q) (y0 : 0 ≤ y) (y1 : y < q) : ((x + c) % q = (y + c) % q) ↔ x = y := by
  constructor
  · intro h
    have h1 := Int.emod_emod_of_dvd (x + c) (Int.dvd_refl q)
    have h2 : (x - y) % q = 0 := by
      have := Int.sub_emod (x + c) (y + c) q
      rw [h, Int.sub_self, Int.zero_emod, show x + c - (y + c) = x - y by omega] at this
      exact this
    obtain ⟨k, hk⟩ := Int.dvd_of_emod_eq_zero h2
    have hk0 : k = 0 := by
      rcases Int.lt_trichotomy k 0 with h | h | h
      · have : q * k ≤ q * (-1) := Int.mul_le_mul_of_nonneg_left (by omega) (by omega)
        omega
      · exact h
      · have : q * 1 ≤ q * k := Int.mul_le_mul_of_nonneg_left (by omega) (by omega)
        omega
    subst hk0
    omega
  · rintro rfl
    rfl
theorem plus_same {n : Nat} {q : Int} {a b v : List Int} {i : Int} (ha : Wd n q a) (hb : Wd n q b) (hv : v.length = n) (h0 : 0 ≤ i) (h1 : i < n) : (gt (plus q a v) i = gt (plus q b v) i) ↔ gt a i = gt b i := by
  rw [plus_gt h0 (by omega), plus_gt h0 (by omega)]
  have h2 := gt_rng ha h0 h1
  have h3 := gt_rng hb h0 h1
  exact emod_inj h2.1 h2.2 h3.1 h3.2
theorem plus_exC {n : Int} {q : Int} {as : List (Int × Int)} (h : VN n as) {a b v : List Int} (ha : Wd n.toNat q a) (hb : Wd n.toNat q b) (hv : v.length = n.toNat) : exC n as (plus q a v) (plus q b v) = exC n as a b := by
  unfold exC
  have key : ∀ i ∈ rngT 0 n, exP as (plus q a v) (plus q b v) i = exP as a b i := fun i hi => by
    obtain ⟨i0, i1⟩ := mem_rng.mp hi
    unfold exP
    rw [show decide (gt (plus q a v) i = gt (plus q b v) i) = decide (gt a i = gt b i) from by
      rw [Bool.eq_iff_iff, decide_eq_true_eq, decide_eq_true_eq]; exact plus_same ha hb hv i0 (by omega)]
    congr 1
    rw [Bool.eq_iff_iff, List.all_eq_true, List.all_eq_true]
    refine forall_congr' fun p => ?_
    refine forall_congr' fun hp => ?_
    have hr := (h.rng p hp).2.1
    rw [show decide (gt (plus q a v) p.2 = gt (plus q b v) p.2) = decide (gt a p.2 = gt b p.2) from by
      rw [Bool.eq_iff_iff, decide_eq_true_eq, decide_eq_true_eq]; exact plus_same ha hb hv hr.1 (by omega)]
  generalize rngT 0 n = l at key
  induction l with
  | nil => rfl
  | cons x l ih =>
    rw [List.findSome?_cons, List.findSome?_cons, key x (List.mem_cons_self ..), ih fun i hi => key i (List.mem_cons_of_mem _ hi)]
theorem plus_inj {n : Nat} {q : Int} {a b v : List Int} (ha : Wd n q a) (hb : Wd n q b) (hv : v.length = n) (h : plus q a v = plus q b v) : a = b :=
  gt_ext ha.1 hb.1 fun i h0 h1 => (plus_same ha hb hv h0 h1).mp (by rw [h])
theorem plus_comm {n : Nat} {q : Int} {a b : List Int} (ha : a.length = n) (hb : b.length = n) : plus q a b = plus q b a := by
  refine gt_ext (n := n) (by rw [plus_len, hb]) (by rw [plus_len, ha]) fun i h0 h1 => ?_
  rw [plus_gt h0 (by omega), plus_gt h0 (by omega), Int.add_comm]
end Lk49
namespace Lk49
open PySem KS KT
theorem leR_iff {p q : List Int} : leR p q = true ↔ p ≤ q := by
  unfold leR
  rw [decide_eq_true_iff]
theorem leR_trans (a b c : List Int) (h1 : leR a b = true) (h2 : leR b c = true) : leR a c = true := by
  rw [leR_iff] at *
  exact List.le_trans h1 h2
theorem leR_total (a b : List Int) : (leR a b || leR b a) = true := by
  rw [Bool.or_eq_true, leR_iff, leR_iff]
  exact List.le_total a b
theorem sortR_lt {l : List (List Int)} (h : l.Nodup) : (l.mergeSort leR).Pairwise (· < ·) := by
  have h1 : (l.mergeSort leR).Pairwise fun a b => leR a b = true := List.pairwise_mergeSort leR_trans leR_total l
  have h2 : (l.mergeSort leR).Pairwise (· ≠ ·) := ((List.mergeSort_perm l leR).nodup_iff).mpr h
  refine (h1.and h2).imp ?_
  rintro a b ⟨h, n⟩
  rw [leR_iff] at h
  by_cases c : a < b
  · exact c
  · exact absurd (List.le_antisymm h (List.not_lt.mp c)) n
theorem sortR_idem (l : List (List Int)) : (l.mergeSort leR).mergeSort leR = l.mergeSort leR := List.mergeSort_of_pairwise (List.pairwise_mergeSort leR_trans leR_total l)
theorem sub_cut {α : Type} {l : List α} {lo hi : Option Int} {a : α} (h : a ∈ cutT l lo hi) : a ∈ l := by
  unfold cutT cutD at h
  exact List.mem_of_mem_drop (List.mem_of_mem_take h)
theorem no_clash {n q : Int} {as : List (Int × Int)} (h : VN n as) (q0 : 2 ≤ q) (q1 : q ≤ 5) (hp : q ^ n.toNat ≤ 81) {ws : List (List Int)} (hw : VW n.toNat q ws) (hx : ∀ a ∈ ws, ∀ b ∈ ws, exC n as a b = none) : T_first_clash (n, as, kn n as) q ws = .ok none := by
  refine Oks.to ?_
  unfold T_first_clash
  have lo := h.lo
  have hi := h.hi
  have hn : ((n.toNat : Nat) : Int) = n := by omega
  have hc := count (n := n.toNat) (as := as) (k := kn n as) q0 q1 (by omega) hp
  have hk := check (as := as) (k := kn n as) hw
  rw [hn] at hc hk
  refine oks_call (Oks.eq hc) ?_
  rintro _ rfl
  refine oks_call (Oks.eq hk) ?_
  rintro _ rfl
  rw [loop_find (f := fun _ => none) fun p hpm => ?_]
  · rw [show (List.findSome? (fun (_ : Int × List Int) => (none : Option (Option (List Int × List Int × Int)))) (enumT ws)) = none from List.findSome?_eq_none_iff.mpr fun _ _ => rfl]
    exact oks_ok rfl
  · have hpw : p.2 ∈ ws := by
      have := List.mem_map_of_mem (f := fun z : Int × List Int => z.2) hpm
      rwa [enum_snd] at this
    rw [loop_find (f := fun _ => none) fun o ho => ?_]
    · rw [show (List.findSome? (fun (_ : List Int) => (none : Option (Option (List Int × List Int × Int)))) (cutT ws (some (p.1 + 1)) none)) = none from List.findSome?_eq_none_iff.mpr fun _ _ => rfl]
      rfl
    · have how := sub_cut ho
      rw [parting h (by rw [(hw.wd _ hpw).1]; exact hn) (by rw [(hw.wd _ how).1]; exact hn), hx _ hpw _ how]
      rfl
/-! words moved -/
theorem comp_plus {n : Nat} {q : Int} (hq : 0 < q) {w v : List Int} (hw : w.length = n) (hv : v.length = n) : (compT (rngT 0 ((v).length : Int)) () fun k s =>
  (O.opt (L2.atI w k)).bind fun r =>
  (O.opt (L2.atI v k)).bind fun r2 =>
  O.ck (0 < q) <|
  .ok (some (((r + r2) % q)), ())) = .ok (plus q w v, ()) := by
  refine comp_map (g := fun i => (gt w i + gt v i) % q) fun i hi => ?_
  obtain ⟨i0, i1⟩ := mem_rng.mp hi
  rw [gt_at hw i0 (by omega), gt_at hv i0 (by omega)]
  show O.ck _ _ = _
  rw [ck_pos hq]
theorem plus_ne {n : Nat} (hn : 1 ≤ n) {q : Int} {w v : List Int} (hv : v.length = n) : plus q w v ≠ [] := by
  intro h
  have := congrArg List.length h
  rw [plus_len, hv] at this
  simp at this
  omega
theorem moved {n : Nat} (hn : 1 ≤ n) (hn2 : n ≤ 12) {q : Int} (hq : 0 < q) {ws : List (List Int)} (hw : ∀ w ∈ ws, w.length = n) (hl : ws.length ≤ 16777216) {v : List Int} (hv : v.length = n) : T_moved_words q ws v = .ok ((ws.map fun w => plus q w v).mergeSort leR) := by
  refine Oks.to ?_
  unfold T_moved_words
  refine oks_ck hl ?_
  rw [comp_map (g := fun w => plus q w v) fun w hwm => ?_]
  · refine oks_ck ?_ (oks_ok rfl)
    intro r hr
    obtain ⟨w, _, rfl⟩ := List.mem_map.mp hr
    exact plus_ne hn hv
  · refine Oks.to (oks_ck (by unfold okR; omega) (oks_ck (by rw [rng_len]; omega) ?_))
    rw [comp_plus hq (hw w hwm) hv]
    exact oks_ok rfl
theorem shifted {n q : Int} {as : List (Int × Int)} (h : VN n as) (q0 : 2 ≤ q) (q1 : q ≤ 5) (hp : q ^ n.toNat ≤ 81) {ws : List (List Int)} (hw : VW n.toNat q ws) (hl : ws.length ≤ 16777216) {v : List Int} (hv : Wd n.toNat q v) : T_shifted_words (n, as, kn n as) q ws v = .ok ((ws.map fun w => plus q w v).mergeSort leR) := by
  refine Oks.to ?_
  unfold T_shifted_words
  have lo := h.lo
  have hi := h.hi
  have hn : ((n.toNat : Nat) : Int) = n := by omega
  have hc := count (n := n.toNat) (as := as) (k := kn n as) q0 q1 (by omega) hp
  have hk := check (as := as) (k := kn n as) hw
  have hi2 := is_word (as := as) (k := kn n as) hv
  rw [hn] at hc hk hi2
  refine oks_call (Oks.eq hc) ?_
  rintro _ rfl
  refine oks_call (Oks.eq hk) ?_
  rintro _ rfl
  refine oks_call (Oks.eq hi2) ?_
  rintro _ rfl
  refine oks_ifb (fun h => by cases h) fun _ => ?_
  refine oks_call (Oks.eq (moved (by omega) (by omega) (by omega) (fun w hwm => (hw.wd w hwm).1) hl hv.1)) ?_
  rintro _ rfl
  exact oks_ok rfl
/-! the draw of a store -/
theorem pick {l : List Int} (N : Nums l) {k many : Int} (h0 : 0 ≤ k) (m0 : 1 ≤ many) (h1 : k + many ≤ 60) {ws : List (List Int)} (hw : ws ≠ []) : Oks (T_law_pick l k ws many) fun s => s ≠ [] ∧ s.length ≤ 60 ∧ ∀ w ∈ s, w ∈ ws := by
  unfold T_law_pick
  refine oks_ck (by unfold okR; omega) ?_
  refine oks_bind (P := fun s => s ≠ [] ∧ s.length ≤ 60 ∧ ∀ w ∈ s, w ∈ ws) ?_ fun s hs => oks_ok hs
  have hlen : 0 < ws.length := List.length_pos_iff.mpr hw
  refine oks_fold (fun pre s => (pre ≠ [] → s ≠ []) ∧ s.length ≤ pre.length ∧ ∀ w ∈ s, w ∈ ws) ⟨fun h => absurd rfl h, Nat.le_refl _, fun w hw => by cases hw⟩ ?_ ?_
  · rintro pre j post s e ⟨hne, hle, hm⟩
    obtain ⟨hj, hjn, _⟩ := rng_snoc e
    obtain ⟨x, ex, x0, x1⟩ := N.at (i := k + j) (by omega) (by omega)
    have m1 := Int.emod_nonneg x (show (ws.length : Int) ≠ 0 by omega)
    have m2 := Int.emod_lt_of_pos x (show 0 < (ws.length : Int) by omega)
    obtain ⟨w, ew, mw, _⟩ := at_some (l := ws) m1 m2
    refine oks_opt ex (oks_ck (by omega) (oks_opt ew (oks_ifb (fun c => ?_) fun c => ?_)))
    · refine oks_ck (by unfold appC; omega) (oks_ok ⟨fun _ => by simp, by simp; omega, fun v hv => ?_⟩)
      rcases List.mem_append.mp hv with hv | hv
      · exact hm v hv
      · rw [List.mem_singleton.mp hv]; exact mw
    · have hin : w ∈ s := by
        have : memT w s = true := by simpa using c
        exact memT_iff.mp this
      exact oks_ok ⟨fun _ h => (by rw [h] at hin; cases hin), (by rw [List.length_append]; omega), hm⟩
  · rintro s ⟨hne, hle, hm⟩
    rw [rng_len] at hle
    refine ⟨hne ?_, by omega, hm⟩
    intro h
    have := congrArg List.length h
    rw [rng_len] at this
    simp at this
    omega
theorem store {n : Int} {q : Int} {as : List (Int × Int)} (h : VN n as) {ws : List (List Int)} (hne : ws ≠ []) (hw : ∀ w ∈ ws, Wd n.toNat q w) (hl : ws.length ≤ 10000) : Oks (T_law_store (kn n as) ws) fun s => s ≠ [] ∧ s.length ≤ ws.length ∧ VW n.toNat q s ∧ (∀ a ∈ s, ∀ b ∈ s, exC n as a b = none) ∧ ∀ w ∈ s, w ∈ ws := by
  unfold T_law_store
  have lo := h.lo
  have hn : ((n.toNat : Nat) : Int) = n := by omega
  refine oks_bind (P := fun s => s ≠ [] ∧ s.length ≤ ws.length ∧ s.Nodup ∧ (∀ a ∈ s, ∀ b ∈ s, exC n as a b = none) ∧ ∀ w ∈ s, w ∈ ws) ?_ ?_
  · refine oks_fold (fun pre s => (pre ≠ [] → s ≠ []) ∧ s.length ≤ pre.length ∧ s.Nodup ∧ (∀ a ∈ s, ∀ b ∈ s, exC n as a b = none) ∧ ∀ w ∈ s, w ∈ ws) ?_ ?_ ?_
    · exact ⟨fun h => absurd rfl h, Nat.le_refl _, List.nodup_nil, fun a ha => (by cases ha), fun w hw => by cases hw⟩
    · rintro pre w post s e ⟨hne2, hle, hd, hx, hm⟩
      have hww : w ∈ ws := by rw [e]; simp
      have hlp : pre.length < ws.length := by rw [e]; simp
      refine oks_bind (P := fun p => p.1 = (!memT w s && decide (∀ a ∈ s, exC n as a w = none))) ?_ fun p hp => ?_
      · refine oks_ifb (fun c => ?_) fun c => ?_
        · refine oks_ck (by omega) ?_
          rw [comp_eq (g := fun a => if (exC n as a w).isSome = true then some a else none) fun a ha => ?_]
          · refine oks_ok ?_
            rw [c, Bool.true_and, Bool.eq_iff_iff, decide_eq_true_eq, decide_eq_true_eq]
            dsimp only
            constructor
            · intro h0 a ha
              have h0 := List.length_eq_zero_iff.mp (Int.ofNat_eq_zero.mp h0)
              rw [List.filterMap_eq_nil_iff] at h0
              have := h0 a ha
              cases hxx : exC n as a w with
              | none => rfl
              | some i => rw [hxx] at this; cases this
            · intro h0
              have : (List.filterMap (fun a => if (exC n as a w).isSome = true then some a else none) s) = [] := by
                rw [List.filterMap_eq_nil_iff]
                intro a ha
                rw [h0 a ha]; rfl
              rw [this]; rfl
          · rw [excludes h (by rw [(hw a (hm a ha)).1]; exact hn) (by rw [(hw w hww).1]; exact hn)]
            dsimp only [no_ok, O.bind_ok]
            cases (exC n as a w).isSome <;> rfl
        · refine oks_ok ?_
          rw [c]; rfl
      · refine oks_ifb (fun c => ?_) fun c => ?_
        · rw [hp, Bool.and_eq_true, decide_eq_true_eq] at c
          obtain ⟨c1, c2⟩ := c
          have hnin : w ∉ s := fun hin => by
            rw [memT_iff.mpr hin] at c1
            cases c1
          refine oks_ck (by unfold appC; omega) (oks_ok ⟨fun _ => by simp, by simp; omega, ?_, ?_, ?_⟩)
          · refine List.nodup_append.mpr ⟨hd, by simp, fun a ha b hb => ?_⟩
            rw [List.mem_singleton.mp hb]
            rintro rfl
            exact hnin ha
          · intro a ha b hb
            rcases List.mem_append.mp ha with ha | ha <;> rcases List.mem_append.mp hb with hb | hb
            · exact hx a ha b hb
            · rw [List.mem_singleton.mp hb]; exact c2 a ha
            · rw [List.mem_singleton.mp ha, exC_comm]; exact c2 b hb
            · rw [List.mem_singleton.mp ha, List.mem_singleton.mp hb]; exact exC_self ..
          · intro v hv
            rcases List.mem_append.mp hv with hv | hv
            · exact hm v hv
            · rw [List.mem_singleton.mp hv]; exact hww
        · refine oks_ok ⟨fun _ h0 => ?_, by simp; omega, hd, hx, hm⟩
          subst h0
          rw [hp] at c
          simp [memT] at c
    · rintro s ⟨h1, h2, h3, h4, h5⟩
      exact ⟨h1 hne, by omega, h3, h4, h5⟩
  · rintro s ⟨h1, h2, h3, h4, h5⟩
    refine oks_ck ?_ (oks_ok ⟨?_, ?_, ⟨fun w hwm => hw w (h5 w (List.mem_mergeSort.mp hwm)), sortR_lt h3⟩, fun a ha b hb => h4 a (List.mem_mergeSort.mp ha) b (List.mem_mergeSort.mp hb), fun w hwm => h5 w (List.mem_mergeSort.mp hwm)⟩)
    · intro r hr h0
      have := (hw r (h5 r hr)).1
      rw [h0] at this
      simp at this
      omega
    · intro h0
      have := congrArg List.length h0
      rw [List.length_mergeSort] at this
      exact h1 (List.length_eq_zero_iff.mp this)
    · rw [List.length_mergeSort]; exact h2
end Lk49
namespace Lk49
open PySem KS KT
/-! counts -/
theorem getL_map {α : Type} (k : List Int) (a : α) (k2 : List Int) : ∀ l : List (List Int × α), getL (l.map fun p => if p.1 = k then (p.1, a) else p) k2 = if k = k2 then (if hasL l k = true then some a else none) else getL l k2
  | [] => by
    unfold getL hasL
    simp
  | p :: l => by
    have ih := getL_map k a k2 l
    unfold getL hasL at ih ⊢
    rw [List.map_cons, List.find?_cons, List.find?_cons, List.any_cons]
    by_cases h : p.1 = k
    · rw [if_pos h]
      by_cases h2 : k = k2
      · subst h2
        simp [h]
      · have h3 : ¬ p.1 = k2 := fun e => h2 (h ▸ e)
        rw [if_neg h2] at ih ⊢
        simp only [decide_eq_false h3]
        exact ih
    · rw [if_neg h]
      by_cases h2 : k = k2
      · subst h2
        rw [if_pos rfl] at ih ⊢
        simp only [decide_eq_false h, Bool.false_or]
        exact ih
      · rw [if_neg h2] at ih ⊢
        by_cases h3 : p.1 = k2
        · simp only [decide_eq_true h3]
        · simp only [decide_eq_false h3]
          exact ih
theorem getL_app {α : Type} (k : List Int) (a : α) (k2 : List Int) : ∀ l : List (List Int × α), hasL l k = false → getL (l ++ [(k, a)]) k2 = if k = k2 then some a else getL l k2
  | [], _ => by
    unfold getL
    by_cases h : k = k2 <;> simp [h]
  | p :: l, h => by
    unfold hasL at h
    rw [List.any_cons, Bool.or_eq_false_iff] at h
    have h1 : ¬ p.1 = k := of_decide_eq_false h.1
    have ih := getL_app k a k2 l (by unfold hasL; exact h.2)
    unfold getL at ih ⊢
    rw [List.cons_append, List.find?_cons, List.find?_cons]
    by_cases h3 : p.1 = k2
    · have h4 : ¬ k = k2 := fun e => h1 (h3.trans e.symm)
      simp only [decide_eq_true h3, if_neg h4]
    · simp only [decide_eq_false h3]
      exact ih
theorem getL_put {α : Type} (l : List (List Int × α)) (k : List Int) (a : α) (k2 : List Int) : getL (putL l k a) k2 = if k = k2 then some a else getL l k2 := by
  unfold putL
  by_cases h : hasL l k = true
  · rw [if_pos h, getL_map, if_pos h]
  · rw [if_neg h, getL_app k a k2 l (by simpa using h)]
theorem putL_len {α : Type} (l : List (List Int × α)) (k : List Int) (a : α) : (putL l k a).length ≤ l.length + 1 := by
  unfold putL
  split
  · rw [List.length_map]; omega
  · rw [List.length_append]; exact Nat.le_refl _
def cn (w : List Int) (l : List (List Int)) : Int := (l.filter fun v => decide (v = w)).length
theorem cn_nil (w : List Int) : cn w [] = 0 := rfl
theorem cn_cons (w v : List Int) (l : List (List Int)) : cn w (v :: l) = (if v = w then 1 else 0) + cn w l := by
  unfold cn
  rw [List.filter_cons]
  by_cases h : v = w
  · simp [h]; omega
  · simp [h]
theorem cn_app (w : List Int) (l m : List (List Int)) : cn w (l ++ m) = cn w l + cn w m := by
  unfold cn
  rw [List.filter_append, List.length_append]; omega
theorem cn_perm (w : List Int) {l m : List (List Int)} (h : l.Perm m) : cn w l = cn w m := by
  unfold cn
  rw [(h.filter _).length_eq]
theorem cn_one (w : List Int) : ∀ {l : List (List Int)}, l.Nodup → w ∈ l → cn w l = 1
  | [], _, h => by cases h
  | v :: l, hd, h => by
    rw [List.nodup_cons] at hd
    rw [cn_cons]
    by_cases e : v = w
    · subst e
      have : cn v l = 0 := by
        unfold cn
        rw [show (l.filter fun x => decide (x = v)) = [] from List.filter_eq_nil_iff.mpr fun x hx e => hd.1 (of_decide_eq_true e ▸ hx)]
        rfl
      rw [if_pos rfl, this]; rfl
    · rw [if_neg e, cn_one w hd.2 (by rcases List.mem_cons.mp h with h | h; exact absurd h.symm e; exact h)]
      rfl
theorem cn_swap1 {A : Type} (w : List Int) (f : A → List Int → List Int) (s : List Int) (ss : List (List Int)) : ∀ l : List A, cn w (l.flatMap fun b => (s :: ss).map (f b)) = cn w (l.map fun b => f b s) + cn w (l.flatMap fun b => ss.map (f b))
  | [] => rfl
  | b :: l => by
    have ih := cn_swap1 w f s ss l
    rw [List.flatMap_cons, List.flatMap_cons, List.map_cons, List.map_cons, cn_app, cn_app, cn_cons, cn_cons, ih]
    omega
def minus (q : Int) (w v : List Int) : List Int := (rngT 0 w.length).map fun i => (gt w i - gt v i) % q
theorem minus_gt {q : Int} {w v : List Int} {i : Int} (h0 : 0 ≤ i) (h1 : i < w.length) : gt (minus q w v) i = (gt w i - gt v i) % q := by
  unfold gt
  rw [at_nat h0 (by unfold minus; rw [List.length_map, rng_len]; omega)]
  unfold minus
  rw [List.getElem?_map, rng_get (by omega), show (0 : Int) + (i.toNat : Int) = i by omega]
  rfl
theorem minus_len {q : Int} {w v : List Int} : (minus q w v).length = w.length := by
  unfold minus
  rw [List.length_map, rng_len]; omega
theorem minus_wd {n : Nat} {q : Int} (hq : 0 < q) {w v : List Int} (h : w.length = n) : Wd n q (minus q w v) := by
  refine ⟨by rw [minus_len, h], fun x hx => ?_⟩
  unfold minus at hx
  obtain ⟨i, _, rfl⟩ := List.mem_map.mp hx
  exact ⟨Int.emod_nonneg _ (by omega), Int.emod_lt_of_pos _ hq⟩
theorem plus_minus {n : Nat} {q : Int} (hq : 0 < q) {w s : List Int} (hw : Wd n q w) (hs : Wd n q s) : plus q s (minus q w s) = w := by
  refine gt_ext (n := n) (by rw [plus_len, minus_len, hw.1]) hw.1 fun i h0 h1 => ?_
  have hl : i < (minus q w s).length := by rw [minus_len, hw.1]; exact h1
  rw [plus_gt h0 hl, minus_gt h0 (by rw [hw.1]; exact h1)]
  have h2 := gt_rng hw h0 h1
  rw [Int.add_emod, Int.emod_emod_of_dvd _ (Int.dvd_refl q), ← Int.add_emod, show gt s i + (gt w i - gt s i) = gt w i by omega]
  exact Int.emod_eq_of_lt h2.1 h2.2
theorem spread_one {n : Nat} {q : Int} (hq : 0 < q) {w s : List Int} (hw : Wd n q w) (hs : Wd n q s) : cn w ((allW q n).map fun b => plus q s b) = 1 := by
  refine cn_one w ?_ ?_
  · rw [List.Nodup, List.pairwise_map]
    refine (allW_nodup n).imp_of_mem fun {a b} ha hb hne e => hne ?_
    have ha := mem_allW.mp ha
    have hb := mem_allW.mp hb
    rw [plus_comm hs.1 ha.1, plus_comm hs.1 hb.1] at e
    exact plus_inj ha hb hs.1 e
  · exact List.mem_map.mpr ⟨minus q w s, mem_allW.mpr (minus_wd hq hw.1), plus_minus hq hw hs⟩
theorem spread {n : Nat} {q : Int} (hq : 0 < q) {w : List Int} (hw : Wd n q w) : ∀ {ss : List (List Int)}, (∀ s ∈ ss, Wd n q s) → cn w ((allW q n).flatMap fun b => ss.map fun s => plus q s b) = ss.length
  | [], _ => by
    have : ((allW q n).flatMap fun b => ([] : List (List Int)).map fun s => plus q s b) = [] := by simp
    rw [this]; rfl
  | s :: ss, h => by
    have := cn_swap1 w (fun b s => plus q s b) s ss (allW q n)
    rw [this, spread_one hq hw (h s (List.mem_cons_self ..)), spread hq hw fun v hv => h v (List.mem_cons_of_mem _ hv), List.length_cons]
    omega
end Lk49
namespace Lk49
open PySem KS KT
theorem pow81 {n q : Int} (h : (q = 2 ∧ n ≤ 5) ∨ (q = 3 ∧ n ≤ 3) ∨ (q = 4 ∧ n ≤ 2) ∨ (q = 5 ∧ n ≤ 2)) (h0 : 1 ≤ n) : q ^ n.toNat ≤ 81 := by
  rcases h with ⟨rfl, h⟩ | ⟨rfl, h⟩ | ⟨rfl, h⟩ | ⟨rfl, h⟩
  · exact Int.le_trans (pow_mono (by decide) (show n.toNat ≤ 5 by omega)) (by decide)
  · exact Int.le_trans (pow_mono (by decide) (show n.toNat ≤ 3 by omega)) (by decide)
  · exact Int.le_trans (pow_mono (by decide) (show n.toNat ≤ 2 by omega)) (by decide)
  · exact Int.le_trans (pow_mono (by decide) (show n.toNat ≤ 2 by omega)) (by decide)
theorem allW_ne {q : Int} (h : 0 < q) (n : Nat) : allW q n ≠ [] := by
  intro e
  have : List.replicate n 0 ∈ allW q n := mem_allW.mpr ⟨List.length_replicate, fun x hx => by
    rw [(List.mem_replicate.mp hx).2]
    exact ⟨by decide, h⟩⟩
  rw [e] at this
  cases this
theorem cut_len {α : Type} (l : List α) (lo hi : Option Int) : (cutT l lo hi).length ≤ l.length := by
  unfold cutT cutD
  rw [List.length_take, List.length_drop]
  omega
theorem nil_find {α ρ : Type} (l : List α) : (l.findSome? fun _ => (none : Option ρ)) = none := List.findSome?_eq_none_iff.mpr fun _ _ => rfl
/-- one turn of the law's walk over all words -/
theorem turn {l : List Int} (N : Nums l) {n q : Int} {as : List (Int × Int)} (h : VN n as) (q0 : 2 ≤ q) (q1 : q ≤ 5) (hp : q ^ n.toNat ≤ 81) {ss : List (List Int)} (hs : VW n.toNat q ss) (sne : ss ≠ []) (hl : ss.length ≤ 1000) (hx : ∀ a ∈ ss, ∀ b ∈ ss, exC n as a b = none) {v : List Int} (hv : Wd n.toNat q v) (c0 : List (List Int × Int)) (hc : c0.length ≤ 10000000) : Oks ((
  (T_shifted_words (n, as, kn n as) q ss v).no.bind fun r_55 =>
  ((O.opt (isiY .tup ((eT (eT eI)) r_55))).bind fun r_60 =>
  (if (!r_60) = true then .ok (true, ()) else O.ck (∀ r ∈ r_55, r ≠ []) <|
  (if (!decide (r_55 = (r_55.mergeSort leR))) = true then .ok (true, ()) else .ok ((!decide (((r_55).length : Int) = ((ss).length : Int))), ()))) : O (Bool × Unit)).bind fun p_62 =>
  (if p_62.1 = true then
  .ok (.ret false)
  else (loopT (ρ := Bool) r_55 c0 fun word_63 (s_65 : (List (List Int × Int))) =>
  (if (!memT word_63 (allW q n.toNat)) = true then
  .ok (.ret false)
  else O.ck (appC s_65) <|
  O.lt (putL s_65 word_63 ((((getL s_65 word_63).getD 0) + 1))) fun counts_68 =>
  .ok (.nx counts_68))).aft (fun s_66 =>
  O.ck (ss.length ≤ 16777216) <|
  (compT ss () fun word_86 s_87 =>
  O.ck (okR ((v).length : Int)) <|
  O.ck ((rngT 0 ((v).length : Int)).length ≤ 16777216) <|
  (compT (rngT 0 ((v).length : Int)) () fun i_104 s_105 =>
  (O.opt (L2.atI word_86 i_104)).bind fun r_107 =>
  (O.opt (L2.atI v i_104)).bind fun r_109 =>
  O.ck (0 < q) <|
  .ok (some (((r_107 + r_109) % q)), ())).no.bind fun l_111 =>
  .ok (some l_111.1, ())).no.bind fun l_113 =>
  O.ck (∀ r ∈ l_113.1, r ≠ []) <|
  O.lt ((l_113.1.mergeSort leR)) fun due_115 =>
  (O.opt (L2.atI l 33)).bind fun r_117 =>
  O.ck (0 < ((ss).length : Int)) <|
  O.lt ((r_117 % ((ss).length : Int))) fun place_119 =>
  O.ck (r_55.length ≤ 16777216) <|
  (compT r_55 () fun word_126 s_127 =>
  (O.opt (L2.atI r_55 place_119)).bind fun r_129 =>
  (T_law_excludes (kn n as) r_129 word_126).no.bind fun r_131 =>
  (if (r_131).isSome = true then .ok (some word_126, ()) else .ok (none, ()))).no.bind fun l_132 =>
  (if ((!decide (r_55 = due_115)) || (decide (0 < ((l_132.1).length : Int)))) = true then
  .ok (.ret false)
  else .ok (.nx s_66))) (fun r => .ok (.ret r)))) : O (Fw Bool (List (List Int × Int)))) (fun w => match w with
    | .nx c => c.length ≤ c0.length + ss.length ∧ ∀ w, (getL c w).getD 0 = (getL c0 w).getD 0 + cn w (ss.map fun s => plus q s v)
    | .brk _ => False
    | .ret (_ : Bool) => False) := by
  have lo := h.lo
  have hi := h.hi
  have hn : ((n.toNat : Nat) : Int) = n := by omega
  refine oks_call (Oks.eq (shifted h q0 q1 hp hs (by omega) hv)) ?_
  rintro _ rfl
  have hlen : ((ss.map fun w => plus q w v).mergeSort leR).length = ss.length := by rw [List.length_mergeSort, List.length_map]
  have hmem : ∀ w, w ∈ (ss.map fun w => plus q w v).mergeSort leR ↔ ∃ s ∈ ss, plus q s v = w := fun w => by
    rw [List.mem_mergeSort, List.mem_map]
  have hcn : ∀ w, cn w ((ss.map fun w => plus q w v).mergeSort leR) = cn w (ss.map fun s => plus q s v) := fun w => cn_perm w (List.mergeSort_perm _ _)
  have hid := sortR_idem (ss.map fun w => plus q w v)
  have hnn : ∀ r ∈ ss.map fun w => plus q w v, r ≠ [] := fun r hr => by
    obtain ⟨s, _, rfl⟩ := List.mem_map.mp hr
    exact plus_ne (by omega) hv.1
  have hdue : ((ss.map fun w => plus q w v).mergeSort leR) = (ss.map fun w => plus q w v).mergeSort leR := rfl
  generalize hT : (ss.map fun w => plus q w v).mergeSort leR = T at *
  refine oks_bind (P := fun p => p.1 = false) ?_ fun p hp2 => ?_
  · refine oks_opt (a := true) rfl (oks_ifb (fun h => by cases h) fun _ => oks_ck ?_ ?_)
    · intro r hr
      obtain ⟨s, _, rfl⟩ := (hmem r).mp hr
      exact plus_ne (by omega) hv.1
    · rw [hid]
      refine oks_ifb (fun h => ?_) fun _ => oks_ok ?_
      · rw [decide_eq_true rfl] at h; cases h
      · dsimp only
        rw [hlen, decide_eq_true rfl]; rfl
  rw [hp2]
  refine oks_ifb (fun h => by cases h) fun _ => ?_
  refine oks_aft (P := fun w => match w with
    | .nx c => c.length ≤ c0.length + ss.length ∧ ∀ w, (getL c w).getD 0 = (getL c0 w).getD 0 + cn w T
    | .brk _ => False
    | .ret (_ : Bool) => False) ?_ ?_ (fun s h => h.elim) (fun x h => h.elim)
  · refine oks_loop (fun pre c => c.length ≤ c0.length + pre.length ∧ ∀ w, (getL c w).getD 0 = (getL c0 w).getD 0 + cn w pre) ⟨by simp, fun w => by rw [cn_nil]; omega⟩ ?_ ?_
    · rintro pre w post c e ⟨hc1, hc2⟩
      have hwT : w ∈ T := by rw [e]; simp
      have hpl : pre.length < T.length := by rw [e]; simp
      have hwm : memT w (allW q n.toNat) = true := by
        obtain ⟨s, hsm, rfl⟩ := (hmem w).mp hwT
        exact memT_iff.mpr (mem_allW.mpr (plus_wd (by omega) hv.1))
      rw [hwm]
      refine oks_ifb (fun h => by cases h) fun _ => oks_ck (by unfold appC; omega) (oks_lt (oks_ok ⟨?_, fun w2 => ?_⟩))
      · have := putL_len c w (((getL c w).getD 0) + 1)
        simp only [List.length_append, List.length_cons, List.length_nil]
        omega
      · rw [getL_put, cn_app, cn_cons, cn_nil]
        by_cases e2 : w = w2
        · subst e2
          rw [if_pos rfl, if_pos rfl, hc2]
          simp only [Option.getD_some]
          omega
        · rw [if_neg e2, if_neg e2, hc2]
          omega
    · rintro c ⟨h1, h2⟩
      exact ⟨by omega, h2⟩
  · rintro c ⟨hc1, hc2⟩
    refine oks_ck (by omega) ?_
    rw [comp_map (g := fun w => plus q w v) fun w hwm => ?_]
    · refine oks_ck hnn (oks_lt ?_)
      obtain ⟨x, ex, x0, x1⟩ := N.at (i := 33) (by decide) (by decide)
      have slen : 0 < ss.length := List.length_pos_iff.mpr sne
      refine oks_opt ex (oks_ck (by omega) (oks_lt (oks_ck (by omega) ?_)))
      have m1 := Int.emod_nonneg x (show (ss.length : Int) ≠ 0 by omega)
      have m2 := Int.emod_lt_of_pos x (show 0 < (ss.length : Int) by omega)
      obtain ⟨y, ey, my, _⟩ := at_some (l := T) m1 (by omega)
      obtain ⟨sy, hsy, hye⟩ := (hmem y).mp my
      rw [comp_eq (g := fun _ => none) fun w hwm => ?_]
      · show Oks ((if ((!decide (T = (ss.map fun w => plus q w v).mergeSort leR)) || (decide (0 < (((List.filterMap (fun _ => none) T : List (List Int)).length : Nat) : Int)))) = true then
          .ok (.ret false) else .ok (.nx c)) : O (Fw Bool (List (List Int × Int)))) _
        rw [hT, decide_eq_true rfl, show (List.filterMap (fun _ => none) T : List (List Int)) = [] from List.filterMap_eq_nil_iff.mpr fun _ _ => rfl]
        refine oks_if (fun h => by simp at h) fun _ => oks_ok ⟨hc1, fun w => ?_⟩
        rw [hc2, hcn]
      · rw [ey]
        obtain ⟨sw, hsw, hwe⟩ := (hmem w).mp hwm
        have ly : (y.length : Int) = n := by rw [← hye, plus_len, hv.1]; exact hn
        have lw : (w.length : Int) = n := by rw [← hwe, plus_len, hv.1]; exact hn
        rw [opt_some, O.bind_ok, excludes h ly lw]
        subst hye hwe
        rw [plus_exC h (hs.wd _ hsy) (hs.wd _ hsw) hv.1, hx _ hsy _ hsw]
        rfl
    · refine Oks.to (oks_ck (by unfold okR; rw [hv.1]; omega) (oks_ck (by rw [rng_len, hv.1]; omega) ?_))
      rw [comp_plus (by omega) (hs.wd w hwm).1 hv.1]
      exact oks_ok rfl
end Lk49
namespace Lk49
open PySem KS KT
theorem told (ns : List Int) (hl : ns.length ≤ 63) : T_law ns = .ok true := by
  refine Oks.to ?_
  unfold T_law
  refine oks_ck ?_ ?_
  · unfold okR
    split <;> omega
  refine oks_aft (P := fun w => match w with
    | .nx _ => True
    | .brk _ => True
    | .ret _ => False) ?_ (fun s _ => oks_ok rfl) (fun s _ => oks_ok rfl) (fun x h => h.elim)
  refine oks_loop (fun pre s => True) trivial ?_ fun s _ => trivial
  rintro pre a post s e _
  have ham : a ∈ rngT 0 (if 2 < (ns.length : Int) then 2 else (ns.length : Int)) := by rw [e]; simp
  obtain ⟨a0, a1⟩ := mem_rng.mp ham
  obtain ⟨cell, ec, _, _⟩ := at_some (l := ns) a0 (by split at a1 <;> omega)
  refine oks_opt ec (oks_call (numbers cell a 60 (by decide) (by decide)) fun l hN => ?_)
  have N : Nums l := ⟨hN.1, hN.2⟩
  refine oks_call (letters N (by decide) (by decide) 5 3 2) ?_
  rintro ⟨q, most⟩ hq
  dsimp only at hq
  have q0 : 2 ≤ q := by omega
  have q1 : q ≤ 5 := by omega
  refine oks_call (net N (k := 1) (m := most) (by decide) (by decide) (by omega) (by omega)) ?_
  intro p0 hp0
  refine oks_bind (P := fun p => VN p.1 p.2 ∧ ((q = 2 ∧ p.1 ≤ 5) ∨ (q = 3 ∧ p.1 ≤ 3) ∨ (q = 4 ∧ p.1 ≤ 2) ∨ (q = 5 ∧ p.1 ≤ 2))) ?_ ?_
  · refine oks_bind (P := fun x => x.1 = true → q = 2) ?_ fun x hx => ?_
    · refine oks_ifb (fun c => ?_) fun c => oks_ok fun h => by cases h
      obtain ⟨y, ey, _, _⟩ := N.at (i := 0) (by decide) (by decide)
      exact oks_opt ey (oks_ok fun _ => of_decide_eq_true c)
    · refine oks_ifb (fun c => ?_) fun c => oks_ok ⟨hp0.1, ?_⟩
      · refine oks_call (ring N (by decide) (by decide)) fun p hp => oks_ok ?_
        have := hx c
        rw [hp.1]
        exact ⟨hp.2, .inl ⟨this, by decide⟩⟩
      · have := hp0.2
        omega
  rintro ⟨n, as⟩ ⟨h, hsz⟩
  dsimp only at h hsz
  have lo := h.lo
  have hi := h.hi
  have hn : ((n.toNat : Nat) : Int) = n := by omega
  have hp := pow81 hsz lo
  refine oks_call (Oks.eq (knows h)) ?_
  rintro _ rfl
  refine oks_call (Oks.eq (init h)) ?_
  rintro _ rfl
  refine oks_call (Oks.eq (words (n := n) (q := q) (by omega) hi (by omega) q1)) ?_
  rintro _ rfl
  have wlen : (allW q n.toNat).length ≤ 81 := by
    have h1 : ((allW q n.toNat).length : Int) = q ^ n.toNat := by
      rw [allW_len, Int.natCast_pow, show ((q.toNat : Nat) : Int) = q by omega]
    omega
  have wne := allW_ne (q := q) (by omega) n.toNat
  have wpos : 0 < (allW q n.toNat).length := List.length_pos_iff.mpr wne
  have wmem : ∀ w ∈ allW q n.toNat, Wd n.toNat q w := fun w hw => mem_allW.mp hw
  generalize hW : allW q n.toNat = W at wlen wne wpos wmem
  obtain ⟨x1, ex1, _, _⟩ := N.at (i := 32) (by decide) (by decide)
  obtain ⟨x2, ex2, _, _⟩ := N.at (i := 35) (by decide) (by decide)
  obtain ⟨x3, ex3, x30, x31⟩ := N.at (i := 36) (by decide) (by decide)
  refine oks_opt ex1 (oks_ck (by omega) (oks_lt (oks_opt ex2 ?_)))
  refine oks_bind (P := fun r => r.length ≤ 81 ∧ ∀ w ∈ r, w ∈ W) ?_ fun rest hr => ?_
  · refine oks_if (fun _ => oks_ok ⟨by decide, fun w hw => by cases hw⟩) fun _ => oks_ok ⟨?_, fun w hw => sub_cut hw⟩
    exact Nat.le_trans (cut_len _ _ _) wlen
  refine oks_opt ex3 ?_
  refine oks_call (pick N (by decide) (by omega) (by omega) wne) ?_
  rintro pk ⟨pne, ple, pm⟩
  refine oks_ck (by unfold catC; omega) ?_
  have hall : ∀ w ∈ pk ++ rest, w ∈ W := fun w hw => by
    rcases List.mem_append.mp hw with hw | hw
    · exact pm w hw
    · exact hr.2 w hw
  refine oks_call (store (q := q) h (ws := pk ++ rest) (by simp [pne]) (fun w hw => wmem w (hall w hw)) (by rw [List.length_append]; omega)) ?_
  rintro ss ⟨sne, sle, hs, hx, hsm⟩
  have sl : ss.length ≤ 1000 := by
    have := sle
    rw [List.length_append] at this
    omega
  refine oks_call (Oks.eq (no_clash h q0 q1 hp hs hx)) ?_
  rintro _ rfl
  refine oks_if (fun h => by cases h) fun _ => ?_
  refine oks_aft (P := fun w => match w with
    | .nx c => ∀ w, (getL c w).getD 0 = cn w (W.flatMap fun b => ss.map fun s => plus q s b)
    | .brk _ => False
    | .ret _ => False) ?_ ?_ (fun s h => h.elim) (fun x h => h.elim)
  · refine oks_loop (fun pre c => c.length ≤ pre.length * ss.length ∧ ∀ w, (getL c w).getD 0 = cn w (pre.flatMap fun b => ss.map fun s => plus q s b)) ⟨by simp, fun w => rfl⟩ ?_ fun c hc => hc.2
    rintro pre v post c e ⟨hc1, hc2⟩
    have hv : v ∈ W := by rw [e]; simp
    have hpl : pre.length < W.length := by rw [e]; simp
    have hcl : c.length ≤ 10000000 := by
      have : pre.length * ss.length ≤ 81 * 1000 := Nat.mul_le_mul (by omega) sl
      omega
    have ht := turn N h q0 q1 hp hs sne sl hx (wmem v hv) c hcl
    rw [hW] at ht
    refine Oks.imp ht fun w hw => ?_
    cases w with
    | nx c2 =>
      refine ⟨?_, fun w => ?_⟩
      · have := hw.1
        rw [List.length_append, List.length_cons, List.length_nil, Nat.add_mul, Nat.zero_add, Nat.one_mul]
        omega
      · rw [hw.2 w, hc2 w, List.flatMap_append, cn_app]
        simp
    | brk c2 => exact hw.elim
    | ret r => exact hw.elim
  · intro c hc
    refine oks_aft (P := fun w => match w with
      | .nx _ => True
      | .brk _ => True
      | .ret _ => False) ?_ (fun s _ => oks_ok trivial) (fun s _ => oks_ok trivial) (fun x h => h.elim)
    refine oks_loop (fun pre s => True) trivial ?_ fun s _ => trivial
    rintro pre w post s e _
    have hw : w ∈ W := by rw [e]; simp
    have := spread (q := q) (by omega) (wmem w hw) (ss := ss) hs.wd
    rw [hW] at this
    rw [hc w, this, decide_eq_true rfl]
    exact oks_if (fun h => by cases h) fun _ => oks_ok trivial
theorem law_true (ns : List Int) (hl : ns.length ≤ 63) (hb : ∀ z ∈ ns, Builtin.Int.intBits z ≤ 1048576) : ∃ outs, fn_law [.scr ns] = .ok (.bl true) outs := law_of (told ns hl)
end Lk49
namespace Lk49
open PySem PySem.Spec L2 KS PyProof.Rows
def fldF : Nat → Str
  | 0 => (PySem.Str.ofString "size")
  | 1 => (PySem.Str.ofString "arcs")
  | 2 => (PySem.Str.ofString "knows")
  | _ => (PySem.Str.ofString "?")
theorem injF_size : ∀ m, fldF m = fldF 0 → m = 0
  | 0, _ => rfl
  | 1, h => absurd h (show ¬ ((PySem.Str.ofString "arcs") = (PySem.Str.ofString "size")) by decide +kernel)
  | 2, h => absurd h (show ¬ ((PySem.Str.ofString "knows") = (PySem.Str.ofString "size")) by decide +kernel)
  | _ + 3, h => absurd h (show ¬ ((PySem.Str.ofString "?") = (PySem.Str.ofString "size")) by decide +kernel)
theorem injF_arcs : ∀ m, fldF m = fldF 1 → m = 1
  | 0, h => absurd h (show ¬ ((PySem.Str.ofString "size") = (PySem.Str.ofString "arcs")) by decide +kernel)
  | 1, _ => rfl
  | 2, h => absurd h (show ¬ ((PySem.Str.ofString "knows") = (PySem.Str.ofString "arcs")) by decide +kernel)
  | _ + 3, h => absurd h (show ¬ ((PySem.Str.ofString "?") = (PySem.Str.ofString "arcs")) by decide +kernel)
theorem injF_knows : ∀ m, fldF m = fldF 2 → m = 2
  | 0, h => absurd h (show ¬ ((PySem.Str.ofString "size") = (PySem.Str.ofString "knows")) by decide +kernel)
  | 1, h => absurd h (show ¬ ((PySem.Str.ofString "arcs") = (PySem.Str.ofString "knows")) by decide +kernel)
  | 2, _ => rfl
  | _ + 3, h => absurd h (show ¬ ((PySem.Str.ofString "?") = (PySem.Str.ofString "knows")) by decide +kernel)
def spLaw (K : PySem.W.Frag) : Sp := fun vs H Q _ => ∃ (a : Addr) (ns : List Int), vs = [.ref a] ∧ SqL K H a (ns.map V.int) ∧ ns.length ≤ 63 ∧ (∀ z ∈ ns, Builtin.Int.intBits z ≤ 1048576) ∧ ∀ H', Q (.bl true) H'
theorem sp_law {G : SE} (ht : G.tabs = []) (vs : List V) (H : Hp) (Q : VK) (E : XK) (h : spLaw G.K vs H Q E) : spOf G [false] false fn_law vs H Q E := by
  obtain ⟨a, ns, rfl, hs, hl, hb, q⟩ := h
  refine ⟨[.scr ns], H, ⟨.refl _, (by rw [ht]; intro P hP; cases hP), rfl, rfl, fun i d hm hd => ?_, fun i d hm hd => ?_, fun i j a' hij hi hj => ?_⟩, ?_⟩
  · cases i with
    | zero =>
      have e : D.scr ns = d := Option.some.inj hd
      subst e
      refine ⟨_, rfl, ?_⟩
      simp only [Rep]
      exact ⟨a, rfl, hs⟩
    | succ i => simp at hd
  · cases i with
    | zero => cases hm
    | succ i => simp at hm
  · cases i with
    | zero => cases hi
    | succ i => simp at hi
  · obtain ⟨outs, e⟩ := law_true ns hl hb
    rw [e]
    intro v H' Hv' _ ret
    have ret : Rep G Hv' (.bl true) v := by
      unfold RetR at ret
      rwa [if_neg Bool.false_ne_true] at ret
    rw [Rep.bl_iff.mp ret]
    exact q H'
theorem all_mk {l : PySem.W.OpenLaw} {w : World} {K : PySem.W.Frag} {h : Heap} {mg : Str → Option Value} {fa f_law_numbers f_law_letters f_law_order f_law_ring_of_five f_law_net f_law_knows f_is_below f_first_wrong_arc f_Net_init f_law_words f_law_excludes f_law_store f_count_words f_is_word f_check_words f_parting_place f_first_clash f_moved_words f_shifted_words f_law_pick f_law C_Net X_InvalidNet of_InvalidNet X_InvalidNumber of_InvalidNumber X_InvalidWords of_InvalidWords X_InvalidWord of_InvalidWord : Addr} (X : K.In h) (G : h.Ns mainGlobals mg) (hfa : mg "law" = some (.ref fa))
    {od_law_numbers an_law_numbers od_law_letters an_law_letters od_law_order an_law_order od_law_ring_of_five an_law_ring_of_five od_law_net an_law_net od_law_knows an_law_knows od_is_below an_is_below od_first_wrong_arc an_first_wrong_arc od_Net_init an_Net_init od_law_words an_law_words od_law_excludes an_law_excludes od_law_store an_law_store od_count_words an_count_words od_is_word an_is_word od_check_words an_check_words od_parting_place an_parting_place od_first_clash an_first_clash od_moved_words an_moved_words od_shifted_words an_shifted_words od_law_pick an_law_pick od_law an_law od_InvalidNet an_InvalidNet od_InvalidNumber an_InvalidNumber od_InvalidWords an_InvalidWords od_InvalidWord an_InvalidWord : Option Addr} {sl_law_numbers sl_law_letters sl_law_order sl_law_ring_of_five sl_law_net sl_law_knows sl_is_below sl_first_wrong_arc sl_Net_init sl_law_words sl_law_excludes sl_law_store sl_count_words sl_is_word sl_check_words sl_parting_place sl_first_clash sl_moved_words sl_shifted_words sl_law_pick sl_law sl_InvalidNet sl_InvalidNumber sl_InvalidWords sl_InvalidWord : Array (Option Value)} {oc_law_numbers kV_law_numbers dc_law_numbers pm_law_numbers cd_law_numbers ct_law_numbers oc_law_letters kV_law_letters dc_law_letters pm_law_letters cd_law_letters ct_law_letters oc_law_order kV_law_order dc_law_order pm_law_order cd_law_order ct_law_order oc_law_ring_of_five kV_law_ring_of_five dc_law_ring_of_five pm_law_ring_of_five cd_law_ring_of_five ct_law_ring_of_five oc_law_net kV_law_net dc_law_net pm_law_net cd_law_net ct_law_net oc_law_knows kV_law_knows dc_law_knows pm_law_knows cd_law_knows ct_law_knows oc_is_below kV_is_below dc_is_below pm_is_below cd_is_below ct_is_below oc_first_wrong_arc kV_first_wrong_arc dc_first_wrong_arc pm_first_wrong_arc cd_first_wrong_arc ct_first_wrong_arc oc_Net_init kV_Net_init dc_Net_init pm_Net_init cd_Net_init ct_Net_init oc_law_words kV_law_words dc_law_words pm_law_words cd_law_words ct_law_words oc_law_excludes kV_law_excludes dc_law_excludes pm_law_excludes cd_law_excludes ct_law_excludes oc_law_store kV_law_store dc_law_store pm_law_store cd_law_store ct_law_store oc_count_words kV_count_words dc_count_words pm_count_words cd_count_words ct_count_words oc_is_word kV_is_word dc_is_word pm_is_word cd_is_word ct_is_word oc_check_words kV_check_words dc_check_words pm_check_words cd_check_words ct_check_words oc_parting_place kV_parting_place dc_parting_place pm_parting_place cd_parting_place ct_parting_place oc_first_clash kV_first_clash dc_first_clash pm_first_clash cd_first_clash ct_first_clash oc_moved_words kV_moved_words dc_moved_words pm_moved_words cd_moved_words ct_moved_words oc_shifted_words kV_shifted_words dc_shifted_words pm_shifted_words cd_shifted_words ct_shifted_words oc_law_pick kV_law_pick dc_law_pick pm_law_pick cd_law_pick ct_law_pick oc_law kV_law dc_law pm_law cd_law ct_law oc_InvalidNet kV_InvalidNet dc_InvalidNet pm_InvalidNet cd_InvalidNet ct_InvalidNet oc_InvalidNumber kV_InvalidNumber dc_InvalidNumber pm_InvalidNumber cd_InvalidNumber ct_InvalidNumber oc_InvalidWords kV_InvalidWords dc_InvalidWords pm_InvalidWords cd_InvalidWords ct_InvalidWords oc_InvalidWord kV_InvalidWord dc_InvalidWord pm_InvalidWord cd_InvalidWord ct_InvalidWord : Value} {t_MOST_PLACES t_MOST_WORDS : Tok}
    (aC_Net : PySem.W.nsIn K mainGlobals (PySem.Str.ofString "Net") = some (some (.ref C_Net)))
    (xC_InvalidNet : PySem.W.nsIn K mainGlobals (PySem.Str.ofString "InvalidNet") = some (some (.ref X_InvalidNet)))
    (xC_InvalidNumber : PySem.W.nsIn K mainGlobals (PySem.Str.ofString "InvalidNumber") = some (some (.ref X_InvalidNumber)))
    (xC_InvalidWords : PySem.W.nsIn K mainGlobals (PySem.Str.ofString "InvalidWords") = some (some (.ref X_InvalidWords)))
    (xC_InvalidWord : PySem.W.nsIn K mainGlobals (PySem.Str.ofString "InvalidWord") = some (some (.ref X_InvalidWord)))
    (a_law_numbers : PySem.W.nsIn K mainGlobals (PySem.Str.ofString "_law_numbers") = some (some (.ref f_law_numbers)))
    (l_law_numbers : K.lookup f_law_numbers = some ⟨oc_law_numbers, od_law_numbers, .func (PySem.W.fnOf (PySem.Str.ofString "_law_numbers") (PySem.Str.ofString "_law_numbers") (defArgs st_law_numbers) (defBody st_law_numbers) (defScope st_law_numbers) .none kV_law_numbers dc_law_numbers pm_law_numbers an_law_numbers cd_law_numbers ct_law_numbers), sl_law_numbers⟩)
    (c_law_numbers : PySem.W.codeIn K cd_law_numbers (PySem.Str.ofString "_law_numbers") = true)
    (k_law_numbers : PySem.W.keepIn K (.ref f_law_numbers) = true)
    (a_law_letters : PySem.W.nsIn K mainGlobals (PySem.Str.ofString "_law_letters") = some (some (.ref f_law_letters)))
    (l_law_letters : K.lookup f_law_letters = some ⟨oc_law_letters, od_law_letters, .func (PySem.W.fnOf (PySem.Str.ofString "_law_letters") (PySem.Str.ofString "_law_letters") (defArgs st_law_letters) (defBody st_law_letters) (defScope st_law_letters) .none kV_law_letters dc_law_letters pm_law_letters an_law_letters cd_law_letters ct_law_letters), sl_law_letters⟩)
    (c_law_letters : PySem.W.codeIn K cd_law_letters (PySem.Str.ofString "_law_letters") = true)
    (k_law_letters : PySem.W.keepIn K (.ref f_law_letters) = true)
    (a_law_order : PySem.W.nsIn K mainGlobals (PySem.Str.ofString "_law_order") = some (some (.ref f_law_order)))
    (l_law_order : K.lookup f_law_order = some ⟨oc_law_order, od_law_order, .func (PySem.W.fnOf (PySem.Str.ofString "_law_order") (PySem.Str.ofString "_law_order") (defArgs st_law_order) (defBody st_law_order) (defScope st_law_order) .none kV_law_order dc_law_order pm_law_order an_law_order cd_law_order ct_law_order), sl_law_order⟩)
    (c_law_order : PySem.W.codeIn K cd_law_order (PySem.Str.ofString "_law_order") = true)
    (k_law_order : PySem.W.keepIn K (.ref f_law_order) = true)
    (a_law_ring_of_five : PySem.W.nsIn K mainGlobals (PySem.Str.ofString "_law_ring_of_five") = some (some (.ref f_law_ring_of_five)))
    (l_law_ring_of_five : K.lookup f_law_ring_of_five = some ⟨oc_law_ring_of_five, od_law_ring_of_five, .func (PySem.W.fnOf (PySem.Str.ofString "_law_ring_of_five") (PySem.Str.ofString "_law_ring_of_five") (defArgs st_law_ring_of_five) (defBody st_law_ring_of_five) (defScope st_law_ring_of_five) .none kV_law_ring_of_five dc_law_ring_of_five pm_law_ring_of_five an_law_ring_of_five cd_law_ring_of_five ct_law_ring_of_five), sl_law_ring_of_five⟩)
    (c_law_ring_of_five : PySem.W.codeIn K cd_law_ring_of_five (PySem.Str.ofString "_law_ring_of_five") = true)
    (k_law_ring_of_five : PySem.W.keepIn K (.ref f_law_ring_of_five) = true)
    (a_law_net : PySem.W.nsIn K mainGlobals (PySem.Str.ofString "_law_net") = some (some (.ref f_law_net)))
    (l_law_net : K.lookup f_law_net = some ⟨oc_law_net, od_law_net, .func (PySem.W.fnOf (PySem.Str.ofString "_law_net") (PySem.Str.ofString "_law_net") (defArgs st_law_net) (defBody st_law_net) (defScope st_law_net) .none kV_law_net dc_law_net pm_law_net an_law_net cd_law_net ct_law_net), sl_law_net⟩)
    (c_law_net : PySem.W.codeIn K cd_law_net (PySem.Str.ofString "_law_net") = true)
    (k_law_net : PySem.W.keepIn K (.ref f_law_net) = true)
    (a_law_knows : PySem.W.nsIn K mainGlobals (PySem.Str.ofString "_law_knows") = some (some (.ref f_law_knows)))
    (l_law_knows : K.lookup f_law_knows = some ⟨oc_law_knows, od_law_knows, .func (PySem.W.fnOf (PySem.Str.ofString "_law_knows") (PySem.Str.ofString "_law_knows") (defArgs st_law_knows) (defBody st_law_knows) (defScope st_law_knows) .none kV_law_knows dc_law_knows pm_law_knows an_law_knows cd_law_knows ct_law_knows), sl_law_knows⟩)
    (c_law_knows : PySem.W.codeIn K cd_law_knows (PySem.Str.ofString "_law_knows") = true)
    (k_law_knows : PySem.W.keepIn K (.ref f_law_knows) = true)
    (a_is_below : PySem.W.nsIn K mainGlobals (PySem.Str.ofString "is_below") = some (some (.ref f_is_below)))
    (l_is_below : K.lookup f_is_below = some ⟨oc_is_below, od_is_below, .func (PySem.W.fnOf (PySem.Str.ofString "is_below") (PySem.Str.ofString "is_below") (defArgs st_is_below) (defBody st_is_below) (defScope st_is_below) .none kV_is_below dc_is_below pm_is_below an_is_below cd_is_below ct_is_below), sl_is_below⟩)
    (c_is_below : PySem.W.codeIn K cd_is_below (PySem.Str.ofString "is_below") = true)
    (k_is_below : PySem.W.keepIn K (.ref f_is_below) = true)
    (a_first_wrong_arc : PySem.W.nsIn K mainGlobals (PySem.Str.ofString "first_wrong_arc") = some (some (.ref f_first_wrong_arc)))
    (l_first_wrong_arc : K.lookup f_first_wrong_arc = some ⟨oc_first_wrong_arc, od_first_wrong_arc, .func (PySem.W.fnOf (PySem.Str.ofString "first_wrong_arc") (PySem.Str.ofString "first_wrong_arc") (defArgs st_first_wrong_arc) (defBody st_first_wrong_arc) (defScope st_first_wrong_arc) .none kV_first_wrong_arc dc_first_wrong_arc pm_first_wrong_arc an_first_wrong_arc cd_first_wrong_arc ct_first_wrong_arc), sl_first_wrong_arc⟩)
    (c_first_wrong_arc : PySem.W.codeIn K cd_first_wrong_arc (PySem.Str.ofString "first_wrong_arc") = true)
    (k_first_wrong_arc : PySem.W.keepIn K (.ref f_first_wrong_arc) = true)
    (a_Net_init : PySem.W.findIn K (.ref C_Net) (PySem.Str.ofString "__init__") = some (some (.ref f_Net_init)))
    (i_Net_init : PySem.W.isFn K (.ref f_Net_init) = true)
    (l_Net_init : K.lookup f_Net_init = some ⟨oc_Net_init, od_Net_init, .func (PySem.W.fnOf (PySem.Str.ofString "__init__") (PySem.Str.ofString "Net.__init__") (defArgs st_Net_init) (defBody st_Net_init) (defScope st_Net_init) .none kV_Net_init dc_Net_init pm_Net_init an_Net_init cd_Net_init ct_Net_init), sl_Net_init⟩)
    (c_Net_init : PySem.W.codeIn K cd_Net_init (PySem.Str.ofString "Net.__init__") = true)
    (k_Net_init : PySem.W.keepIn K (.ref f_Net_init) = true)
    (a_law_words : PySem.W.nsIn K mainGlobals (PySem.Str.ofString "_law_words") = some (some (.ref f_law_words)))
    (l_law_words : K.lookup f_law_words = some ⟨oc_law_words, od_law_words, .func (PySem.W.fnOf (PySem.Str.ofString "_law_words") (PySem.Str.ofString "_law_words") (defArgs st_law_words) (defBody st_law_words) (defScope st_law_words) .none kV_law_words dc_law_words pm_law_words an_law_words cd_law_words ct_law_words), sl_law_words⟩)
    (c_law_words : PySem.W.codeIn K cd_law_words (PySem.Str.ofString "_law_words") = true)
    (k_law_words : PySem.W.keepIn K (.ref f_law_words) = true)
    (a_law_excludes : PySem.W.nsIn K mainGlobals (PySem.Str.ofString "_law_excludes") = some (some (.ref f_law_excludes)))
    (l_law_excludes : K.lookup f_law_excludes = some ⟨oc_law_excludes, od_law_excludes, .func (PySem.W.fnOf (PySem.Str.ofString "_law_excludes") (PySem.Str.ofString "_law_excludes") (defArgs st_law_excludes) (defBody st_law_excludes) (defScope st_law_excludes) .none kV_law_excludes dc_law_excludes pm_law_excludes an_law_excludes cd_law_excludes ct_law_excludes), sl_law_excludes⟩)
    (c_law_excludes : PySem.W.codeIn K cd_law_excludes (PySem.Str.ofString "_law_excludes") = true)
    (k_law_excludes : PySem.W.keepIn K (.ref f_law_excludes) = true)
    (a_law_store : PySem.W.nsIn K mainGlobals (PySem.Str.ofString "_law_store") = some (some (.ref f_law_store)))
    (l_law_store : K.lookup f_law_store = some ⟨oc_law_store, od_law_store, .func (PySem.W.fnOf (PySem.Str.ofString "_law_store") (PySem.Str.ofString "_law_store") (defArgs st_law_store) (defBody st_law_store) (defScope st_law_store) .none kV_law_store dc_law_store pm_law_store an_law_store cd_law_store ct_law_store), sl_law_store⟩)
    (c_law_store : PySem.W.codeIn K cd_law_store (PySem.Str.ofString "_law_store") = true)
    (k_law_store : PySem.W.keepIn K (.ref f_law_store) = true)
    (a_count_words : PySem.W.nsIn K mainGlobals (PySem.Str.ofString "count_words") = some (some (.ref f_count_words)))
    (l_count_words : K.lookup f_count_words = some ⟨oc_count_words, od_count_words, .func (PySem.W.fnOf (PySem.Str.ofString "count_words") (PySem.Str.ofString "count_words") (defArgs st_count_words) (defBody st_count_words) (defScope st_count_words) .none kV_count_words dc_count_words pm_count_words an_count_words cd_count_words ct_count_words), sl_count_words⟩)
    (c_count_words : PySem.W.codeIn K cd_count_words (PySem.Str.ofString "count_words") = true)
    (k_count_words : PySem.W.keepIn K (.ref f_count_words) = true)
    (a_is_word : PySem.W.nsIn K mainGlobals (PySem.Str.ofString "is_word") = some (some (.ref f_is_word)))
    (l_is_word : K.lookup f_is_word = some ⟨oc_is_word, od_is_word, .func (PySem.W.fnOf (PySem.Str.ofString "is_word") (PySem.Str.ofString "is_word") (defArgs st_is_word) (defBody st_is_word) (defScope st_is_word) .none kV_is_word dc_is_word pm_is_word an_is_word cd_is_word ct_is_word), sl_is_word⟩)
    (c_is_word : PySem.W.codeIn K cd_is_word (PySem.Str.ofString "is_word") = true)
    (k_is_word : PySem.W.keepIn K (.ref f_is_word) = true)
    (a_check_words : PySem.W.nsIn K mainGlobals (PySem.Str.ofString "check_words") = some (some (.ref f_check_words)))
    (l_check_words : K.lookup f_check_words = some ⟨oc_check_words, od_check_words, .func (PySem.W.fnOf (PySem.Str.ofString "check_words") (PySem.Str.ofString "check_words") (defArgs st_check_words) (defBody st_check_words) (defScope st_check_words) .none kV_check_words dc_check_words pm_check_words an_check_words cd_check_words ct_check_words), sl_check_words⟩)
    (c_check_words : PySem.W.codeIn K cd_check_words (PySem.Str.ofString "check_words") = true)
    (k_check_words : PySem.W.keepIn K (.ref f_check_words) = true)
    (a_parting_place : PySem.W.nsIn K mainGlobals (PySem.Str.ofString "parting_place") = some (some (.ref f_parting_place)))
    (l_parting_place : K.lookup f_parting_place = some ⟨oc_parting_place, od_parting_place, .func (PySem.W.fnOf (PySem.Str.ofString "parting_place") (PySem.Str.ofString "parting_place") (defArgs st_parting_place) (defBody st_parting_place) (defScope st_parting_place) .none kV_parting_place dc_parting_place pm_parting_place an_parting_place cd_parting_place ct_parting_place), sl_parting_place⟩)
    (c_parting_place : PySem.W.codeIn K cd_parting_place (PySem.Str.ofString "parting_place") = true)
    (k_parting_place : PySem.W.keepIn K (.ref f_parting_place) = true)
    (a_first_clash : PySem.W.nsIn K mainGlobals (PySem.Str.ofString "first_clash") = some (some (.ref f_first_clash)))
    (l_first_clash : K.lookup f_first_clash = some ⟨oc_first_clash, od_first_clash, .func (PySem.W.fnOf (PySem.Str.ofString "first_clash") (PySem.Str.ofString "first_clash") (defArgs st_first_clash) (defBody st_first_clash) (defScope st_first_clash) .none kV_first_clash dc_first_clash pm_first_clash an_first_clash cd_first_clash ct_first_clash), sl_first_clash⟩)
    (c_first_clash : PySem.W.codeIn K cd_first_clash (PySem.Str.ofString "first_clash") = true)
    (k_first_clash : PySem.W.keepIn K (.ref f_first_clash) = true)
    (a_moved_words : PySem.W.nsIn K mainGlobals (PySem.Str.ofString "moved_words") = some (some (.ref f_moved_words)))
    (l_moved_words : K.lookup f_moved_words = some ⟨oc_moved_words, od_moved_words, .func (PySem.W.fnOf (PySem.Str.ofString "moved_words") (PySem.Str.ofString "moved_words") (defArgs st_moved_words) (defBody st_moved_words) (defScope st_moved_words) .none kV_moved_words dc_moved_words pm_moved_words an_moved_words cd_moved_words ct_moved_words), sl_moved_words⟩)
    (c_moved_words : PySem.W.codeIn K cd_moved_words (PySem.Str.ofString "moved_words") = true)
    (k_moved_words : PySem.W.keepIn K (.ref f_moved_words) = true)
    (a_shifted_words : PySem.W.nsIn K mainGlobals (PySem.Str.ofString "shifted_words") = some (some (.ref f_shifted_words)))
    (l_shifted_words : K.lookup f_shifted_words = some ⟨oc_shifted_words, od_shifted_words, .func (PySem.W.fnOf (PySem.Str.ofString "shifted_words") (PySem.Str.ofString "shifted_words") (defArgs st_shifted_words) (defBody st_shifted_words) (defScope st_shifted_words) .none kV_shifted_words dc_shifted_words pm_shifted_words an_shifted_words cd_shifted_words ct_shifted_words), sl_shifted_words⟩)
    (c_shifted_words : PySem.W.codeIn K cd_shifted_words (PySem.Str.ofString "shifted_words") = true)
    (k_shifted_words : PySem.W.keepIn K (.ref f_shifted_words) = true)
    (a_law_pick : PySem.W.nsIn K mainGlobals (PySem.Str.ofString "_law_pick") = some (some (.ref f_law_pick)))
    (l_law_pick : K.lookup f_law_pick = some ⟨oc_law_pick, od_law_pick, .func (PySem.W.fnOf (PySem.Str.ofString "_law_pick") (PySem.Str.ofString "_law_pick") (defArgs st_law_pick) (defBody st_law_pick) (defScope st_law_pick) .none kV_law_pick dc_law_pick pm_law_pick an_law_pick cd_law_pick ct_law_pick), sl_law_pick⟩)
    (c_law_pick : PySem.W.codeIn K cd_law_pick (PySem.Str.ofString "_law_pick") = true)
    (k_law_pick : PySem.W.keepIn K (.ref f_law_pick) = true)
    (a_law : PySem.W.nsIn K mainGlobals (PySem.Str.ofString "law") = some (some (.ref f_law)))
    (l_law : K.lookup f_law = some ⟨oc_law, od_law, .func (PySem.W.fnOf (PySem.Str.ofString "law") (PySem.Str.ofString "law") (defArgs st_law) (defBody st_law) (defScope st_law) .none kV_law dc_law pm_law an_law cd_law ct_law), sl_law⟩)
    (c_law : PySem.W.codeIn K cd_law (PySem.Str.ofString "law") = true)
    (k_law : PySem.W.keepIn K (.ref f_law) = true)
    (pg_Net : PySem.W.plainGet K C_Net Str.empty = true)
    (hd_Net : PySem.W.hasDictIn K C_Net = true)
    (po_Net : PySem.W.plainOver K C_Net = true)
    (sa_Net : PySem.W.findIn K (.ref C_Net) "__setattr__" = some (some (.builtin "object.__setattr__")))
    (mk_Net : PySem.W.makesIn K C_Net = true)
    (kq_Net : PySem.W.keepIn K (.ref C_Net) = true)
    (ha_Net : PySem.W.findIn K (.ref C_Net) "__class__" = some (some (.builtin "object.__class__")))
    (hn_Net : PySem.W.specialIn K (.builtin "object.__class__") "__get__" = some (some (.builtin "getset_descriptor.__get__")))
    (ht_Net : PySem.W.takesIn K (.builtin "object.__class__") = some true)
    (hm_Net : PySem.W.mroIn K C_Net (.type "object") = some true)
    (nf_Net_size : PySem.W.findIn K (.ref C_Net) (PySem.Str.ofString "size") = some none)
    (nf_Net_arcs : PySem.W.findIn K (.ref C_Net) (PySem.Str.ofString "arcs") = some none)
    (nf_Net_knows : PySem.W.findIn K (.ref C_Net) (PySem.Str.ofString "knows") = some none)
    (xa_InvalidNet : PySem.W.findIn K (.ref X_InvalidNet) "__init__" = some (some (.ref of_InvalidNet)))
    (xt_InvalidNet : PySem.W.typeIn K (.ref of_InvalidNet) = some (.type "function"))
    (xl_InvalidNet : K.lookup of_InvalidNet = some ⟨oc_InvalidNet, od_InvalidNet, .func (PySem.W.fnOf "__init__" (PySem.Str.ofString "InvalidNet.__init__") (defArgs st_xInvalidNet) (defBody st_xInvalidNet) (defScope st_xInvalidNet) .none kV_InvalidNet dc_InvalidNet pm_InvalidNet an_InvalidNet cd_InvalidNet ct_InvalidNet), sl_InvalidNet⟩)
    (xc_InvalidNet : PySem.W.codeIn K cd_InvalidNet (PySem.Str.ofString "InvalidNet.__init__") = true)
    (xk_InvalidNet : PySem.W.keepIn K (.ref of_InvalidNet) = true)
    (xs_InvalidNet : PySem.W.findIn K (.ref X_InvalidNet) "__setattr__" = some (some (.builtin "object.__setattr__")))
    (xe_InvalidNet : PySem.W.subIn K (.ref X_InvalidNet) (.type "BaseException") = some true)
    (xy_InvalidNet : PySem.W.typeIn K (.ref X_InvalidNet) = some (.type "type"))
    (xp_InvalidNet : PySem.W.keepIn K (.ref X_InvalidNet) = true)
    (xo_InvalidNet : ∃ nm q N bs bm sn sub ab col dd k0 k1 k2 k3 k5, K.lookup X_InvalidNet = some (excClassObj nm q X_InvalidNet N bs bm true sn sub ab col dd k0 k1 k2 k3 k5 "ValueError.__new__") ∧ PySem.HandSPX.refsVE bm = true)
    (xf_InvalidNet_part : PySem.W.findIn K (.ref X_InvalidNet) (PySem.Str.ofString "part") = some none)
    (xf_InvalidNet_place : PySem.W.findIn K (.ref X_InvalidNet) (PySem.Str.ofString "place") = some none)
    (xa_InvalidNumber : PySem.W.findIn K (.ref X_InvalidNumber) "__init__" = some (some (.ref of_InvalidNumber)))
    (xt_InvalidNumber : PySem.W.typeIn K (.ref of_InvalidNumber) = some (.type "function"))
    (xl_InvalidNumber : K.lookup of_InvalidNumber = some ⟨oc_InvalidNumber, od_InvalidNumber, .func (PySem.W.fnOf "__init__" (PySem.Str.ofString "InvalidNumber.__init__") (defArgs st_xInvalidNumber) (defBody st_xInvalidNumber) (defScope st_xInvalidNumber) .none kV_InvalidNumber dc_InvalidNumber pm_InvalidNumber an_InvalidNumber cd_InvalidNumber ct_InvalidNumber), sl_InvalidNumber⟩)
    (xc_InvalidNumber : PySem.W.codeIn K cd_InvalidNumber (PySem.Str.ofString "InvalidNumber.__init__") = true)
    (xk_InvalidNumber : PySem.W.keepIn K (.ref of_InvalidNumber) = true)
    (xs_InvalidNumber : PySem.W.findIn K (.ref X_InvalidNumber) "__setattr__" = some (some (.builtin "object.__setattr__")))
    (xe_InvalidNumber : PySem.W.subIn K (.ref X_InvalidNumber) (.type "BaseException") = some true)
    (xy_InvalidNumber : PySem.W.typeIn K (.ref X_InvalidNumber) = some (.type "type"))
    (xp_InvalidNumber : PySem.W.keepIn K (.ref X_InvalidNumber) = true)
    (xo_InvalidNumber : ∃ nm q N bs bm sn sub ab col dd k0 k1 k2 k3 k5, K.lookup X_InvalidNumber = some (excClassObj nm q X_InvalidNumber N bs bm true sn sub ab col dd k0 k1 k2 k3 k5 "ValueError.__new__") ∧ PySem.HandSPX.refsVE bm = true)
    (xf_InvalidNumber_value : PySem.W.findIn K (.ref X_InvalidNumber) (PySem.Str.ofString "value") = some none)
    (xa_InvalidWords : PySem.W.findIn K (.ref X_InvalidWords) "__init__" = some (some (.ref of_InvalidWords)))
    (xt_InvalidWords : PySem.W.typeIn K (.ref of_InvalidWords) = some (.type "function"))
    (xl_InvalidWords : K.lookup of_InvalidWords = some ⟨oc_InvalidWords, od_InvalidWords, .func (PySem.W.fnOf "__init__" (PySem.Str.ofString "InvalidWords.__init__") (defArgs st_xInvalidWords) (defBody st_xInvalidWords) (defScope st_xInvalidWords) .none kV_InvalidWords dc_InvalidWords pm_InvalidWords an_InvalidWords cd_InvalidWords ct_InvalidWords), sl_InvalidWords⟩)
    (xc_InvalidWords : PySem.W.codeIn K cd_InvalidWords (PySem.Str.ofString "InvalidWords.__init__") = true)
    (xk_InvalidWords : PySem.W.keepIn K (.ref of_InvalidWords) = true)
    (xs_InvalidWords : PySem.W.findIn K (.ref X_InvalidWords) "__setattr__" = some (some (.builtin "object.__setattr__")))
    (xe_InvalidWords : PySem.W.subIn K (.ref X_InvalidWords) (.type "BaseException") = some true)
    (xy_InvalidWords : PySem.W.typeIn K (.ref X_InvalidWords) = some (.type "type"))
    (xp_InvalidWords : PySem.W.keepIn K (.ref X_InvalidWords) = true)
    (xo_InvalidWords : ∃ nm q N bs bm sn sub ab col dd k0 k1 k2 k3 k5, K.lookup X_InvalidWords = some (excClassObj nm q X_InvalidWords N bs bm true sn sub ab col dd k0 k1 k2 k3 k5 "ValueError.__new__") ∧ PySem.HandSPX.refsVE bm = true)
    (xf_InvalidWords_value : PySem.W.findIn K (.ref X_InvalidWords) (PySem.Str.ofString "value") = some none)
    (xa_InvalidWord : PySem.W.findIn K (.ref X_InvalidWord) "__init__" = some (some (.ref of_InvalidWord)))
    (xt_InvalidWord : PySem.W.typeIn K (.ref of_InvalidWord) = some (.type "function"))
    (xl_InvalidWord : K.lookup of_InvalidWord = some ⟨oc_InvalidWord, od_InvalidWord, .func (PySem.W.fnOf "__init__" (PySem.Str.ofString "InvalidWord.__init__") (defArgs st_xInvalidWord) (defBody st_xInvalidWord) (defScope st_xInvalidWord) .none kV_InvalidWord dc_InvalidWord pm_InvalidWord an_InvalidWord cd_InvalidWord ct_InvalidWord), sl_InvalidWord⟩)
    (xc_InvalidWord : PySem.W.codeIn K cd_InvalidWord (PySem.Str.ofString "InvalidWord.__init__") = true)
    (xk_InvalidWord : PySem.W.keepIn K (.ref of_InvalidWord) = true)
    (xs_InvalidWord : PySem.W.findIn K (.ref X_InvalidWord) "__setattr__" = some (some (.builtin "object.__setattr__")))
    (xe_InvalidWord : PySem.W.subIn K (.ref X_InvalidWord) (.type "BaseException") = some true)
    (xy_InvalidWord : PySem.W.typeIn K (.ref X_InvalidWord) = some (.type "type"))
    (xp_InvalidWord : PySem.W.keepIn K (.ref X_InvalidWord) = true)
    (xo_InvalidWord : ∃ nm q N bs bm sn sub ab col dd k0 k1 k2 k3 k5, K.lookup X_InvalidWord = some (excClassObj nm q X_InvalidWord N bs bm true sn sub ab col dd k0 k1 k2 k3 k5 "ValueError.__new__") ∧ PySem.HandSPX.refsVE bm = true)
    (xf_InvalidWord_value : PySem.W.findIn K (.ref X_InvalidWord) (PySem.Str.ofString "value") = some none)
    (z_abs : PySem.W.nsIn K mainGlobals (PySem.Str.ofString "abs") = some none)
    (z_all : PySem.W.nsIn K mainGlobals (PySem.Str.ofString "all") = some none)
    (z_bool : PySem.W.nsIn K mainGlobals (PySem.Str.ofString "bool") = some none)
    (z_enumerate : PySem.W.nsIn K mainGlobals (PySem.Str.ofString "enumerate") = some none)
    (z_int : PySem.W.nsIn K mainGlobals (PySem.Str.ofString "int") = some none)
    (z_isinstance : PySem.W.nsIn K mainGlobals (PySem.Str.ofString "isinstance") = some none)
    (z_len : PySem.W.nsIn K mainGlobals (PySem.Str.ofString "len") = some none)
    (z_list : PySem.W.nsIn K mainGlobals (PySem.Str.ofString "list") = some none)
    (z_min : PySem.W.nsIn K mainGlobals (PySem.Str.ofString "min") = some none)
    (z_range : PySem.W.nsIn K mainGlobals (PySem.Str.ofString "range") = some none)
    (z_sorted : PySem.W.nsIn K mainGlobals (PySem.Str.ofString "sorted") = some none)
    (z_tuple : PySem.W.nsIn K mainGlobals (PySem.Str.ofString "tuple") = some none)
    (g_MOST_PLACES : PySem.W.nsIn K mainGlobals (PySem.Str.ofString "MOST_PLACES") = some (some (.int 12 t_MOST_PLACES)))
    (g_MOST_WORDS : PySem.W.nsIn K mainGlobals (PySem.Str.ofString "MOST_WORDS") = some (some (.int 81 t_MOST_WORDS))) :
    ∃ fd : FuncData, (∀ (s : Shared) (v : Value), BindsTo s fd ⟨[v], []⟩ [((PySem.Str.ofString "_law_script"), v)]) ∧ ∀ base : Heap, K.In base → base.Ns mainGlobals mg → FnOk l.prog w K mg base (L2.CX l.prog w) 5 fa fd [(PySem.Str.ofString "_law_script")] (spLaw K) := by
  have e := hfa.symm.trans (PySem.W.mg_of X G a_law)
  cases e
  have F_law_numbers := fun_mk (st := st_law_numbers) l_law_numbers c_law_numbers k_law_numbers
  have b_law_numbers := F_law_numbers.binds (ps := [(PySem.Str.ofString "_law_cell"), (PySem.Str.ofString "_law_at"), (PySem.Str.ofString "_law_many")]) fun _ _ _ _ _ _ us hl => match us, hl with | [_, _, _], _ => rfl
  have F_law_letters := fun_mk (st := st_law_letters) l_law_letters c_law_letters k_law_letters
  have b_law_letters := F_law_letters.binds (ps := [(PySem.Str.ofString "_law_numbers_here"), (PySem.Str.ofString "_law_k"), (PySem.Str.ofString "_law_most")]) fun _ _ _ _ _ _ us hl => match us, hl with | [_, _, _], _ => rfl
  have F_law_order := fun_mk (st := st_law_order) l_law_order c_law_order k_law_order
  have b_law_order := F_law_order.binds (ps := [(PySem.Str.ofString "_law_numbers_here"), (PySem.Str.ofString "_law_k"), (PySem.Str.ofString "_law_size")]) fun _ _ _ _ _ _ us hl => match us, hl with | [_, _, _], _ => rfl
  have F_law_ring_of_five := fun_mk (st := st_law_ring_of_five) l_law_ring_of_five c_law_ring_of_five k_law_ring_of_five
  have b_law_ring_of_five := F_law_ring_of_five.binds (ps := [(PySem.Str.ofString "_law_numbers_here"), (PySem.Str.ofString "_law_k")]) fun _ _ _ _ _ _ us hl => match us, hl with | [_, _], _ => rfl
  have F_law_net := fun_mk (st := st_law_net) l_law_net c_law_net k_law_net
  have b_law_net := F_law_net.binds (ps := [(PySem.Str.ofString "_law_numbers_here"), (PySem.Str.ofString "_law_k"), (PySem.Str.ofString "_law_most")]) fun _ _ _ _ _ _ us hl => match us, hl with | [_, _, _], _ => rfl
  have F_law_knows := fun_mk (st := st_law_knows) l_law_knows c_law_knows k_law_knows
  have b_law_knows := F_law_knows.binds (ps := [(PySem.Str.ofString "_law_net_here")]) fun _ _ _ _ _ _ us hl => match us, hl with | [_], _ => rfl
  have F_is_below := fun_mk (st := st_is_below) l_is_below c_is_below k_is_below
  have b_is_below := F_is_below.binds (ps := [(PySem.Str.ofString "value"), (PySem.Str.ofString "many")]) fun _ _ _ _ _ _ us hl => match us, hl with | [_, _], _ => rfl
  have F_first_wrong_arc := fun_mk (st := st_first_wrong_arc) l_first_wrong_arc c_first_wrong_arc k_first_wrong_arc
  have b_first_wrong_arc := F_first_wrong_arc.binds (ps := [(PySem.Str.ofString "size"), (PySem.Str.ofString "arcs")]) fun _ _ _ _ _ _ us hl => match us, hl with | [_, _], _ => rfl
  have F_Net_init := fun_mk (st := st_Net_init) l_Net_init c_Net_init k_Net_init
  have b_Net_init := F_Net_init.binds (ps := [(PySem.Str.ofString "self"), (PySem.Str.ofString "size"), (PySem.Str.ofString "arcs")]) fun _ _ _ _ _ _ us hl => match us, hl with | [_, _, _], _ => rfl
  have F_law_words := fun_mk (st := st_law_words) l_law_words c_law_words k_law_words
  have b_law_words := F_law_words.binds (ps := [(PySem.Str.ofString "_law_size"), (PySem.Str.ofString "_law_q")]) fun _ _ _ _ _ _ us hl => match us, hl with | [_, _], _ => rfl
  have F_law_excludes := fun_mk (st := st_law_excludes) l_law_excludes c_law_excludes k_law_excludes
  have b_law_excludes := F_law_excludes.binds (ps := [(PySem.Str.ofString "_law_knows_here"), (PySem.Str.ofString "_law_one"), (PySem.Str.ofString "_law_other")]) fun _ _ _ _ _ _ us hl => match us, hl with | [_, _, _], _ => rfl
  have F_law_store := fun_mk (st := st_law_store) l_law_store c_law_store k_law_store
  have b_law_store := F_law_store.binds (ps := [(PySem.Str.ofString "_law_knows_here"), (PySem.Str.ofString "_law_words_here")]) fun _ _ _ _ _ _ us hl => match us, hl with | [_, _], _ => rfl
  have F_count_words := fun_mk (st := st_count_words) l_count_words c_count_words k_count_words
  have b_count_words := F_count_words.binds (ps := [(PySem.Str.ofString "net"), (PySem.Str.ofString "q")]) fun _ _ _ _ _ _ us hl => match us, hl with | [_, _], _ => rfl
  have F_is_word := fun_mk (st := st_is_word) l_is_word c_is_word k_is_word
  have b_is_word := F_is_word.binds (ps := [(PySem.Str.ofString "net"), (PySem.Str.ofString "q"), (PySem.Str.ofString "value")]) fun _ _ _ _ _ _ us hl => match us, hl with | [_, _, _], _ => rfl
  have F_check_words := fun_mk (st := st_check_words) l_check_words c_check_words k_check_words
  have b_check_words := F_check_words.binds (ps := [(PySem.Str.ofString "net"), (PySem.Str.ofString "q"), (PySem.Str.ofString "words")]) fun _ _ _ _ _ _ us hl => match us, hl with | [_, _, _], _ => rfl
  have F_parting_place := fun_mk (st := st_parting_place) l_parting_place c_parting_place k_parting_place
  have b_parting_place := F_parting_place.binds (ps := [(PySem.Str.ofString "net"), (PySem.Str.ofString "one"), (PySem.Str.ofString "other")]) fun _ _ _ _ _ _ us hl => match us, hl with | [_, _, _], _ => rfl
  have F_first_clash := fun_mk (st := st_first_clash) l_first_clash c_first_clash k_first_clash
  have b_first_clash := F_first_clash.binds (ps := [(PySem.Str.ofString "net"), (PySem.Str.ofString "q"), (PySem.Str.ofString "words")]) fun _ _ _ _ _ _ us hl => match us, hl with | [_, _, _], _ => rfl
  have F_moved_words := fun_mk (st := st_moved_words) l_moved_words c_moved_words k_moved_words
  have b_moved_words := F_moved_words.binds (ps := [(PySem.Str.ofString "q"), (PySem.Str.ofString "words"), (PySem.Str.ofString "by")]) fun _ _ _ _ _ _ us hl => match us, hl with | [_, _, _], _ => rfl
  have F_shifted_words := fun_mk (st := st_shifted_words) l_shifted_words c_shifted_words k_shifted_words
  have b_shifted_words := F_shifted_words.binds (ps := [(PySem.Str.ofString "net"), (PySem.Str.ofString "q"), (PySem.Str.ofString "words"), (PySem.Str.ofString "by")]) fun _ _ _ _ _ _ us hl => match us, hl with | [_, _, _, _], _ => rfl
  have F_law_pick := fun_mk (st := st_law_pick) l_law_pick c_law_pick k_law_pick
  have b_law_pick := F_law_pick.binds (ps := [(PySem.Str.ofString "_law_numbers_here"), (PySem.Str.ofString "_law_k"), (PySem.Str.ofString "_law_words_here"), (PySem.Str.ofString "_law_many")]) fun _ _ _ _ _ _ us hl => match us, hl with | [_, _, _, _], _ => rfl
  have F_law := fun_mk (st := st_law) l_law c_law k_law
  have b_law := F_law.binds (ps := [(PySem.Str.ofString "_law_script")]) fun _ _ _ _ _ _ us hl => match us, hl with | [_], _ => rfl
  have oF_InvalidNet := fun_mk (st := st_xInvalidNet) xl_InvalidNet xc_InvalidNet xk_InvalidNet
  have ob_InvalidNet := oF_InvalidNet.binds (ps := [(PySem.Str.ofString "self"), (PySem.Str.ofString "part"), (PySem.Str.ofString "place")]) fun _ _ _ _ _ _ us hl => match us, hl with | [_, _, _], _ => rfl
  have oF_InvalidNumber := fun_mk (st := st_xInvalidNumber) xl_InvalidNumber xc_InvalidNumber xk_InvalidNumber
  have ob_InvalidNumber := oF_InvalidNumber.binds (ps := [(PySem.Str.ofString "self"), (PySem.Str.ofString "value")]) fun _ _ _ _ _ _ us hl => match us, hl with | [_, _], _ => rfl
  have oF_InvalidWords := fun_mk (st := st_xInvalidWords) xl_InvalidWords xc_InvalidWords xk_InvalidWords
  have ob_InvalidWords := oF_InvalidWords.binds (ps := [(PySem.Str.ofString "self"), (PySem.Str.ofString "value")]) fun _ _ _ _ _ _ us hl => match us, hl with | [_, _], _ => rfl
  have oF_InvalidWord := fun_mk (st := st_xInvalidWord) xl_InvalidWord xc_InvalidWord xk_InvalidWord
  have ob_InvalidWord := oF_InvalidWord.binds (ps := [(PySem.Str.ofString "self"), (PySem.Str.ofString "value")]) fun _ _ _ _ _ _ us hl => match us, hl with | [_, _], _ => rfl
  have cl_Net : Cls K C_Net := ⟨pg_Net, hd_Net, po_Net, sa_Net⟩
  have me_Net : PySem.W.kitOne K (.ref C_Net) (.ref C_Net) = some true := by unfold PySem.W.kitOne; simp
  have ic_Net : C8.InsC K C_Net := ⟨cl_Net, ha_Net, hn_Net, ht_Net, hm_Net, me_Net⟩
  refine ⟨PySem.W.fnOf "law" "law" (defArgs st_law) (defBody st_law) (defScope st_law) .none kV_law dc_law pm_law an_law cd_law ct_law, fun s v => .of_eq rfl, fun base _ _ => ?_⟩
  let S : SE := ⟨l.prog, w, K, mg, base, [], fun c => if c = 0 then C_Net else 0, fldF, fun c => if c = 1 then X_InvalidNet else if c = 0 then X_InvalidNumber else if c = 3 then X_InvalidWords else if c = 2 then X_InvalidWord else 0, fun c => if c = 1 then [(PySem.Str.ofString "part"), (PySem.Str.ofString "place")] else if c = 0 then [(PySem.Str.ofString "value")] else if c = 3 then [(PySem.Str.ofString "value")] else if c = 2 then [(PySem.Str.ofString "value")] else []⟩
  let T : Txt S := {
      f_law_numbers := f_law_numbers, fd_law_numbers := _, F_law_numbers := F_law_numbers, b_law_numbers := b_law_numbers, m_law_numbers := PySem.W.mg_of X G a_law_numbers,
      f_law_letters := f_law_letters, fd_law_letters := _, F_law_letters := F_law_letters, b_law_letters := b_law_letters, m_law_letters := PySem.W.mg_of X G a_law_letters,
      f_law_order := f_law_order, fd_law_order := _, F_law_order := F_law_order, b_law_order := b_law_order, m_law_order := PySem.W.mg_of X G a_law_order,
      f_law_ring_of_five := f_law_ring_of_five, fd_law_ring_of_five := _, F_law_ring_of_five := F_law_ring_of_five, b_law_ring_of_five := b_law_ring_of_five, m_law_ring_of_five := PySem.W.mg_of X G a_law_ring_of_five,
      f_law_net := f_law_net, fd_law_net := _, F_law_net := F_law_net, b_law_net := b_law_net, m_law_net := PySem.W.mg_of X G a_law_net,
      f_law_knows := f_law_knows, fd_law_knows := _, F_law_knows := F_law_knows, b_law_knows := b_law_knows, m_law_knows := PySem.W.mg_of X G a_law_knows,
      f_is_below := f_is_below, fd_is_below := _, F_is_below := F_is_below, b_is_below := b_is_below, m_is_below := PySem.W.mg_of X G a_is_below,
      f_first_wrong_arc := f_first_wrong_arc, fd_first_wrong_arc := _, F_first_wrong_arc := F_first_wrong_arc, b_first_wrong_arc := b_first_wrong_arc, m_first_wrong_arc := PySem.W.mg_of X G a_first_wrong_arc,
      f_Net_init := f_Net_init, fd_Net_init := _, F_Net_init := F_Net_init, b_Net_init := b_Net_init,
      f_law_words := f_law_words, fd_law_words := _, F_law_words := F_law_words, b_law_words := b_law_words, m_law_words := PySem.W.mg_of X G a_law_words,
      f_law_excludes := f_law_excludes, fd_law_excludes := _, F_law_excludes := F_law_excludes, b_law_excludes := b_law_excludes, m_law_excludes := PySem.W.mg_of X G a_law_excludes,
      f_law_store := f_law_store, fd_law_store := _, F_law_store := F_law_store, b_law_store := b_law_store, m_law_store := PySem.W.mg_of X G a_law_store,
      f_count_words := f_count_words, fd_count_words := _, F_count_words := F_count_words, b_count_words := b_count_words, m_count_words := PySem.W.mg_of X G a_count_words,
      f_is_word := f_is_word, fd_is_word := _, F_is_word := F_is_word, b_is_word := b_is_word, m_is_word := PySem.W.mg_of X G a_is_word,
      f_check_words := f_check_words, fd_check_words := _, F_check_words := F_check_words, b_check_words := b_check_words, m_check_words := PySem.W.mg_of X G a_check_words,
      f_parting_place := f_parting_place, fd_parting_place := _, F_parting_place := F_parting_place, b_parting_place := b_parting_place, m_parting_place := PySem.W.mg_of X G a_parting_place,
      f_first_clash := f_first_clash, fd_first_clash := _, F_first_clash := F_first_clash, b_first_clash := b_first_clash, m_first_clash := PySem.W.mg_of X G a_first_clash,
      f_moved_words := f_moved_words, fd_moved_words := _, F_moved_words := F_moved_words, b_moved_words := b_moved_words, m_moved_words := PySem.W.mg_of X G a_moved_words,
      f_shifted_words := f_shifted_words, fd_shifted_words := _, F_shifted_words := F_shifted_words, b_shifted_words := b_shifted_words, m_shifted_words := PySem.W.mg_of X G a_shifted_words,
      f_law_pick := f_law_pick, fd_law_pick := _, F_law_pick := F_law_pick, b_law_pick := b_law_pick, m_law_pick := PySem.W.mg_of X G a_law_pick,
      f_law := _, fd_law := _, F_law := F_law, b_law := b_law, m_law := PySem.W.mg_of X G a_law,
      n_abs := PySem.W.mg_none_of X G z_abs,
      n_all := PySem.W.mg_none_of X G z_all,
      n_bool := PySem.W.mg_none_of X G z_bool,
      n_enumerate := PySem.W.mg_none_of X G z_enumerate,
      n_int := PySem.W.mg_none_of X G z_int,
      n_isinstance := PySem.W.mg_none_of X G z_isinstance,
      n_len := PySem.W.mg_none_of X G z_len,
      n_list := PySem.W.mg_none_of X G z_list,
      n_min := PySem.W.mg_none_of X G z_min,
      n_range := PySem.W.mg_none_of X G z_range,
      n_sorted := PySem.W.mg_none_of X G z_sorted,
      n_tuple := PySem.W.mg_none_of X G z_tuple,
      c_MOST_PLACES := ⟨_, PySem.W.mg_of X G g_MOST_PLACES, ⟨_, rfl⟩⟩,
      c_MOST_WORDS := ⟨_, PySem.W.mg_of X G g_MOST_WORDS, ⟨_, rfl⟩⟩,
      m_Net := PySem.W.mg_of X G aC_Net,
      mk_Net := ⟨mk_Net, a_Net_init, i_Net_init, kq_Net⟩,
      kc_Net := fun c b h => (by
        unfold Lk49.kc_Net at h
        split at h
        · next e => cases e; cases h; exact ⟨ic_Net, me_Net⟩
        · cases h),
      fx_size := rfl, inj_size := injF_size,
      fc_size := fun c hc => (by
        rcases List.mem_cons.mp hc with rfl | hc
        · exact ⟨cl_Net, nf_Net_size⟩
        cases hc),
      f1_Net_size := fun c hc => (by
        rcases List.mem_cons.mp hc with rfl | hc
        · exact ⟨cl_Net, nf_Net_size⟩
        cases hc),
      fx_arcs := rfl, inj_arcs := injF_arcs,
      fc_arcs := fun c hc => (by
        rcases List.mem_cons.mp hc with rfl | hc
        · exact ⟨cl_Net, nf_Net_arcs⟩
        cases hc),
      f1_Net_arcs := fun c hc => (by
        rcases List.mem_cons.mp hc with rfl | hc
        · exact ⟨cl_Net, nf_Net_arcs⟩
        cases hc),
      fx_knows := rfl, inj_knows := injF_knows,
      fc_knows := fun c hc => (by
        rcases List.mem_cons.mp hc with rfl | hc
        · exact ⟨cl_Net, nf_Net_knows⟩
        cases hc),
      f1_Net_knows := fun c hc => (by
        rcases List.mem_cons.mp hc with rfl | hc
        · exact ⟨cl_Net, nf_Net_knows⟩
        cases hc),
      of_InvalidNet := of_InvalidNet, od_InvalidNet := _, ox_InvalidNet := ⟨xo_InvalidNet, xs_InvalidNet, xe_InvalidNet, xy_InvalidNet, xp_InvalidNet⟩, oi_InvalidNet := xa_InvalidNet, ot_InvalidNet := xt_InvalidNet, oF_InvalidNet := oF_InvalidNet, ob_InvalidNet := ob_InvalidNet, om_InvalidNet := PySem.W.mg_of X G xC_InvalidNet, oe_InvalidNet := rfl,
      on_InvalidNet := fun n hn => (by
        rcases List.mem_cons.mp hn with rfl | hn
        · exact xf_InvalidNet_part
        rcases List.mem_cons.mp hn with rfl | hn
        · exact xf_InvalidNet_place
        cases hn),
      of_InvalidNumber := of_InvalidNumber, od_InvalidNumber := _, ox_InvalidNumber := ⟨xo_InvalidNumber, xs_InvalidNumber, xe_InvalidNumber, xy_InvalidNumber, xp_InvalidNumber⟩, oi_InvalidNumber := xa_InvalidNumber, ot_InvalidNumber := xt_InvalidNumber, oF_InvalidNumber := oF_InvalidNumber, ob_InvalidNumber := ob_InvalidNumber, om_InvalidNumber := PySem.W.mg_of X G xC_InvalidNumber, oe_InvalidNumber := rfl,
      on_InvalidNumber := fun n hn => (by
        rcases List.mem_cons.mp hn with rfl | hn
        · exact xf_InvalidNumber_value
        cases hn),
      of_InvalidWords := of_InvalidWords, od_InvalidWords := _, ox_InvalidWords := ⟨xo_InvalidWords, xs_InvalidWords, xe_InvalidWords, xy_InvalidWords, xp_InvalidWords⟩, oi_InvalidWords := xa_InvalidWords, ot_InvalidWords := xt_InvalidWords, oF_InvalidWords := oF_InvalidWords, ob_InvalidWords := ob_InvalidWords, om_InvalidWords := PySem.W.mg_of X G xC_InvalidWords, oe_InvalidWords := rfl,
      on_InvalidWords := fun n hn => (by
        rcases List.mem_cons.mp hn with rfl | hn
        · exact xf_InvalidWords_value
        cases hn),
      of_InvalidWord := of_InvalidWord, od_InvalidWord := _, ox_InvalidWord := ⟨xo_InvalidWord, xs_InvalidWord, xe_InvalidWord, xy_InvalidWord, xp_InvalidWord⟩, oi_InvalidWord := xa_InvalidWord, ot_InvalidWord := xt_InvalidWord, oF_InvalidWord := oF_InvalidWord, ob_InvalidWord := ob_InvalidWord, om_InvalidWord := PySem.W.mg_of X G xC_InvalidWord, oe_InvalidWord := rfl,
      on_InvalidWord := fun n hn => (by
        rcases List.mem_cons.mp hn with rfl | hn
        · exact xf_InvalidWord_value
        cases hn) }
  exact (ok_law T).imp (sp_law (G := S) rfl)
theorem walk {l : PySem.W.OpenLaw} {q : Program} {loose : List Str} {XP : (Str → Option Value) → Heap → Prop} {YP : World → Heap → Prop} {d : DefRec} {K : Params → PySem.W.Frag} (hn : l.most = some 63) (hdf : d.params.defaults = [])
    (hY : ∀ (w : World) (h : Heap), YP w h → (K w.params).In h)
    (F : ∀ (w : World) (mg : Str → Option Value) (fa : Addr) (h : Heap), (K w.params).In h → h.Ns mainGlobals mg → mg d.name = some (.ref fa) →
      ∃ fd : FuncData, (∀ (s : Shared) (u : Value), BindsTo s fd ⟨[u], []⟩ [((PySem.Str.ofString "_law_script"), u)]) ∧ ∀ base : Heap, (K w.params).In base → base.Ns mainGlobals mg → FnOk l.prog w (K w.params) mg base (L2.CX l.prog w) 5 fa fd [(PySem.Str.ofString "_law_script")] (spLaw (K w.params))) :
    PySem.W.WalkO q loose XP YP l.row.toRowW d [] (fun f vs => PySem.call f vs) :=
  L2.walk_ofB (n := 63) (k := 5) (x := (PySem.Str.ofString "_law_script")) (CX := fun w => L2.CX l.prog w) (sp := fun w => spLaw (K w.params)) hn (by decide) hdf ⟨rfl, by decide, by decide⟩ hY F (fun _ _ a ns hl hb _ hS => ⟨a, ns, rfl, hS, hl, hb, fun _ => rfl⟩) fun _ _ _ _ _ h => by
    obtain ⟨_, _, _, _, _, _, _, _, _, _, _, _, z⟩ := h
    exact z.elim
end Lk49
open PySem PySem.W PyProof.Rows in
set_option maxRecDepth 100000 in
set_option maxHeartbeats 0 in
theorem PySem.Challenge.cw_keptandsaid_k49_whole_shifts_have_each_w_holds : PySem.Challenge.rw_keptandsaid_k49_whole_shifts_have_each_w.Holds := by
  w_on; o_law; k_head; (case hw => w_witness2)
  k_fill
  refine Lk49.walk (l := PySem.Challenge.rw_keptandsaid_k49_whole_shifts_have_each_w) rfl rfl (fun w h Y => PySem.W.kIn_of Y) ?F
  case F =>
    intro w mg fa h KX G hmg
    refine' Lk49.all_mk KX G hmg ?aC_Net ?xC_InvalidNet ?xC_InvalidNumber ?xC_InvalidWords ?xC_InvalidWord ?a_law_numbers ?l_law_numbers ?c_law_numbers ?k_law_numbers ?a_law_letters ?l_law_letters ?c_law_letters ?k_law_letters ?a_law_order ?l_law_order ?c_law_order ?k_law_order ?a_law_ring_of_five ?l_law_ring_of_five ?c_law_ring_of_five ?k_law_ring_of_five ?a_law_net ?l_law_net ?c_law_net ?k_law_net ?a_law_knows ?l_law_knows ?c_law_knows ?k_law_knows ?a_is_below ?l_is_below ?c_is_below ?k_is_below ?a_first_wrong_arc ?l_first_wrong_arc ?c_first_wrong_arc ?k_first_wrong_arc ?a_Net_init ?i_Net_init ?l_Net_init ?c_Net_init ?k_Net_init ?a_law_words ?l_law_words ?c_law_words ?k_law_words ?a_law_excludes ?l_law_excludes ?c_law_excludes ?k_law_excludes ?a_law_store ?l_law_store ?c_law_store ?k_law_store ?a_count_words ?l_count_words ?c_count_words ?k_count_words ?a_is_word ?l_is_word ?c_is_word ?k_is_word ?a_check_words ?l_check_words ?c_check_words ?k_check_words ?a_parting_place ?l_parting_place ?c_parting_place ?k_parting_place ?a_first_clash ?l_first_clash ?c_first_clash ?k_first_clash ?a_moved_words ?l_moved_words ?c_moved_words ?k_moved_words ?a_shifted_words ?l_shifted_words ?c_shifted_words ?k_shifted_words ?a_law_pick ?l_law_pick ?c_law_pick ?k_law_pick ?a_law ?l_law ?c_law ?k_law ?pg_Net ?hd_Net ?po_Net ?sa_Net ?mk_Net ?kq_Net ?ha_Net ?hn_Net ?ht_Net ?hm_Net ?nf_Net_size ?nf_Net_arcs ?nf_Net_knows ?xa_InvalidNet ?xt_InvalidNet ?xl_InvalidNet ?xc_InvalidNet ?xk_InvalidNet ?xs_InvalidNet ?xe_InvalidNet ?xy_InvalidNet ?xp_InvalidNet ?xo_InvalidNet ?xf_InvalidNet_part ?xf_InvalidNet_place ?xa_InvalidNumber ?xt_InvalidNumber ?xl_InvalidNumber ?xc_InvalidNumber ?xk_InvalidNumber ?xs_InvalidNumber ?xe_InvalidNumber ?xy_InvalidNumber ?xp_InvalidNumber ?xo_InvalidNumber ?xf_InvalidNumber_value ?xa_InvalidWords ?xt_InvalidWords ?xl_InvalidWords ?xc_InvalidWords ?xk_InvalidWords ?xs_InvalidWords ?xe_InvalidWords ?xy_InvalidWords ?xp_InvalidWords ?xo_InvalidWords ?xf_InvalidWords_value ?xa_InvalidWord ?xt_InvalidWord ?xl_InvalidWord ?xc_InvalidWord ?xk_InvalidWord ?xs_InvalidWord ?xe_InvalidWord ?xy_InvalidWord ?xp_InvalidWord ?xo_InvalidWord ?xf_InvalidWord_value ?z_abs ?z_all ?z_bool ?z_enumerate ?z_int ?z_isinstance ?z_len ?z_list ?z_min ?z_range ?z_sorted ?z_tuple ?g_MOST_PLACES ?g_MOST_WORDS
    (case aC_Net => k_is)
    (case xC_InvalidNet => k_is)
    (case xC_InvalidNumber => k_is)
    (case xC_InvalidWords => k_is)
    (case xC_InvalidWord => k_is)
    (case a_law_numbers => k_is)
    (case l_law_numbers => k_is)
    (case c_law_numbers => k_is)
    (case k_law_numbers => k_is)
    (case a_law_letters => k_is)
    (case l_law_letters => k_is)
    (case c_law_letters => k_is)
    (case k_law_letters => k_is)
    (case a_law_order => k_is)
    (case l_law_order => k_is)
    (case c_law_order => k_is)
    (case k_law_order => k_is)
    (case a_law_ring_of_five => k_is)
    (case l_law_ring_of_five => k_is)
    (case c_law_ring_of_five => k_is)
    (case k_law_ring_of_five => k_is)
    (case a_law_net => k_is)
    (case l_law_net => k_is)
    (case c_law_net => k_is)
    (case k_law_net => k_is)
    (case a_law_knows => k_is)
    (case l_law_knows => k_is)
    (case c_law_knows => k_is)
    (case k_law_knows => k_is)
    (case a_is_below => k_is)
    (case l_is_below => k_is)
    (case c_is_below => k_is)
    (case k_is_below => k_is)
    (case a_first_wrong_arc => k_is)
    (case l_first_wrong_arc => k_is)
    (case c_first_wrong_arc => k_is)
    (case k_first_wrong_arc => k_is)
    (case a_Net_init => k_is)
    (case i_Net_init => k_is)
    (case l_Net_init => k_is)
    (case c_Net_init => k_is)
    (case k_Net_init => k_is)
    (case a_law_words => k_is)
    (case l_law_words => k_is)
    (case c_law_words => k_is)
    (case k_law_words => k_is)
    (case a_law_excludes => k_is)
    (case l_law_excludes => k_is)
    (case c_law_excludes => k_is)
    (case k_law_excludes => k_is)
    (case a_law_store => k_is)
    (case l_law_store => k_is)
    (case c_law_store => k_is)
    (case k_law_store => k_is)
    (case a_count_words => k_is)
    (case l_count_words => k_is)
    (case c_count_words => k_is)
    (case k_count_words => k_is)
    (case a_is_word => k_is)
    (case l_is_word => k_is)
    (case c_is_word => k_is)
    (case k_is_word => k_is)
    (case a_check_words => k_is)
    (case l_check_words => k_is)
    (case c_check_words => k_is)
    (case k_check_words => k_is)
    (case a_parting_place => k_is)
    (case l_parting_place => k_is)
    (case c_parting_place => k_is)
    (case k_parting_place => k_is)
    (case a_first_clash => k_is)
    (case l_first_clash => k_is)
    (case c_first_clash => k_is)
    (case k_first_clash => k_is)
    (case a_moved_words => k_is)
    (case l_moved_words => k_is)
    (case c_moved_words => k_is)
    (case k_moved_words => k_is)
    (case a_shifted_words => k_is)
    (case l_shifted_words => k_is)
    (case c_shifted_words => k_is)
    (case k_shifted_words => k_is)
    (case a_law_pick => k_is)
    (case l_law_pick => k_is)
    (case c_law_pick => k_is)
    (case k_law_pick => k_is)
    (case a_law => k_is)
    (case l_law => k_is)
    (case c_law => k_is)
    (case k_law => k_is)
    (case pg_Net => k_is)
    (case hd_Net => k_is)
    (case po_Net => k_is)
    (case sa_Net => k_is)
    (case mk_Net => k_is)
    (case kq_Net => k_is)
    (case ha_Net => k_is)
    (case hn_Net => k_is)
    (case ht_Net => k_is)
    (case hm_Net => k_is)
    (case nf_Net_size => k_is)
    (case nf_Net_arcs => k_is)
    (case nf_Net_knows => k_is)
    (case xa_InvalidNet => k_is)
    (case xt_InvalidNet => k_is)
    (case xl_InvalidNet => k_is)
    (case xc_InvalidNet => k_is)
    (case xk_InvalidNet => k_is)
    (case xs_InvalidNet => k_is)
    (case xe_InvalidNet => k_is)
    (case xy_InvalidNet => k_is)
    (case xp_InvalidNet => k_is)
    (case xo_InvalidNet => exact ⟨_, _, _, _, [.ref _, .type "ValueError", .type "Exception", .type "BaseException", .type "object"], _, _, _, _, _, _, _, _, _, _, (by k_is), (by decide +kernel)⟩)
    (case xf_InvalidNet_part => k_is)
    (case xf_InvalidNet_place => k_is)
    (case xa_InvalidNumber => k_is)
    (case xt_InvalidNumber => k_is)
    (case xl_InvalidNumber => k_is)
    (case xc_InvalidNumber => k_is)
    (case xk_InvalidNumber => k_is)
    (case xs_InvalidNumber => k_is)
    (case xe_InvalidNumber => k_is)
    (case xy_InvalidNumber => k_is)
    (case xp_InvalidNumber => k_is)
    (case xo_InvalidNumber => exact ⟨_, _, _, _, [.ref _, .type "ValueError", .type "Exception", .type "BaseException", .type "object"], _, _, _, _, _, _, _, _, _, _, (by k_is), (by decide +kernel)⟩)
    (case xf_InvalidNumber_value => k_is)
    (case xa_InvalidWords => k_is)
    (case xt_InvalidWords => k_is)
    (case xl_InvalidWords => k_is)
    (case xc_InvalidWords => k_is)
    (case xk_InvalidWords => k_is)
    (case xs_InvalidWords => k_is)
    (case xe_InvalidWords => k_is)
    (case xy_InvalidWords => k_is)
    (case xp_InvalidWords => k_is)
    (case xo_InvalidWords => exact ⟨_, _, _, _, [.ref _, .type "ValueError", .type "Exception", .type "BaseException", .type "object"], _, _, _, _, _, _, _, _, _, _, (by k_is), (by decide +kernel)⟩)
    (case xf_InvalidWords_value => k_is)
    (case xa_InvalidWord => k_is)
    (case xt_InvalidWord => k_is)
    (case xl_InvalidWord => k_is)
    (case xc_InvalidWord => k_is)
    (case xk_InvalidWord => k_is)
    (case xs_InvalidWord => k_is)
    (case xe_InvalidWord => k_is)
    (case xy_InvalidWord => k_is)
    (case xp_InvalidWord => k_is)
    (case xo_InvalidWord => exact ⟨_, _, _, _, [.ref _, .type "ValueError", .type "Exception", .type "BaseException", .type "object"], _, _, _, _, _, _, _, _, _, _, (by k_is), (by decide +kernel)⟩)
    (case xf_InvalidWord_value => k_is)
    (case z_abs => k_is)
    (case z_all => k_is)
    (case z_bool => k_is)
    (case z_enumerate => k_is)
    (case z_int => k_is)
    (case z_isinstance => k_is)
    (case z_len => k_is)
    (case z_list => k_is)
    (case z_min => k_is)
    (case z_range => k_is)
    (case z_sorted => k_is)
    (case z_tuple => k_is)
    (case g_MOST_PLACES => k_is)
    (case g_MOST_WORDS => k_is)
