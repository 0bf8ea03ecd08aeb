import PyProof.Rows.All
import Wide.All
import OpenK.AllK
import Wide.FinOn
import HandS.ForMost
import HandS.Exc
import HandS.ExcInit
import HandS.ExcOwn
import HandS.CallSlots
import HandS.Walk
import HandS.EndTab
import HandS.EndBits
import HandS.WordsExc
import HandS.AnyAll
import HandS.TupAny
import HandS.TupMul
import HandS.TupLe
import HandS.Codes
import HandS.Deep
import HandS.IsInst
import HandS.Conv
import HandS.Zip
import KE.GoesMore
import PyProof.EnumMake
import HandS.More
import HandS.FStr
import HandS.Text
import KE.SortData
import HandS.DictTup
import PyProof.DictMoreH
import HandS.OwnEq
import HandS.Words
import PySem.Challenge.RW_keptandsaid_k11_texts_of_nets
import PyProof.EqAt
import PyProof.EqKinds
import PyProof.TupleCall
import Open.SpecLaws
import KE.OsGo
set_option Elab.async false
set_option linter.all false
set_option maxRecDepth 100000
set_option maxHeartbeats 4000000
/-! KS: values by content, frames, denotations, the relation between a frame and the abstract heap. -/
namespace KS
open PySem PySem.Spec L2
/-- a value by its content; var i: the list (dict, object) that slot i owns -/
inductive D where
  | non | bl (b : Bool) | int (i : Int) | str (x : Str)
  | tup (ds : List D) | lst (ds : List D) | scr (ns : List Int)
  | obj (c : Nat) (ns : List Nat) (fs : List D)
  | dct (ks vs : List D)
  | var (i : Nat)
abbrev Fr := List (Option D)
/-- an end: a value, an exception (its class's number, its fields), or what is not told -/
inductive Res (σ α : Type) where
  | ok (a : α) (s : σ) | exc (c : Nat) (fs : List D) (s : σ) | bad
inductive Fl where
  | nx | brk | cnt | ret (d : D)
abbrev Ev := Fr → Res Fr D
abbrev Av := Fr → Res Fr (List D)
abbrev Bv := Fr → Res Fr Bool
abbrev Sv := Fr → Res Fr Fl
abbrev Fn := List D → Res (List D) D
def Res.bind {σ α β : Type} (r : Res σ α) (k : α → σ → Res σ β) : Res σ β :=
  match r with
  | .ok a s => k a s
  | .exc c fs s => .exc c fs s
  | .bad => .bad
/-- what is known of the text as it stands: classes by number, fields by number, tables of code objects -/
structure SE where
  P : Program
  w : World
  K : PySem.W.Frag
  mg : Str → Option Value
  base : Heap
  tabs : List Addr
  cls : Nat → Addr
  fld : Nat → Str
  ecls : Nat → Addr
  efld : Nat → List Str
def kD : Key → D
  | .inl i => .int i
  | .inr x => .str x
/-- a dict at a: its keys by content, its values -/
def DctAt (H : Hp) (a : Addr) (ks : List D) (us : List V) : Prop :=
  (∃ kvs : List (List Key × V), H a = some (.dT kvs) ∧ ks = D.bl true :: kvs.map (fun p => D.tup (p.1.map kD)) ∧ us = kvs.map (·.2)) ∨
  (∃ kvs : List (Key × V), H a = some (.dK kvs) ∧ ks = D.bl false :: kvs.map (fun p => kD p.1) ∧ us = kvs.map (·.2))
theorem DctAt.at {H H' : Hp} {a : Addr} {ks : List D} {us : List V} (h : DctAt H a ks us) (k : ∀ o, H a = some o → H' a = some o) : DctAt H' a ks us := by
  rcases h with ⟨kvs, e, r⟩ | ⟨kvs, e, r⟩
  · exact .inl ⟨kvs, k _ e, r⟩
  · exact .inr ⟨kvs, k _ e, r⟩
mutual
/-- the value v bears the content d in the heap Hv (that nothing changes) -/
def Rep (G : SE) (Hv : Hp) : D → V → Prop
  | .non, v => v = .non
  | .bl b, v => v = .bl b
  | .int i, v => v = .int i
  | .str x, v => v = .str x
  | .tup ds, v => ∃ a vs, v = .ref a ∧ SqT G.K Hv a vs ∧ RepL G Hv ds vs
  | .lst ds, v => ∃ a vs, v = .ref a ∧ Hv a = some (.lst vs) ∧ RepL G Hv ds vs
  | .scr ns, v => ∃ a, v = .ref a ∧ SqL G.K Hv a (ns.map V.int)
  | .obj c ns fs, v => ∃ a dx vs, v = .ref a ∧ Hv a = some (.ins (G.cls c) dx ((ns.map G.fld).zip vs)) ∧ ns.length = vs.length ∧ RepL G Hv fs vs
  | .dct ks ds, v => ∃ a us, v = .ref a ∧ DctAt Hv a ks us ∧ RepL G Hv ds us
  | .var _, _ => False
def RepL (G : SE) (Hv : Hp) : List D → List V → Prop
  | [], vs => vs = []
  | d :: ds, vs => ∃ v r, vs = v :: r ∧ Rep G Hv d v ∧ RepL G Hv ds r
end
def Sub (H H' : Hp) : Prop := ∀ b o, H b = some o → H' b = some o
theorem Sub.refl (H : Hp) : Sub H H := fun _ _ h => h
theorem Sub.trans {H H1 H2 : Hp} (a : Sub H H1) (b : Sub H1 H2) : Sub H H2 := fun c o h => b c o (a c o h)
theorem Sub.sqt {K : PySem.W.Frag} {H H' : Hp} (s : Sub H H') {a : Addr} {xs : List V} (h : SqT K H a xs) : SqT K H' a xs := by
  rcases h with (h | ⟨o, h⟩) | h
  · exact .inl (.inl (s _ _ h))
  · exact .inl (.inr ⟨o, s _ _ h⟩)
  · exact .inr h
theorem Sub.sql {K : PySem.W.Frag} {H H' : Hp} (s : Sub H H') {a : Addr} {xs : List V} (h : SqL K H a xs) : SqL K H' a xs := by
  rcases h with (h | ⟨o, h⟩) | h
  · exact .inl (.inl (s _ _ h))
  · exact .inl (.inr ⟨o, s _ _ h⟩)
  · exact .inr h
theorem Sub.put {H H' : Hp} (s : Sub H H') {a : Addr} {o : HO} (hn : H a = none) : Sub H (upd H' a o) := fun b u h => by
  rw [upd_ne (ne_of_none h hn)]
  exact s b u h
theorem Sub.put2 {H H' : Hp} (s : Sub H H') {a : Addr} {o : HO} : Sub (upd H a o) (upd H' a o) := fun b u h => by
  by_cases e : b = a
  · subst e
    rw [upd_same] at h ⊢
    exact h
  · rw [upd_ne e] at h ⊢
    exact s b u h
mutual
theorem Rep.mono {G : SE} {H H' : Hp} (s : Sub H H') : ∀ (d : D) (v : V), Rep G H d v → Rep G H' d v
  | .non, _, h => h
  | .bl _, _, h => h
  | .int _, _, h => h
  | .str _, _, h => h
  | .tup ds, v, h => by
    simp only [Rep] at h ⊢
    obtain ⟨a, vs, e, q, r⟩ := h
    exact ⟨a, vs, e, s.sqt q, RepL.mono s ds vs r⟩
  | .lst ds, v, h => by
    simp only [Rep] at h ⊢
    obtain ⟨a, vs, e, q, r⟩ := h
    exact ⟨a, vs, e, s _ _ q, RepL.mono s ds vs r⟩
  | .scr ns, v, h => by
    simp only [Rep] at h ⊢
    obtain ⟨a, e, q⟩ := h
    exact ⟨a, e, s.sql q⟩
  | .obj c ns fs, v, h => by
    simp only [Rep] at h ⊢
    obtain ⟨a, dx, vs, e, q, l, r⟩ := h
    exact ⟨a, dx, vs, e, s _ _ q, l, RepL.mono s fs vs r⟩
  | .dct ks ds, v, h => by
    simp only [Rep] at h ⊢
    obtain ⟨a, us, e, q, r⟩ := h
    exact ⟨a, us, e, q.at fun o => s a o, RepL.mono s ds us r⟩
  | .var _, _, h => by simp only [Rep] at h
theorem RepL.mono {G : SE} {H H' : Hp} (s : Sub H H') : ∀ (ds : List D) (vs : List V), RepL G H ds vs → RepL G H' ds vs
  | [], _, h => by simp only [RepL] at h ⊢; exact h
  | d :: ds, vs, h => by
    simp only [RepL] at h ⊢
    obtain ⟨v, r, e, h1, h2⟩ := h
    exact ⟨v, r, e, Rep.mono s d v h1, RepL.mono s ds r h2⟩
end
section
variable {G : SE} {H : Hp}
theorem RepL.nil : RepL G H [] [] := by simp only [RepL]
theorem RepL.cons {d : D} {v : V} {ds : List D} {vs : List V} (h : Rep G H d v) (t : RepL G H ds vs) : RepL G H (d :: ds) (v :: vs) := by
  simp only [RepL]
  exact ⟨v, vs, rfl, h, t⟩
theorem RepL.nil_inv {vs : List V} (h : RepL G H [] vs) : vs = [] := by simpa only [RepL] using h
theorem RepL.cons_inv {d : D} {ds : List D} {vs : List V} (h : RepL G H (d :: ds) vs) : ∃ v r, vs = v :: r ∧ Rep G H d v ∧ RepL G H ds r := by simpa only [RepL] using h
theorem RepL.length : ∀ {ds : List D} {vs : List V}, RepL G H ds vs → vs.length = ds.length
  | [], vs, h => by rw [h.nil_inv]; rfl
  | d :: ds, vs, h => by
    obtain ⟨v, r, e, _, t⟩ := h.cons_inv
    rw [e, List.length_cons, List.length_cons, RepL.length t]
theorem RepL.get : ∀ {ds : List D} {vs : List V}, RepL G H ds vs → ∀ {i : Nat} {d : D}, ds[i]? = some d → ∃ v, vs[i]? = some v ∧ Rep G H d v
  | [], _, _, i, d, e => by simp at e
  | d :: ds, vs, h, 0, d', e => by
    obtain ⟨v, r, ev, h1, t⟩ := h.cons_inv
    have e' : d = d' := by simpa using e
    subst e'
    exact ⟨v, by rw [ev]; rfl, h1⟩
  | d :: ds, vs, h, i + 1, d', e => by
    obtain ⟨v, r, ev, h1, t⟩ := h.cons_inv
    obtain ⟨u, e1, e2⟩ := RepL.get t (i := i) (d := d') (by simpa using e)
    exact ⟨u, by rw [ev]; simpa using e1, e2⟩
theorem RepL.getV : ∀ {ds : List D} {vs : List V}, RepL G H ds vs → ∀ {i : Nat} {v : V}, vs[i]? = some v → ∃ d, ds[i]? = some d ∧ Rep G H d v
  | [], vs, h, i, v, e => by rw [h.nil_inv] at e; simp at e
  | d :: ds, vs, h, 0, v', e => by
    obtain ⟨v, r, ev, h1, t⟩ := h.cons_inv
    rw [ev] at e
    have e' : v = v' := by simpa using e
    subst e'
    exact ⟨d, rfl, h1⟩
  | d :: ds, vs, h, i + 1, v', e => by
    obtain ⟨v, r, ev, h1, t⟩ := h.cons_inv
    rw [ev] at e
    obtain ⟨u, e1, e2⟩ := RepL.getV t (i := i) (v := v') (by simpa using e)
    exact ⟨u, by simpa using e1, e2⟩
theorem RepL.append : ∀ {ds : List D} {vs : List V} {es : List D} {us : List V}, RepL G H ds vs → RepL G H es us → RepL G H (ds ++ es) (vs ++ us)
  | [], vs, es, us, h, q => by rw [h.nil_inv]; exact q
  | d :: ds, vs, es, us, h, q => by
    obtain ⟨v, r, e, h1, t⟩ := h.cons_inv
    subst e
    exact .cons h1 (RepL.append t q)
theorem RepL.take : ∀ {ds : List D} {vs : List V} (n : Nat), RepL G H ds vs → RepL G H (ds.take n) (vs.take n)
  | [], vs, n, h => by rw [h.nil_inv]; simp only [List.take_nil]; exact .nil
  | d :: ds, vs, 0, h => by simp only [List.take_zero]; exact .nil
  | d :: ds, vs, n + 1, h => by
    obtain ⟨v, r, e, h1, t⟩ := h.cons_inv
    subst e
    exact .cons h1 (RepL.take n t)
theorem RepL.drop : ∀ {ds : List D} {vs : List V} (n : Nat), RepL G H ds vs → RepL G H (ds.drop n) (vs.drop n)
  | [], vs, n, h => by rw [h.nil_inv]; simp only [List.drop_nil]; exact .nil
  | d :: ds, vs, 0, h => h
  | d :: ds, vs, n + 1, h => by
    obtain ⟨v, r, e, h1, t⟩ := h.cons_inv
    subst e
    exact RepL.drop n t
theorem RepL.set : ∀ {ds : List D} {vs : List V} {d : D} {v : V} (n : Nat), RepL G H ds vs → Rep G H d v → RepL G H (ds.set n d) (vs.set n v)
  | [], vs, d, v, n, h, _ => by rw [h.nil_inv]; exact .nil
  | d :: ds, vs, d', v', 0, h, q => by
    obtain ⟨v, r, e, h1, t⟩ := h.cons_inv
    subst e
    exact .cons q t
  | d :: ds, vs, d', v', n + 1, h, q => by
    obtain ⟨v, r, e, h1, t⟩ := h.cons_inv
    subst e
    exact .cons h1 (RepL.set n t q)
theorem RepL.reverse {ds : List D} {vs : List V} (h : RepL G H ds vs) : RepL G H ds.reverse vs.reverse := by
  induction ds generalizing vs with
  | nil => rw [h.nil_inv]; exact .nil
  | cons d ds ih =>
    obtain ⟨v, r, e, h1, t⟩ := h.cons_inv
    subst e
    rw [List.reverse_cons, List.reverse_cons]
    exact (ih t).append (.cons h1 .nil)
theorem RepL.eraseIdx : ∀ {ds : List D} {vs : List V} (n : Nat), RepL G H ds vs → RepL G H (ds.eraseIdx n) (vs.eraseIdx n)
  | [], vs, n, h => by rw [h.nil_inv]; exact .nil
  | d :: ds, vs, 0, h => by
    obtain ⟨v, r, e, h1, t⟩ := h.cons_inv
    subst e
    exact t
  | d :: ds, vs, n + 1, h => by
    obtain ⟨v, r, e, h1, t⟩ := h.cons_inv
    subst e
    exact .cons h1 (RepL.eraseIdx n t)
theorem RepL.dropLast {ds : List D} {vs : List V} (h : RepL G H ds vs) : RepL G H ds.dropLast vs.dropLast := by
  rw [List.dropLast_eq_take, List.dropLast_eq_take, h.length]
  exact h.take _
theorem Rep.tup {ds : List D} {vs : List V} {a : Addr} (q : SqT G.K H a vs) (r : RepL G H ds vs) : Rep G H (.tup ds) (.ref a) := by
  simp only [Rep]
  exact ⟨a, vs, rfl, q, r⟩
theorem Rep.lst {ds : List D} {vs : List V} {a : Addr} (q : H a = some (.lst vs)) (r : RepL G H ds vs) : Rep G H (.lst ds) (.ref a) := by
  simp only [Rep]
  exact ⟨a, vs, rfl, q, r⟩
theorem Rep.obj {c : Nat} {ns : List Nat} {fs : List D} {vs : List V} {a dx : Addr} (q : H a = some (.ins (G.cls c) dx ((ns.map G.fld).zip vs))) (l : ns.length = vs.length) (r : RepL G H fs vs) : Rep G H (.obj c ns fs) (.ref a) := by
  simp only [Rep]
  exact ⟨a, dx, vs, rfl, q, l, r⟩
theorem Rep.non_iff {v : V} : Rep G H .non v ↔ v = .non := by simp only [Rep]
theorem Rep.bl_iff {b : Bool} {v : V} : Rep G H (.bl b) v ↔ v = .bl b := by simp only [Rep]
theorem Rep.int_iff {i : Int} {v : V} : Rep G H (.int i) v ↔ v = .int i := by simp only [Rep]
theorem Rep.str_iff {x : Str} {v : V} : Rep G H (.str x) v ↔ v = .str x := by simp only [Rep]
theorem Rep.tup_inv {ds : List D} {v : V} (h : Rep G H (.tup ds) v) : ∃ a vs, v = .ref a ∧ SqT G.K H a vs ∧ RepL G H ds vs := by simpa only [Rep] using h
theorem Rep.lst_inv {ds : List D} {v : V} (h : Rep G H (.lst ds) v) : ∃ a vs, v = .ref a ∧ H a = some (.lst vs) ∧ RepL G H ds vs := by simpa only [Rep] using h
theorem Rep.scr_inv {ns : List Int} {v : V} (h : Rep G H (.scr ns) v) : ∃ a, v = .ref a ∧ SqL G.K H a (ns.map V.int) := by simpa only [Rep] using h
theorem Rep.obj_inv {c : Nat} {ns : List Nat} {fs : List D} {v : V} (h : Rep G H (.obj c ns fs) v) : ∃ a dx vs, v = .ref a ∧ H a = some (.ins (G.cls c) dx ((ns.map G.fld).zip vs)) ∧ ns.length = vs.length ∧ RepL G H fs vs := by simpa only [Rep] using h
theorem Rep.no_var {i : Nat} {v : V} (h : Rep G H (.var i) v) : False := by simp only [Rep] at h
theorem Rep.dct_inv {ks ds : List D} {v : V} (h : Rep G H (.dct ks ds) v) : ∃ a us, v = .ref a ∧ DctAt H a ks us ∧ RepL G H ds us := by simpa only [Rep] using h
theorem Rep.dct {ks ds : List D} {us : List V} {a : Addr} (q : DctAt H a ks us) (r : RepL G H ds us) : Rep G H (.dct ks ds) (.ref a) := by
  simp only [Rep]
  exact ⟨a, us, rfl, q, r⟩
end
end KS
namespace KS
open PySem PySem.Spec L2
/-- what a def's running body is told by: its owned slots, the slots that were handed in to be changed, the heap at the entry -/
structure Bd where
  G : SE
  M : List Nat
  io : List (Nat × Addr)
  H0 : Hp
  Hv0 : Hp
/-- the object at a, owned, bears d -/
def Cell (G : SE) (H Hv : Hp) (a : Addr) : D → Prop
  | .lst ds => ∃ vs, H a = some (.lst vs) ∧ RepL G Hv ds vs
  | .obj c ns fs => ∃ dx vs, H a = some (.ins (G.cls c) dx ((ns.map G.fld).zip vs)) ∧ ns.length = vs.length ∧ RepL G Hv fs vs
  | .dct ks ds => ∃ us, DctAt H a ks us ∧ RepL G Hv ds us
  | _ => False
def isCell : D → Bool
  | .lst _ => true
  | .obj _ _ _ => true
  | .dct _ _ => true
  | _ => false
theorem Cell.isCell {G : SE} {H Hv : Hp} {a : Addr} {d : D} (h : Cell G H Hv a d) : isCell d = true := by
  cases d <;> first | rfl | exact h.elim
def Own (B : Bd) (fr : Fr) (σ : St) (a : Addr) : Prop := ∃ i d, i ∈ B.M ∧ (fr[i]? = some (some d) ∧ isCell d = true) ∧ σ[i]? = some (some (.ref a))
def Keep (B : Bd) (fr : Fr) (σ : St) (H H' : Hp) : Prop := ∀ b o, H b = some o → ¬ Own B fr σ b → b ∉ B.G.tabs → H' b = some o
/-- a table of a code object -/
def TabH (H : Hp) (P : Addr) : Prop := GxR.TabG H P
/-- new at the entry, or a tuple (that nothing owns) -/
def NewOk (H : Hp) (b : Addr) (o : HO) : Prop := H b = none ∨ ∃ vs, o = .tup vs
structure Rel (B : Bd) (fr : Fr) (σ : St) (H Hv : Hp) : Prop where
  sub : Sub Hv H
  ext0 : Sub B.Hv0 Hv
  new : ∀ b o, Hv b = some o → B.Hv0 b = some o ∨ NewOk B.H0 b o
  keep : ∀ b o, B.H0 b = some o → (∀ p ∈ B.io, p.2 ≠ b) → b ∉ B.G.tabs → H b = some o
  len : fr.length = σ.length
  val : ∀ i d, fr[i]? = some (some d) → i ∉ B.M → ∃ v, σ[i]? = some (some v) ∧ Rep B.G Hv d v
  box : ∀ i d, fr[i]? = some (some d) → isCell d = false → i ∈ B.M → ∃ e v, d = .tup [e] ∧ σ[i]? = some (some v) ∧ Rep B.G Hv e v
  own : ∀ i d, (fr[i]? = some (some d) ∧ isCell d = true) → i ∈ B.M → ∃ a, σ[i]? = some (some (.ref a)) ∧ Hv a = none ∧ ((∃ p ∈ B.io, p.2 = a) ∨ B.H0 a = none) ∧ Cell B.G H Hv a d
  sep : ∀ i j a di dj, i ∈ B.M → j ∈ B.M → i ≠ j → (fr[i]? = some (some di) ∧ isCell di = true) → (fr[j]? = some (some dj) ∧ isCell dj = true) → σ[i]? = some (some (.ref a)) → σ[j]? ≠ some (some (.ref a))
  io : ∀ p ∈ B.io, p.1 ∈ B.M ∧ (∃ d, fr[p.1]? = some (some d) ∧ isCell d = true) ∧ σ[p.1]? = some (some (.ref p.2))
  tab : ∀ P ∈ B.G.tabs, TabH H P ∧ Hv P = none
/-- a value at an expression's end: by content, or the object of an owned slot -/
def RepW (B : Bd) (σ : St) (Hv : Hp) (d : D) (v : V) : Prop :=
  match d with
  | .var i => i ∈ B.M ∧ σ[i]? = some (some v)
  | d => Rep B.G Hv d v
def look (fr : Fr) (d : D) : Option D :=
  match d with
  | .var i => match fr[i]? with
    | some (some d) => if isCell d = true then some d else none
    | _ => none
  | d => some d
def Shr (B : Bd) (fr fr' : Fr) : Prop := ∀ i d, i ∈ B.M → (fr'[i]? = some (some d) ∧ isCell d = true) → ∃ d0, fr[i]? = some (some d0) ∧ isCell d0 = true
structure Nxt (B : Bd) (fr : Fr) (σ : St) (H Hv : Hp) (fr' : Fr) (H' Hv' : Hp) : Prop where
  rel : Rel B fr' σ H' Hv'
  ext : Sub Hv Hv'
  keep : Keep B fr σ H H'
  shp : Shr B fr fr'
  alive : ∀ b o, H b = some o → ∃ o', H' b = some o'
  newv : ∀ b o, Hv' b = some o → Hv b = some o ∨ NewOk H b o ∨ Own B fr σ b
theorem own_shp {B : Bd} {fr fr' : Fr} {σ : St} {a : Addr} (h : Shr B fr fr') (o : Own B fr' σ a) : Own B fr σ a := by
  obtain ⟨i, d, hi, hf, hs⟩ := o
  obtain ⟨d', hd'⟩ := h i d hi hf
  exact ⟨i, d', hi, hd', hs⟩
theorem Shr.refl (B : Bd) (fr : Fr) : Shr B fr fr := fun i d _ h => ⟨d, h⟩
theorem Shr.trans {B : Bd} {fr fr1 fr2 : Fr} (a : Shr B fr fr1) (b : Shr B fr1 fr2) : Shr B fr fr2 := fun i d hi h => by
  obtain ⟨d1, h1⟩ := b i d hi h
  exact a i d1 hi h1
section
variable {B : Bd} {fr fr1 fr2 : Fr} {σ : St} {H H1 H2 Hv Hv1 Hv2 : Hp}
theorem Nxt.refl (R : Rel B fr σ H Hv) : Nxt B fr σ H Hv fr H Hv := ⟨R, .refl _, fun _ _ h _ _ => h, .refl _ _, fun _ o h => ⟨o, h⟩, fun _ _ h => .inl h⟩
theorem Nxt.trans (a : Nxt B fr σ H Hv fr1 H1 Hv1) (b : Nxt B fr1 σ H1 Hv1 fr2 H2 Hv2) : Nxt B fr σ H Hv fr2 H2 Hv2 :=
  ⟨b.rel, a.ext.trans b.ext, fun c o h no nt => b.keep c o (a.keep c o h no nt) (fun q => no (own_shp a.shp q)) nt, a.shp.trans b.shp, fun c o h => (a.alive c o h).elim fun o1 h1 => b.alive c o1 h1, fun c o h => by
    rcases b.newv c o h with z | z | z
    · exact a.newv c o z
    · refine .inr (.inl ?_)
      refine z.imp (fun z => ?_) id
      cases e : H c with
      | none => rfl
      | some u =>
        obtain ⟨u', h'⟩ := a.alive c u e
        rw [z] at h'; cases h'
    · exact .inr (.inr (own_shp a.shp z))⟩
theorem RepW.mono {d : D} {v : V} (s : Sub Hv Hv1) (h : RepW B σ Hv d v) : RepW B σ Hv1 d v := by
  cases d with
  | var i => exact h
  | _ => exact Rep.mono s _ _ h
theorem RepW.of {d : D} {v : V} (h : Rep B.G Hv d v) : RepW B σ Hv d v := by
  cases d with
  | var i => exact h.no_var.elim
  | _ => exact h
theorem RepW.rep {d : D} {v : V} (h : RepW B σ Hv d v) (hd : ∀ i, d ≠ .var i) : Rep B.G Hv d v := by
  cases d with
  | var i => exact absurd rfl (hd i)
  | _ => exact h
/-- the sizes of the tracked address: what stands at a tracked address stands in the heap -/
theorem Rel.own_some (R : Rel B fr σ H Hv) {a : Addr} (o : Own B fr σ a) : (∃ u, H a = some u) ∧ Hv a = none ∧ a ∉ B.G.tabs := by
  obtain ⟨i, d, hi, hf, hs⟩ := o
  obtain ⟨a', hs', hv, _, hc⟩ := R.own i d hf hi
  rw [hs] at hs'
  cases hs'
  have e : ∃ u, H a = some u ∧ ∀ ps, u ≠ .tbl ps := by
    cases d with
    | lst ds => obtain ⟨vs, e, _⟩ := hc; exact ⟨_, e, fun ps z => by cases z⟩
    | obj c ns fs => obtain ⟨dx, vs, e, _⟩ := hc; exact ⟨_, e, fun ps z => by cases z⟩
    | dct ks vs =>
      obtain ⟨us, ⟨kvs, e, _⟩ | ⟨kvs, e, _⟩, _⟩ := hc
      · exact ⟨_, e, fun ps z => by cases z⟩
      · exact ⟨_, e, fun ps z => by cases z⟩
    | _ => exact hc.elim
  obtain ⟨u, e, ne⟩ := e
  refine ⟨⟨u, e⟩, hv, fun ht => ?_⟩
  obtain ⟨⟨ps, et, _⟩, _⟩ := R.tab a ht
  rw [e] at et
  exact ne ps (Option.some.inj et)
/-- the value heap's contents stay -/
theorem Rel.hv_not_own (R : Rel B fr σ H Hv) {a : Addr} {o : HO} (h : Hv a = some o) : ¬ Own B fr σ a := fun q => by
  have := (R.own_some q).2.1
  rw [h] at this
  cases this
theorem Rel.hv_not_tab (R : Rel B fr σ H Hv) {a : Addr} {o : HO} (h : Hv a = some o) : a ∉ B.G.tabs := fun q => by
  have := (R.tab a q).2
  rw [h] at this
  cases this
theorem Cell.mono {G : SE} {a : Addr} {d : D} (s : Sub Hv Hv1) (e : H1 a = H a) (h : Cell G H Hv a d) : Cell G H1 Hv1 a d := by
  cases d with
  | lst ds => obtain ⟨vs, q, r⟩ := h; exact ⟨vs, by rw [e]; exact q, RepL.mono s _ _ r⟩
  | obj c ns fs => obtain ⟨dx, vs, q, l, r⟩ := h; exact ⟨dx, vs, by rw [e]; exact q, l, RepL.mono s _ _ r⟩
  | dct ks vs =>
    obtain ⟨us, q, r⟩ := h
    exact ⟨us, q.at fun o z => by rw [e]; exact z, RepL.mono s _ _ r⟩
  | _ => exact h.elim
/-- a new object laid, owned by nothing as yet -/
theorem Rel.lay (R : Rel B fr σ H Hv) {p : Addr} {o : HO} (hp : H p = none) : Rel B fr σ (upd H p o) Hv where
  sub := fun b u h => by
    have := R.sub b u h
    rw [upd_ne (ne_of_none this hp)]
    exact this
  ext0 := R.ext0
  new := R.new
  keep := fun b u h hi ht => by
    have := R.keep b u h hi ht
    rw [upd_ne (ne_of_none this hp)]
    exact this
  len := R.len
  val := R.val
  box := R.box
  own := fun i d hf hm => by
    obtain ⟨a, hs, hv, hn, hc⟩ := R.own i d hf hm
    obtain ⟨⟨u, hu⟩, _⟩ := R.own_some ⟨i, d, hm, hf, hs⟩
    exact ⟨a, hs, hv, hn, hc.mono (.refl _) (upd_ne (ne_of_none hu hp))⟩
  sep := R.sep
  io := R.io
  tab := fun P hP => by
    obtain ⟨⟨ps, e, t⟩, v⟩ := R.tab P hP
    exact ⟨⟨ps, by rw [upd_ne (ne_of_none e hp)]; exact e, t⟩, v⟩
theorem Rel.h0_none (R : Rel B fr σ H Hv) {p : Addr} (hp : H p = none) : B.H0 p = none := by
  cases e : B.H0 p with
  | none => rfl
  | some o =>
    by_cases hi : ∀ q ∈ B.io, q.2 ≠ p
    · by_cases ht : p ∈ B.G.tabs
      · obtain ⟨⟨ps, e', _⟩, _⟩ := R.tab p ht
        rw [hp] at e'
        cases e'
      · have := R.keep p o e hi ht
        rw [hp] at this
        cases this
    · have : ∃ q ∈ B.io, q.2 = p := by
        refine Classical.byContradiction fun n => hi fun q hq z => n ⟨q, hq, z⟩
      obtain ⟨q, hq, rfl⟩ := this
      obtain ⟨hm, ⟨d, hd⟩, hs⟩ := R.io q hq
      obtain ⟨⟨u, hu⟩, _⟩ := R.own_some ⟨q.1, d, hm, hd, hs⟩
      rw [hp] at hu
      cases hu
theorem Rel.hv_none (R : Rel B fr σ H Hv) {p : Addr} (hp : H p = none) : Hv p = none := by
  cases e : Hv p with
  | none => rfl
  | some o =>
    have := R.sub p o e
    rw [hp] at this
    cases this
/-- an object that is owned by nothing becomes a value -/
theorem Rel.freeze (R : Rel B fr σ H Hv) {p : Addr} {o : HO} (hp : H p = some o) (h0 : NewOk B.H0 p o) (ht : ∀ ps, o ≠ .tbl ps) (no : ¬ Own B fr σ p) : Rel B fr σ H (upd Hv p o) where
  sub := fun b u h => by
    by_cases e : b = p
    · subst e
      rw [upd_same] at h
      cases h
      exact hp
    · rw [upd_ne e] at h
      exact R.sub b u h
  ext0 := fun b u h => by
    by_cases e : b = p
    · subst e
      have h1 := R.sub b u (R.ext0 b u h)
      rw [hp] at h1
      cases h1
      exact upd_same
    · rw [upd_ne e]
      exact R.ext0 b u h
  new := fun b u h => by
    by_cases e : b = p
    · subst e
      rw [upd_same] at h
      cases h
      exact .inr h0
    · rw [upd_ne e] at h
      exact R.new b u h
  keep := R.keep
  len := R.len
  val := fun i d hf hm => by
    obtain ⟨v, hs, hr⟩ := R.val i d hf hm
    refine ⟨v, hs, Rep.mono (fun b u h => ?_) _ _ hr⟩
    by_cases e : b = p
    · subst e
      have h1 := R.sub b u h
      rw [hp] at h1
      cases h1
      exact upd_same
    · rw [upd_ne e]
      exact h
  box := fun i d hf hc hm => by
    obtain ⟨e, v, h1, hs, hr⟩ := R.box i d hf hc hm
    refine ⟨e, v, h1, hs, Rep.mono (fun b u h => ?_) _ _ hr⟩
    by_cases e : b = p
    · subst e
      have h1 := R.sub b u h
      rw [hp] at h1
      cases h1
      exact upd_same
    · rw [upd_ne e]
      exact h
  own := fun i d hf hm => by
    obtain ⟨a, hs, hv, hn, hc⟩ := R.own i d hf hm
    have ne : a ≠ p := fun e => no (by rw [← e]; exact ⟨i, d, hm, hf, hs⟩)
    refine ⟨a, hs, by rw [upd_ne ne]; exact hv, hn, hc.mono (fun b u h => ?_) rfl⟩
    by_cases e : b = p
    · subst e
      have h1 := R.sub b u h
      rw [hp] at h1
      cases h1
      exact upd_same
    · rw [upd_ne e]
      exact h
  sep := R.sep
  io := R.io
  tab := fun P hP => by
    obtain ⟨⟨ps, e, t⟩, v⟩ := R.tab P hP
    have ne : P ≠ p := fun q => by
      rw [q, hp] at e
      exact ht ps (Option.some.inj e)
    exact ⟨⟨ps, e, t⟩, by rw [upd_ne ne]; exact v⟩
theorem sub_freeze (R : Rel B fr σ H Hv) {p : Addr} {o : HO} (hp : H p = some o) : Sub Hv (upd Hv p o) := fun b u h => by
  by_cases e : b = p
  · subst e
    have h1 := R.sub b u h
    rw [hp] at h1
    cases h1
    exact upd_same
  · rw [upd_ne e]
    exact h
/-- a new value laid -/
theorem Rel.layV (R : Rel B fr σ H Hv) {p : Addr} {o : HO} (hp : H p = none) (ht : ∀ ps, o ≠ .tbl ps) : Rel B fr σ (upd H p o) (upd Hv p o) := by
  refine (R.lay hp).freeze upd_same (.inl (R.h0_none hp)) ht fun q => ?_
  obtain ⟨⟨u, hu⟩, _⟩ := R.own_some (a := p) (by obtain ⟨i, d, a, b, c⟩ := q; exact ⟨i, d, a, b, c⟩)
  rw [hp] at hu
  cases hu
theorem Nxt.layV (R : Rel B fr σ H Hv) {p : Addr} {o : HO} (hp : H p = none) (ht : ∀ ps, o ≠ .tbl ps) : Nxt B fr σ H Hv fr (upd H p o) (upd Hv p o) :=
  ⟨R.layV hp ht, (Sub.refl Hv).put (R.hv_none hp), fun b u h _ _ => by rw [upd_ne (ne_of_none h hp)]; exact h, .refl _ _, fun b u h => ⟨u, by rw [upd_ne (ne_of_none h hp)]; exact h⟩, fun b u h => by
    by_cases e : b = p
    · exact .inr (.inl (.inl (e ▸ hp)))
    · rw [upd_ne e] at h; exact .inl h⟩
/-- what stands behind an owned slot, or a value -/
theorem look_var {i : Nat} {d : D} (h : look fr (.var i) = some d) : fr[i]? = some (some d) ∧ isCell d = true := by
  unfold look at h
  dsimp only at h
  split at h
  · next d' e =>
    split at h
    · next c => cases h; exact ⟨e, c⟩
    · cases h
  · cases h
/-- a list that may be read now -/
theorem Rel.list_of (R : Rel B fr σ H Hv) {d : D} {v : V} {ds : List D} (h : RepW B σ Hv d v) (hl : look fr d = some (.lst ds)) : ∃ a vs, v = .ref a ∧ H a = some (.lst vs) ∧ RepL B.G Hv ds vs := by
  cases d with
  | var i =>
    obtain ⟨hm, hs⟩ := h
    obtain ⟨a, hs', hv, _, vs, e, r⟩ := R.own i _ (look_var hl) hm
    rw [hs] at hs'
    cases hs'
    exact ⟨a, vs, rfl, e, r⟩
  | lst ds' =>
    have e : D.lst ds' = .lst ds := Option.some.inj hl
    cases e
    obtain ⟨a, vs, e, q, r⟩ := Rep.lst_inv h
    exact ⟨a, vs, e, R.sub _ _ q, r⟩
  | _ => cases hl
theorem Rel.tup_of (R : Rel B fr σ H Hv) {d : D} {v : V} {ds : List D} (h : RepW B σ Hv d v) (hl : look fr d = some (.tup ds)) : ∃ a vs, v = .ref a ∧ SqT B.G.K H a vs ∧ SqT B.G.K Hv a vs ∧ RepL B.G Hv ds vs := by
  cases d with
  | var i =>
    obtain ⟨hm, hs⟩ := h
    obtain ⟨a, hs', hv, _, hc⟩ := R.own i _ (look_var hl) hm
    exact hc.elim
  | tup ds' =>
    have e : D.tup ds' = .tup ds := Option.some.inj hl
    cases e
    obtain ⟨a, vs, e, q, r⟩ := Rep.tup_inv h
    exact ⟨a, vs, e, R.sub.sqt q, q, r⟩
  | _ => cases hl
theorem look_scalar {d e : D} (R : Rel B fr σ H Hv) {v : V} (h : RepW B σ Hv d v) (hl : look fr d = some e) (hs : isCell e = false) : Rep B.G Hv e v := by
  cases d with
  | var i =>
    obtain ⟨hm, _⟩ := h
    obtain ⟨a, _, _, _, hc⟩ := R.own i _ (look_var hl) hm
    cases e <;> first
      | exact hc.elim
      | cases hs
  | _ =>
    cases hl
    exact h
theorem Rel.int_of (R : Rel B fr σ H Hv) {d : D} {v : V} {i : Int} (h : RepW B σ Hv d v) (hl : look fr d = some (.int i)) : v = .int i := Rep.int_iff.mp (look_scalar R h hl rfl)
theorem Rel.bl_of (R : Rel B fr σ H Hv) {d : D} {v : V} {i : Bool} (h : RepW B σ Hv d v) (hl : look fr d = some (.bl i)) : v = .bl i := Rep.bl_iff.mp (look_scalar R h hl rfl)
theorem Rel.str_of (R : Rel B fr σ H Hv) {d : D} {v : V} {i : Str} (h : RepW B σ Hv d v) (hl : look fr d = some (.str i)) : v = .str i := Rep.str_iff.mp (look_scalar R h hl rfl)
theorem Rel.non_of (R : Rel B fr σ H Hv) {d : D} {v : V} (h : RepW B σ Hv d v) (hl : look fr d = some .non) : v = .non := Rep.non_iff.mp (look_scalar R h hl rfl)
end
/-! ### readings -/
/-- an exception's dict at dd bears the fields fs of the class c -/
def ExcAt (G : SE) (H Hv : Hp) (c : Nat) (fs : List D) (dd : Addr) : Prop :=
  ∃ l, H dd = some (.xd l) ∧ fs.length = (G.efld c).length ∧ ∀ (k : Nat) (n : Str) (d : D), (G.efld c)[k]? = some n → fs[k]? = some d → ∃ v, l.lookup n = some v ∧ Rep G Hv d v
def PostE (B : Bd) (W : WX) (fr : Fr) (σ : St) (H Hv : Hp) (r : Res Fr D) (Q : VK) : Prop :=
  match r with
  | .ok d fr' => ∀ v H' Hv', Nxt B fr σ H Hv fr' H' Hv' → RepW B σ Hv' d v → Q v H'
  | .exc c fs fr' => ∀ dd H' Hv', Nxt B fr σ H Hv fr' H' Hv' → ExcAt B.G H' Hv' c fs dd → W (.ref (B.G.ecls c)) (some dd) σ H'
  | .bad => False
def dTE (B : Bd) (W : WX) (f : Ev) : TE := fun σ H Q => ∃ fr Hv, Rel B fr σ H Hv ∧ PostE B W fr σ H Hv (f fr) Q
/-- the end is a new list, owned by nothing as yet -/
def PostF (B : Bd) (W : WX) (fr : Fr) (σ : St) (H Hv : Hp) (r : Res Fr D) (Q : VK) : Prop :=
  match r with
  | .ok d fr' => ∀ p H' Hv', Nxt B fr σ H Hv fr' H' Hv' → H p = none → Hv' p = none → Cell B.G H' Hv' p d → Q (.ref p) H'
  | .exc c fs fr' => ∀ dd H' Hv', Nxt B fr σ H Hv fr' H' Hv' → ExcAt B.G H' Hv' c fs dd → W (.ref (B.G.ecls c)) (some dd) σ H'
  | .bad => False
def dTF (B : Bd) (W : WX) (f : Ev) : TE := fun σ H Q => ∃ fr Hv, Rel B fr σ H Hv ∧ PostF B W fr σ H Hv (f fr) Q
def RepWs (B : Bd) (σ : St) (Hv : Hp) : List D → List V → Prop
  | [], vs => vs = []
  | d :: ds, vs => ∃ v r, vs = v :: r ∧ RepW B σ Hv d v ∧ RepWs B σ Hv ds r
def PostA (B : Bd) (W : WX) (fr : Fr) (σ : St) (H Hv : Hp) (r : Res Fr (List D)) (Q : List V → Hp → Prop) : Prop :=
  match r with
  | .ok ds fr' => ∀ vs H' Hv', Nxt B fr σ H Hv fr' H' Hv' → RepWs B σ Hv' ds vs → Q vs H'
  | .exc c fs fr' => ∀ dd H' Hv', Nxt B fr σ H Hv fr' H' Hv' → ExcAt B.G H' Hv' c fs dd → W (.ref (B.G.ecls c)) (some dd) σ H'
  | .bad => False
def dTA (B : Bd) (W : WX) (f : Av) : TA := fun σ H Q => ∃ fr Hv, Rel B fr σ H Hv ∧ PostA B W fr σ H Hv (f fr) Q
def PostB (B : Bd) (W : WX) (fr : Fr) (σ : St) (H Hv : Hp) (r : Res Fr Bool) (Q : Bool → Hp → Prop) : Prop :=
  match r with
  | .ok b fr' => ∀ H' Hv', Nxt B fr σ H Hv fr' H' Hv' → Q b H'
  | .exc c fs fr' => ∀ dd H' Hv', Nxt B fr σ H Hv fr' H' Hv' → ExcAt B.G H' Hv' c fs dd → W (.ref (B.G.ecls c)) (some dd) σ H'
  | .bad => False
def dTT (B : Bd) (W : WX) (f : Bv) : TT := fun σ H Q => ∃ fr Hv, Rel B fr σ H Hv ∧ PostB B W fr σ H Hv (f fr) Q
/-! ### judgements -/
def DE (X : Cx) (B : Bd) (W : WX) (e : Expr) (f : Ev) : Prop := PE X e (dTE B W f)
def DF (X : Cx) (B : Bd) (W : WX) (e : Expr) (f : Ev) : Prop := PE X e (dTF B W f)
def DA (X : Cx) (B : Bd) (W : WX) (es : List Expr) (f : Av) : Prop := PA X es (dTA B W f)
def DT (X : Cx) (B : Bd) (W : WX) (e : Expr) (f : Bv) : Prop := PT X e (dTT B W f)
def DW (X : Cx) (B : Bd) (W : WX) (e : Expr) (f : Bv) : Prop := PW X e (dTT B W f)
theorem pe_imp {X : Cx} {e : Expr} {t t' : TE} (h : PE X e t) (i : ∀ σ H Q, t' σ H Q → t σ H Q) : PE X e t' := ⟨fun pins s σ H Q I hw => h.run pins s σ H Q I (i σ H Q hw)⟩
theorem pt_imp {X : Cx} {e : Expr} {t t' : TT} (h : PT X e t) (i : ∀ σ H Q, t' σ H Q → t σ H Q) : PT X e t' := ⟨fun pins s σ H Q I hw => h.run pins s σ H Q I (i σ H Q hw)⟩
theorem pw_imp {X : Cx} {e : Expr} {t t' : TT} (h : PW X e t) (i : ∀ σ H Q, t' σ H Q → t σ H Q) : PW X e t' := ⟨fun wh pins s σ H Q I hw => h.run wh pins s σ H Q I (i σ H Q hw)⟩
theorem pa_imp {X : Cx} {es : List Expr} {t t' : TA} (h : PA X es t) (i : ∀ σ H Q, t' σ H Q → t σ H Q) : PA X es t' := ⟨fun pos pins s σ H Q I hw => h.run pos pins s σ H Q I (i σ H Q hw)⟩
theorem ps_imp {X : Cx} {st : Stmt} {t t' : TS} (h : PS X st t) (i : ∀ D σ H, t' D σ H → t D σ H) : PS X st t' := ⟨fun pins s σ H D I hw => h.run pins s σ H D I (i D σ H hw)⟩
theorem pss_imp {X : Cx} {st : List Stmt} {t t' : TS} (h : PSs X st t) (i : ∀ D σ H, t' D σ H → t D σ H) : PSs X st t' := ⟨fun pins s σ H D I hw => h.run pins s σ H D I (i D σ H hw)⟩
section
variable {B : Bd} {W : WX} {fr fr1 : Fr} {σ : St} {H H1 Hv Hv1 : Hp}
/-- a first step, then the rest -/
theorem PostE.step {r : Res Fr D} {Q : VK} (n : Nxt B fr σ H Hv fr1 H1 Hv1) (h : PostE B W fr σ H Hv r Q) : PostE B W fr1 σ H1 Hv1 r Q := by
  cases r with
  | ok d fr' => exact fun v H' Hv' m => h v H' Hv' (n.trans m)
  | exc c fs fr' => exact fun dd H' Hv' m => h dd H' Hv' (n.trans m)
  | bad => exact h
theorem PostB.step {r : Res Fr Bool} {Q : Bool → Hp → Prop} (n : Nxt B fr σ H Hv fr1 H1 Hv1) (h : PostB B W fr σ H Hv r Q) : PostB B W fr1 σ H1 Hv1 r Q := by
  cases r with
  | ok d fr' => exact fun H' Hv' m => h H' Hv' (n.trans m)
  | exc c fs fr' => exact fun dd H' Hv' m => h dd H' Hv' (n.trans m)
  | bad => exact h
theorem PostA.step {r : Res Fr (List D)} {Q : List V → Hp → Prop} (n : Nxt B fr σ H Hv fr1 H1 Hv1) (h : PostA B W fr σ H Hv r Q) : PostA B W fr1 σ H1 Hv1 r Q := by
  cases r with
  | ok d fr' => exact fun v H' Hv' m => h v H' Hv' (n.trans m)
  | exc c fs fr' => exact fun dd H' Hv' m => h dd H' Hv' (n.trans m)
  | bad => exact h
/-- what is new behind a step was new ahead of it -/
theorem Nxt.none (n : Nxt B fr σ H Hv fr1 H1 Hv1) (R : Rel B fr σ H Hv) {p : Addr} (hp : H1 p = none) : H p = none := by
  cases e : H p with
  | none => rfl
  | some o =>
    obtain ⟨o', h'⟩ := n.alive p o e
    rw [hp] at h'
    cases h'
theorem PostF.step {r : Res Fr D} {Q : VK} (n : Nxt B fr σ H Hv fr1 H1 Hv1) (R : Rel B fr σ H Hv) (h : PostF B W fr σ H Hv r Q) : PostF B W fr1 σ H1 Hv1 r Q := by
  cases r with
  | ok d fr' => exact fun p H' Hv' m hp => h p H' Hv' (n.trans m) (n.none R hp)
  | exc c fs fr' => exact fun dd H' Hv' m => h dd H' Hv' (n.trans m)
  | bad => exact h
end
end KS
namespace KS
open PySem PySem.Spec L2
/-! ### names and constants -/
def eVar (i : Nat) : Ev := fun fr => match fr[i]? with
  | some (some d) => .ok d fr
  | _ => .bad
def ePl (i : Nat) : Ev := fun fr => match fr[i]? with
  | some (some d) => if isCell d = true then .ok (.var i) fr else (match d with
    | .tup [e] => .ok e fr
    | _ => .bad)
  | _ => .bad
/-- the object of the slot is a value from now on -/
def eFz (i : Nat) : Ev := fun fr => match fr[i]? with
  | some (some d) => if isCell d = true then .ok d (fr.set i (some (.tup [d]))) else (match d with
    | .tup [e] => .ok e fr
    | _ => .bad)
  | _ => .bad
section
variable {B : Bd} {fr : Fr} {σ : L2.St} {H Hv : Hp}
theorem get_set {fr : Fr} {i j : Nat} {o : Option D} {x : Option D} (h : (fr.set i o)[j]? = some x) : (j = i ∧ x = o) ∨ (j ≠ i ∧ fr[j]? = some x) := by
  by_cases e : j = i
  · subst e
    rw [List.getElem?_set] at h
    simp only [if_true] at h
    split at h
    · cases h; exact .inl ⟨rfl, rfl⟩
    · cases h
  · rw [List.getElem?_set_ne (Ne.symm e)] at h
    exact .inr ⟨e, h⟩
/-- a slot is let go -/
theorem Rel.drop (R : Rel B fr σ H Hv) {i : Nat} (hio : ∀ p ∈ B.io, p.1 ≠ i) : Rel B (fr.set i none) σ H Hv where
  sub := R.sub
  ext0 := R.ext0
  new := R.new
  keep := R.keep
  len := by rw [List.length_set]; exact R.len
  val := fun j d h hm => by
    rcases get_set h with ⟨_, e⟩ | ⟨_, e⟩
    · cases e
    · exact R.val j d e hm
  box := fun j d h hc hm => by
    rcases get_set h with ⟨_, e⟩ | ⟨_, e⟩
    · cases e
    · exact R.box j d e hc hm
  own := fun j d h hm => by
    rcases get_set h.1 with ⟨_, e⟩ | ⟨_, e⟩
    · cases e
    · exact R.own j d ⟨e, h.2⟩ hm
  sep := fun j k a dj dk hj hk hjk e1 e2 => by
    rcases get_set e1.1 with ⟨_, e⟩ | ⟨_, e⟩
    · cases e
    rcases get_set e2.1 with ⟨_, f⟩ | ⟨_, f⟩
    · cases f
    exact R.sep j k a dj dk hj hk hjk ⟨e, e1.2⟩ ⟨f, e2.2⟩
  io := fun p hp => by
    obtain ⟨h1, ⟨d, h2, h3⟩, h4⟩ := R.io p hp
    exact ⟨h1, ⟨d, by rw [List.getElem?_set_ne (Ne.symm (hio p hp))]; exact h2, h3⟩, h4⟩
  tab := R.tab
theorem Rel.boxed (R : Rel B (fr.set i none) σ H Hv) {d : D} {v : V} (hi : i ∈ B.M) (hs : σ[i]? = some (some v)) (hr : Rep B.G Hv d v) : Rel B (fr.set i (some (.tup [d]))) σ H Hv where
  sub := R.sub
  ext0 := R.ext0
  new := R.new
  keep := R.keep
  len := by rw [List.length_set, ← R.len, List.length_set]
  val := fun j e h hm => by
    rcases get_set h with ⟨z, _⟩ | ⟨n, z⟩
    · subst z; exact absurd hi hm
    · exact R.val j e (by rw [List.getElem?_set_ne (Ne.symm n)]; exact z) hm
  box := fun j e h hc hm => by
    rcases get_set h with ⟨z, q⟩ | ⟨n, z⟩
    · subst z
      cases q
      exact ⟨d, v, rfl, hs, hr⟩
    · exact R.box j e (by rw [List.getElem?_set_ne (Ne.symm n)]; exact z) hc hm
  own := fun j e h hm => by
    rcases get_set h.1 with ⟨z, q⟩ | ⟨n, z⟩
    · cases q; cases h.2
    · exact R.own j e ⟨by rw [List.getElem?_set_ne (Ne.symm n)]; exact z, h.2⟩ hm
  sep := fun j k a dj dk hj hk hjk e1 e2 => by
    rcases get_set e1.1 with ⟨_, e⟩ | ⟨n1, e⟩
    · cases e; cases e1.2
    rcases get_set e2.1 with ⟨_, f⟩ | ⟨n2, f⟩
    · cases f; cases e2.2
    exact R.sep j k a dj dk hj hk hjk ⟨by rw [List.getElem?_set_ne (Ne.symm n1)]; exact e, e1.2⟩ ⟨by rw [List.getElem?_set_ne (Ne.symm n2)]; exact f, e2.2⟩
  io := fun p hp => by
    obtain ⟨h1, ⟨e, h2, h3⟩, h4⟩ := R.io p hp
    have n : p.1 ≠ i := fun z => by
      rcases get_set h2 with ⟨_, e⟩ | ⟨n, _⟩
      · cases e
      · exact n z
    rcases get_set h2 with ⟨_, e⟩ | ⟨_, e⟩
    · cases e
    exact ⟨h1, ⟨_, by rw [List.getElem?_set_ne (Ne.symm n)]; exact e, h3⟩, h4⟩
  tab := R.tab
theorem Cell.ob {G : SE} {a : Addr} {d : D} (h : Cell G H Hv a d) : ∃ o, H a = some o ∧ (∀ ps, o ≠ .tbl ps) ∧ (∀ H2 : Hp, H2 a = some o → Cell G H2 Hv a d) ∧ (∀ Hv2 : Hp, Sub Hv Hv2 → Hv2 a = some o → Rep G Hv2 d (.ref a)) := by
  cases d with
  | lst ds =>
    obtain ⟨vs, e, r⟩ := h
    exact ⟨_, e, (fun ps z => by cases z), fun H2 q => ⟨vs, q, r⟩, fun Hv2 s q => Rep.lst q (RepL.mono s _ _ r)⟩
  | obj c ns fs =>
    obtain ⟨dx, vs, e, l, r⟩ := h
    exact ⟨_, e, (fun ps z => by cases z), fun H2 q => ⟨dx, vs, q, l, r⟩, fun Hv2 s q => Rep.obj q l (RepL.mono s _ _ r)⟩
  | dct ks ds =>
    obtain ⟨us, q, r⟩ := h
    rcases q with ⟨kvs, e, q⟩ | ⟨kvs, e, q⟩
    · exact ⟨_, e, (fun ps z => by cases z), fun H2 z => ⟨us, .inl ⟨kvs, z, q⟩, r⟩, fun Hv2 s z => Rep.dct (.inl ⟨kvs, z, q⟩) (RepL.mono s _ _ r)⟩
    · exact ⟨_, e, (fun ps z => by cases z), fun H2 z => ⟨us, .inr ⟨kvs, z, q⟩, r⟩, fun Hv2 s z => Rep.dct (.inr ⟨kvs, z, q⟩) (RepL.mono s _ _ r)⟩
  | _ => exact h.elim
theorem Cell.not_tup {G : SE} {a : Addr} {d : D} {ws : List V} (h : Cell G H Hv a d) (e : H a = some (.tup ws)) : False := by
  cases d with
  | lst ds => obtain ⟨vs, q, _⟩ := h; rw [e] at q; cases q
  | obj c ns fs => obtain ⟨dx, vs, q, _⟩ := h; rw [e] at q; cases q
  | dct ks ds =>
    obtain ⟨us, ⟨kvs, q, _⟩ | ⟨kvs, q, _⟩, _⟩ := h
    · rw [e] at q; cases q
    · rw [e] at q; cases q
  | _ => exact h.elim
theorem Rel.own_h0 (R : Rel B fr σ H Hv) {i : Nat} {a : Addr} {d : D} (hi : i ∈ B.M) (e : fr[i]? = some (some d) ∧ isCell d = true) (hs : σ[i]? = some (some (.ref a))) (hio : ∀ p ∈ B.io, p.1 ≠ i) : B.H0 a = none := by
  obtain ⟨a', hs', hva, hn, hc⟩ := R.own i d e hi
  rw [hs] at hs'
  cases hs'
  rcases hn with ⟨p, hp, z⟩ | hn
  · obtain ⟨h1, ⟨d', hd'⟩, h3⟩ := R.io p hp
    rw [z] at h3
    exact absurd hs (R.sep p.1 i a d' d h1 hi (hio p hp) hd' e h3)
  · exact hn
theorem Rel.fz (R : Rel B fr σ H Hv) {i : Nat} {d : D} (hi : i ∈ B.M) (e : fr[i]? = some (some d) ∧ isCell d = true) (hio : ∀ p ∈ B.io, p.1 ≠ i) :
    ∃ a Hv', σ[i]? = some (some (.ref a)) ∧ Nxt B fr σ H Hv (fr.set i (some (.tup [d]))) H Hv' ∧ Rep B.G Hv' d (.ref a) := by
  obtain ⟨a, hs, hva, _, hc⟩ := R.own i d e hi
  obtain ⟨o, ho, nt, _, rep⟩ := hc.ob
  have h0 := R.own_h0 hi e hs hio
  have no : ¬ Own B (fr.set i none) σ a := by
    rintro ⟨j, dj, hj, ⟨ej, cj⟩, sj⟩
    rcases get_set ej with ⟨_, z⟩ | ⟨n, z⟩
    · cases z
    · exact R.sep j i a dj d hj hi n ⟨z, cj⟩ e sj hs
  have s := sub_freeze R ho
  have R1 := (R.drop hio).freeze ho (.inl h0) nt no
  have rr := rep (upd Hv a o) s upd_same
  refine ⟨a, upd Hv a o, hs, ⟨R1.boxed hi hs rr, s, fun b u h _ _ => h, fun j dj hj ej => ?_, fun b u h => ⟨u, h⟩, fun b u h => ?_⟩, rr⟩
  · rcases get_set ej.1 with ⟨_, z⟩ | ⟨_, z⟩
    · cases z; cases ej.2
    · exact ⟨dj, z, ej.2⟩
  · by_cases eb : b = a
    · exact .inr (.inr ⟨i, d, hi, e, eb ▸ hs⟩)
    · rw [upd_ne eb] at h; exact .inl h
end
def eC (d : D) : Ev := fun fr => .ok d fr
section
variable {X : Cx} {B : Bd} {W : WX}
theorem d_var {i : Nat} {x : Str} {pos : Pos} (hi : i ∉ B.M) (hN : X.N[i]? = some x := by rfl) (hv : Vis X.env.scope x := by first | exact Or.inl rfl | exact Or.inr (Or.inl rfl) | exact Or.inr (Or.inr rfl)) (hd : (x == ("__debug__" : Str)) = false := by decide)
    (hcd : (x == ("__classdict__" : Str)) = false := by decide) : DE X B W (.Name x pos) (eVar i) := by
  refine pe_imp (pe_var hN hv hd hcd) fun σ H Q h => ?_
  obtain ⟨fr, Hv, R, h⟩ := h
  unfold eVar at h
  split at h
  · next d e =>
    obtain ⟨v, hs, hr⟩ := R.val i d e hi
    exact ⟨v, hs, h v H Hv (.refl R) (.of hr)⟩
  · exact h.elim
theorem d_pl {i : Nat} {x : Str} {pos : Pos} (hi : i ∈ B.M) (hN : X.N[i]? = some x := by rfl) (hv : Vis X.env.scope x := by first | exact Or.inl rfl | exact Or.inr (Or.inl rfl) | exact Or.inr (Or.inr rfl)) (hd : (x == ("__debug__" : Str)) = false := by decide)
    (hcd : (x == ("__classdict__" : Str)) = false := by decide) : DE X B W (.Name x pos) (ePl i) := by
  refine pe_imp (pe_var hN hv hd hcd) fun σ H Q h => ?_
  obtain ⟨fr, Hv, R, h⟩ := h
  unfold ePl at h
  split at h
  · next d e =>
    split at h
    · next c =>
      obtain ⟨a, hs, _⟩ := R.own i d ⟨e, c⟩ hi
      exact ⟨_, hs, h _ H Hv (.refl R) ⟨hi, hs⟩⟩
    · next c =>
      obtain ⟨e', v, rfl, hs, hr⟩ := R.box i d e (by simpa using c) hi
      exact ⟨v, hs, h v H Hv (.refl R) (.of hr)⟩
  · exact h.elim
theorem d_fz {i : Nat} {x : Str} {pos : Pos} (hi : i ∈ B.M) (hio : ∀ p ∈ B.io, p.1 ≠ i) (hN : X.N[i]? = some x := by rfl) (hv : Vis X.env.scope x := by first | exact Or.inl rfl | exact Or.inr (Or.inl rfl) | exact Or.inr (Or.inr rfl)) (hd : (x == ("__debug__" : Str)) = false := by decide)
    (hcd : (x == ("__classdict__" : Str)) = false := by decide) : DE X B W (.Name x pos) (eFz i) := by
  refine pe_imp (pe_var hN hv hd hcd) fun σ H Q h => ?_
  obtain ⟨fr, Hv, R, h⟩ := h
  unfold eFz at h
  split at h
  · next d e =>
    split at h
    · next c =>
      obtain ⟨a, Hv', hs, n, r⟩ := R.fz hi ⟨e, c⟩ hio
      exact ⟨_, hs, h _ H Hv' n (.of r)⟩
    · next c =>
      obtain ⟨e', v, rfl, hs, hr⟩ := R.box i d e (by simpa using c) hi
      exact ⟨v, hs, h v H Hv (.refl R) (.of hr)⟩
  · exact h.elim
theorem de_const {e : Expr} {v : V} {d : D} (hp : PE X e (tC v)) (hr : Rep B.G (fun _ => none) d v) : DE X B W e (eC d) := by
  refine pe_imp hp fun σ H Q h => ?_
  obtain ⟨fr, Hv, R, h⟩ := h
  exact h v H Hv (.refl R) (.of (Rep.mono (fun _ _ z => by cases z) _ _ hr))
theorem d_int {i j pos} : DE X B W (.Constant (.int i) j pos) (eC (.int i)) := de_const pe_int (Rep.int_iff.mpr rfl)
theorem d_bl {b j pos} : DE X B W (.Constant (.bool b) j pos) (eC (.bl b)) := de_const pe_bl (Rep.bl_iff.mpr rfl)
theorem d_non {j pos} : DE X B W (.Constant .none j pos) (eC .non) := de_const pe_non (Rep.non_iff.mpr rfl)
theorem d_str {x j pos} : DE X B W (.Constant (.str x) j pos) (eC (.str x)) := de_const pe_str (Rep.str_iff.mpr rfl)
/-- a module's constant -/
theorem d_glob {x : Str} {v : V} {u : Value} {d : D} {pos : Pos} (hr : Rep B.G (fun _ => none) d v) (hm : X.mg x = some u) (r : RelV v u) (hg : Gl X x := by rfl) (hd : (x == ("__debug__" : Str)) = false := by decide) : DE X B W (.Name x pos) (eC d) :=
  de_const (pe_glob hg hm r hd) hr
end
/-! ### operators -/
def ofO (o : Option D) (fr : Fr) : Res Fr D := match o with
  | some d => .ok d fr
  | none => .bad
def eOp2 (F : D → D → Option D) (f g : Ev) : Ev := fun fr => (f fr).bind fun x fr1 => (g fr1).bind fun y fr2 => match look fr2 x, look fr2 y with
  | some a, some b => ofO (F a b) fr2
  | _, _ => .bad
def eOp1 (F : D → Option D) (f : Ev) : Ev := fun fr => (f fr).bind fun x fr1 => match look fr1 x with
  | some a => ofO (F a) fr1
  | _ => .bad
/-- what an operation on two values gives: a value that stays -/
def OpS (B : Bd) (r : R2) (F : D → D → Option D) : Prop := ∀ fr σ H Hv x y dx dy a b z (Q : VK), Rel B fr σ H Hv → RepW B σ Hv dx x → RepW B σ Hv dy y → look fr dx = some a → look fr dy = some b → F a b = some z →
  (∀ v H' Hv', Nxt B fr σ H Hv fr H' Hv' → Rep B.G Hv' z v → Q v H') → r x y H Q
def OpF (B : Bd) (r : R2) (F : D → D → Option D) : Prop := ∀ fr σ H Hv x y dx dy a b z (Q : VK), Rel B fr σ H Hv → RepW B σ Hv dx x → RepW B σ Hv dy y → look fr dx = some a → look fr dy = some b → F a b = some z →
  (∀ p H' Hv', Nxt B fr σ H Hv fr H' Hv' → H p = none → Hv' p = none → Cell B.G H' Hv' p z → Q (.ref p) H') → r x y H Q
def UnS (B : Bd) (r : V → Hp → VK → Prop) (F : D → Option D) : Prop := ∀ fr σ H Hv x dx a z (Q : VK), Rel B fr σ H Hv → RepW B σ Hv dx x → look fr dx = some a → F a = some z →
  (∀ v H' Hv', Nxt B fr σ H Hv fr H' Hv' → Rep B.G Hv' z v → Q v H') → r x H Q
section
variable {X : Cx} {B : Bd} {W : WX} {f g : Ev} {σ : L2.St} {H : Hp} {Q : VK} {F : D → D → Option D} {r : R2}
theorem ofO_ok {o : Option D} {fr fr' : Fr} {d : D} (h : ofO o fr = .ok d fr') : o = some d ∧ fr' = fr := by
  unfold ofO at h
  split at h
  · cases h; exact ⟨rfl, rfl⟩
  · cases h
theorem ent2 (hr : OpS B r F) (h : dTE B W (eOp2 F f g) σ H Q) : tOp r (dTE B W f) (dTE B W g) σ H Q := by
  obtain ⟨fr, Hv, R, h⟩ := h
  refine ⟨fr, Hv, R, ?_⟩
  unfold eOp2 at h
  cases hf : f fr with
  | bad => rw [hf] at h; exact h.elim
  | exc c fs fr1 => rw [hf] at h; exact h
  | ok x fr1 =>
    rw [hf] at h
    dsimp only [Res.bind] at h
    intro vx H1 Hv1 n1 r1
    refine ⟨fr1, Hv1, n1.rel, ?_⟩
    cases hg : g fr1 with
    | bad => rw [hg] at h; exact h.elim
    | exc c fs fr2 =>
      rw [hg] at h
      exact fun dd H' Hv' n => h dd H' Hv' (n1.trans n)
    | ok y fr2 =>
      rw [hg] at h
      dsimp only at h
      intro vy H2 Hv2 n2 r2
      cases hx : look fr2 x with
      | none => rw [hx] at h; exact h.elim
      | some a =>
        cases hy : look fr2 y with
        | none => rw [hx, hy] at h; exact h.elim
        | some b =>
          rw [hx, hy] at h
          dsimp only at h
          cases hz : F a b with
          | none => rw [hz] at h; exact h.elim
          | some z =>
            rw [hz] at h
            exact hr fr2 σ H2 Hv2 vx vy x y a b z Q n2.rel (r1.mono n2.ext) r2 hx hy hz fun v H' Hv' n q => h v H' Hv' ((n1.trans n2).trans n) (.of q)
theorem ent2F (hr : OpF B r F) (h : dTF B W (eOp2 F f g) σ H Q) : tOp r (dTE B W f) (dTE B W g) σ H Q := by
  obtain ⟨fr, Hv, R, h⟩ := h
  refine ⟨fr, Hv, R, ?_⟩
  unfold eOp2 at h
  cases hf : f fr with
  | bad => rw [hf] at h; exact h.elim
  | exc c fs fr1 => rw [hf] at h; exact h
  | ok x fr1 =>
    rw [hf] at h
    dsimp only [Res.bind] at h
    intro vx H1 Hv1 n1 r1
    refine ⟨fr1, Hv1, n1.rel, ?_⟩
    cases hg : g fr1 with
    | bad => rw [hg] at h; exact h.elim
    | exc c fs fr2 =>
      rw [hg] at h
      exact fun dd H' Hv' n => h dd H' Hv' (n1.trans n)
    | ok y fr2 =>
      rw [hg] at h
      dsimp only at h
      intro vy H2 Hv2 n2 r2
      cases hx : look fr2 x with
      | none => rw [hx] at h; exact h.elim
      | some a =>
        cases hy : look fr2 y with
        | none => rw [hx, hy] at h; exact h.elim
        | some b =>
          rw [hx, hy] at h
          dsimp only at h
          cases hz : F a b with
          | none => rw [hz] at h; exact h.elim
          | some z =>
            rw [hz] at h
            exact hr fr2 σ H2 Hv2 vx vy x y a b z Q n2.rel (r1.mono n2.ext) r2 hx hy hz fun p H' Hv' n hp q => h p H' Hv' ((n1.trans n2).trans n) ((n1.trans n2).none R hp) q
theorem ent1 {r : V → Hp → VK → Prop} {F : D → Option D} (hr : UnS B r F) (h : dTE B W (eOp1 F f) σ H Q) : tUn r (dTE B W f) σ H Q := by
  obtain ⟨fr, Hv, R, h⟩ := h
  refine ⟨fr, Hv, R, ?_⟩
  unfold eOp1 at h
  cases hf : f fr with
  | bad => rw [hf] at h; exact h.elim
  | exc c fs fr1 => rw [hf] at h; exact h
  | ok x fr1 =>
    rw [hf] at h
    dsimp only [Res.bind] at h
    intro vx H1 Hv1 n1 r1
    cases hx : look fr1 x with
    | none => rw [hx] at h; exact h.elim
    | some a =>
      rw [hx] at h
      dsimp only at h
      cases hz : F a with
      | none => rw [hz] at h; exact h.elim
      | some z =>
        rw [hz] at h
        exact hr fr1 σ H1 Hv1 vx x a z Q n1.rel r1 hx hz fun v H' Hv' n q => h v H' Hv' (n1.trans n) (.of q)
/-- a new list as a value -/
theorem df_de {f : Ev} {σ : L2.St} {H : Hp} {Q : VK} (h : dTE B W f σ H Q) : dTF B W f σ H Q := by
  obtain ⟨fr, Hv, R, h⟩ := h
  refine ⟨fr, Hv, R, ?_⟩
  cases hf : f fr with
  | bad => rw [hf] at h; exact h.elim
  | exc c fs fr1 => rw [hf] at h; exact h
  | ok d fr1 =>
    rw [hf] at h
    intro p H' Hv' n hp hvp hc
    have no : ¬ Own B fr1 σ p := fun o => by
      have o' : Own B fr σ p := own_shp n.shp o
      obtain ⟨⟨u, hu⟩, _⟩ := R.own_some o'
      rw [hp] at hu
      cases hu
    have h0 := R.h0_none hp
    have nv : ∀ {o : HO} (b : Addr) (u : HO), upd Hv' p o b = some u → Hv b = some u ∨ NewOk H b u ∨ Own B fr σ b := fun {o} b u h => by
      by_cases e : b = p
      · exact .inr (.inl (.inl (e ▸ hp)))
      · rw [upd_ne e] at h; exact n.newv b u h
    cases d with
    | lst ds =>
      obtain ⟨vs, e1, r⟩ := hc
      have nt : ∀ ps, HO.lst vs ≠ .tbl ps := fun ps z => by cases z
      have s := sub_freeze n.rel e1
      exact h (.ref p) H' (upd Hv' p (.lst vs)) ⟨n.rel.freeze e1 (.inl h0) nt no, n.ext.trans s, n.keep, n.shp, n.alive, nv⟩ (.of (Rep.lst upd_same (RepL.mono s _ _ r)))
    | obj c ns fs =>
      obtain ⟨dx, vs, e1, l, r⟩ := hc
      have nt : ∀ ps, HO.ins (B.G.cls c) dx ((ns.map B.G.fld).zip vs) ≠ .tbl ps := fun ps z => by cases z
      have s := sub_freeze n.rel e1
      exact h (.ref p) H' (upd Hv' p (.ins (B.G.cls c) dx ((ns.map B.G.fld).zip vs))) ⟨n.rel.freeze e1 (.inl h0) nt no, n.ext.trans s, n.keep, n.shp, n.alive, nv⟩ (.of (Rep.obj upd_same l (RepL.mono s _ _ r)))
    | dct ks ds =>
      obtain ⟨us, q, r⟩ := hc
      obtain ⟨o, e1, nt⟩ : ∃ o, H' p = some o ∧ ∀ ps, o ≠ .tbl ps := by
        rcases q with ⟨kvs, e, _⟩ | ⟨kvs, e, _⟩
        · exact ⟨_, e, fun ps z => by cases z⟩
        · exact ⟨_, e, fun ps z => by cases z⟩
      have s := sub_freeze n.rel e1
      exact h (.ref p) H' (upd Hv' p o) ⟨n.rel.freeze e1 (.inl h0) nt no, n.ext.trans s, n.keep, n.shp, n.alive, nv⟩ (.of (Rep.dct (q.at fun u z => by rw [e1] at z; cases z; exact upd_same) (RepL.mono s _ _ r)))
    | _ => exact hc.elim
theorem DF.de {e : Expr} {f : Ev} (h : DF X B W e f) : DE X B W e f := pe_imp h fun _ _ _ h => df_de h
end
end KS
namespace KS
open PySem PySem.Spec L2
/-! ### arithmetic -/
def addF : D → D → Option D
  | .int i, .int j => some (.int (i + j))
  | .str x, .str y => if x.length + y.length ≤ sizeLine then some (.str (x ++ y)) else none
  | .tup a, .tup b => if a.length + b.length ≤ sizeLine then some (.tup (a ++ b)) else none
  | .lst a, .lst b => if a.length + b.length ≤ sizeLine then some (.lst (a ++ b)) else none
  | _, _ => none
def catF : D → D → Option D
  | .lst a, .lst b => if a.length + b.length ≤ sizeLine then some (.lst (a ++ b)) else none
  | _, _ => none
def subF : D → D → Option D
  | .int i, .int j => some (.int (i - j))
  | _, _ => none
def mulF : D → D → Option D
  | .int i, .int j => if (-(2 ^ 64) < i ∧ i < 2 ^ 64) ∨ (-(2 ^ 64) < j ∧ j < 2 ^ 64) then some (.int (i * j)) else none
  | _, _ => none
def fdivF : D → D → Option D
  | .int i, .int j => if 0 < j ∧ j < 1073741824 then some (.int (i / j)) else none
  | _, _ => none
def modF : D → D → Option D
  | .int i, .int j => if 0 < j then some (.int (i % j)) else none
  | _, _ => none
def powF : D → D → Option D
  | .int i, .int j => if 0 ≤ j ∧ j ≤ 1000000 ∧ i.natAbs < 2 ^ 64 then some (.int (i ^ j.toNat)) else none
  | _, _ => none
def negF : D → Option D
  | .int i => some (.int (-i))
  | _ => none
section
variable {B : Bd} {fr : Fr} {σ : L2.St} {H Hv : Hp}
/-- a value laid and at once a value -/
theorem lay_tup (R : Rel B fr σ H Hv) {p : Addr} {xs : List V} {ds : List D} (hp : H p = none) (r : RepL B.G Hv ds xs) {Q : VK}
    (k : ∀ v H' Hv', Nxt B fr σ H Hv fr H' Hv' → Rep B.G Hv' (.tup ds) v → Q v H') : Q (.ref p) (upd H p (.tup xs)) :=
  have nt : ∀ ps, HO.tup xs ≠ .tbl ps := fun ps z => by cases z
  k _ _ _ (Nxt.layV R hp nt) (Rep.tup (SqT.of upd_same) (RepL.mono ((Sub.refl Hv).put (R.hv_none hp)) _ _ r))
theorem lay_lst (R : Rel B fr σ H Hv) {p : Addr} {xs : List V} {ds : List D} (hp : H p = none) (r : RepL B.G Hv ds xs) {Q : VK}
    (k : ∀ v H' Hv', Nxt B fr σ H Hv fr H' Hv' → Rep B.G Hv' (.lst ds) v → Q v H') : Q (.ref p) (upd H p (.lst xs)) :=
  have nt : ∀ ps, HO.lst xs ≠ .tbl ps := fun ps z => by cases z
  k _ _ _ (Nxt.layV R hp nt) (Rep.lst upd_same (RepL.mono ((Sub.refl Hv).put (R.hv_none hp)) _ _ r))
/-- a new list, owned by nothing as yet -/
theorem lay_own (R : Rel B fr σ H Hv) {p : Addr} {xs : List V} {ds : List D} (hp : H p = none) (r : RepL B.G Hv ds xs) {Q : VK}
    (k : ∀ p H' Hv', Nxt B fr σ H Hv fr H' Hv' → H p = none → Hv' p = none → Cell B.G H' Hv' p (.lst ds) → Q (.ref p) H') : Q (.ref p) (upd H p (.lst xs)) :=
  k _ _ Hv ⟨R.lay hp, .refl _, fun b u h _ _ => by rw [upd_ne (ne_of_none h hp)]; exact h, .refl _ _, fun b u h => ⟨u, by rw [upd_ne (ne_of_none h hp)]; exact h⟩, fun b u h => .inl h⟩ hp (R.hv_none hp) ⟨xs, upd_same, r⟩
end
section
variable {X : Cx} {B : Bd} {W : WX} {a b : Expr} {f g : Ev} {pos : Pos}
theorem ops_ints {r : R2} {F : D → D → Option D} (hF : ∀ x y z, F x y = some z → ∃ i j, x = .int i ∧ y = .int j) (hr : ∀ i j z H Q, F (.int i) (.int j) = some z → (∀ v, Rep B.G (fun _ => none) z v → Q v H) → r (.int i) (.int j) H Q) : OpS B r F := by
  intro fr σ H Hv x y dx dy a b z Q R rx ry hx hy hz k
  obtain ⟨i, j, rfl, rfl⟩ := hF _ _ _ hz
  rw [R.int_of rx hx, R.int_of ry hy]
  exact hr i j z H Q hz fun v hv => k v H Hv (.refl R) (Rep.mono (fun _ _ z => by cases z) _ _ hv)
theorem repI {G : SE} {H : Hp} {i : Int} : Rep G H (.int i) (.int i) := Rep.int_iff.mpr rfl
theorem repB {G : SE} {H : Hp} {i : Bool} : Rep G H (.bl i) (.bl i) := Rep.bl_iff.mpr rfl
theorem repS {G : SE} {H : Hp} {i : Str} : Rep G H (.str i) (.str i) := Rep.str_iff.mpr rfl
theorem repN {G : SE} {H : Hp} : Rep G H .non .non := Rep.non_iff.mpr rfl
theorem ints_of {F : D → D → Option D} (h : ∀ x y, (∀ i j, ¬ (x = .int i ∧ y = .int j)) → F x y = none) : ∀ x y z, F x y = some z → ∃ i j, x = .int i ∧ y = .int j := fun x y z e => by
  refine Classical.byContradiction fun n => ?_
  rw [h x y fun i j q => n ⟨i, j, q⟩] at e
  cases e
theorem ops_sub : OpS B (rI0 fun i j => .int (i - j)) subF := ops_ints (ints_of fun x y h => by cases x <;> cases y <;> first | rfl | exact absurd ⟨rfl, rfl⟩ (h _ _)) fun i j z H Q e k => by
  cases e
  exact ⟨i, j, rfl, rfl, k _ repI⟩
theorem ops_mul : OpS B (rI CMul fun i j => .int (i * j)) mulF := ops_ints (ints_of fun x y h => by cases x <;> cases y <;> first | rfl | exact absurd ⟨rfl, rfl⟩ (h _ _)) fun i j z H Q e k => by
  unfold mulF at e
  dsimp only at e
  split at e
  · next c => cases e; exact ⟨i, j, rfl, rfl, c, k _ repI⟩
  · cases e
theorem ops_fdiv : OpS B (rI CDiv fun i j => .int (i / j)) fdivF := ops_ints (ints_of fun x y h => by cases x <;> cases y <;> first | rfl | exact absurd ⟨rfl, rfl⟩ (h _ _)) fun i j z H Q e k => by
  unfold fdivF at e
  dsimp only at e
  split at e
  · next c => cases e; exact ⟨i, j, rfl, rfl, c, k _ repI⟩
  · cases e
theorem ops_mod : OpS B (rI (fun _ j => 0 < j) fun i j => .int (i % j)) modF := ops_ints (ints_of fun x y h => by cases x <;> cases y <;> first | rfl | exact absurd ⟨rfl, rfl⟩ (h _ _)) fun i j z H Q e k => by
  unfold modF at e
  dsimp only at e
  split at e
  · next c => cases e; exact ⟨i, j, rfl, rfl, c, k _ repI⟩
  · cases e
theorem ops_pow : OpS B (rI CPow fun i j => .int (i ^ j.toNat)) powF := ops_ints (ints_of fun x y h => by cases x <;> cases y <;> first | rfl | exact absurd ⟨rfl, rfl⟩ (h _ _)) fun i j z H Q e k => by
  unfold powF at e
  dsimp only at e
  split at e
  · next c => cases e; exact ⟨i, j, rfl, rfl, c, k _ repI⟩
  · cases e
theorem d_sub (ha : DE X B W a f) (hb : DE X B W b g) : DE X B W (.BinOp a .Sub b pos) (eOp2 subF f g) := pe_imp (pe_op op_sub ha hb) fun _ _ _ h => ent2 ops_sub h
theorem d_mul (ha : DE X B W a f) (hb : DE X B W b g) : DE X B W (.BinOp a .Mult b pos) (eOp2 mulF f g) := pe_imp (pe_op op_mul ha hb) fun _ _ _ h => ent2 ops_mul h
theorem d_fdiv (ha : DE X B W a f) (hb : DE X B W b g) : DE X B W (.BinOp a .FloorDiv b pos) (eOp2 fdivF f g) := pe_imp (pe_op op_fdiv ha hb) fun _ _ _ h => ent2 ops_fdiv h
theorem d_mod (ha : DE X B W a f) (hb : DE X B W b g) : DE X B W (.BinOp a .Mod b pos) (eOp2 modF f g) := pe_imp (pe_op op_mod ha hb) fun _ _ _ h => ent2 ops_mod h
theorem d_pow (ha : DE X B W a f) (hb : DE X B W b g) : DE X B W (.BinOp a .Pow b pos) (eOp2 powF f g) := pe_imp (pe_op op_pow ha hb) fun _ _ _ h => ent2 ops_pow h
theorem ops_add (hK : X.K = B.G.K) : OpS B (fun x y H Q => (∃ i j, x = .int i ∧ y = .int j ∧ Q (.int (i + j)) H) ∨ ((∃ i j, x = .str i ∧ y = .str j ∧ i.length + j.length ≤ sizeLine ∧ Q (.str (i ++ j)) H) ∨ (rCatA X.K x y H Q ∨ rCat x y H Q))) addF := by
  intro fr σ H Hv x y dx dy a b z Q R rx ry hx hy hz k
  unfold addF at hz
  split at hz
  · cases hz
    rw [R.int_of rx hx, R.int_of ry hy]
    exact .inl ⟨_, _, rfl, rfl, k _ H Hv (.refl R) repI⟩
  · split at hz
    · next c =>
      cases hz
      rw [R.str_of rx hx, R.str_of ry hy]
      exact .inr (.inl ⟨_, _, rfl, rfl, c, k _ H Hv (.refl R) repS⟩)
    · cases hz
  · split at hz
    · next c =>
      cases hz
      obtain ⟨p, vs, rfl, q1, q1v, r1⟩ := R.tup_of rx hx
      obtain ⟨q, us, rfl, q2, q2v, r2⟩ := R.tup_of ry hy
      refine .inr (.inr (.inl ⟨p, q, vs, us, rfl, rfl, by rw [hK]; exact q1, by rw [hK]; exact q2, by rw [r1.length, r2.length]; exact c, fun e => ?_, fun e1 e2 => ?_, fun e1 e2 t ht => ?_⟩))
      · subst e
        have e1 := List.eq_nil_of_length_eq_zero r1.length.symm
        subst e1
        exact k _ H Hv (.refl R) (by simpa using Rep.tup q2v r2)
      · subst e2
        have e2' := List.eq_nil_of_length_eq_zero r2.length.symm
        subst e2'
        exact k _ H Hv (.refl R) (by simpa using Rep.tup q1v r1)
      · exact lay_tup R ht (r1.append r2) k
    · cases hz
  · split at hz
    · next c =>
      cases hz
      obtain ⟨p, vs, rfl, q1, r1⟩ := R.list_of rx hx
      obtain ⟨q, us, rfl, q2, r2⟩ := R.list_of ry hy
      exact .inr (.inr (.inr ⟨p, q, vs, us, rfl, rfl, q1, q2, by rw [r1.length, r2.length]; exact c, fun t ht => lay_lst R ht (r1.append r2) k⟩))
    · cases hz
  · cases hz
theorem d_add (ha : DE X B W a f) (hb : DE X B W b g) (hK : X.K = B.G.K := by rfl) : DE X B W (.BinOp a .Add b pos) (eOp2 addF f g) :=
  pe_imp (pe_op (op_add.or (op_add_str.or (op_catA.or op_cat))) ha hb) fun _ _ _ h => ent2 (ops_add hK) h
theorem opf_cat : OpF B rCat catF := by
  intro fr σ H Hv x y dx dy a b z Q R rx ry hx hy hz k
  unfold catF at hz
  split at hz
  · split at hz
    · next c =>
      cases hz
      obtain ⟨p, vs, rfl, q1, r1⟩ := R.list_of rx hx
      obtain ⟨q, us, rfl, q2, r2⟩ := R.list_of ry hy
      exact ⟨p, q, vs, us, rfl, rfl, q1, q2, by rw [r1.length, r2.length]; exact c, fun t ht => lay_own R ht (r1.append r2) k⟩
    · cases hz
  · cases hz
theorem d_catF (ha : DE X B W a f) (hb : DE X B W b g) : DF X B W (.BinOp a .Add b pos) (eOp2 catF f g) := pe_imp (pe_op op_cat ha hb) fun _ _ _ h => ent2F opf_cat h
theorem uns_neg : UnS B (rU fun i => .int (-i)) negF := by
  intro fr σ H Hv x dx a z Q R rx hx hz k
  unfold negF at hz
  split at hz
  · cases hz
    rw [R.int_of rx hx]
    exact ⟨_, rfl, k _ H Hv (.refl R) repI⟩
  · cases hz
theorem d_neg (ha : DE X B W a f) : DE X B W (.UnaryOp .USub a pos) (eOp1 negF f) := pe_imp (pe_un un_neg ha) fun _ _ _ h => ent1 uns_neg h
end
/-! ### comparisons -/
mutual
def pyOf : D → Option PyData
  | .non => some .none
  | .bl b => some (.bool b)
  | .int i => some (.int i)
  | .str x => some (.str x)
  | .tup ds => (pyOfL ds).map .tuple
  | .lst ds => (pyOfL ds).map .list
  | _ => none
def pyOfL : List D → Option (List PyData)
  | [] => some []
  | d :: ds => match pyOf d, pyOfL ds with
    | some p, some ps => some (p :: ps)
    | _, _ => none
end
mutual
theorem dp_of {G : SE} {H Hv : Hp} (s : Sub Hv H) : ∀ (d : D) (v : V) (p : PyData), Rep G Hv d v → pyOf d = some p → Dp G.K H v p
  | .non, v, p, h, e => by
    rw [Rep.non_iff.mp h]
    simp only [pyOf] at e
    cases e
    exact .non
  | .bl b, v, p, h, e => by
    rw [Rep.bl_iff.mp h]
    simp only [pyOf] at e
    cases e
    exact .bl _
  | .int i, v, p, h, e => by
    rw [Rep.int_iff.mp h]
    simp only [pyOf] at e
    cases e
    exact .int _
  | .str x, v, p, h, e => by
    rw [Rep.str_iff.mp h]
    simp only [pyOf] at e
    cases e
    exact .str _
  | .tup ds, v, p, h, e => by
    obtain ⟨a, vs, rfl, q, r⟩ := Rep.tup_inv h
    simp only [pyOf, Option.map_eq_some_iff] at e
    obtain ⟨ps, e1, rfl⟩ := e
    exact .tup (s.sqt q) (dpL_of s ds vs ps r e1)
  | .lst ds, v, p, h, e => by
    obtain ⟨a, vs, rfl, q, r⟩ := Rep.lst_inv h
    simp only [pyOf, Option.map_eq_some_iff] at e
    obtain ⟨ps, e1, rfl⟩ := e
    exact .lst (SqL.of (s _ _ q)) (dpL_of s ds vs ps r e1)
  | .scr _, _, _, _, e => by simp only [pyOf] at e; cases e
  | .obj _ _ _, _, _, _, e => by simp only [pyOf] at e; cases e
  | .dct _ _, _, _, _, e => by simp only [pyOf] at e; cases e
  | .var _, _, _, _, e => by simp only [pyOf] at e; cases e
theorem dpL_of {G : SE} {H Hv : Hp} (s : Sub Hv H) : ∀ (ds : List D) (vs : List V) (ps : List PyData), RepL G Hv ds vs → pyOfL ds = some ps → DpAll G.K H vs ps
  | [], vs, ps, h, e => by
    rw [h.nil_inv]
    simp only [pyOfL] at e
    cases e
    exact .nil
  | d :: ds, vs, ps, h, e => by
    obtain ⟨v, r, rfl, h1, h2⟩ := h.cons_inv
    simp only [pyOfL] at e
    split at e
    · next p qs e1 e2 =>
      cases e
      exact .cons (dp_of s d v p h1 e1) (dpL_of s ds r qs h2 e2)
    · cases e
end
theorem dp_look {B : Bd} {fr : Fr} {σ : L2.St} {H Hv : Hp} (R : Rel B fr σ H Hv) {d e : D} {v : V} {p : PyData} (h : RepW B σ Hv d v) (hl : look fr d = some e) (hp : pyOf e = some p) : Dp B.G.K H v p := by
  cases d with
  | var i =>
    cases e with
    | lst ds =>
      obtain ⟨a, vs, rfl, q, r⟩ := R.list_of h hl
      simp only [pyOf, Option.map_eq_some_iff] at hp
      obtain ⟨ps, e1, rfl⟩ := hp
      exact .lst (SqL.of q) (dpL_of R.sub ds vs ps r e1)
    | obj _ _ _ => simp only [pyOf] at hp; cases hp
    | dct _ _ => simp only [pyOf] at hp; cases hp
    | _ => exact dp_of R.sub _ _ _ (look_scalar R h hl rfl) hp
  | _ =>
    cases hl
    exact dp_of R.sub _ _ _ h hp
/-- the scalars that == tells apart as data does -/
def scalE : D → D → Option Bool
  | .non, .non => some true | .non, .int _ => some false | .int _, .non => some false | .non, .bl _ => some false | .bl _, .non => some false | .non, .str _ => some false | .str _, .non => some false
  | .int i, .int j => some (decide (i = j)) | .bl i, .bl j => some (decide (i = j)) | .str i, .str j => some (decide (i = j))
  | .int _, .str _ => some false | .str _, .int _ => some false | .bl _, .str _ => some false | .str _, .bl _ => some false
  | _, _ => none
def eqB (a b : D) : Option Bool := match scalE a b with
  | some k => some k
  | none => match pyOf a, pyOf b with
    | some p, some q => if SeqAt.shaped p && SeqAt.shaped q then some (PyData.eqv p q) else none
    | _, _ => none
def eqF (a b : D) : Option D := (eqB a b).map D.bl
def neF (a b : D) : Option D := (eqB a b).map fun k => D.bl (!k)
def inB (a b : D) : Option Bool := match pyOf a, pyOf b with
  | some p, some (.list qs) => if SeqAt.shaped p && SeqAt.shaped (.list qs) then some (qs.any fun z => PyData.eqv z p) else none
  | _, _ => none
section
variable {X : Cx} {B : Bd} {W : WX} {a b c : Expr} {f g h : Ev} {pos : Pos}
theorem scal_of {a b : D} {k : Bool} {x y : V} {G : SE} {H : Hp} (e : scalE a b = some k) (hx : Rep G H a x) (hy : Rep G H b y) : scal x y = true ∧ decide (x = y) = k := by
  unfold scalE at e
  split at e <;> first
    | (cases e
       simp only [Rep] at hx hy
       subst hx hy
       exact ⟨rfl, by simp⟩)
    | cases e
theorem scalE_cell {a b : D} {k : Bool} (e : scalE a b = some k) : isCell a = false ∧ isCell b = false := by
  unfold scalE at e
  split at e <;> first
    | exact ⟨rfl, rfl⟩
    | cases e
theorem ops_eqg {r : Bool → V} (hK : X.K = B.G.K) (rr : Bool → D) (hr : ∀ k H, Rep B.G H (rr k) (r k)) : OpS B (fun x y H Q => (scal x y = true ∧ Q (r (decide (x = y))) H) ∨ ∃ d e, Dp X.K H x d ∧ Dp X.K H y e ∧ SeqAt.shaped d = true ∧ SeqAt.shaped e = true ∧ Q (r (PyData.eqv d e)) H) (fun a b => (eqB a b).map rr) := by
  intro fr σ H Hv x y dx dy a b z Q R rx ry hx hy hz k
  simp only [Option.map_eq_some_iff] at hz
  obtain ⟨m, hz, rfl⟩ := hz
  unfold eqB at hz
  split at hz
  · next kk e =>
    cases hz
    obtain ⟨c1, c2⟩ := scalE_cell e
    obtain ⟨h1, h2⟩ := scal_of e (look_scalar R rx hx c1) (look_scalar R ry hy c2)
    refine .inl ⟨h1, ?_⟩
    rw [h2]
    exact k _ H Hv (.refl R) (hr _ _)
  · split at hz
    · next p q ep eq =>
      split at hz
      · next c =>
        cases hz
        have c' := Bool.and_eq_true_iff.mp c
        refine .inr ⟨p, q, ?_, ?_, c'.1, c'.2, k _ H Hv (.refl R) (hr _ _)⟩
        · rw [hK]; exact dp_look R rx hx ep
        · rw [hK]; exact dp_look R ry hy eq
      · cases hz
    · cases hz
theorem ops_eq (hK : X.K = B.G.K) : OpS B (fun x y H Q => rEq x y H Q ∨ rEqD X.K x y H Q) eqF := ops_eqg (r := V.bl) hK D.bl fun _ _ => repB
theorem ops_ne (hK : X.K = B.G.K) : OpS B (fun x y H Q => rNe x y H Q ∨ rNeD X.K x y H Q) neF := ops_eqg (r := fun k => V.bl (!k)) hK (fun k => D.bl (!k)) fun _ _ => repB
/-- order of ints -/
def ltF : D → D → Option D
  | .int i, .int j => some (.bl (decide (i < j)))
  | _, _ => none
def leF : D → D → Option D
  | .int i, .int j => some (.bl (decide (i ≤ j)))
  | _, _ => none
def gtF : D → D → Option D
  | .int i, .int j => some (.bl (decide (j < i)))
  | _, _ => none
def geF : D → D → Option D
  | .int i, .int j => some (.bl (decide (j ≤ i)))
  | _, _ => none
def isNon : D → Bool
  | .non => true
  | _ => false
def isNF : D → D → Option D
  | a, .non => some (.bl (isNon a))
  | _, _ => none
def notNF : D → D → Option D
  | a, .non => some (.bl (!isNon a))
  | _, _ => none
def inF (a b : D) : Option D := (inB a b).map D.bl
def notInF (a b : D) : Option D := (inB a b).map fun k => D.bl (!k)
theorem ops_lt : OpS B (rI0 fun i j => .bl (decide (i < j))) ltF := ops_ints (ints_of fun x y h => by cases x <;> cases y <;> first | rfl | exact absurd ⟨rfl, rfl⟩ (h _ _)) fun i j z H Q e k => by
  cases e
  exact ⟨i, j, rfl, rfl, k _ repB⟩
theorem ops_le : OpS B (rI0 fun i j => .bl (decide (i ≤ j))) leF := ops_ints (ints_of fun x y h => by cases x <;> cases y <;> first | rfl | exact absurd ⟨rfl, rfl⟩ (h _ _)) fun i j z H Q e k => by
  cases e
  exact ⟨i, j, rfl, rfl, k _ repB⟩
theorem ops_gt : OpS B (rI0 fun i j => .bl (decide (j < i))) gtF := ops_ints (ints_of fun x y h => by cases x <;> cases y <;> first | rfl | exact absurd ⟨rfl, rfl⟩ (h _ _)) fun i j z H Q e k => by
  cases e
  exact ⟨i, j, rfl, rfl, k _ repB⟩
theorem ops_ge : OpS B (rI0 fun i j => .bl (decide (j ≤ i))) geF := ops_ints (ints_of fun x y h => by cases x <;> cases y <;> first | rfl | exact absurd ⟨rfl, rfl⟩ (h _ _)) fun i j z H Q e k => by
  cases e
  exact ⟨i, j, rfl, rfl, k _ repB⟩
theorem non_look {fr : Fr} {σ : L2.St} {H Hv : Hp} (R : Rel B fr σ H Hv) {d e : D} {v : V} (h : RepW B σ Hv d v) (hl : look fr d = some e) : decide (v = .non) = isNon e := by
  cases e with
  | non => rw [R.non_of h hl]; rfl
  | bl i => rw [R.bl_of h hl]; rfl
  | int i => rw [R.int_of h hl]; rfl
  | str i => rw [R.str_of h hl]; rfl
  | tup ds =>
    obtain ⟨a, vs, rfl, _⟩ := R.tup_of h hl
    rfl
  | lst ds =>
    obtain ⟨a, vs, rfl, _⟩ := R.list_of h hl
    rfl
  | scr ns =>
    obtain ⟨a, rfl, _⟩ := Rep.scr_inv (look_scalar R h hl rfl)
    rfl
  | var i => exact (Rep.no_var (look_scalar R h hl rfl)).elim
  | obj c ns fs =>
    cases d with
    | var i =>
      obtain ⟨hm, hs⟩ := h
      obtain ⟨a, hs', _⟩ := R.own i _ (look_var hl) hm
      rw [hs] at hs'
      cases hs'
      rfl
    | obj c' ns' fs' =>
      obtain ⟨a, dx, vs, rfl, _⟩ := Rep.obj_inv h
      rfl
    | _ => cases hl
  | dct ks ds =>
    cases d with
    | var i =>
      obtain ⟨hm, hs⟩ := h
      obtain ⟨a, hs', _⟩ := R.own i _ (look_var hl) hm
      rw [hs] at hs'
      cases hs'
      rfl
    | dct ks' ds' =>
      obtain ⟨a, us, rfl, _⟩ := Rep.dct_inv h
      rfl
    | _ => cases hl
theorem ops_isN : OpS B (fun x y H Q => y = .non ∧ Q (.bl (decide (x = .non))) H) isNF := by
  intro fr σ H Hv x y dx dy a b z Q R rx ry hx hy hz k
  cases b <;> first | cases hz | skip
  refine ⟨R.non_of ry hy, ?_⟩
  rw [non_look R rx hx]
  exact k _ H Hv (.refl R) repB
theorem ops_notN : OpS B (fun x y H Q => y = .non ∧ Q (.bl (!decide (x = .non))) H) notNF := by
  intro fr σ H Hv x y dx dy a b z Q R rx ry hx hy hz k
  cases b <;> first | cases hz | skip
  refine ⟨R.non_of ry hy, ?_⟩
  rw [non_look R rx hx]
  exact k _ H Hv (.refl R) repB
theorem ops_ing (hK : X.K = B.G.K) (r : Bool → V) (rr : Bool → D) (hr : ∀ k H, Rep B.G H (rr k) (r k)) : OpS B (fun x y H Q => ∃ d ds, Dp X.K H x d ∧ Dp X.K H y (.list ds) ∧ SeqAt.shaped d = true ∧ SeqAt.shaped (.list ds) = true ∧ Q (r (ds.any fun z => PyData.eqv z d)) H) (fun a b => (inB a b).map rr) := by
  intro fr σ H Hv x y dx dy a b z Q R rx ry hx hy hz k
  simp only [Option.map_eq_some_iff] at hz
  obtain ⟨m, hz, rfl⟩ := hz
  unfold inB at hz
  split at hz
  · next p qs ep eq =>
    split at hz
    · next c =>
      cases hz
      have c' := Bool.and_eq_true_iff.mp c
      refine ⟨p, qs, ?_, ?_, c'.1, c'.2, k _ H Hv (.refl R) (hr _ _)⟩
      · rw [hK]; exact dp_look R rx hx ep
      · rw [hK]; exact dp_look R ry hy eq
    · cases hz
  · cases hz
end
end KS
namespace KS
open PySem PySem.Spec L2
/-! ### comparisons as values and as tests -/
def bE (e : Ev) : Bv := fun fr => (e fr).bind fun d fr1 => match d with
  | .bl b => .ok b fr1
  | _ => .bad
def bAnd (f g : Bv) : Bv := fun fr => (f fr).bind fun b fr1 => if b then g fr1 else .ok false fr1
def bOr (f g : Bv) : Bv := fun fr => (f fr).bind fun b fr1 => if b then .ok true fr1 else g fr1
def bNot (f : Bv) : Bv := fun fr => (f fr).bind fun b fr1 => .ok (!b) fr1
def eAnd (f g : Ev) : Ev := fun fr => (f fr).bind fun d fr1 => match d with
  | .bl true => g fr1
  | .bl false => .ok (.bl false) fr1
  | _ => .bad
def eOr (f g : Ev) : Ev := fun fr => (f fr).bind fun d fr1 => match d with
  | .bl false => g fr1
  | .bl true => .ok (.bl true) fr1
  | _ => .bad
def eNot (f : Ev) : Ev := fun fr => (f fr).bind fun d fr1 => match d with
  | .bl b => .ok (.bl (!b)) fr1
  | _ => .bad
def eIf (t : Bv) (f g : Ev) : Ev := fun fr => (t fr).bind fun b fr1 => if b then f fr1 else g fr1
def truB : D → Option Bool
  | .non => some false
  | .bl b => some b
  | .int i => some (i != 0)
  | .str x => if x.length ≤ sizeLine then some ((x.length : Int) != 0) else none
  | .tup ds => some (!ds.isEmpty)
  | .lst ds => some (!ds.isEmpty)
  | _ => none
def bTru (f : Ev) : Bv := fun fr => (f fr).bind fun d fr1 => match look fr1 d with
  | some a => match truB a with
    | some b => .ok b fr1
    | none => .bad
  | none => .bad
/-- a op1 b op2 c -/
def eChain (F F' : D → D → Option D) (f g h : Ev) : Ev := fun fr => (f fr).bind fun x fr1 => (g fr1).bind fun y fr2 => match look fr2 x, look fr2 y with
  | some a, some b => match F a b with
    | some (.bl true) => (h fr2).bind fun z fr3 => match look fr3 y, look fr3 z with
      | some b', some c => ofO (F' b' c) fr3
      | _, _ => .bad
    | some (.bl false) => .ok (.bl false) fr2
    | _ => .bad
  | _, _ => .bad
section
variable {X : Cx} {B : Bd} {W : WX} {a b c : Expr} {f g h : Ev} {t u : Bv} {pos : Pos} {rest : List Expr}
theorem d_cmp {op : CmpOp} {r : R2} {F : D → D → Option D} (hr : OpS B r F) (ho : OpR X (compareOp op) r) (ha : DE X B W a f) (hb : DE X B W b g) (hm : behindInMarks op b = false) : DE X B W (.Compare a [op] [b] pos) (eOp2 F f g) :=
  pe_imp (pe_cmpR ho ha hb hm) fun _ _ _ h => ent2 hr h
/-- a bool's reading, from a value's -/
theorem postB_E {fr : Fr} {σ : L2.St} {H Hv : Hp} {r : Res Fr D} {Q : Bool → Hp → Prop} (h : PostB B W fr σ H Hv (r.bind fun d fr1 => match d with | .bl b => .ok b fr1 | _ => .bad) Q) :
    PostE B W fr σ H Hv r (fun x H' => ∃ k, x = .bl k ∧ Q k H') := by
  cases r with
  | bad => exact h.elim
  | exc c fs fr1 => exact h
  | ok d fr1 =>
    dsimp only [Res.bind] at h
    cases d with
    | bl k => exact fun v H' Hv' n hv => ⟨k, Rep.bl_iff.mp (hv.rep fun i z => by cases z), h H' Hv' n⟩
    | _ => exact h.elim
theorem dt_cmp {op : CmpOp} {r : R2} {F : D → D → Option D} (hr : OpS B r F) (ho : OpR X (compareOp op) r) (ha : DE X B W a f) (hb : DE X B W b g) (hm : behindInMarks op b = false) : DT X B W (.Compare a [op] [b] pos) (bE (eOp2 F f g)) :=
  pt_imp (pt_cmpR ho ha hb hm) fun σ H Q ⟨fr, Hv, R, h⟩ => ent2 hr ⟨fr, Hv, R, postB_E h⟩
/-- an expression whose value is a bool, as a test -/
theorem dt_val (ha : DE X B W a f) (he : ∀ whole, isTrue a X.env whole = (do let v ← whole; standAt a.pos; holding [v] (truthy v)) := by intro _; rfl) : DT X B W a (bE f) :=
  pt_imp (pt_val ha he) fun σ H Q ⟨fr, Hv, R, h⟩ => ⟨fr, Hv, R, postB_E h⟩
theorem tru_look (hK : X.K = B.G.K) {fr : Fr} {σ : L2.St} {H Hv : Hp} (R : Rel B fr σ H Hv) {d e : D} {v : V} {k : Bool} (h : RepW B σ Hv d v) (hl : look fr d = some e) (ht : truB e = some k) : TruV X.K v H k := by
  cases e with
  | non => rw [R.non_of h hl]; cases ht; rfl
  | bl i => rw [R.bl_of h hl]; cases ht; rfl
  | int i => rw [R.int_of h hl]; cases ht; rfl
  | str x =>
    rw [R.str_of h hl]
    unfold truB at ht
    dsimp only at ht
    split at ht
    · next c => cases ht; exact ⟨c, rfl⟩
    · cases ht
  | tup ds =>
    obtain ⟨a, vs, rfl, q, _, r⟩ := R.tup_of h hl
    cases ht
    refine .inr (.inl ⟨vs, by rw [hK]; exact q, ?_⟩)
    cases ds with
    | nil => rw [r.nil_inv]; rfl
    | cons d ds => obtain ⟨v, t, rfl, _⟩ := r.cons_inv; rfl
  | lst ds =>
    obtain ⟨a, vs, rfl, q, r⟩ := R.list_of h hl
    cases ht
    refine .inl ⟨vs, SqL.of q, ?_⟩
    cases ds with
    | nil => rw [r.nil_inv]; rfl
    | cons d ds => obtain ⟨v, t, rfl, _⟩ := r.cons_inv; rfl
  | _ => cases ht
/-- any value, as a test -/
theorem dt_tru (ha : DE X B W a f) (hK : X.K = B.G.K := by rfl) (he : ∀ whole, isTrue a X.env whole = (do let v ← whole; standAt a.pos; holding [v] (truthy v)) := by intro _; rfl) : DT X B W a (bTru f) := by
  refine pt_imp (pt_truth ha he) fun σ H Q h => ?_
  obtain ⟨fr, Hv, R, h⟩ := h
  refine ⟨fr, Hv, R, ?_⟩
  unfold bTru at h
  cases hf : f fr with
  | bad => rw [hf] at h; exact h.elim
  | exc c fs fr1 => rw [hf] at h; exact h
  | ok d fr1 =>
    rw [hf] at h
    dsimp only [Res.bind] at h
    intro v H1 Hv1 n r
    cases hl : look fr1 d with
    | none => rw [hl] at h; exact h.elim
    | some e =>
      rw [hl] at h
      dsimp only at h
      cases ht : truB e with
      | none => rw [ht] at h; exact h.elim
      | some k =>
        rw [ht] at h
        exact ⟨k, tru_look hK n.rel r hl ht, h H1 Hv1 n⟩
theorem dw_and1 (ha : DT X B W a t) : DW X B W (.BoolOp .And [a] pos) t := pw_and1 ha
theorem dw_or1 (ha : DT X B W a t) : DW X B W (.BoolOp .Or [a] pos) t := pw_or1 ha
theorem bnd2 {σ : L2.St} {H : Hp} {f : Bv} {k : Bool → Bv} {Q : Bool → Hp → Prop} (h : dTT B W (fun fr => (f fr).bind fun b fr1 => k b fr1) σ H Q) : dTT B W f σ H fun b H1 => dTT B W (k b) σ H1 Q := by
  obtain ⟨fr, Hv, R, h⟩ := h
  refine ⟨fr, Hv, R, ?_⟩
  dsimp only at h
  cases hf : f fr with
  | bad => rw [hf] at h; exact h.elim
  | exc c fs fr1 => rw [hf] at h; exact h
  | ok b fr1 =>
    rw [hf] at h
    exact fun H1 Hv1 n => ⟨fr1, Hv1, n.rel, h.step n⟩
theorem dtt_ok {σ : L2.St} {H : Hp} {b : Bool} {Q : Bool → Hp → Prop} (h : dTT B W (fun fr => .ok b fr) σ H Q) : Q b H := by
  obtain ⟨fr, Hv, R, h⟩ := h
  exact h H Hv (.refl R)
theorem dw_and (ha : DT X B W a t) (hb : DW X B W (.BoolOp .And (b :: rest) pos) u) : DW X B W (.BoolOp .And (a :: b :: rest) pos) (bAnd t u) := by
  refine pw_imp (pw_and ha hb) fun σ H Q h => ?_
  obtain ⟨fr, Hv, R, h⟩ := bnd2 (k := fun b => fun fr1 => if b then u fr1 else .ok false fr1) h
  refine ⟨fr, Hv, R, ?_⟩
  cases hf : t fr with
  | bad => rw [hf] at h; exact h.elim
  | exc c fs fr1 => rw [hf] at h; exact h
  | ok k fr1 =>
    rw [hf] at h
    intro H1 Hv1 n
    have q := h H1 Hv1 n
    cases k with
    | true =>
      rw [if_pos rfl]
      exact q
    | false =>
      rw [if_neg Bool.false_ne_true]
      exact dtt_ok q
theorem dw_or (ha : DT X B W a t) (hb : DW X B W (.BoolOp .Or (b :: rest) pos) u) : DW X B W (.BoolOp .Or (a :: b :: rest) pos) (bOr t u) := by
  refine pw_imp (pw_or ha hb) fun σ H Q h => ?_
  obtain ⟨fr, Hv, R, h⟩ := bnd2 (k := fun b => fun fr1 => if b then .ok true fr1 else u fr1) h
  refine ⟨fr, Hv, R, ?_⟩
  cases hf : t fr with
  | bad => rw [hf] at h; exact h.elim
  | exc c fs fr1 => rw [hf] at h; exact h
  | ok k fr1 =>
    rw [hf] at h
    intro H1 Hv1 n
    have q := h H1 Hv1 n
    cases k with
    | true =>
      rw [if_pos rfl]
      exact dtt_ok q
    | false =>
      rw [if_neg Bool.false_ne_true]
      exact q
theorem DW.dt (h : DW X B W a t) : DT X B W a t := PW.pt h
theorem dt_not (ha : DT X B W a t) : DT X B W (.UnaryOp .Not a pos) (bNot t) := by
  refine pt_imp (pt_not ha) fun σ H Q h => ?_
  obtain ⟨fr, Hv, R, h⟩ := bnd2 (k := fun b => fun fr1 => .ok (!b) fr1) h
  refine ⟨fr, Hv, R, ?_⟩
  cases hf : t fr with
  | bad => rw [hf] at h; exact h.elim
  | exc c fs fr1 => rw [hf] at h; exact h
  | ok k fr1 =>
    rw [hf] at h
    exact fun H1 Hv1 n => dtt_ok (h H1 Hv1 n)
theorem d_one {op} (ha : DE X B W a f) : DE X B W (.BoolOp op [a] pos) f := pe_one ha
theorem d_and (ha : DE X B W a f) (hb : DE X B W (.BoolOp .And (b :: rest) pos) g) : DE X B W (.BoolOp .And (a :: b :: rest) pos) (eAnd f g) := by
  refine pe_imp (pe_and ha hb) fun σ H Q h => ?_
  obtain ⟨fr, Hv, R, h⟩ := h
  refine ⟨fr, Hv, R, ?_⟩
  unfold eAnd at h
  cases hf : f fr with
  | bad => rw [hf] at h; exact h.elim
  | exc c fs fr1 => rw [hf] at h; exact h
  | ok d fr1 =>
    rw [hf] at h
    dsimp only [Res.bind] at h
    intro v H1 Hv1 n r
    cases d with
    | bl k =>
      refine ⟨k, Rep.bl_iff.mp (r.rep fun i z => by cases z), ?_⟩
      cases k with
      | true =>
        rw [if_pos rfl]
        exact ⟨fr1, Hv1, n.rel, PostE.step n h⟩
      | false =>
        rw [if_neg Bool.false_ne_true]
        exact h _ H1 Hv1 n (.of repB)
    | _ => exact h.elim
theorem d_or (ha : DE X B W a f) (hb : DE X B W (.BoolOp .Or (b :: rest) pos) g) : DE X B W (.BoolOp .Or (a :: b :: rest) pos) (eOr f g) := by
  refine pe_imp (pe_or ha hb) fun σ H Q h => ?_
  obtain ⟨fr, Hv, R, h⟩ := h
  refine ⟨fr, Hv, R, ?_⟩
  unfold eOr at h
  cases hf : f fr with
  | bad => rw [hf] at h; exact h.elim
  | exc c fs fr1 => rw [hf] at h; exact h
  | ok d fr1 =>
    rw [hf] at h
    dsimp only [Res.bind] at h
    intro v H1 Hv1 n r
    cases d with
    | bl k =>
      refine ⟨k, Rep.bl_iff.mp (r.rep fun i z => by cases z), ?_⟩
      cases k with
      | true =>
        rw [if_pos rfl]
        exact h _ H1 Hv1 n (.of repB)
      | false =>
        rw [if_neg Bool.false_ne_true]
        exact ⟨fr1, Hv1, n.rel, PostE.step n h⟩
    | _ => exact h.elim
theorem d_not (ha : DE X B W a f) : DE X B W (.UnaryOp .Not a pos) (eNot f) := by
  refine pe_imp (pe_not ha) fun σ H Q h => ?_
  obtain ⟨fr, Hv, R, h⟩ := h
  refine ⟨fr, Hv, R, ?_⟩
  unfold eNot at h
  cases hf : f fr with
  | bad => rw [hf] at h; exact h.elim
  | exc c fs fr1 => rw [hf] at h; exact h
  | ok d fr1 =>
    rw [hf] at h
    dsimp only [Res.bind] at h
    intro v H1 Hv1 n r
    cases d with
    | bl k => exact ⟨k, Rep.bl_iff.mp (r.rep fun i z => by cases z), h _ H1 Hv1 n (.of repB)⟩
    | _ => exact h.elim
theorem d_if (hc : DT X B W c t) (ha : DE X B W a f) (hb : DE X B W b g) : DE X B W (.IfExp c a b pos) (eIf t f g) := by
  refine pe_imp (pe_ifExp hc ha hb) fun σ H Q h => ?_
  obtain ⟨fr, Hv, R, h⟩ := h
  refine ⟨fr, Hv, R, ?_⟩
  unfold eIf at h
  cases hf : t fr with
  | bad => rw [hf] at h; exact h.elim
  | exc c fs fr1 => rw [hf] at h; exact h
  | ok k fr1 =>
    rw [hf] at h
    dsimp only [Res.bind] at h
    intro H1 Hv1 n
    cases k with
    | true =>
      rw [if_pos rfl]
      exact ⟨fr1, Hv1, n.rel, PostE.step n h⟩
    | false =>
      rw [if_neg Bool.false_ne_true]
      exact ⟨fr1, Hv1, n.rel, PostE.step n h⟩
theorem entC {r r' : R2} {F F' : D → D → Option D} {σ : L2.St} {H : Hp} {Q : VK} (hr : OpS B r F) (hr' : OpS B r' F') (hh : dTE B W (eChain F F' f g h) σ H Q) : tChain r r' (dTE B W f) (dTE B W g) (dTE B W h) σ H Q := by
  obtain ⟨fr, Hv, R, hh⟩ := hh
  refine ⟨fr, Hv, R, ?_⟩
  unfold eChain at hh
  cases hf : f fr with
  | bad => rw [hf] at hh; exact hh.elim
  | exc c fs fr1 => rw [hf] at hh; exact hh
  | ok x fr1 =>
    rw [hf] at hh
    dsimp only [Res.bind] at hh
    intro vx H1 Hv1 n1 r1
    refine ⟨fr1, Hv1, n1.rel, ?_⟩
    cases hg : g fr1 with
    | bad => rw [hg] at hh; exact hh.elim
    | exc c fs fr2 =>
      rw [hg] at hh
      exact fun dd H' Hv' n => hh dd H' Hv' (n1.trans n)
    | ok y fr2 =>
      rw [hg] at hh
      dsimp only at hh
      intro vy H2 Hv2 n2 r2
      cases hx : look fr2 x with
      | none => rw [hx] at hh; exact hh.elim
      | some a =>
        cases hy : look fr2 y with
        | none => rw [hx, hy] at hh; exact hh.elim
        | some b =>
          rw [hx, hy] at hh
          dsimp only at hh
          cases hz : F a b with
          | none => rw [hz] at hh; exact hh.elim
          | some z =>
            rw [hz] at hh
            refine hr fr2 σ H2 Hv2 vx vy x y a b z _ n2.rel (r1.mono n2.ext) r2 hx hy hz fun v H3 Hv3 n3 q => ?_
            cases z with
            | bl k =>
              refine ⟨k, Rep.bl_iff.mp q, ?_⟩
              have n := (n1.trans n2).trans n3
              cases k with
              | false =>
                rw [if_neg Bool.false_ne_true]
                exact hh _ H3 Hv3 n (.of repB)
              | true =>
                rw [if_pos rfl]
                dsimp only at hh
                refine ⟨fr2, Hv3, n3.rel, ?_⟩
                cases hhh : h fr2 with
                | bad => rw [hhh] at hh; exact hh.elim
                | exc c fs fr3 =>
                  rw [hhh] at hh
                  exact fun dd H' Hv' m => hh dd H' Hv' (n.trans m)
                | ok w fr3 =>
                  rw [hhh] at hh
                  dsimp only at hh
                  intro vw H4 Hv4 n4 r4
                  cases hy3 : look fr3 y with
                  | none => rw [hy3] at hh; exact hh.elim
                  | some b' =>
                    cases hw3 : look fr3 w with
                    | none => rw [hy3, hw3] at hh; exact hh.elim
                    | some c' =>
                      rw [hy3, hw3] at hh
                      dsimp only at hh
                      cases hz2 : F' b' c' with
                      | none => rw [hz2] at hh; exact hh.elim
                      | some z2 =>
                        rw [hz2] at hh
                        exact hr' fr3 σ H4 Hv4 vy vw y w b' c' z2 Q n4.rel ((r2.mono n3.ext).mono n4.ext) r4 hy3 hw3 hz2 fun v5 H5 Hv5 n5 q5 => hh v5 H5 Hv5 ((n.trans n4).trans n5) (.of q5)
            | _ => exact hh.elim
theorem d_chain {op op' : CmpOp} {r r' : R2} {F F' : D → D → Option D} (hr : OpS B r F) (hr' : OpS B r' F') (ho : OpR X (compareOp op) r) (ho' : OpR X (compareOp op') r') (ha : DE X B W a f) (hb : DE X B W b g) (hc : DE X B W c h)
    (hm : lastMarks [op, op'] [b, c] = false := by with_unfolding_all rfl) : DE X B W (.Compare a [op, op'] [b, c] pos) (eChain F F' f g h) := pe_imp (pe_chain ho ho' ha hb hc hm) fun _ _ _ h => entC hr hr' h
theorem dt_chain {op op' : CmpOp} {r r' : R2} {F F' : D → D → Option D} (hr : OpS B r F) (hr' : OpS B r' F') (ho : OpR X (compareOp op) r) (ho' : OpR X (compareOp op') r') (ha : DE X B W a f) (hb : DE X B W b g) (hc : DE X B W c h)
    (hm : lastMarks [op, op'] [b, c] = false := by with_unfolding_all rfl) : DT X B W (.Compare a [op, op'] [b, c] pos) (bE (eChain F F' f g h)) := pt_imp (pt_chain ho ho' ha hb hc hm) fun _ _ _ ⟨fr, Hv, R, h⟩ => entC hr hr' ⟨fr, Hv, R, postB_E h⟩
end
/-! ### arguments, displays -/
def aNil : Av := fun fr => .ok [] fr
def aCons (f : Ev) (g : Av) : Av := fun fr => (f fr).bind fun d fr1 => (g fr1).bind fun ds fr2 => .ok (d :: ds) fr2
def pers : D → Bool
  | .var _ => false
  | _ => true
def eTup (g : Av) : Ev := fun fr => (g fr).bind fun ds fr1 => if ds.length ≤ sizeLine ∧ ds.all pers = true then .ok (.tup ds) fr1 else .bad
def eLst (g : Av) : Ev := fun fr => (g fr).bind fun ds fr1 => if ds.length ≤ sizeLine ∧ ds.all pers = true then .ok (.lst ds) fr1 else .bad
section
variable {X : Cx} {B : Bd} {W : WX} {e : Expr} {es : List Expr} {f : Ev} {g : Av} {pos : Pos}
theorem repWs_mono {σ : L2.St} {Hv Hv1 : Hp} (s : Sub Hv Hv1) : ∀ {ds : List D} {vs : List V}, RepWs B σ Hv ds vs → RepWs B σ Hv1 ds vs
  | [], _, h => h
  | d :: ds, _, ⟨v, r, e, h1, h2⟩ => ⟨v, r, e, h1.mono s, repWs_mono s h2⟩
theorem repWs_repL {σ : L2.St} {Hv : Hp} : ∀ {ds : List D} {vs : List V}, RepWs B σ Hv ds vs → ds.all pers = true → RepL B.G Hv ds vs
  | [], vs, h, _ => by
    have h' : vs = [] := h
    rw [h']
    exact .nil
  | d :: ds, _, ⟨v, r, e, h1, h2⟩, p => by
    subst e
    rw [List.all_cons, Bool.and_eq_true] at p
    exact .cons (h1.rep fun i z => by rw [z] at p; cases p.1) (repWs_repL h2 p.2)
theorem repWs_length {σ : L2.St} {Hv : Hp} : ∀ {ds : List D} {vs : List V}, RepWs B σ Hv ds vs → vs.length = ds.length
  | [], vs, h => by
    have h' : vs = [] := h
    rw [h']
    rfl
  | d :: ds, _, ⟨v, r, e, _, h2⟩ => by rw [e, List.length_cons, List.length_cons, repWs_length h2]
theorem a_nil : DA X B W [] aNil := pa_imp pa_nil fun σ H Q ⟨fr, Hv, R, h⟩ => h [] H Hv (.refl R) rfl
theorem a_cons (ha : DE X B W e f) (hr : DA X B W es g) (hs : starEach (e :: es) X.env = (false, eval e X.env) :: starEach es X.env := by rfl) : DA X B W (e :: es) (aCons f g) := by
  refine pa_imp (pa_cons ha hr hs) fun σ H Q h => ?_
  obtain ⟨fr, Hv, R, h⟩ := h
  refine ⟨fr, Hv, R, ?_⟩
  unfold aCons at h
  cases hf : f fr with
  | bad => rw [hf] at h; exact h.elim
  | exc c fs fr1 => rw [hf] at h; exact h
  | ok d fr1 =>
    rw [hf] at h
    dsimp only [Res.bind] at h
    intro v H1 Hv1 n1 r1
    refine ⟨fr1, Hv1, n1.rel, ?_⟩
    cases hg : g fr1 with
    | bad => rw [hg] at h; exact h.elim
    | exc c fs fr2 =>
      rw [hg] at h
      exact fun dd H' Hv' n => h dd H' Hv' (n1.trans n)
    | ok ds fr2 =>
      rw [hg] at h
      exact fun vs H2 Hv2 n2 r2 => h (v :: vs) H2 Hv2 (n1.trans n2) ⟨v, vs, rfl, r1.mono n2.ext, r2⟩
theorem d_tup {x1} (ha : DA X B W es g) : DE X B W (.Tuple es x1 pos) (eTup g) := by
  refine pe_imp (pe_tup ha) fun σ H Q h => ?_
  obtain ⟨fr, Hv, R, h⟩ := h
  refine ⟨fr, Hv, R, ?_⟩
  unfold eTup at h
  cases hg : g fr with
  | bad => rw [hg] at h; exact h.elim
  | exc c fs fr1 => rw [hg] at h; exact h
  | ok ds fr1 =>
    rw [hg] at h
    dsimp only [Res.bind] at h
    split at h
    · next c =>
      intro vs H1 Hv1 n r
      exact ⟨by rw [repWs_length r]; exact c.1, fun p hp => lay_tup n.rel hp (repWs_repL r c.2) fun v H' Hv' m q => h v H' Hv' (n.trans m) (.of q)⟩
    · exact h.elim
theorem d_lst (ha : DA X B W es g) : DF X B W (.List es pos) (eLst g) := by
  refine pe_imp (pe_lst ha) fun σ H Q h => ?_
  obtain ⟨fr, Hv, R, h⟩ := h
  refine ⟨fr, Hv, R, ?_⟩
  unfold eLst at h
  cases hg : g fr with
  | bad => rw [hg] at h; exact h.elim
  | exc c fs fr1 => rw [hg] at h; exact h
  | ok ds fr1 =>
    rw [hg] at h
    dsimp only [Res.bind] at h
    split at h
    · next c =>
      intro vs H1 Hv1 n r
      exact ⟨by rw [repWs_length r]; exact c.1, fun p hp => lay_own n.rel hp (repWs_repL r c.2) fun q H' Hv' m hq => h q H' Hv' (n.trans m) (n.none R hq)⟩
    · exact h.elim
end
end KS
namespace KS
open PySem PySem.Spec L2
/-! ### subscripts and slices -/
def ixF : D → D → Option D
  | .lst ds, .int i => atI ds i
  | .tup ds, .int i => atI ds i
  | .scr ns, .int i => (atI ns i).map D.int
  | .str x, .int i => if x.length ≤ sizeLine then (atI x.cps.toList i).map fun c => .str ⟨#[c]⟩ else none
  | _, _ => none
def cutD {α : Type} (xs : List α) (lo hi : Option Int) : List α := (xs.drop (HT.sIx xs.length 0 lo)).take (HT.sIx xs.length xs.length hi - HT.sIx xs.length 0 lo)
def slF : D → Option Int → Option Int → Option D
  | .lst ds, lo, hi => some (.lst (cutD ds lo hi))
  | .tup ds, lo, hi => some (.tup (cutD ds lo hi))
  | .str x, lo, hi => if x.length ≤ sizeLine then some (.str (cutS x lo hi)) else none
  | _, _, _ => none
abbrev Ov := Fr → Res Fr (Option Int)
def oNone : Ov := fun fr => .ok none fr
def oSome (f : Ev) : Ov := fun fr => (f fr).bind fun d fr1 => match look fr1 d with
  | some (.int i) => .ok (some i) fr1
  | _ => .bad
def eSl (f : Ev) (lo hi : Ov) : Ev := fun fr => (f fr).bind fun x fr1 => (lo fr1).bind fun l fr2 => (hi fr2).bind fun u fr3 => match look fr3 x with
  | some a => ofO (slF a l u) fr3
  | none => .bad
def slFL : D → Option Int → Option Int → Option D
  | .lst ds, lo, hi => some (.lst (cutD ds lo hi))
  | _, _, _ => none
def eSlF (f : Ev) (lo hi : Ov) : Ev := fun fr => (f fr).bind fun x fr1 => (lo fr1).bind fun l fr2 => (hi fr2).bind fun u fr3 => match look fr3 x with
  | some a => ofO (slFL a l u) fr3
  | none => .bad
def PostO (B : Bd) (W : WX) (fr : Fr) (σ : L2.St) (H Hv : Hp) (r : Res Fr (Option Int)) (Q : Option Int → Hp → Prop) : Prop :=
  match r with
  | .ok o fr' => ∀ H' Hv', Nxt B fr σ H Hv fr' H' Hv' → Q o H'
  | .exc c fs fr' => ∀ dd H' Hv', Nxt B fr σ H Hv fr' H' Hv' → ExcAt B.G H' Hv' c fs dd → W (.ref (B.G.ecls c)) (some dd) σ H'
  | .bad => False
def dTO (B : Bd) (W : WX) (f : Ov) : TO := fun σ H Q => ∃ fr Hv, Rel B fr σ H Hv ∧ PostO B W fr σ H Hv (f fr) Q
def DO (X : Cx) (B : Bd) (W : WX) (e : Option Expr) (f : Ov) : Prop := PO X e (dTO B W f)
theorem cut_whole {α : Type} {xs : List α} {lo hi : Option Int} (c : HT.sIx xs.length 0 lo = 0 ∧ HT.sIx xs.length xs.length hi = xs.length) : cutD xs lo hi = xs := by
  unfold cutD
  rw [c.1, c.2, List.drop_zero, Nat.sub_zero, List.take_length]
theorem atI_repL {G : SE} {H : Hp} {ds : List D} {vs : List V} {i : Int} {d : D} (r : RepL G H ds vs) (h : atI ds i = some d) : ∃ v, atI vs i = some v ∧ Rep G H d v := by
  unfold atI at h ⊢
  rw [r.length]
  cases e : ixN ds.length i with
  | none => rw [e] at h; cases h
  | some j =>
    rw [e] at h
    exact r.get h
theorem atI_map {α β : Type} (f : α → β) {xs : List α} {i : Int} : atI (xs.map f) i = (atI xs i).map f := by
  unfold atI
  rw [List.length_map]
  cases ixN xs.length i with
  | none => rfl
  | some j => simp
theorem cut_repL {G : SE} {H : Hp} {ds : List D} {vs : List V} {lo hi : Option Int} (r : RepL G H ds vs) : RepL G H (cutD ds lo hi) (cutV vs lo hi) := by
  unfold cutD cutV
  rw [r.length]
  exact (r.drop _).take _
section
variable {X : Cx} {B : Bd} {W : WX} {a b : Expr} {lo hi : Option Expr} {f g : Ev} {l u : Ov} {pos p2 : Pos}
theorem ops_ix (hK : X.K = B.G.K) : OpS B (fun x y H Q => rIxL X.K x y H Q ∨ (rIxT X.K x y H Q ∨ rIxS x y H Q)) ixF := by
  intro fr σ H Hv x y dx dy a b z Q R rx ry hx hy hz k
  unfold ixF at hz
  split at hz
  · obtain ⟨p, vs, rfl, q, r⟩ := R.list_of rx hx
    rw [R.int_of ry hy]
    obtain ⟨v, e1, e2⟩ := atI_repL r hz
    exact .inl ⟨p, vs, _, v, rfl, rfl, SqL.of q, e1, k v H Hv (.refl R) e2⟩
  · obtain ⟨p, vs, rfl, q, _, r⟩ := R.tup_of rx hx
    rw [R.int_of ry hy]
    obtain ⟨v, e1, e2⟩ := atI_repL r hz
    exact .inr (.inl ⟨p, vs, _, v, rfl, rfl, by rw [hK]; exact q, e1, k v H Hv (.refl R) e2⟩)
  · obtain ⟨p, rfl, q⟩ := Rep.scr_inv (look_scalar R rx hx rfl)
    rw [R.int_of ry hy]
    simp only [Option.map_eq_some_iff] at hz
    obtain ⟨n, e1, rfl⟩ := hz
    exact .inl ⟨p, _, _, .int n, rfl, rfl, by rw [hK]; exact R.sub.sql q, by rw [atI_map, e1]; rfl, k _ H Hv (.refl R) repI⟩
  · split at hz
    · next c =>
      rw [R.str_of rx hx, R.int_of ry hy]
      simp only [Option.map_eq_some_iff] at hz
      obtain ⟨n, e1, rfl⟩ := hz
      exact .inr (.inr ⟨_, _, n, rfl, rfl, c, e1, k _ H Hv (.refl R) repS⟩)
    · cases hz
  · cases hz
theorem d_ix (ha : DE X B W a f) (hb : DE X B W b g) (hs : PlainIx b := by exact fun _ _ => rfl) (hK : X.K = B.G.K := by rfl) : DE X B W (.Subscript a b pos) (eOp2 ixF f g) :=
  pe_imp (pe_ix ix_seq ha hb hs) fun _ _ _ h => ent2 (ops_ix hK) h
theorem do_none : DO X B W none oNone := ⟨fun pins s σ H Q I ⟨fr, Hv, R, h⟩ => po_none.run pins s σ H Q I (h H Hv (.refl R))⟩
theorem po_imp {e : Option Expr} {t t' : TO} (h : PO X e t) (i : ∀ σ H Q, t' σ H Q → t σ H Q) : PO X e t' := ⟨fun pins s σ H Q I hw => h.run pins s σ H Q I (i σ H Q hw)⟩
theorem do_some (ha : DE X B W a f) : DO X B W (some a) (oSome f) := by
  refine po_imp (po_some ha) fun σ H Q h => ?_
  obtain ⟨fr, Hv, R, h⟩ := h
  refine ⟨fr, Hv, R, ?_⟩
  unfold oSome at h
  cases hf : f fr with
  | bad => rw [hf] at h; exact h.elim
  | exc c fs fr1 => rw [hf] at h; exact h
  | ok d fr1 =>
    rw [hf] at h
    dsimp only [Res.bind] at h
    intro v H1 Hv1 n r
    split at h
    · next i e => exact ⟨i, n.rel.int_of r e, h H1 Hv1 n⟩
    · exact h.elim
theorem entSl {r : V → Option Int → Option Int → Hp → VK → Prop} {post : Fr → L2.St → Hp → Hp → D → Fr → VK → Prop} {σ : L2.St} {H : Hp} {Q : VK} {fr : Fr} {Hv : Hp} (R : Rel B fr σ H Hv) {k : D → Option Int → Option Int → Fr → Res Fr D} {P : Res Fr D → Prop}
    (hex : ∀ c fs fr', P (.exc c fs fr') → ∀ dd H' Hv', Nxt B fr σ H Hv fr' H' Hv' → ExcAt B.G H' Hv' c fs dd → W (.ref (B.G.ecls c)) (some dd) σ H') (hb : ¬ P .bad)
    (h : P ((f fr).bind fun x fr1 => (l fr1).bind fun l fr2 => (u fr2).bind fun u fr3 => k x l u fr3))
    (hk : ∀ x lo hi fr3 v H3 Hv3, Nxt B fr σ H Hv fr3 H3 Hv3 → RepW B σ Hv3 x v → P (k x lo hi fr3) → r v lo hi H3 Q) : tSl r (dTE B W f) (dTO B W l) (dTO B W u) σ H Q := by
  refine ⟨fr, Hv, R, ?_⟩
  cases hf : f fr with
  | bad => rw [hf] at h; exact (hb h).elim
  | exc c fs fr1 => rw [hf] at h; exact hex _ _ _ h
  | ok x fr1 =>
    rw [hf] at h
    dsimp only [Res.bind] at h
    intro vx H1 Hv1 n1 r1
    refine ⟨fr1, Hv1, n1.rel, ?_⟩
    cases hg : l fr1 with
    | bad => rw [hg] at h; exact (hb h).elim
    | exc c fs fr2 =>
      rw [hg] at h
      exact fun dd H' Hv' n => hex _ _ _ h dd H' Hv' (n1.trans n)
    | ok lo fr2 =>
      rw [hg] at h
      dsimp only at h
      intro H2 Hv2 n2
      refine ⟨fr2, Hv2, n2.rel, ?_⟩
      cases hu : u fr2 with
      | bad => rw [hu] at h; exact (hb h).elim
      | exc c fs fr3 =>
        rw [hu] at h
        exact fun dd H' Hv' n => hex _ _ _ h dd H' Hv' ((n1.trans n2).trans n)
      | ok hi fr3 =>
        rw [hu] at h
        exact fun H3 Hv3 n3 => hk x lo hi fr3 vx H3 Hv3 ((n1.trans n2).trans n3) ((r1.mono n2.ext).mono n3.ext) h
theorem d_sl (ha : DE X B W a f) (hl : DO X B W lo l) (hu : DO X B W hi u) (hK : X.K = B.G.K := by rfl) : DE X B W (.Subscript a (.Slice lo hi none p2) pos) (eSl f l u) := by
  refine pe_imp (pe_slice (sl_list.or (sl_tupA.or sl_str)) ha hl hu) fun σ H Q h => ?_
  obtain ⟨fr, Hv, R, h⟩ := h
  refine entSl (post := fun _ _ _ _ _ _ _ => True) R (P := fun r => PostE B W fr σ H Hv r Q) (fun c fs fr' h => h) (fun h => h) h fun x lo hi fr3 v H3 Hv3 n rx h => ?_
  split at h
  · next a ea =>
    cases hz : slF a lo hi with
    | none => rw [hz] at h; exact h.elim
    | some z =>
      rw [hz] at h
      unfold slF at hz
      split at hz
      · cases hz
        obtain ⟨p, vs, rfl, q, r⟩ := n.rel.list_of rx ea
        exact .inl ⟨p, vs, rfl, SqL.of q, fun t ht => lay_lst n.rel ht (cut_repL r) fun v H' Hv' m q => h v H' Hv' (n.trans m) (.of q)⟩
      · cases hz
        obtain ⟨p, vs, rfl, q, qv, r⟩ := n.rel.tup_of rx ea
        refine .inr (.inl ⟨p, vs, rfl, by rw [hK]; exact q, fun c => ?_, fun c t ht => lay_tup n.rel ht (cut_repL r) fun v H' Hv' m q => h v H' Hv' (n.trans m) (.of q)⟩)
        refine h _ H3 Hv3 n (.of ?_)
        rw [cut_whole (by rw [r.length] at c; exact c)]
        exact Rep.tup qv r
      · split at hz
        · next c =>
          cases hz
          rw [n.rel.str_of rx ea]
          exact .inr (.inr ⟨_, rfl, c, h _ H3 Hv3 n (.of repS)⟩)
        · cases hz
      · cases hz
  · exact h.elim
theorem d_slF (ha : DE X B W a f) (hl : DO X B W lo l) (hu : DO X B W hi u) (hK : X.K = B.G.K := by rfl) : DF X B W (.Subscript a (.Slice lo hi none p2) pos) (eSlF f l u) := by
  refine pe_imp (pe_slice sl_list ha hl hu) fun σ H Q h => ?_
  obtain ⟨fr, Hv, R, h⟩ := h
  refine entSl (post := fun _ _ _ _ _ _ _ => True) R (P := fun r => PostF B W fr σ H Hv r Q) (fun c fs fr' h => h) (fun h => h) h fun x lo hi fr3 v H3 Hv3 n rx h => ?_
  split at h
  · next a ea =>
    cases hz : slFL a lo hi with
    | none => rw [hz] at h; exact h.elim
    | some z =>
      rw [hz] at h
      unfold slFL at hz
      split at hz
      · cases hz
        obtain ⟨p, vs, rfl, q, r⟩ := n.rel.list_of rx ea
        exact ⟨p, vs, rfl, SqL.of q, fun t ht => lay_own n.rel ht (cut_repL r) fun q H' Hv' m hq => h q H' Hv' (n.trans m) (n.none R hq)⟩
      · cases hz
  · exact h.elim
end
/-! ### attributes of objects -/
def idx (n : Nat) : List Nat → List D → Option D
  | m :: ns, d :: ds => if m = n then some d else idx n ns ds
  | _, _ => none
def eAttr (cs : List Nat) (n : Nat) (f : Ev) : Ev := eOp1 (fun d => match d with
  | .obj c ns fs => if c ∈ cs then idx n ns fs else none
  | _ => none) f
theorem idx_lookup {G : SE} {H : Hp} {n : Nat} (inj : ∀ m, G.fld m = G.fld n → m = n) : ∀ {ns : List Nat} {fs : List D} {vs : List V} {d : D}, RepL G H fs vs → idx n ns fs = some d → ∃ v, ((ns.map G.fld).zip vs).lookup (G.fld n) = some v ∧ Rep G H d v
  | [], _, _, _, _, h => by simp [idx] at h
  | m :: ns, [], _, _, _, h => by simp [idx] at h
  | m :: ns, d' :: fs, vs, d, r, h => by
    obtain ⟨v, t, rfl, h1, h2⟩ := r.cons_inv
    rw [idx] at h
    by_cases e : m = n
    · rw [if_pos e] at h
      cases h
      refine ⟨v, ?_, h1⟩
      rw [List.map_cons, List.zip_cons_cons, e]
      simp [List.lookup]
    · rw [if_neg e] at h
      obtain ⟨v', e1, e2⟩ := idx_lookup inj h2 h
      refine ⟨v', ?_, e2⟩
      rw [List.map_cons, List.zip_cons_cons]
      have ne : (G.fld n == G.fld m) = false := by
        rw [beq_eq_false_iff_ne]
        exact fun z => e (inj m z.symm)
      simp only [List.lookup, ne]
      exact e1
section
variable {X : Cx} {B : Bd} {W : WX} {a : Expr} {f : Ev} {pos : Pos}
theorem obj_of {fr : Fr} {σ : L2.St} {H Hv : Hp} (R : Rel B fr σ H Hv) {d : D} {v : V} {c : Nat} {ns : List Nat} {fs : List D} (h : RepW B σ Hv d v) (hl : look fr d = some (.obj c ns fs)) :
    ∃ p dx vs, v = .ref p ∧ H p = some (.ins (B.G.cls c) dx ((ns.map B.G.fld).zip vs)) ∧ ns.length = vs.length ∧ RepL B.G Hv fs vs := by
  cases d with
  | var i =>
    obtain ⟨hm, hs⟩ := h
    obtain ⟨p, hs', hv, _, dx, vs, e, l, r⟩ := R.own i _ (look_var hl) hm
    rw [hs] at hs'
    cases hs'
    exact ⟨p, dx, vs, rfl, e, l, r⟩
  | obj c' ns' fs' =>
    have e : D.obj c' ns' fs' = .obj c ns fs := Option.some.inj hl
    cases e
    obtain ⟨p, dx, vs, rfl, q, l, r⟩ := Rep.obj_inv h
    exact ⟨p, dx, vs, rfl, R.sub _ _ q, l, r⟩
  | _ => cases hl
theorem d_attr {n : Nat} {x : Str} {cs : List Nat} (ha : DE X B W a f) (hx : x = B.G.fld n) (inj : ∀ m, B.G.fld m = B.G.fld n → m = n) (hc : ∀ c ∈ cs, Cls X.K (B.G.cls c) ∧ NoAttr X.K (B.G.cls c) x)
    (hb : attributeBase a x X.env (eval a X.env) = eval a X.env := by rfl) : DE X B W (.Attribute a x pos) (eAttr cs n f) := by
  refine pe_imp (pe_fld ha hb) fun σ H Q h => ?_
  have e := ent1 (r := fun x1 H1 Q => ∃ p C dx fs v, x1 = .ref p ∧ H1 p = some (.ins C dx fs) ∧ Cls X.K C ∧ NoAttr X.K C x ∧ fs.lookup x = some v ∧ Q v H1) ?_ h
  · exact e
  · intro fr σ H Hv y dy b z Q R ry hy hz k
    cases b with
    | obj c ns fs =>
      dsimp only at hz
      split at hz
      · next hcc =>
        obtain ⟨p, dx, vs, rfl, q, l, r⟩ := obj_of R ry hy
        obtain ⟨v, e1, e2⟩ := idx_lookup inj r hz
        obtain ⟨c1, c2⟩ := hc c hcc
        exact ⟨p, _, dx, _, v, rfl, q, c1, c2, by rw [hx]; exact e1, k v H Hv (.refl R) e2⟩
      · cases hz
    | _ => cases hz
end
/-! ### calls of built-ins -/
def CaS1 (B : Bd) (r : List V → Hp → VK → Prop) (F : D → Option D) : Prop := UnS B (fun x => r [x]) F
def CaF1 (B : Bd) (r : List V → Hp → VK → Prop) (F : D → Option D) : Prop := ∀ fr σ H Hv x dx a z (Q : VK), Rel B fr σ H Hv → RepW B σ Hv dx x → look fr dx = some a → F a = some z →
  (∀ p H' Hv', Nxt B fr σ H Hv fr H' Hv' → H p = none → Hv' p = none → Cell B.G H' Hv' p z → Q (.ref p) H') → r [x] H Q
def CaS2 (B : Bd) (r : List V → Hp → VK → Prop) (F : D → D → Option D) : Prop := OpS B (fun x y => r [x, y]) F
section
variable {X : Cx} {B : Bd} {W : WX} {a b : Expr} {f g : Ev} {pos p : Pos} {x : Str} {idn T : String} {r : List V → Hp → VK → Prop} {F : D → Option D} {F2 : D → D → Option D}
theorem entF1 {σ : L2.St} {H : Hp} {Q : VK} (hr : CaF1 B r F) (h : dTF B W (eOp1 F f) σ H Q) : tUn (fun x => r [x]) (dTE B W f) σ H Q := by
  obtain ⟨fr, Hv, R, h⟩ := h
  refine ⟨fr, Hv, R, ?_⟩
  unfold eOp1 at h
  cases hf : f fr with
  | bad => rw [hf] at h; exact h.elim
  | exc c fs fr1 => rw [hf] at h; exact h
  | ok x fr1 =>
    rw [hf] at h
    dsimp only [Res.bind] at h
    intro vx H1 Hv1 n1 r1
    cases hx : look fr1 x with
    | none => rw [hx] at h; exact h.elim
    | some a =>
      rw [hx] at h
      dsimp only at h
      cases hz : F a with
      | none => rw [hz] at h; exact h.elim
      | some z =>
        rw [hz] at h
        exact hr fr1 σ H1 Hv1 vx x a z Q n1.rel r1 hx hz fun p H' Hv' n hp q => h p H' Hv' (n1.trans n) (n1.none R hp) q
theorem d_b1 (hs : CaS1 B r F) (hc : CallR X (.builtin idn) r) (hm : X.mg x = none) (ha : DE X B W a f) (hv : bootBuiltins x = some (.builtin idn) := by decide +kernel) (hg : Gl X x := by rfl) (hn : x ≠ "__name__" := by decide) (hdb : (x == ("__debug__" : Str)) = false := by decide)
    (he : starEach [a] X.env = (false, eval a X.env) :: starEach [] X.env := by rfl) (hpl : (backTo pos (starEach [] X.env)).any (·.1) = false := by rfl) : DE X B W (.Call (.Name x p) [a] [] pos) (eOp1 F f) :=
  pe_imp (pe_callB hc hg hm hv (pa_cons ha pa_nil he) hn hdb he hpl) fun _ _ _ h => ent1 hs h
theorem d_t1 (hs : CaS1 B r F) (hc : CallR X (.type T) r) (hm : X.mg x = none) (ha : DE X B W a f) (hv : bootBuiltins x = some (.type T) := by decide +kernel) (hg : Gl X x := by rfl) (hn : x ≠ "__name__" := by decide) (hdb : (x == ("__debug__" : Str)) = false := by decide)
    (he : starEach [a] X.env = (false, eval a X.env) :: starEach [] X.env := by rfl) (hpl : (backTo pos (starEach [] X.env)).any (·.1) = false := by rfl) : DE X B W (.Call (.Name x p) [a] [] pos) (eOp1 F f) :=
  pe_imp (pe_callTy hc hg hm hv (pa_cons ha pa_nil he) hn hdb he hpl) fun _ _ _ h => ent1 hs h
theorem d_b1F (hs : CaF1 B r F) (hc : CallR X (.builtin idn) r) (hm : X.mg x = none) (ha : DE X B W a f) (hv : bootBuiltins x = some (.builtin idn) := by decide +kernel) (hg : Gl X x := by rfl) (hn : x ≠ "__name__" := by decide) (hdb : (x == ("__debug__" : Str)) = false := by decide)
    (he : starEach [a] X.env = (false, eval a X.env) :: starEach [] X.env := by rfl) (hpl : (backTo pos (starEach [] X.env)).any (·.1) = false := by rfl) : DF X B W (.Call (.Name x p) [a] [] pos) (eOp1 F f) :=
  pe_imp (pe_callB hc hg hm hv (pa_cons ha pa_nil he) hn hdb he hpl) fun _ _ _ h => entF1 hs h
theorem d_t1F (hs : CaF1 B r F) (hc : CallR X (.type T) r) (hm : X.mg x = none) (ha : DE X B W a f) (hv : bootBuiltins x = some (.type T) := by decide +kernel) (hg : Gl X x := by rfl) (hn : x ≠ "__name__" := by decide) (hdb : (x == ("__debug__" : Str)) = false := by decide)
    (he : starEach [a] X.env = (false, eval a X.env) :: starEach [] X.env := by rfl) (hpl : (backTo pos (starEach [] X.env)).any (·.1) = false := by rfl) : DF X B W (.Call (.Name x p) [a] [] pos) (eOp1 F f) :=
  pe_imp (pe_callTy hc hg hm hv (pa_cons ha pa_nil he) hn hdb he hpl) fun _ _ _ h => entF1 hs h
theorem d_b2 (hs : CaS2 B r F2) (hc : CallR X (.builtin idn) r) (hm : X.mg x = none) (ha : DE X B W a f) (hb : DE X B W b g) (hv : bootBuiltins x = some (.builtin idn) := by decide +kernel) (hg : Gl X x := by rfl) (hn : x ≠ "__name__" := by decide) (hdb : (x == ("__debug__" : Str)) = false := by decide)
    (he2 : starEach [b] X.env = (false, eval b X.env) :: starEach [] X.env := by rfl) (he : starEach [a, b] X.env = (false, eval a X.env) :: starEach [b] X.env := by rfl) (hpl : (backTo pos (starEach [b] X.env)).any (·.1) = false := by rfl) : DE X B W (.Call (.Name x p) [a, b] [] pos) (eOp2 F2 f g) :=
  pe_imp (pe_callB hc hg hm hv (pa_cons ha (pa_cons hb pa_nil he2) he) hn hdb he hpl) fun _ _ _ h => ent2 hs h
def lenF : D → Option D
  | .str x => if x.length ≤ sizeLine then some (.int x.length) else none
  | .tup ds => some (.int ds.length)
  | .lst ds => some (.int ds.length)
  | .scr ns => some (.int ns.length)
  | _ => none
theorem cas_len (hK : X.K = B.G.K) : CaS1 B (fun xs H Q => ∃ x n, xs = [x] ∧ LenV X.K x H n ∧ Q (.int n) H) lenF := by
  intro fr σ H Hv x dx a z Q R rx hx hz k
  unfold lenF at hz
  split at hz
  · split at hz
    · next c =>
      cases hz
      rw [R.str_of rx hx]
      exact ⟨_, _, rfl, ⟨c, rfl⟩, k _ H Hv (.refl R) repI⟩
    · cases hz
  · cases hz
    obtain ⟨p, vs, rfl, q, _, r⟩ := R.tup_of rx hx
    refine ⟨_, _, rfl, .inr ⟨vs, by rw [hK]; exact q, rfl⟩, k _ H Hv (.refl R) (by rw [r.length]; exact repI)⟩
  · cases hz
    obtain ⟨p, vs, rfl, q, r⟩ := R.list_of rx hx
    refine ⟨_, _, rfl, .inl ⟨vs, SqL.of q, rfl⟩, k _ H Hv (.refl R) (by rw [r.length]; exact repI)⟩
  · cases hz
    obtain ⟨p, rfl, q⟩ := Rep.scr_inv (look_scalar R rx hx rfl)
    refine ⟨_, _, rfl, .inl ⟨_, by rw [hK]; exact R.sub.sql q, rfl⟩, k _ H Hv (.refl R) (by rw [List.length_map]; exact repI)⟩
  · cases hz
def intF : D → Option D
  | .int i => some (.int i)
  | .bl b => some (.int (if b then 1 else 0))
  | .str x => if x.length ≤ 640 then (PySem.intText? x).map D.int else none
  | _ => none
theorem cas_int : CaS1 B (fun xs H Q => ((∃ i, xs = [.int i] ∧ Q (.int i) H) ∨ ∃ k, xs = [.bl k] ∧ Q (.int (if k then 1 else 0)) H) ∨ ∃ a n, xs = [.str a] ∧ PySem.intText? a = some n ∧ a.length ≤ 640 ∧ Q (.int n) H) intF := by
  intro fr σ H Hv x dx a z Q R rx hx hz k
  unfold intF at hz
  split at hz
  · cases hz
    rw [R.int_of rx hx]
    exact .inl (.inl ⟨_, rfl, k _ H Hv (.refl R) repI⟩)
  · cases hz
    rw [R.bl_of rx hx]
    exact .inl (.inr ⟨_, rfl, k _ H Hv (.refl R) repI⟩)
  · split at hz
    · next c =>
      simp only [Option.map_eq_some_iff] at hz
      obtain ⟨n, e, rfl⟩ := hz
      rw [R.str_of rx hx]
      exact .inr ⟨_, n, rfl, e, c, k _ H Hv (.refl R) repI⟩
    · cases hz
  · cases hz
theorem call_intA : CallR X (.type "int") (fun xs H Q => ((∃ i, xs = [.int i] ∧ Q (.int i) H) ∨ ∃ k, xs = [.bl k] ∧ Q (.int (if k then 1 else 0)) H) ∨ ∃ a n, xs = [.str a] ∧ PySem.intText? a = some n ∧ a.length ≤ 640 ∧ Q (.int n) H) := by
  intro pins s σ H xs us Q I r h
  rcases h with h | h
  · exact call_int1 pins s σ H xs us Q I r h
  · exact call_int_str pins s σ H xs us Q I r h
def absF : D → Option D
  | .int i => some (.int (if i < 0 then -i else i))
  | _ => none
theorem cas_abs : CaS1 B (fun xs H Q => ∃ i, xs = [.int i] ∧ Q (.int (if i < 0 then -i else i)) H) absF := by
  intro fr σ H Hv x dx a z Q R rx hx hz k
  unfold absF at hz
  split at hz
  · cases hz
    rw [R.int_of rx hx]
    exact ⟨_, rfl, k _ H Hv (.refl R) repI⟩
  · cases hz
def min2F : D → D → Option D
  | .int i, .int j => some (.int (if j < i then j else i))
  | _, _ => none
def max2F : D → D → Option D
  | .int i, .int j => some (.int (if j > i then j else i))
  | _, _ => none
theorem cas_min2 : CaS2 B (fun xs H Q => ∃ i j, xs = [.int i, .int j] ∧ Q (.int (if j < i then j else i)) H) min2F := ops_ints (ints_of fun x y h => by cases x <;> cases y <;> first | rfl | exact absurd ⟨rfl, rfl⟩ (h _ _)) fun i j z H Q e k => by
  cases e
  exact ⟨i, j, rfl, k _ repI⟩
theorem cas_max2 : CaS2 B (fun xs H Q => ∃ i j, xs = [.int i, .int j] ∧ Q (.int (if j > i then j else i)) H) max2F := ops_ints (ints_of fun x y h => by cases x <;> cases y <;> first | rfl | exact absurd ⟨rfl, rfl⟩ (h _ _)) fun i j z H Q e k => by
  cases e
  exact ⟨i, j, rfl, k _ repI⟩
def strF : D → Option D
  | .int i => if i.natAbs.log2 < 1920 then some (.str (toString i)) else none
  | _ => none
theorem cas_str : CaS1 B (fun xs H Q => ∃ i, xs = [.int i] ∧ i.natAbs.log2 < 1920 ∧ Q (.str (toString i)) H) strF := by
  intro fr σ H Hv x dx a z Q R rx hx hz k
  unfold strF at hz
  split at hz
  · split at hz
    · next c =>
      cases hz
      rw [R.int_of rx hx]
      exact ⟨_, rfl, c, k _ H Hv (.refl R) repS⟩
    · cases hz
  · cases hz
def tupF : D → Option D
  | .lst ds => some (.tup ds)
  | .tup ds => some (.tup ds)
  | _ => none
theorem cas_tup (hK : X.K = B.G.K) : CaS1 B (fun xs H Q => ∃ p ys, xs = [.ref p] ∧ ((SqL X.K H p ys ∧ ∀ l, H l = none → Q (.ref l) (upd H l (.tup ys))) ∨ (SqT X.K H p ys ∧ Q (.ref p) H))) tupF := by
  intro fr σ H Hv x dx a z Q R rx hx hz k
  unfold tupF at hz
  split at hz
  · cases hz
    obtain ⟨p, vs, rfl, q, r⟩ := R.list_of rx hx
    exact ⟨p, vs, rfl, .inl ⟨SqL.of q, fun t ht => lay_tup R ht r k⟩⟩
  · cases hz
    obtain ⟨p, vs, rfl, q, qv, r⟩ := R.tup_of rx hx
    exact ⟨p, vs, rfl, .inr ⟨by rw [hK]; exact q, k _ H Hv (.refl R) (Rep.tup qv r)⟩⟩
  · cases hz
def lstF : D → Option D
  | .lst ds => some (.lst ds)
  | .tup ds => some (.lst ds)
  | _ => none
theorem caf_lst (hK : X.K = B.G.K) : CaF1 B (fun xs H Q => ∃ p ys, xs = [.ref p] ∧ (SqL X.K H p ys ∨ SqT X.K H p ys) ∧ ∀ l, H l = none → Q (.ref l) (upd H l (.lst ys))) lstF := by
  intro fr σ H Hv x dx a z Q R rx hx hz k
  unfold lstF at hz
  split at hz
  · cases hz
    obtain ⟨p, vs, rfl, q, r⟩ := R.list_of rx hx
    exact ⟨p, vs, rfl, .inl (SqL.of q), fun t ht => lay_own R ht r k⟩
  · cases hz
    obtain ⟨p, vs, rfl, q, qv, r⟩ := R.tup_of rx hx
    exact ⟨p, vs, rfl, .inr (by rw [hK]; exact q), fun t ht => lay_own R ht r k⟩
  · cases hz
def blsOf : List D → Option (List Bool)
  | [] => some []
  | .bl b :: ds => (blsOf ds).map (b :: ·)
  | _ => none
theorem bls_rep {G : SE} {H : Hp} : ∀ {ds : List D} {vs : List V} {bs : List Bool}, RepL G H ds vs → blsOf ds = some bs → vs = bs.map V.bl
  | [], vs, bs, r, e => by
    rw [r.nil_inv]
    cases e
    rfl
  | d :: ds, vs, bs, r, e => by
    obtain ⟨v, t, rfl, h1, h2⟩ := r.cons_inv
    cases d with
    | bl b =>
      simp only [blsOf, Option.map_eq_some_iff] at e
      obtain ⟨cs, e1, rfl⟩ := e
      rw [Rep.bl_iff.mp h1, bls_rep h2 e1]
      rfl
    | _ => simp [blsOf] at e
def allF : D → Option D
  | .lst ds => (blsOf ds).map fun bs => .bl (bs.all id)
  | _ => none
def anyF : D → Option D
  | .lst ds => (blsOf ds).map fun bs => .bl (bs.any id)
  | _ => none
theorem cas_all (hK : X.K = B.G.K) : CaS1 B (rAll X.K) allF := by
  intro fr σ H Hv x dx a z Q R rx hx hz k
  unfold allF at hz
  split at hz
  · simp only [Option.map_eq_some_iff] at hz
    obtain ⟨bs, e, rfl⟩ := hz
    obtain ⟨p, vs, rfl, q, r⟩ := R.list_of rx hx
    have ev := bls_rep r e
    subst ev
    exact ⟨p, bs, rfl, SqL.of q, k _ H Hv (.refl R) repB⟩
  · cases hz
theorem cas_any (hK : X.K = B.G.K) : CaS1 B (rAny X.K) anyF := by
  intro fr σ H Hv x dx a z Q R rx hx hz k
  unfold anyF at hz
  split at hz
  · simp only [Option.map_eq_some_iff] at hz
    obtain ⟨bs, e, rfl⟩ := hz
    obtain ⟨p, vs, rfl, q, r⟩ := R.list_of rx hx
    have ev := bls_rep r e
    subst ev
    exact ⟨p, bs, rfl, SqL.of q, k _ H Hv (.refl R) repB⟩
  · cases hz
def intsOf : List D → Option (List Int)
  | [] => some []
  | .int b :: ds => (intsOf ds).map (b :: ·)
  | _ => none
theorem ints_rep {G : SE} {H : Hp} : ∀ {ds : List D} {vs : List V} {bs : List Int}, RepL G H ds vs → intsOf ds = some bs → vs = bs.map V.int
  | [], vs, bs, r, e => by
    rw [r.nil_inv]
    cases e
    rfl
  | d :: ds, vs, bs, r, e => by
    obtain ⟨v, t, rfl, h1, h2⟩ := r.cons_inv
    cases d with
    | int b =>
      simp only [intsOf, Option.map_eq_some_iff] at e
      obtain ⟨cs, e1, rfl⟩ := e
      rw [Rep.int_iff.mp h1, ints_rep h2 e1]
      rfl
    | _ => simp [intsOf] at e
def sumF : D → Option D
  | .lst ds => (intsOf ds).map fun bs => .int bs.sum
  | _ => none
theorem cas_sum (hK : X.K = B.G.K) : CaS1 B (rSum X.K) sumF := by
  intro fr σ H Hv x dx a z Q R rx hx hz k
  unfold sumF at hz
  split at hz
  · simp only [Option.map_eq_some_iff] at hz
    obtain ⟨bs, e, rfl⟩ := hz
    obtain ⟨p, vs, rfl, q, r⟩ := R.list_of rx hx
    have ev := ints_rep r e
    subst ev
    exact ⟨p, bs, rfl, SqL.of q, k _ H Hv (.refl R) repI⟩
  · cases hz
end
end KS
namespace KS
open PySem PySem.Spec L2
/-! ### what a def promises -/
def ioA (ms : List Bool) (vs : List V) (a : Addr) : Prop := ∃ i : Nat, ms[i]? = some true ∧ vs[i]? = some (V.ref a)
structure Start (G : SE) (ms : List Bool) (ds : List D) (vs : List V) (H Hv : Hp) : Prop where
  sub : Sub Hv H
  tab : ∀ P ∈ G.tabs, TabH H P ∧ Hv P = none
  lend : ds.length = ms.length
  lenv : vs.length = ms.length
  val : ∀ (i : Nat) (d : D), ms[i]? = some false → ds[i]? = some d → ∃ v, vs[i]? = some v ∧ Rep G Hv d v
  own : ∀ (i : Nat) (d : D), ms[i]? = some true → ds[i]? = some d → ∃ a, vs[i]? = some (.ref a) ∧ Hv a = none ∧ Cell G H Hv a d
  sep : ∀ (i j : Nat) (a : Addr), i ≠ j → ms[i]? = some true → ms[j]? = some true → vs[i]? = some (.ref a) → vs[j]? ≠ some (.ref a)
structure FinC (G : SE) (ms : List Bool) (outs : List D) (vs : List V) (H Hv H' Hv' : Hp) : Prop where
  sub : Sub Hv' H'
  ext : Sub Hv Hv'
  new : ∀ b o, Hv' b = some o → Hv b = some o ∨ NewOk H b o
  keep : ∀ b o, H b = some o → ¬ ioA ms vs b → b ∉ G.tabs → H' b = some o
  tab : ∀ P ∈ G.tabs, TabH H' P ∧ Hv' P = none
  io : ∀ (i : Nat) (a : Addr), ms[i]? = some true → vs[i]? = some (.ref a) → Hv' a = none ∧ ∃ d, outs[i]? = some d ∧ Cell G H' Hv' a d
def RetR (rf : Bool) (G : SE) (H H' Hv' : Hp) (d : D) (v : V) : Prop :=
  if rf = true then ∃ p, v = .ref p ∧ H p = none ∧ Hv' p = none ∧ Cell G H' Hv' p d else Rep G Hv' d v
def PostC (G : SE) (ms : List Bool) (rf : Bool) (vs : List V) (H Hv : Hp) (r : Res (List D) D) (Q : VK) (E : XK) : Prop :=
  match r with
  | .ok d outs => ∀ v H' Hv', FinC G ms outs vs H Hv H' Hv' → RetR rf G H H' Hv' d v → Q v H'
  | .exc c fs outs => ∀ dd H' Hv', FinC G ms outs vs H Hv H' Hv' → ExcAt G H' Hv' c fs dd → E (.ref (G.ecls c)) (some dd) H'
  | .bad => False
def spOf (G : SE) (ms : List Bool) (rf : Bool) (F : Fn) : Sp := fun vs H Q E => ∃ ds Hv, Start G ms ds vs H Hv ∧ PostC G ms rf vs H Hv (F ds) Q E
/-! ### a call -/
def argC (fr : Fr) : List Bool → List D → Option (List D)
  | [], [] => some []
  | true :: ms, .var i :: ds => match fr[i]? with
    | some (some c) => if isCell c = true then (argC fr ms ds).map (c :: ·) else none
    | _ => none
  | false :: ms, d :: ds => if pers d = true then (argC fr ms ds).map (d :: ·) else none
  | _, _ => none
def ioV : List Bool → List D → List Nat
  | true :: ms, .var i :: ds => i :: ioV ms ds
  | _ :: ms, _ :: ds => ioV ms ds
  | _, _ => []
def ioP : List Bool → List D → List D → List (Nat × D)
  | true :: ms, .var i :: ds, o :: os => (i, o) :: ioP ms ds os
  | _ :: ms, _ :: ds, _ :: os => ioP ms ds os
  | _, _, _ => []
def setP (fr : Fr) : List (Nat × D) → Fr
  | [] => fr
  | (i, d) :: r => setP (fr.set i (some d)) r
def eCall (ms : List Bool) (F : Fn) (g : Av) : Ev := fun fr => (g fr).bind fun ds fr1 => match argC fr1 ms ds with
  | none => .bad
  | some cs => if (ioV ms ds).Nodup then (match F cs with
    | .ok d outs => if outs.length = ms.length then .ok d (setP fr1 (ioP ms ds outs)) else .bad
    | .exc c fs outs => if outs.length = ms.length then .exc c fs (setP fr1 (ioP ms ds outs)) else .bad
    | .bad => .bad) else .bad
theorem setP_length : ∀ {ps : List (Nat × D)} {fr : Fr}, (setP fr ps).length = fr.length
  | [], _ => rfl
  | (i, d) :: r, fr => by rw [setP, setP_length, List.length_set]
theorem setP_out : ∀ {ps : List (Nat × D)} {fr : Fr} {j : Nat}, j ∉ ps.map (·.1) → (setP fr ps)[j]? = fr[j]?
  | [], _, _, _ => rfl
  | (i, d) :: r, fr, j, h => by
    rw [List.map_cons, List.mem_cons, not_or] at h
    rw [setP, setP_out h.2, List.getElem?_set_ne (Ne.symm h.1)]
theorem setP_in : ∀ {ps : List (Nat × D)} {fr : Fr} {j : Nat} {d : D}, (ps.map (·.1)).Nodup → (j, d) ∈ ps → j < fr.length → (setP fr ps)[j]? = some (some d)
  | [], _, _, _, _, h, _ => by cases h
  | (i, e) :: r, fr, j, d, nd, h, hl => by
    rw [List.map_cons, List.nodup_cons] at nd
    rw [setP]
    rcases List.mem_cons.mp h with q | q
    · cases q
      rw [setP_out nd.1, List.getElem?_set_self hl]
    · exact setP_in nd.2 q (by rw [List.length_set]; exact hl)
theorem argC_length {fr : Fr} : ∀ {ms : List Bool} {ds cs : List D}, argC fr ms ds = some cs → ds.length = ms.length ∧ cs.length = ms.length
  | [], [], cs, h => by cases h; exact ⟨rfl, rfl⟩
  | [], d :: ds, cs, h => by simp [argC] at h
  | true :: ms, [], cs, h => by simp [argC] at h
  | false :: ms, [], cs, h => by simp [argC] at h
  | true :: ms, d :: ds, cs, h => by
    cases d with
    | var i =>
      simp only [argC] at h
      split at h
      · split at h
        · simp only [Option.map_eq_some_iff] at h
          obtain ⟨cs', e, rfl⟩ := h
          obtain ⟨a, b⟩ := argC_length e
          exact ⟨by rw [List.length_cons, List.length_cons, a], by rw [List.length_cons, List.length_cons, b]⟩
        · cases h
      · cases h
    | _ => simp [argC] at h
  | false :: ms, d :: ds, cs, h => by
    simp only [argC] at h
    split at h
    · simp only [Option.map_eq_some_iff] at h
      obtain ⟨cs', e, rfl⟩ := h
      obtain ⟨a, b⟩ := argC_length e
      exact ⟨by rw [List.length_cons, List.length_cons, a], by rw [List.length_cons, List.length_cons, b]⟩
    · cases h
theorem argC_get {fr : Fr} : ∀ {ms : List Bool} {ds cs : List D}, argC fr ms ds = some cs → ∀ {k : Nat} {d : D}, ds[k]? = some d →
    (ms[k]? = some true → ∃ i c, d = .var i ∧ (fr[i]? = some (some c) ∧ isCell c = true) ∧ cs[k]? = some c) ∧ (ms[k]? = some false → pers d = true ∧ cs[k]? = some d)
  | [], [], cs, h, k, d, e => by simp at e
  | [], d :: ds, cs, h, _, _, _ => by simp [argC] at h
  | true :: ms, [], cs, h, _, _, _ => by simp [argC] at h
  | false :: ms, [], cs, h, _, _, _ => by simp [argC] at h
  | true :: ms, d :: ds, cs, h, k, d', e => by
    cases d with
    | var i =>
      simp only [argC] at h
      split at h
      · next c hc =>
        split at h
        · next cc =>
          simp only [Option.map_eq_some_iff] at h
          obtain ⟨cs', e', rfl⟩ := h
          cases k with
          | zero =>
            have : D.var i = d' := by simpa using e
            subst this
            exact ⟨fun _ => ⟨i, c, rfl, ⟨hc, cc⟩, rfl⟩, fun z => by simp at z⟩
          | succ k => simpa using argC_get e' (k := k) (d := d') (by simpa using e)
        · cases h
      · cases h
    | _ => simp [argC] at h
  | false :: ms, d :: ds, cs, h, k, d', e => by
    simp only [argC] at h
    split at h
    · next c =>
      simp only [Option.map_eq_some_iff] at h
      obtain ⟨cs', e', rfl⟩ := h
      cases k with
      | zero =>
        have : d = d' := by simpa using e
        subst this
        exact ⟨fun z => by simp at z, fun _ => ⟨c, rfl⟩⟩
      | succ k => simpa using argC_get e' (k := k) (d := d') (by simpa using e)
    · cases h
theorem ioP_map : ∀ {ms : List Bool} {ds os : List D}, os.length = ms.length → (ioP ms ds os).map (·.1) = ioV ms ds
  | [], [], _, _ => by simp [ioP, ioV]
  | [], _ :: _, _, _ => by simp [ioP, ioV]
  | true :: ms, [], os, h => by cases os <;> simp [ioP, ioV]
  | false :: ms, [], os, h => by cases os <;> simp [ioP, ioV]
  | m :: ms, d :: ds, [], h => by simp at h
  | true :: ms, d :: ds, o :: os, h => by
    have ih := ioP_map (ms := ms) (ds := ds) (os := os) (by simpa using h)
    cases d <;> simp [ioP, ioV, ih]
  | false :: ms, d :: ds, o :: os, h => by
    have ih := ioP_map (ms := ms) (ds := ds) (os := os) (by simpa using h)
    cases d <;> simp [ioP, ioV, ih]
theorem ioP_mem : ∀ {ms : List Bool} {ds os : List D} {i : Nat} {o : D}, (i, o) ∈ ioP ms ds os → ∃ k : Nat, ms[k]? = some true ∧ ds[k]? = some (.var i) ∧ os[k]? = some o
  | [], _, _, _, _, h => by simp [ioP] at h
  | m :: ms, [], os, i, o, h => by
    cases m <;> cases os <;> simp [ioP] at h
  | m :: ms, d :: ds, [], i, o, h => by
    cases m <;> cases d <;> simp [ioP] at h
  | false :: ms, d :: ds, o' :: os, i, o, h => by
    have h' : (i, o) ∈ ioP ms ds os := by cases d <;> simpa [ioP] using h
    obtain ⟨k, a, b, c⟩ := ioP_mem h'
    exact ⟨k + 1, by simpa using a, by simpa using b, by simpa using c⟩
  | true :: ms, d :: ds, o' :: os, i, o, h => by
    have sub : (i, o) ∈ ioP ms ds os → ∃ k : Nat, (true :: ms)[k]? = some true ∧ (d :: ds)[k]? = some (.var i) ∧ (o' :: os)[k]? = some o := fun h' => by
      obtain ⟨k, a, b, c⟩ := ioP_mem h'
      exact ⟨k + 1, by simpa using a, by simpa using b, by simpa using c⟩
    cases d with
    | var j =>
      simp only [ioP, List.mem_cons] at h
      rcases h with q | q
      · cases q
        exact ⟨0, rfl, rfl, rfl⟩
      · exact sub q
    | _ => exact sub (by simpa [ioP] using h)
theorem ioV_mem : ∀ {ms : List Bool} {ds : List D} {i : Nat}, i ∈ ioV ms ds ↔ ∃ k : Nat, ms[k]? = some true ∧ ds[k]? = some (.var i)
  | [], ds, i => by simp [ioV]
  | m :: ms, [], i => by cases m <;> simp [ioV]
  | false :: ms, d :: ds, i => by
    have ih := ioV_mem (ms := ms) (ds := ds) (i := i)
    have e : ioV (false :: ms) (d :: ds) = ioV ms ds := by cases d <;> rfl
    rw [e, ih]
    constructor
    · rintro ⟨k, a, b⟩; exact ⟨k + 1, by simpa using a, by simpa using b⟩
    · rintro ⟨k, a, b⟩
      cases k with
      | zero => simp at a
      | succ k => exact ⟨k, by simpa using a, by simpa using b⟩
  | true :: ms, d :: ds, i => by
    have ih := ioV_mem (ms := ms) (ds := ds) (i := i)
    have up : (∃ k : Nat, (true :: ms)[k]? = some true ∧ (d :: ds)[k]? = some (.var i)) ↔ d = .var i ∨ ∃ k : Nat, ms[k]? = some true ∧ ds[k]? = some (.var i) := by
      constructor
      · rintro ⟨k, a, b⟩
        cases k with
        | zero => exact .inl (by simpa using b)
        | succ k => exact .inr ⟨k, by simpa using a, by simpa using b⟩
      · rintro (e | ⟨k, a, b⟩)
        · exact ⟨0, rfl, by simp [e]⟩
        · exact ⟨k + 1, by simpa using a, by simpa using b⟩
    rw [up, ← ih]
    cases d with
    | var j =>
      simp only [ioV, List.mem_cons, D.var.injEq]
      constructor
      · rintro (e | e)
        · exact .inl e.symm
        · exact .inr e
      · rintro (e | e)
        · exact .inl e.symm
        · exact .inr e
    | _ => simp [ioV]
theorem repWs_get {B : Bd} {σ : L2.St} {Hv : Hp} : ∀ {ds : List D} {vs : List V}, RepWs B σ Hv ds vs → ∀ {k : Nat} {d : D}, ds[k]? = some d → ∃ v, vs[k]? = some v ∧ RepW B σ Hv d v
  | [], _, _, k, d, e => by simp at e
  | d :: ds, _, ⟨v, r, e, h1, h2⟩, 0, d', e' => by
    have : d = d' := by simpa using e'
    subst this
    exact ⟨v, by rw [e]; rfl, h1⟩
  | d :: ds, _, ⟨v, r, e, h1, h2⟩, k + 1, d', e' => by
    obtain ⟨u, a, b⟩ := repWs_get h2 (k := k) (d := d') (by simpa using e')
    exact ⟨u, by rw [e]; simpa using a, b⟩
section
variable {B : Bd} {fr : Fr} {σ : L2.St} {H Hv H' Hv' : Hp} {ms : List Bool} {ds cs outs : List D} {vs : List V}
theorem start_of (R : Rel B fr σ H Hv) (r : RepWs B σ Hv ds vs) (ha : argC fr ms ds = some cs) (nd : (ioV ms ds).Nodup) : Start B.G ms cs vs H Hv where
  sub := R.sub
  tab := R.tab
  lend := (argC_length ha).2
  lenv := by rw [repWs_length r, (argC_length ha).1]
  val := fun k d hm hd => by
    have hk : k < ds.length := by
      rw [(argC_length ha).1]
      exact (List.getElem?_eq_some_iff.mp hm).1
    have e1 : ds[k]? = some ds[k] := List.getElem?_eq_getElem hk
    obtain ⟨p, q⟩ := (argC_get ha e1).2 hm
    rw [hd] at q
    cases q
    obtain ⟨v, a, b⟩ := repWs_get r e1
    exact ⟨v, a, b.rep fun i z => by rw [z] at p; cases p⟩
  own := fun k d hm hd => by
    have hk : k < ds.length := by
      rw [(argC_length ha).1]
      exact (List.getElem?_eq_some_iff.mp hm).1
    have e1 : ds[k]? = some ds[k] := List.getElem?_eq_getElem hk
    obtain ⟨i, c, ei, hc, q⟩ := (argC_get ha e1).1 hm
    rw [hd] at q
    cases q
    obtain ⟨v, a, b⟩ := repWs_get r e1
    rw [ei] at b
    obtain ⟨hi, hs⟩ := b
    obtain ⟨p, hs', hv, _, hcell⟩ := R.own i _ hc hi
    rw [hs] at hs'
    cases hs'
    exact ⟨p, a, hv, hcell⟩
  sep := fun k l p hkl hk hl e1 e2 => by
    have hk' : k < ds.length := by
      rw [(argC_length ha).1]
      exact (List.getElem?_eq_some_iff.mp hk).1
    have hl' : l < ds.length := by
      rw [(argC_length ha).1]
      exact (List.getElem?_eq_some_iff.mp hl).1
    have d1 : ds[k]? = some ds[k] := List.getElem?_eq_getElem hk'
    have d2 : ds[l]? = some ds[l] := List.getElem?_eq_getElem hl'
    obtain ⟨i, c, ei, hc, _⟩ := (argC_get ha d1).1 hk
    obtain ⟨j, c2, ej, hc2, _⟩ := (argC_get ha d2).1 hl
    obtain ⟨v, a, b⟩ := repWs_get r d1
    obtain ⟨v2, a2, b2⟩ := repWs_get r d2
    rw [e1] at a
    cases a
    rw [e2] at a2
    cases a2
    rw [ei] at b d1
    rw [ej] at b2 d2
    have hij : i ≠ j := fun z => by
      subst z
      -- the same slot twice
      have key : ∀ {ms : List Bool} {ds : List D} {k l : Nat}, (ioV ms ds).Nodup → k ≠ l → ms[k]? = some true → ms[l]? = some true → ds[k]? = some (.var i) → ds[l]? = some (.var i) → False := by
        intro ms
        induction ms with
        | nil => intro ds k l _ _ h; simp at h
        | cons m ms ih =>
          intro ds k l nd hne hk hl h1 h2
          cases ds with
          | nil => simp at h1
          | cons d ds =>
            have nd2 : (ioV ms ds).Nodup := by
              cases m with
              | false => cases d <;> exact nd
              | true =>
                cases d with
                | var q => exact (List.nodup_cons.mp nd).2
                | _ => exact nd
            cases k with
            | zero =>
              cases l with
              | zero => exact hne rfl
              | succ l =>
                have em : m = true := by simpa using hk
                have ed : d = .var i := by simpa using h1
                subst em ed
                exact (List.nodup_cons.mp nd).1 (ioV_mem.mpr ⟨l, by simpa using hl, by simpa using h2⟩)
            | succ k =>
              cases l with
              | zero =>
                have em : m = true := by simpa using hl
                have ed : d = .var i := by simpa using h2
                subst em ed
                exact (List.nodup_cons.mp nd).1 (ioV_mem.mpr ⟨k, by simpa using hk, by simpa using h1⟩)
              | succ l => exact ih nd2 (fun z => hne (congrArg Nat.succ z)) (by simpa using hk) (by simpa using hl) (by simpa using h1) (by simpa using h2)
      exact key nd hkl hk hl d1 d2
    exact R.sep i j p c c2 b.1 b2.1 hij hc hc2 b.2 b2.2
theorem ioA_own (R : Rel B fr σ H Hv) (r : RepWs B σ Hv ds vs) (ha : argC fr ms ds = some cs) {b : Addr} (h : ioA ms vs b) : ∃ (k i : Nat) (c : D), ms[k]? = some true ∧ ds[k]? = some (D.var i) ∧ vs[k]? = some (.ref b) ∧ i ∈ B.M ∧ (fr[i]? = some (some c) ∧ isCell c = true) ∧ σ[i]? = some (some (.ref b)) := by
  obtain ⟨k, hm, hv⟩ := h
  have hk : k < ds.length := by
    rw [(argC_length ha).1]
    exact (List.getElem?_eq_some_iff.mp hm).1
  have e1 : ds[k]? = some ds[k] := List.getElem?_eq_getElem hk
  obtain ⟨i, c, ei, hc, _⟩ := (argC_get ha e1).1 hm
  obtain ⟨v, a, b⟩ := repWs_get r e1
  rw [hv] at a
  cases a
  rw [ei] at b e1
  exact ⟨k, i, c, hm, e1, hv, b.1, hc, b.2⟩
theorem nxt_call (R : Rel B fr σ H Hv) (r : RepWs B σ Hv ds vs) (ha : argC fr ms ds = some cs) (nd : (ioV ms ds).Nodup) (hl : outs.length = ms.length) (f : FinC B.G ms outs vs H Hv H' Hv') :
    Nxt B fr σ H Hv (setP fr (ioP ms ds outs)) H' Hv' := by
  have hmap := ioP_map (ds := ds) hl
  have ndp : ((ioP ms ds outs).map (·.1)).Nodup := by rw [hmap]; exact nd
  have assigned : ∀ {i : Nat}, i ∈ ioV ms ds → i ∈ B.M ∧ ∃ c, fr[i]? = some (some c) ∧ isCell c = true := fun {i} hi => by
    obtain ⟨k, hm, hd⟩ := ioV_mem.mp hi
    obtain ⟨j, c, ej, hc, _⟩ := (argC_get ha hd).1 hm
    cases ej
    obtain ⟨v, _, b⟩ := repWs_get r hd
    exact ⟨b.1, c, hc⟩
  have get : ∀ {i : Nat} {d : D}, (setP fr (ioP ms ds outs))[i]? = some (some d) → (∃ k : Nat, ms[k]? = some true ∧ ds[k]? = some (D.var i) ∧ outs[k]? = some d) ∨ (i ∉ ioV ms ds ∧ fr[i]? = some (some d)) := fun {i d} e => by
    by_cases hi : i ∈ ioV ms ds
    · rw [← hmap] at hi
      obtain ⟨⟨i', o⟩, hp, rfl⟩ := List.mem_map.mp hi
      have hil : i' < fr.length := by
        obtain ⟨_, c, hc⟩ := assigned (by rw [← hmap]; exact hi)
        exact (List.getElem?_eq_some_iff.mp hc.1).1
      rw [setP_in ndp hp hil] at e
      cases e
      exact .inl (ioP_mem hp)
    · refine .inr ⟨hi, ?_⟩
      rw [setP_out (by rw [hmap]; exact hi)] at e
      exact e
  have shape : Shr B fr (setP fr (ioP ms ds outs)) := fun i d hi e => by
    rcases get e.1 with ⟨k, hk, hd, _⟩ | ⟨_, e'⟩
    · obtain ⟨_, c, hc⟩ := assigned (ioV_mem.mpr ⟨k, hk, hd⟩)
      exact ⟨c, hc⟩
    · exact ⟨d, e', e.2⟩
  have notTab : ∀ {b : Addr}, ioA ms vs b → b ∉ B.G.tabs := fun {b} h => by
    obtain ⟨k, i, c, _, _, _, hi, hc, hs⟩ := ioA_own R r ha h
    exact (R.own_some ⟨i, c, hi, hc, hs⟩).2.2
  have notTab' : ∀ {i : Nat} {d : D} {a : Addr}, i ∈ B.M → (fr[i]? = some (some d) ∧ isCell d = true) → σ[i]? = some (some (.ref a)) → a ∉ B.G.tabs := fun {i d a} hi hf hs => (R.own_some ⟨i, d, hi, hf, hs⟩).2.2
  have hvn : ∀ {i : Nat} {d : D} {a : Addr}, i ∈ B.M → (fr[i]? = some (some d) ∧ isCell d = true) → σ[i]? = some (some (.ref a)) → Hv' a = none := fun {i d a} hi hf hs => by
    obtain ⟨⟨u, hu⟩, hv, _⟩ := R.own_some ⟨i, d, hi, hf, hs⟩
    by_cases hio : ioA ms vs a
    · obtain ⟨k, hk, hvk⟩ := hio
      exact (f.io k a hk hvk).1
    have nt := notTab' hi hf hs
    cases e : Hv' a with
    | none => rfl
    | some o =>
      rcases f.new a o e with z | z | ⟨ws, z⟩
      · rw [hv] at z; cases z
      · rw [hu] at z; cases z
      · have h1 := f.sub a o e
        rw [f.keep a u hu hio nt] at h1
        cases h1
        obtain ⟨a', hs', _, _, hc⟩ := R.own i d hf hi
        rw [hs] at hs'
        cases hs'
        obtain ⟨o2, h2, _, h3, _⟩ := hc.ob
        rw [hu] at h2
        cases h2
        rw [z] at hu
        exact (hc.not_tup hu).elim
  refine ⟨?_, f.ext, fun b o h no nt => f.keep b o h (fun q => ?_) nt, shape, fun b o h => ?_, fun b o h => ?_⟩
  · refine ⟨f.sub, R.ext0.trans f.ext, fun b o h => ?_, fun b o h hi ht => ?_, by rw [setP_length]; exact R.len, fun i d e hm => ?_, fun i d e hc hm => ?_, fun i d e hm => ?_, fun i j a di dj hi hj hij e1 e2 s1 s2 => ?_, fun p hp => ?_, f.tab⟩
    · rcases f.new b o h with z | z
      · exact R.new b o z
      · exact .inr (z.imp R.h0_none id)
    · refine f.keep b o (R.keep b o h hi ht) (fun q => ?_) ht
      obtain ⟨k, i, c, _, _, _, hm, hc, hs⟩ := ioA_own R r ha q
      obtain ⟨a', hs', _, hn, _⟩ := R.own i c hc hm
      rw [hs] at hs'
      cases hs'
      rcases hn with ⟨p, hp, e⟩ | hn
      · exact hi p hp e
      · rw [h] at hn; cases hn
    · rcases get e with ⟨k, hk, hd, ho⟩ | ⟨_, e'⟩
      · exact absurd (assigned (ioV_mem.mpr ⟨k, hk, hd⟩)).1 hm
      · obtain ⟨v, hs, hr⟩ := R.val i d e' hm
        exact ⟨v, hs, Rep.mono f.ext _ _ hr⟩
    · rcases get e with ⟨k, hk, hd, ho⟩ | ⟨_, e'⟩
      · obtain ⟨_, c, hc'⟩ := assigned (ioV_mem.mpr ⟨k, hk, hd⟩)
        obtain ⟨a, hs, hv, hn, _⟩ := R.own i c hc' hm
        obtain ⟨v, hvk, b⟩ := repWs_get r hd
        obtain ⟨_, hs2⟩ := b
        rw [hs] at hs2
        cases hs2
        obtain ⟨h1, d', hd', hcell⟩ := f.io k a hk hvk
        rw [ho] at hd'
        cases hd'
        rw [hcell.isCell] at hc
        cases hc
      · obtain ⟨e2, v, z, hs, hr⟩ := R.box i d e' hc hm
        exact ⟨e2, v, z, hs, Rep.mono f.ext _ _ hr⟩
    · rcases get e.1 with ⟨k, hk, hd, ho⟩ | ⟨hni, e'⟩
      · obtain ⟨_, c, hc⟩ := assigned (ioV_mem.mpr ⟨k, hk, hd⟩)
        obtain ⟨a, hs, hv, hn, _⟩ := R.own i c hc hm
        obtain ⟨v, hvk, b⟩ := repWs_get r hd
        obtain ⟨_, hs2⟩ := b
        rw [hs] at hs2
        cases hs2
        obtain ⟨h1, d', hd', hcell⟩ := f.io k a hk hvk
        rw [ho] at hd'
        cases hd'
        exact ⟨a, hs, h1, hn, hcell⟩
      · obtain ⟨a, hs, hv, hn, hc⟩ := R.own i d ⟨e', e.2⟩ hm
        obtain ⟨⟨u, hu⟩, _, ntab⟩ := R.own_some ⟨i, d, hm, ⟨e', e.2⟩, hs⟩
        have nio : ¬ ioA ms vs a := fun q => by
          obtain ⟨k, j, c, hk, hdk, _, hj, hcj, hsj⟩ := ioA_own R r ha q
          by_cases hij : i = j
          · subst hij
            exact hni (ioV_mem.mpr ⟨k, hk, hdk⟩)
          · exact R.sep i j a d c hm hj hij ⟨e', e.2⟩ hcj hs hsj
        exact ⟨a, hs, hvn hm ⟨e', e.2⟩ hs, hn, hc.mono f.ext ((f.keep a u hu nio ntab).trans hu.symm)⟩
    · obtain ⟨di', hdi⟩ := shape i di hi e1
      obtain ⟨dj', hdj⟩ := shape j dj hj e2
      exact R.sep i j a di' dj' hi hj hij hdi hdj s1 s2
    · obtain ⟨h1, ⟨d, h2, hcl⟩, h3⟩ := R.io p hp
      refine ⟨h1, ?_, h3⟩
      by_cases hi : p.1 ∈ ioV ms ds
      · obtain ⟨k, hk, hd⟩ := ioV_mem.mp hi
        obtain ⟨v, hvk, b⟩ := repWs_get r hd
        obtain ⟨_, hs2⟩ := b
        rw [h3] at hs2
        cases hs2
        obtain ⟨_, d', hd', hcell⟩ := f.io k p.2 hk hvk
        rw [← hmap] at hi
        obtain ⟨⟨i', o⟩, hp', e'⟩ := List.mem_map.mp hi
        dsimp only at e'
        subst e'
        obtain ⟨k2, hk2, hd2, ho2⟩ := ioP_mem hp'
        obtain ⟨v2, hvk2, b2⟩ := repWs_get r hd2
        obtain ⟨_, hs3⟩ := b2
        rw [h3] at hs3
        cases hs3
        obtain ⟨_, d2, hd2', hcell2⟩ := f.io k2 p.2 hk2 hvk2
        rw [ho2] at hd2'
        cases hd2'
        exact ⟨o, setP_in ndp hp' (List.getElem?_eq_some_iff.mp h2).1, hcell2.isCell⟩
      · exact ⟨d, by rw [setP_out (by rw [hmap]; exact hi)]; exact h2, hcl⟩
  · obtain ⟨k, i, c, _, _, _, hm, hc, hs⟩ := ioA_own R r ha q
    exact no ⟨i, c, hm, hc, hs⟩
  · by_cases hb : ioA ms vs b
    · obtain ⟨k, hk, hv⟩ := hb
      obtain ⟨_, d, _, hcell⟩ := f.io k b hk hv
      obtain ⟨o2, h2, _⟩ := hcell.ob
      exact ⟨o2, h2⟩
    · by_cases ht : b ∈ B.G.tabs
      · obtain ⟨⟨ps, e, _⟩, _⟩ := f.tab b ht
        exact ⟨_, e⟩
      · exact ⟨o, f.keep b o h hb ht⟩
  · rcases f.new b o h with z | z
    · exact .inl z
    · exact .inr (.inl z)
end
section
variable {X : Cx} {B : Bd} {W : WX} {e : Expr} {es : List Expr} {g : Av} {k : Nat} {f : Addr} {fd : FuncData} {ps : List Str} {ms : List Bool} {F : Fn} {x : Str} {p pos : Pos}
theorem entCall {rf : Bool} {σ : L2.St} {H : Hp} {Q : VK} {P : Fr → Hp → Hp → Res Fr D → Prop} {fr : Fr} {Hv : Hp} (R : Rel B fr σ H Hv)
    (hex : ∀ c fs fr', P fr H Hv (.exc c fs fr') → ∀ dd H' Hv', Nxt B fr σ H Hv fr' H' Hv' → ExcAt B.G H' Hv' c fs dd → W (.ref (B.G.ecls c)) (some dd) σ H') (hb : ¬ P fr H Hv .bad)
    (hok : ∀ d fr', P fr H Hv (.ok d fr') → ∀ v H1 Hv1 H' Hv' fr1, Nxt B fr σ H Hv fr1 H1 Hv1 → Nxt B fr1 σ H1 Hv1 fr' H' Hv' → RetR rf B.G H1 H' Hv' d v → Q v H')
    (h : P fr H Hv (eCall ms F g fr)) : (dTA B W g) σ H fun vs H1 => spOf B.G ms rf F (vs ++ []) H1 Q (WE W σ) := by
  refine ⟨fr, Hv, R, ?_⟩
  unfold eCall at h
  cases hg : g fr with
  | bad => rw [hg] at h; exact (hb h).elim
  | exc c fs fr1 => rw [hg] at h; exact hex _ _ _ h
  | ok ds fr1 =>
    rw [hg] at h
    dsimp only [Res.bind] at h
    intro vs H1 Hv1 n r
    rw [List.append_nil]
    split at h
    · exact (hb h).elim
    · next cs hcs =>
      split at h
      · next nd =>
        refine ⟨cs, Hv1, start_of n.rel r hcs nd, ?_⟩
        cases hF : F cs with
        | bad => rw [hF] at h; exact (hb h).elim
        | exc c fs outs =>
          rw [hF] at h
          dsimp only at h
          split at h
          · next hl => exact fun dd H' Hv' fin ex => hex _ _ _ h dd H' Hv' (n.trans (nxt_call n.rel r hcs nd hl fin)) ex
          · exact (hb h).elim
        | ok d outs =>
          rw [hF] at h
          dsimp only at h
          split at h
          · next hl => exact fun v H' Hv' fin ret => hok _ _ h v H1 Hv1 H' Hv' fr1 n (nxt_call n.rel r hcs nd hl fin) ret
          · exact (hb h).elim
      · exact (hb h).elim
theorem d_call (Fk : FnOk X.prog X.w X.K X.mg X.base (L2.CX X.prog X.w) k f fd ps (spOf B.G ms false F)) (hr : Room k X.A) (hm : X.mg x = some (.ref f)) (hk : PySem.W.keepIn X.K (.ref f) = true) (hb : Binds X.K fd ps []) (tk : ∀ σ, PassesAt (L2.CX X.prog X.w) X σ (WE W σ))
    (ha : DA X B W (e :: es) g) (hg : Gl X x := by rfl) (hdb : (x == ("__debug__" : Str)) = false := by decide) (he : starEach (e :: es) X.env = (false, eval e X.env) :: starEach es X.env := by rfl) (hpl : (backTo pos (starEach es X.env)).any (·.1) = false := by rfl) :
    DE X B W (.Call (.Name x p) (e :: es) [] pos) (eCall ms F g) := by
  refine pe_imp (pe_callSD Fk hr hg hm hk hb .nil tk ha hdb he hpl) fun σ H Q h => ?_
  obtain ⟨fr, Hv, R, h⟩ := h
  exact entCall (P := fun fr H Hv r => PostE B W fr σ H Hv r Q) R (fun c fs fr' h => h) (fun h => h) (fun d fr' h v H1 Hv1 H' Hv' fr1 n m ret => h v H' Hv' (n.trans m) (.of ret)) h
theorem d_callF (Fk : FnOk X.prog X.w X.K X.mg X.base (L2.CX X.prog X.w) k f fd ps (spOf B.G ms true F)) (hr : Room k X.A) (hm : X.mg x = some (.ref f)) (hk : PySem.W.keepIn X.K (.ref f) = true) (hb : Binds X.K fd ps []) (tk : ∀ σ, PassesAt (L2.CX X.prog X.w) X σ (WE W σ))
    (ha : DA X B W (e :: es) g) (hg : Gl X x := by rfl) (hdb : (x == ("__debug__" : Str)) = false := by decide) (he : starEach (e :: es) X.env = (false, eval e X.env) :: starEach es X.env := by rfl) (hpl : (backTo pos (starEach es X.env)).any (·.1) = false := by rfl) :
    DF X B W (.Call (.Name x p) (e :: es) [] pos) (eCall ms F g) := by
  refine pe_imp (pe_callSD Fk hr hg hm hk hb .nil tk ha hdb he hpl) fun σ H Q h => ?_
  obtain ⟨fr, Hv, R, h⟩ := h
  refine entCall (P := fun fr H Hv r => PostF B W fr σ H Hv r Q) R (fun c fs fr' h => h) (fun h => h) (fun d fr' h v H1 Hv1 H' Hv' fr1 n m ret => ?_) h
  obtain ⟨q, rfl, h1, h2, h3⟩ := ret
  exact h q H' Hv' (n.trans m) (n.none R h1) h2 h3
end
end KS
namespace KS
open PySem PySem.Spec L2
/-! ### statements -/
/-- the end of a body -/
structure FinB (B : Bd) (fr' : Fr) (H' Hv' : Hp) : Prop where
  sub : Sub Hv' H'
  ext0 : Sub B.Hv0 Hv'
  new : ∀ b o, Hv' b = some o → B.Hv0 b = some o ∨ NewOk B.H0 b o
  keep : ∀ b o, B.H0 b = some o → (∀ p ∈ B.io, p.2 ≠ b) → b ∉ B.G.tabs → H' b = some o
  tab : ∀ P ∈ B.G.tabs, TabH H' P ∧ Hv' P = none
  io : ∀ p ∈ B.io, Hv' p.2 = none ∧ ∃ d, fr'[p.1]? = some (some d) ∧ Cell B.G H' Hv' p.2 d
theorem Rel.fin {B : Bd} {fr : Fr} {σ : L2.St} {H Hv : Hp} (R : Rel B fr σ H Hv) : FinB B fr H Hv where
  sub := R.sub
  ext0 := R.ext0
  new := R.new
  keep := R.keep
  tab := R.tab
  io := fun p hp => by
    obtain ⟨h1, ⟨d, hd⟩, h3⟩ := R.io p hp
    obtain ⟨a, hs, hv, _, hc⟩ := R.own p.1 d hd h1
    rw [h3] at hs
    cases hs
    exact ⟨hv, d, hd.1, hc⟩
def PostS (B : Bd) (W : WX) (rf : Bool) (Hv : Hp) (r : Res Fr Fl) (D : Ends) : Prop :=
  match r with
  | .ok .nx fr' => ∀ σ' H' Hv', Rel B fr' σ' H' Hv' → Sub Hv Hv' → D.nx σ' H'
  | .ok .brk fr' => ∀ σ' H' Hv', Rel B fr' σ' H' Hv' → Sub Hv Hv' → D.bk σ' H'
  | .ok .cnt fr' => ∀ σ' H' Hv', Rel B fr' σ' H' Hv' → Sub Hv Hv' → D.ct σ' H'
  | .ok (.ret d) fr' => ∀ v H' Hv', FinB B fr' H' Hv' → RetR rf B.G B.H0 H' Hv' d v → D.rt v H'
  | .exc c fs fr' => ∀ dd σ' H' Hv', Rel B fr' σ' H' Hv' → Sub Hv Hv' → ExcAt B.G H' Hv' c fs dd → W (.ref (B.G.ecls c)) (some dd) σ' H'
  | .bad => False
def dTS (B : Bd) (W : WX) (rf : Bool) (g : Sv) : TS := fun D σ H => ∃ fr Hv, Rel B fr σ H Hv ∧ PostS B W rf Hv (g fr) D
def DS (X : Cx) (B : Bd) (W : WX) (rf : Bool) (st : Stmt) (g : Sv) : Prop := PS X st (dTS B W rf g)
def DSs (X : Cx) (B : Bd) (W : WX) (rf : Bool) (st : List Stmt) (g : Sv) : Prop := PSs X st (dTS B W rf g)
theorem PostS.step {B : Bd} {W : WX} {rf : Bool} {Hv Hv1 : Hp} {r : Res Fr Fl} {D : Ends} (s : Sub Hv Hv1) (h : PostS B W rf Hv r D) : PostS B W rf Hv1 r D := by
  cases r with
  | ok fl fr' =>
    cases fl with
    | nx => exact fun σ' H' Hv' R m => h σ' H' Hv' R (s.trans m)
    | brk => exact fun σ' H' Hv' R m => h σ' H' Hv' R (s.trans m)
    | cnt => exact fun σ' H' Hv' R m => h σ' H' Hv' R (s.trans m)
    | ret d => exact h
  | exc c fs fr' => exact fun dd σ' H' Hv' R m => h dd σ' H' Hv' R (s.trans m)
  | bad => exact h
def sNx : Sv := fun fr => .ok .nx fr
def sBrk : Sv := fun fr => .ok .brk fr
def sCnt : Sv := fun fr => .ok .cnt fr
def sSeq (g h : Sv) : Sv := fun fr => (g fr).bind fun fl fr1 => match fl with
  | .nx => h fr1
  | fl => .ok fl fr1
def sX (f : Ev) : Sv := fun fr => (f fr).bind fun _ fr1 => .ok .nx fr1
def sRet (f : Ev) : Sv := fun fr => (f fr).bind fun d fr1 => if pers d = true then .ok (.ret d) fr1 else .bad
def sRetF (f : Ev) : Sv := fun fr => (f fr).bind fun d fr1 => .ok (.ret d) fr1
/-- return x, x an owned slot -/
def sRetV (i : Nat) : Sv := fun fr => match fr[i]? with
  | some (some d) => if isCell d = true then .ok (.ret d) fr else .bad
  | _ => .bad
def sRetN : Sv := fun fr => .ok (.ret .non) fr
def sIf (t : Bv) (g h : Sv) : Sv := fun fr => (t fr).bind fun b fr1 => if b then g fr1 else h fr1
def sSet (i : Nat) (f : Ev) : Sv := fun fr => (f fr).bind fun d fr1 => if pers d = true then .ok .nx (fr1.set i (some d)) else .bad
def sSetF (i : Nat) (f : Ev) : Sv := fun fr => (f fr).bind fun d fr1 => .ok .nx (fr1.set i (some d))
section
variable {X : Cx} {B : Bd} {W : WX} {rf : Bool} {st : Stmt} {rest : List Stmt} {g h : Sv} {e : Expr} {f : Ev} {t : Bv} {pos : Pos}
theorem ss_nil : DSs X B W rf [] sNx := pss_imp pss_nil fun D σ H ⟨fr, Hv, R, h⟩ => h σ H Hv R (.refl _)
theorem ss_cons (h1 : DS X B W rf st g) (h2 : DSs X B W rf rest h) : DSs X B W rf (st :: rest) (sSeq g h) := by
  refine pss_imp (pss_cons h1 h2) fun D σ H hh => ?_
  obtain ⟨fr, Hv, R, hh⟩ := hh
  refine ⟨fr, Hv, R, ?_⟩
  unfold sSeq at hh
  cases hg : g fr with
  | bad => rw [hg] at hh; exact hh.elim
  | exc c fs fr1 => rw [hg] at hh; exact hh
  | ok fl fr1 =>
    rw [hg] at hh
    dsimp only [Res.bind] at hh
    cases fl with
    | nx => exact fun σ' H' Hv' R' s => ⟨fr1, Hv', R', PostS.step s hh⟩
    | brk => exact hh
    | cnt => exact hh
    | ret d => exact hh
theorem ss_one (h1 : DS X B W rf st g) : DSs X B W rf [st] g := pss_one h1
theorem s_pass : DS X B W rf (.Pass pos) sNx := ps_imp ps_pass fun D σ H ⟨fr, Hv, R, h⟩ => h σ H Hv R (.refl _)
theorem s_break : DS X B W rf (.Break pos) sBrk := ps_imp ps_break fun D σ H ⟨fr, Hv, R, h⟩ => h σ H Hv R (.refl _)
theorem s_continue : DS X B W rf (.Continue pos) sCnt := ps_imp ps_continue fun D σ H ⟨fr, Hv, R, h⟩ => h σ H Hv R (.refl _)
theorem s_expr (he : DE X B W e f) (hs : swapsWith e none pos.line X.env = pure false := by rfl) : DS X B W rf (.Expr e pos) (sX f) := by
  refine ps_imp (ps_expr he hs) fun D σ H hh => ?_
  obtain ⟨fr, Hv, R, hh⟩ := hh
  refine ⟨fr, Hv, R, ?_⟩
  unfold sX at hh
  cases hg : f fr with
  | bad => rw [hg] at hh; exact hh.elim
  | exc c fs fr1 =>
    rw [hg] at hh
    exact fun dd H' Hv' n => hh dd σ H' Hv' n.rel n.ext
  | ok d fr1 =>
    rw [hg] at hh
    exact fun v H' Hv' n _ => hh σ H' Hv' n.rel n.ext
theorem s_ret (hrf : rf = false) (he : DE X B W e f) : DS X B W rf (.Return (some e) pos) (sRet f) := by
  subst hrf
  refine ps_imp (ps_ret he) fun D σ H hh => ?_
  obtain ⟨fr, Hv, R, hh⟩ := hh
  refine ⟨fr, Hv, R, ?_⟩
  unfold sRet at hh
  cases hg : f fr with
  | bad => rw [hg] at hh; exact hh.elim
  | exc c fs fr1 =>
    rw [hg] at hh
    exact fun dd H' Hv' n => hh dd σ H' Hv' n.rel n.ext
  | ok d fr1 =>
    rw [hg] at hh
    dsimp only [Res.bind] at hh
    split at hh
    · next c => exact fun v H' Hv' n r => hh v H' Hv' n.rel.fin (by
        show if false = true then _ else Rep B.G Hv' d v
        rw [if_neg Bool.false_ne_true]
        exact r.rep fun i z => by rw [z] at c; cases c)
    · exact hh.elim
theorem s_retF (hrf : rf = true) (he : DF X B W e f) : DS X B W rf (.Return (some e) pos) (sRetF f) := by
  subst hrf
  refine ps_imp (ps_ret he) fun D σ H hh => ?_
  obtain ⟨fr, Hv, R, hh⟩ := hh
  refine ⟨fr, Hv, R, ?_⟩
  unfold sRetF at hh
  cases hg : f fr with
  | bad => rw [hg] at hh; exact hh.elim
  | exc c fs fr1 =>
    rw [hg] at hh
    exact fun dd H' Hv' n => hh dd σ H' Hv' n.rel n.ext
  | ok d fr1 =>
    rw [hg] at hh
    dsimp only [Res.bind] at hh
    exact fun p H' Hv' n hp hv hc => hh (.ref p) H' Hv' n.rel.fin (by
      show if true = true then _ else _
      rw [if_pos rfl]
      exact ⟨p, rfl, R.h0_none hp, hv, hc⟩)
theorem s_retV {i : Nat} {x : Str} {np : Pos} (hi : i ∈ B.M) (hio : ∀ p ∈ B.io, p.1 ≠ i) (hN : X.N[i]? = some x := by rfl) (hv : Vis X.env.scope x := by first | exact Or.inl rfl | exact Or.inr (Or.inl rfl) | exact Or.inr (Or.inr rfl)) (hd : (x == ("__debug__" : Str)) = false := by decide)
    (hcd : (x == ("__classdict__" : Str)) = false := by decide) : DS X B W rf (.Return (some (.Name x np)) pos) (sRetV i) := by
  refine ps_imp (ps_ret (pe_var hN hv hd hcd)) fun D σ H hh => ?_
  obtain ⟨fr, Hv, R, hh⟩ := hh
  unfold sRetV at hh
  split at hh
  · next d e0 =>
   split at hh
   · next cl =>
    have e := And.intro e0 cl
    obtain ⟨a, hs, hva, hn, hc⟩ := R.own i d e hi
    have nio : ∀ p ∈ B.io, p.2 ≠ a := fun p hp z => by
      obtain ⟨h1, ⟨d', hd'⟩, h3⟩ := R.io p hp
      rw [z] at h3
      exact R.sep p.1 i a d' d h1 hi (hio p hp) hd' e h3 hs
    have h0 : B.H0 a = none := by
      rcases hn with ⟨p, hp, z⟩ | z
      · exact absurd z (nio p hp)
      · exact z
    refine ⟨.ref a, hs, ?_⟩
    cases rf with
    | true =>
      refine hh (.ref a) H Hv R.fin ?_
      show if true = true then _ else _
      rw [if_pos rfl]
      exact ⟨a, rfl, h0, hva, hc⟩
    | false =>
      obtain ⟨o, ho, nt⟩ : ∃ o, H a = some o ∧ ∀ ps, o ≠ .tbl ps := by
        cases d with
        | lst ds => obtain ⟨vs, q, _⟩ := hc; exact ⟨_, q, fun ps z => by cases z⟩
        | obj c ns fs => obtain ⟨dx, vs, q, _⟩ := hc; exact ⟨_, q, fun ps z => by cases z⟩
        | dct ks ds =>
          obtain ⟨us, ⟨kvs, q, _⟩ | ⟨kvs, q, _⟩, _⟩ := hc
          · exact ⟨_, q, fun ps z => by cases z⟩
          · exact ⟨_, q, fun ps z => by cases z⟩
        | _ => exact hc.elim
      have s := sub_freeze R ho
      have upA : ∀ {b u}, upd Hv a o b = some u → (b = a ∧ u = o) ∨ (b ≠ a ∧ Hv b = some u) := fun {b u} q => by
        by_cases hb : b = a
        · subst hb
          rw [upd_same] at q
          exact .inl ⟨rfl, (Option.some.inj q).symm⟩
        · rw [upd_ne hb] at q
          exact .inr ⟨hb, q⟩
      refine hh (.ref a) H (upd Hv a o) ⟨fun b u q => ?_, R.ext0.trans s, fun b u q => ?_, R.keep, fun P hP => ?_, fun p hp => ?_⟩ ?_
      · rcases upA q with ⟨rfl, rfl⟩ | ⟨_, q⟩
        · exact ho
        · exact R.sub b u q
      · rcases upA q with ⟨rfl, rfl⟩ | ⟨_, q⟩
        · exact .inr (.inl h0)
        · exact R.new b u q
      · obtain ⟨⟨ps, q, t⟩, v⟩ := R.tab P hP
        refine ⟨⟨ps, q, t⟩, ?_⟩
        rw [upd_ne fun z => by rw [z, ho] at q; exact nt ps (Option.some.inj q)]
        exact v
      · obtain ⟨z1, d', z2, z3⟩ := R.fin.io p hp
        exact ⟨by rw [upd_ne (nio p hp)]; exact z1, d', z2, z3.mono s rfl⟩
      · show if false = true then _ else Rep B.G (upd Hv a o) d (.ref a)
        rw [if_neg Bool.false_ne_true]
        cases d with
        | lst ds =>
          obtain ⟨vs, q, r⟩ := hc
          rw [ho] at q
          cases q
          exact Rep.lst upd_same (RepL.mono s _ _ r)
        | obj c ns fs =>
          obtain ⟨dx, vs, q, l, r⟩ := hc
          rw [ho] at q
          cases q
          exact Rep.obj upd_same l (RepL.mono s _ _ r)
        | dct ks ds =>
          obtain ⟨us, q, r⟩ := hc
          exact Rep.dct (q.at fun u z => by rw [ho] at z; cases z; exact upd_same) (RepL.mono s _ _ r)
        | _ => exact hc.elim
   · exact hh.elim
  · exact hh.elim
theorem s_retN (hrf : rf = false) : DS X B W rf (.Return none pos) sRetN := by
  subst hrf
  refine ps_imp ps_retN fun D σ H ⟨fr, Hv, R, hh⟩ => hh .non H Hv R.fin ?_
  show if false = true then _ else Rep B.G Hv .non .non
  rw [if_neg Bool.false_ne_true]
  exact repN
theorem s_if {c : Expr} {a b : List Stmt} (hc : DT X B W c t) (ha : DSs X B W rf a g) (hb : DSs X B W rf b h) : DS X B W rf (.If c a b pos) (sIf t g h) := by
  refine ps_imp (ps_if hc ha hb) fun D σ H hh => ?_
  obtain ⟨fr, Hv, R, hh⟩ := hh
  refine ⟨fr, Hv, R, ?_⟩
  unfold sIf at hh
  cases hg : t fr with
  | bad => rw [hg] at hh; exact hh.elim
  | exc c fs fr1 =>
    rw [hg] at hh
    exact fun dd H' Hv' n => hh dd σ H' Hv' n.rel n.ext
  | ok k fr1 =>
    rw [hg] at hh
    dsimp only [Res.bind] at hh
    intro H' Hv' n
    cases k with
    | true =>
      rw [if_pos rfl]
      exact ⟨fr1, Hv', n.rel, PostS.step n.ext hh⟩
    | false =>
      rw [if_neg Bool.false_ne_true]
      exact ⟨fr1, Hv', n.rel, PostS.step n.ext hh⟩
/-- a slot that owns nothing gets a value -/
theorem Rel.setV {fr : Fr} {σ : L2.St} {H Hv : Hp} (R : Rel B fr σ H Hv) {i : Nat} {d : D} {v : V} (hi : i ∉ B.M) (r : Rep B.G Hv d v) : Rel B (fr.set i (some d)) (σ.set i (some v)) H Hv where
  sub := R.sub
  ext0 := R.ext0
  new := R.new
  keep := R.keep
  len := by rw [List.length_set, List.length_set]; exact R.len
  val := fun j e hf hm => by
    by_cases hj : j = i
    · subst hj
      have hl : j < fr.length := by
        have := (List.getElem?_eq_some_iff.mp hf).1
        rwa [List.length_set] at this
      rw [List.getElem?_set_self hl] at hf
      cases hf
      exact ⟨v, List.getElem?_set_self (by rw [← R.len]; exact hl), r⟩
    · rw [List.getElem?_set_ne (Ne.symm hj)] at hf
      obtain ⟨u, h1, h2⟩ := R.val j e hf hm
      exact ⟨u, by rw [List.getElem?_set_ne (Ne.symm hj)]; exact h1, h2⟩
  box := fun j e hf hc hm => by
    have hj : j ≠ i := fun z => hi (z ▸ hm)
    rw [List.getElem?_set_ne (Ne.symm hj)] at hf
    obtain ⟨e2, u, h0, h1, h2⟩ := R.box j e hf hc hm
    exact ⟨e2, u, h0, by rw [List.getElem?_set_ne (Ne.symm hj)]; exact h1, h2⟩
  own := fun j e hf hm => by
    have hj : j ≠ i := fun z => hi (z ▸ hm)
    rw [List.getElem?_set_ne (Ne.symm hj)] at hf
    obtain ⟨a, h1, h2⟩ := R.own j e hf hm
    exact ⟨a, by rw [List.getElem?_set_ne (Ne.symm hj)]; exact h1, h2⟩
  sep := fun j k a dj dk hj hk hjk e1 e2 s1 => by
    have hj' : j ≠ i := fun z => hi (z ▸ hj)
    have hk' : k ≠ i := fun z => hi (z ▸ hk)
    rw [List.getElem?_set_ne (Ne.symm hj')] at e1 s1
    rw [List.getElem?_set_ne (Ne.symm hk')] at e2 ⊢
    exact R.sep j k a dj dk hj hk hjk e1 e2 s1
  io := fun p hp => by
    obtain ⟨h1, h2, h3⟩ := R.io p hp
    have hj : p.1 ≠ i := fun z => hi (z ▸ h1)
    exact ⟨h1, by rw [List.getElem?_set_ne (Ne.symm hj)]; exact h2, by rw [List.getElem?_set_ne (Ne.symm hj)]; exact h3⟩
  tab := R.tab
/-- an owned slot gets a new object -/
theorem Rel.setF {fr : Fr} {σ : L2.St} {H Hv : Hp} (R : Rel B fr σ H Hv) {i : Nat} {d : D} {p : Addr} (hi : i ∈ B.M) (hio : ∀ q ∈ B.io, q.1 ≠ i) (no : ¬ Own B fr σ p) (h0 : B.H0 p = none) (hv : Hv p = none) (hc : Cell B.G H Hv p d) : Rel B (fr.set i (some d)) (σ.set i (some (.ref p))) H Hv where
  sub := R.sub
  ext0 := R.ext0
  new := R.new
  keep := R.keep
  len := by rw [List.length_set, List.length_set]; exact R.len
  val := fun j e hf hm => by
    have hj : j ≠ i := fun z => hm (z ▸ hi)
    rw [List.getElem?_set_ne (Ne.symm hj)] at hf
    obtain ⟨u, h1, h2⟩ := R.val j e hf hm
    exact ⟨u, by rw [List.getElem?_set_ne (Ne.symm hj)]; exact h1, h2⟩
  box := fun j e hf hcl hm => by
    by_cases hj : j = i
    · subst hj
      have hl : j < fr.length := by
        have := (List.getElem?_eq_some_iff.mp hf).1
        rwa [List.length_set] at this
      rw [List.getElem?_set_self hl] at hf
      cases hf
      rw [hc.isCell] at hcl
      cases hcl
    · rw [List.getElem?_set_ne (Ne.symm hj)] at hf
      obtain ⟨e2, u, h0, h1, h2⟩ := R.box j e hf hcl hm
      exact ⟨e2, u, h0, by rw [List.getElem?_set_ne (Ne.symm hj)]; exact h1, h2⟩
  own := fun j e hf hm => by
    by_cases hj : j = i
    · subst hj
      have hl : j < fr.length := by
        have := (List.getElem?_eq_some_iff.mp hf.1).1
        rwa [List.length_set] at this
      have hf := hf.1
      rw [List.getElem?_set_self hl] at hf
      cases hf
      exact ⟨p, List.getElem?_set_self (by rw [← R.len]; exact hl), hv, .inr h0, hc⟩
    · rw [List.getElem?_set_ne (Ne.symm hj)] at hf
      obtain ⟨a, h1, h2⟩ := R.own j e hf hm
      exact ⟨a, by rw [List.getElem?_set_ne (Ne.symm hj)]; exact h1, h2⟩
  sep := fun j k a dj dk hj hk hjk e1 e2 s1 => by
    by_cases hj' : j = i
    · subst hj'
      have hk' : k ≠ j := Ne.symm hjk
      have hl : j < σ.length := by
        have := (List.getElem?_eq_some_iff.mp s1).1
        rwa [List.length_set] at this
      rw [List.getElem?_set_self hl] at s1
      cases s1
      rw [List.getElem?_set_ne (Ne.symm hk')] at e2 ⊢
      exact fun z => no ⟨k, dk, hk, e2, z⟩
    · rw [List.getElem?_set_ne (Ne.symm hj')] at e1 s1
      by_cases hk' : k = i
      · subst hk'
        by_cases hl : k < σ.length
        · rw [List.getElem?_set_self hl]
          intro z
          cases z
          exact no ⟨j, dj, hj, e1, s1⟩
        · rw [List.getElem?_eq_none (by rw [List.length_set]; omega)]
          exact fun z => by cases z
      · rw [List.getElem?_set_ne (Ne.symm hk')] at e2 ⊢
        exact R.sep j k a dj dk hj hk hjk e1 e2 s1
  io := fun q hq => by
    obtain ⟨h1, h2, h3⟩ := R.io q hq
    have hj : q.1 ≠ i := hio q hq
    exact ⟨h1, by rw [List.getElem?_set_ne (Ne.symm hj)]; exact h2, by rw [List.getElem?_set_ne (Ne.symm hj)]; exact h3⟩
  tab := R.tab
theorem s_set {i : Nat} {x : Str} {pos' : Pos} (hi : i ∉ B.M) (nd : X.N.Nodup) (he : DE X B W e f) (hN : X.N[i]? = some x := by rfl) (hx : Loc X.env.scope x := by first | exact Or.inl rfl | exact Or.inr rfl) (hs : swapsWith e (some (.Name x pos')) pos.line X.env = pure false := by rfl)
    (hf : X.fn x = true ∨ X.env.scope.names.lookup x = some .local := by first | exact .inl rfl | exact .inr rfl | assumption) : DS X B W rf (.Assign [.Name x pos'] e pos) (sSet i f) := by
  refine ps_imp (ps_set nd hN hx he hs hf) fun D σ H hh => ?_
  obtain ⟨fr, Hv, R, hh⟩ := hh
  refine ⟨fr, Hv, R, ?_⟩
  unfold sSet at hh
  cases hg : f fr with
  | bad => rw [hg] at hh; exact hh.elim
  | exc c fs fr1 =>
    rw [hg] at hh
    exact fun dd H' Hv' n => hh dd σ H' Hv' n.rel n.ext
  | ok d fr1 =>
    rw [hg] at hh
    dsimp only [Res.bind] at hh
    split at hh
    · next c => exact fun v H' Hv' n r => hh _ H' Hv' (n.rel.setV hi (r.rep fun i z => by rw [z] at c; cases c)) n.ext
    · exact hh.elim
theorem not_own_of_none {fr fr1 : Fr} {σ : L2.St} {H Hv H1 Hv1 : Hp} (R : Rel B fr σ H Hv) (n : Nxt B fr σ H Hv fr1 H1 Hv1) {p : Addr} (hp : H p = none) : ¬ Own B fr1 σ p := fun o => by
  obtain ⟨⟨u, hu⟩, _⟩ := R.own_some (own_shp n.shp o)
  rw [hp] at hu
  cases hu
theorem s_setF {i : Nat} {x : Str} {pos' : Pos} (hi : i ∈ B.M) (hio : ∀ q ∈ B.io, q.1 ≠ i) (nd : X.N.Nodup) (he : DF X B W e f) (hN : X.N[i]? = some x := by rfl) (hx : Loc X.env.scope x := by first | exact Or.inl rfl | exact Or.inr rfl) (hs : swapsWith e (some (.Name x pos')) pos.line X.env = pure false := by rfl)
    (hf : X.fn x = true ∨ X.env.scope.names.lookup x = some .local := by first | exact .inl rfl | exact .inr rfl | assumption) : DS X B W rf (.Assign [.Name x pos'] e pos) (sSetF i f) := by
  refine ps_imp (ps_set nd hN hx he hs hf) fun D σ H hh => ?_
  obtain ⟨fr, Hv, R, hh⟩ := hh
  refine ⟨fr, Hv, R, ?_⟩
  unfold sSetF at hh
  cases hg : f fr with
  | bad => rw [hg] at hh; exact hh.elim
  | exc c fs fr1 =>
    rw [hg] at hh
    exact fun dd H' Hv' n => hh dd σ H' Hv' n.rel n.ext
  | ok d fr1 =>
    rw [hg] at hh
    dsimp only [Res.bind] at hh
    exact fun p H' Hv' n hp hv hc => hh _ H' Hv' (n.rel.setF hi hio (not_own_of_none R n hp) (R.h0_none hp) hv hc) n.ext
end
/-! ### a def by its body -/
def startF (n : Nat) (ds : List D) : Fr := ds.map some ++ List.replicate (n - ds.length) none
def outsOf (k : Nat) (fr : Fr) : List D := (List.range k).map fun i => (fr[i]?.join).getD .non
def runFn (k n : Nat) (g : Sv) : Fn := fun ds => match g (startF n ds) with
  | .ok .nx fr => .ok .non (outsOf k fr)
  | .ok (.ret d) fr => .ok d (outsOf k fr)
  | .exc c fs fr => .exc c fs (outsOf k fr)
  | _ => .bad
/-- the slots that own: parameters that are handed in to be changed, and others -/
def ioSlots (ms : List Bool) : List Nat := (List.range ms.length).filter fun i => ms.getD i false
def ioOf (ms : List Bool) (vs : List V) : List (Nat × Addr) := (ioSlots ms).filterMap fun i => match vs[i]? with
  | some (V.ref a) => some (i, a)
  | _ => none
theorem mem_ioSlots {ms : List Bool} {i : Nat} : i ∈ ioSlots ms ↔ ms[i]? = some true := by
  unfold ioSlots
  rw [List.mem_filter, List.mem_range]
  constructor
  · rintro ⟨h1, h2⟩
    rw [List.getD_eq_getElem?_getD, List.getElem?_eq_getElem h1] at h2
    rw [List.getElem?_eq_getElem h1]
    exact congrArg some h2
  · intro h
    obtain ⟨h1, h2⟩ := List.getElem?_eq_some_iff.mp h
    exact ⟨h1, by rw [List.getD_eq_getElem?_getD, h]; rfl⟩
theorem mem_ioOf {ms : List Bool} {vs : List V} {i : Nat} {a : Addr} : (i, a) ∈ ioOf ms vs ↔ ms[i]? = some true ∧ vs[i]? = some (.ref a) := by
  unfold ioOf
  rw [List.mem_filterMap]
  constructor
  · rintro ⟨j, hj, e⟩
    split at e
    · next b hb =>
      cases e
      exact ⟨mem_ioSlots.mp hj, hb⟩
    · cases e
  · rintro ⟨h1, h2⟩
    exact ⟨i, mem_ioSlots.mpr h1, by rw [h2]⟩
section
variable {K : PySem.W.Frag} {G : SE} {ms : List Bool} {ds : List D} {vs : List V} {H Hv : Hp} {N : List Str} {M : List Nat}
theorem startF_get {n : Nat} (h : ds.length ≤ n) {i : Nat} {d : D} : (startF n ds)[i]? = some (some d) ↔ ds[i]? = some d := by
  unfold startF
  by_cases hi : i < ds.length
  · rw [List.getElem?_append_left (by simpa using hi), List.getElem?_map]
    cases ds[i]? <;> simp
  · rw [List.getElem?_append_right (by simpa using hi), List.getElem?_eq_none (by omega : ds.length ≤ i)]
    simp [List.getElem?_replicate]
theorem start_get (h : vs.length ≤ N.length) {i : Nat} {v : V} : (L2.start N vs)[i]? = some (some v) ↔ vs[i]? = some v := by
  unfold L2.start
  by_cases hi : i < vs.length
  · rw [List.getElem?_append_left (by simpa using hi), List.getElem?_map]
    cases vs[i]? <;> simp
  · rw [List.getElem?_append_right (by simpa using hi), List.getElem?_eq_none (by omega : vs.length ≤ i)]
    simp [List.getElem?_replicate]
theorem rel_start (S : Start G ms ds vs H Hv) (hN : ms.length ≤ N.length) (hM : ∀ i, i < ms.length → (i ∈ M ↔ ms[i]? = some true)) : Rel ⟨G, M, ioOf ms vs, H, Hv⟩ (startF N.length ds) (L2.start N vs) H Hv := by
  have ld : ds.length ≤ N.length := by rw [S.lend]; exact hN
  have lv : vs.length ≤ N.length := by rw [S.lenv]; exact hN
  have lt : ∀ {i : Nat} {d : D}, ds[i]? = some d → i < ms.length := fun {i d} h => by
    rw [← S.lend]
    exact (List.getElem?_eq_some_iff.mp h).1
  have mode : ∀ {i : Nat}, i < ms.length → ms[i]? = some true ∨ ms[i]? = some false := fun {i} h => by
    rw [List.getElem?_eq_getElem h]
    cases ms[i] <;> simp
  refine ⟨S.sub, .refl _, fun b o h => .inl h, fun b o h _ _ => h, ?_, fun i d e hm => ?_, fun i d e hc hm => ?_, fun i d e hm => ?_, fun i j a di dj hi hj hij e1 e2 s1 s2 => ?_, fun p hp => ?_, S.tab⟩
  · show (startF N.length ds).length = (L2.start N vs).length
    unfold startF L2.start
    simp only [List.length_append, List.length_map, List.length_replicate]
    rw [S.lend, S.lenv]
  · have e' := (startF_get ld).mp e
    have hl := lt e'
    rcases mode hl with h | h
    · exact absurd ((hM i hl).mpr h) hm
    · obtain ⟨v, h1, h2⟩ := S.val i d h e'
      exact ⟨v, (start_get lv).mpr h1, h2⟩
  · have e' := (startF_get ld).mp e
    have hl := lt e'
    have h := (hM i hl).mp hm
    obtain ⟨a, h1, h2, h3⟩ := S.own i d h e'
    rw [h3.isCell] at hc
    cases hc
  · have e' := (startF_get ld).mp e.1
    have hl := lt e'
    have h := (hM i hl).mp hm
    obtain ⟨a, h1, h2, h3⟩ := S.own i d h e'
    exact ⟨a, (start_get lv).mpr h1, h2, .inl ⟨(i, a), mem_ioOf.mpr ⟨h, h1⟩, rfl⟩, h3⟩
  · have e1' := (startF_get ld).mp e1.1
    have e2' := (startF_get ld).mp e2.1
    exact S.sep i j a hij ((hM i (lt e1')).mp hi) ((hM j (lt e2')).mp hj) ((start_get lv).mp s1) ((start_get lv).mp s2)
  · obtain ⟨i, a⟩ := p
    obtain ⟨h1, h2⟩ := mem_ioOf.mp hp
    have hl : i < ms.length := (List.getElem?_eq_some_iff.mp h1).1
    have hd : ds[i]? = some (ds[i]'(by rw [S.lend]; exact hl)) := List.getElem?_eq_getElem _
    obtain ⟨_, _, _, h3⟩ := S.own i _ h1 hd
    exact ⟨(hM i hl).mpr h1, ⟨_, (startF_get ld).mpr hd, h3.isCell⟩, (start_get lv).mpr h2⟩
theorem fin_of (hl : vs.length = ms.length) {fr : Fr} {H' Hv' : Hp} (f : FinB ⟨G, M, ioOf ms vs, H, Hv⟩ fr H' Hv') : FinC G ms (outsOf ms.length fr) vs H Hv H' Hv' where
  sub := f.sub
  ext := f.ext0
  new := f.new
  keep := fun b o h no nt => f.keep b o h (fun p hp z => no (by
    obtain ⟨i, a⟩ := p
    obtain ⟨h1, h2⟩ := (mem_ioOf (ms := ms) (vs := vs)).mp hp
    exact ⟨i, h1, by rw [← z]; exact h2⟩)) nt
  tab := f.tab
  io := fun i a h1 h2 => by
    obtain ⟨z1, d, z2, z3⟩ := f.io (i, a) (mem_ioOf.mpr ⟨h1, h2⟩)
    refine ⟨z1, d, ?_, z3⟩
    have hi : i < ms.length := (List.getElem?_eq_some_iff.mp h1).1
    unfold outsOf
    rw [List.getElem?_map, List.getElem?_range hi]
    show some ((fr[i]?.join).getD .non) = some d
    have z2' : fr[i]? = some (some d) := z2
    rw [z2']
    rfl
end
section
variable {P : Program} {w : World} {G : SE} {ms : List Bool} {M : List Nat} {rf : Bool} {g : Sv} {x qual : Str} {st : Stmt} {f : Addr} {fd : FuncData} {N ps : List Str} {k : Nat}
/-- THE RULE for a def: what its body's term of rules gives -/
theorem fnok_of (F : Fun G.K x qual st f fd) (S : FnScope N ps (defScope st)) (hlen : ms.length = ps.length) (hM : ∀ i, i < ms.length → (i ∈ M ↔ ms[i]? = some true)) (hret : rf = false ∨ ∀ ds fr, g (startF N.length ds) ≠ .ok .nx fr)
    (hbody : ∀ (cdv : Value) (A : Around) (outer : List Env) (s : Shared) (H : Hp) (E : XK) (io : List (Nat × Addr)) (Hv : Hp), (∀ p ∈ io, ms[p.1]? = some true) → Room k (A.deeper (PyProof.Rows.envOfC qual (defScope st) s.heap.objs.size f cdv)) →
      DSs (cxOf (L2.CX G.P G.w) G.P G.w G.K G.mg G.base N qual (defScope st) f cdv A outer s H E) ⟨G, M, io, H, Hv⟩ (fun cls d _ H => E cls d H) rf (defBody st) g) :
    FnOk G.P G.w G.K G.mg G.base (L2.CX G.P G.w) (k + 1) f fd ps (spOf G ms rf (runFn ms.length N.length g)) := by
  have hNl : ms.length ≤ N.length := by
    have := congrArg List.length S.pre
    rw [List.length_take] at this
    omega
  refine F.okX S (fun vs H Q E h => ?_) (fun cdv A outer s H vs Q E hr h => ?_)
  · obtain ⟨ds, Hv, S', _⟩ := h
    rw [S'.lenv, hlen]
  · obtain ⟨ds, Hv, S', h⟩ := h
    refine ⟨_, hbody cdv A outer s H E (ioOf ms vs) Hv (fun p hp => ((mem_ioOf (a := p.2)).mp hp).1) hr, startF N.length ds, Hv, rel_start S' hNl hM, ?_⟩
    unfold runFn at h
    cases hg : g (startF N.length ds) with
    | bad => rw [hg] at h; exact h.elim
    | exc c fs fr =>
      rw [hg] at h
      exact fun dd σ' H' Hv' R _ ex => h dd H' Hv' (fin_of S'.lenv R.fin) ex
    | ok fl fr =>
      rw [hg] at h
      cases fl with
      | nx =>
        rcases hret with hrf | hrf
        · subst hrf
          refine fun σ' H' Hv' R _ => h .non H' Hv' (fin_of S'.lenv R.fin) ?_
          show if false = true then _ else Rep G Hv' .non .non
          rw [if_neg Bool.false_ne_true]
          exact repN
        · exact absurd hg (hrf ds fr)
      | brk => exact h.elim
      | cnt => exact h.elim
      | ret d => exact fun v H' Hv' f' ret => h v H' Hv' (fin_of S'.lenv f') ret
end
end KS
namespace KS
open PySem PySem.Spec L2
/-! ### targets -/
abbrev Tv := D → Fr → Option Fr
def setL (fr : Fr) : List Nat → List D → Fr
  | i :: is, d :: ds => setL (fr.set i (some d)) is ds
  | _, _ => fr
def tgN (i : Nat) : Tv := fun d fr => some (fr.set i (some d))
def tgT (is : List Nat) : Tv := fun d fr => match d with
  | .tup ds => if ds.length = is.length then some (setL fr is ds) else none
  | _ => none
def dTG (B : Bd) (is : List Nat) (t : Tv) : TG := fun v σ H Q => ∃ fr Hv d fr', Rel B fr σ H Hv ∧ Rep B.G Hv d v ∧ t d fr = some fr' ∧
  ∀ σ', Rel B fr' σ' H Hv → σ'.length = σ.length → (∀ j, j ∉ is → σ'[j]? = σ[j]?) → Q σ' H
/-- a target touches its own slots alone -/
def TgOk (t : Tv) (is : List Nat) : Prop := ∀ d fr fr', t d fr = some fr' → ∀ j, j ∉ is → fr'[j]? = fr[j]?
theorem setL_out : ∀ {is : List Nat} {ds : List D} {fr : Fr} {j : Nat}, j ∉ is → (setL fr is ds)[j]? = fr[j]?
  | [], _, _, _, _ => rfl
  | i :: is, [], _, _, _ => rfl
  | i :: is, d :: ds, fr, j, h => by
    rw [List.mem_cons, not_or] at h
    rw [setL, setL_out h.2, List.getElem?_set_ne (Ne.symm h.1)]
theorem tgN_ok {i : Nat} : TgOk (tgN i) [i] := fun d fr fr' e j hj => by
  cases e
  exact List.getElem?_set_ne fun z => hj (by rw [z]; exact List.mem_singleton.mpr rfl)
theorem tgT_ok {is : List Nat} : TgOk (tgT is) is := fun d fr fr' e j hj => by
  unfold tgT at e
  split at e
  · split at e
    · cases e
      exact setL_out hj
    · cases e
  · cases e
structure DG (X : Cx) (B : Bd) (tg : Expr) (is : List Nat) (t : Tv) : Prop where
  pg : PG X tg (dTG B is t)
  ok : TgOk t is
def dTGs (B : Bd) (is js : List Nat) : TGs := fun vs σ H Q => ∃ fr Hv ds, Rel B fr σ H Hv ∧ RepL B.G Hv ds vs ∧ ds.length = is.length ∧
  ∀ σ', Rel B (setL fr is ds) σ' H Hv → σ'.length = σ.length → (∀ j, j ∉ js → σ'[j]? = σ[j]?) → Q σ' H
def DGs (X : Cx) (B : Bd) (tgs : List Expr) (is js : List Nat) : Prop := PGs X tgs (dTGs B is js)
theorem pg_imp {X : Cx} {tg : Expr} {t t' : TG} (h : PG X tg t) (i : ∀ v σ H Q, t' v σ H Q → t v σ H Q) : PG X tg t' := ⟨fun pins s σ H v u Q I r hw => h.run pins s σ H v u Q I r (i v σ H Q hw)⟩
theorem pgs_imp {X : Cx} {tg : List Expr} {t t' : TGs} (h : PGs X tg t) (i : ∀ v σ H Q, t' v σ H Q → t v σ H Q) : PGs X tg t' := ⟨fun pins s σ H v u Q I r hw => h.run pins s σ H v u Q I r (i v σ H Q hw)⟩
section
variable {X : Cx} {B : Bd} {pos : Pos}
theorem g_name {i : Nat} {x : Str} (hi : i ∉ B.M) (nd : X.N.Nodup) (hN : X.N[i]? = some x := by rfl) (hx : Loc X.env.scope x := by first | exact Or.inl rfl | exact Or.inr rfl)
    (hf : X.fn x = true ∨ X.env.scope.names.lookup x = some .local := by first | exact .inl rfl | exact .inr rfl | assumption) : DG X B (.Name x pos) [i] (tgN i) := by
  refine ⟨?_, tgN_ok⟩
  refine pg_imp (pg_name nd hN hx hf) fun v σ H Q h => ?_
  obtain ⟨fr, Hv, d, fr', R, r, ht, k⟩ := h
  cases ht
  exact k _ (R.setV hi r) (by rw [List.length_set]) fun j hj => List.getElem?_set_ne (fun z => hj (by rw [z]; exact List.mem_singleton.mpr rfl))
theorem gs_nil : DGs X B [] [] [] := by
  refine pgs_imp pgs_nil fun vs σ H Q h => ?_
  obtain ⟨fr, Hv, ds, R, r, hl, k⟩ := h
  have e : ds = [] := List.eq_nil_of_length_eq_zero hl
  subst e
  exact ⟨r.nil_inv, k σ R rfl fun _ _ => rfl⟩
theorem gs_cons {i : Nat} {x : Str} {es : List Expr} {is js : List Nat} (hi : i ∉ B.M) (nd : X.N.Nodup) (ht : DGs X B es is js) (hN : X.N[i]? = some x := by rfl) (hx : Loc X.env.scope x := by first | exact Or.inl rfl | exact Or.inr rfl)
    (hf : X.fn x = true ∨ X.env.scope.names.lookup x = some .local := by first | exact .inl rfl | exact .inr rfl | assumption)
    (hs : (assignEach (.Name x pos :: es) X.env).map (·.2) = assign (.Name x pos) X.env :: (assignEach es X.env).map (·.2) := by rfl) : DGs X B (.Name x pos :: es) (i :: is) (i :: js) := by
  refine pgs_imp (pgs_cons (pg_name nd hN hx hf) ht hs) fun vs σ H Q h => ?_
  obtain ⟨fr, Hv, ds, R, r, hl, k⟩ := h
  cases ds with
  | nil => cases hl
  | cons d ds =>
    obtain ⟨v, t, rfl, h1, h2⟩ := r.cons_inv
    refine ⟨v, t, rfl, fr.set i (some d), Hv, ds, R.setV hi h1, h2, by simpa using hl, fun σ' R' hl' ho => k σ' R' (by rw [hl', List.length_set]) fun j hj => ?_⟩
    rw [List.mem_cons, not_or] at hj
    rw [ho j hj.2, List.getElem?_set_ne (Ne.symm hj.1)]
theorem g_tup {es : List Expr} {k : Nat} {is : List Nat} (hc : X.calm = true) (h : DGs X B es is is) (hK : X.K = B.G.K := by rfl) (hn : (assignEach es X.env).length = is.length := by rfl) (hst : (assignEach es X.env).findIdx? (·.1) = none := by rfl) : DG X B (.Tuple es k pos) is (tgT is) := by
  refine ⟨?_, tgT_ok⟩
  refine pg_imp (pg_tup hc h hn hst) fun v σ H Q hh => ?_
  obtain ⟨fr, Hv, d, fr', R, r, ht, k⟩ := hh
  unfold tgT at ht
  split at ht
  · split at ht
    · next hl =>
      cases ht
      obtain ⟨a, vs, rfl, q, rl⟩ := Rep.tup_inv r
      exact ⟨a, vs, rfl, by rw [hK]; exact R.sub.sqt q, by rw [rl.length]; exact hl, fr, Hv, _, R, rl, hl, k⟩
    · cases ht
  · cases ht
end
/-! ### what is walked -/
abbrev Iv := Fr → Res Fr (List D)
structure DWalk (B : Bd) (J : It) (ds : List D) (Hv1 : Hp) : Prop where
  ex : ∃ (S : Hp → Prop) (Y : Nat → Hp → V → Hp → Prop), Walk J ds.length S Y ∧ (∀ H' Hv', Sub Hv1 Hv' → Sub Hv' H' → S H') ∧
    (∀ i H' Hv' x H'', i < ds.length → Sub Hv1 Hv' → Sub Hv' H' → Y i H' x H'' → ∃ d, ds[i]? = some d ∧ ((H'' = H' ∧ Rep B.G Hv' d x) ∨ (∃ T es vs, d = .tup es ∧ x = .ref T ∧ H' T = none ∧ H'' = upd H' T (.tup vs) ∧ RepL B.G Hv' es vs)))
def PostI (B : Bd) (W : WX) (fr : Fr) (σ : L2.St) (H Hv : Hp) (r : Res Fr (List D)) (R : It → Hp → Prop) : Prop :=
  match r with
  | .ok ds fr1 => ∀ J H1 Hv1, Nxt B fr σ H Hv fr1 H1 Hv1 → DWalk B J ds Hv1 → R J H1
  | .exc c fs fr' => ∀ dd H' Hv', Nxt B fr σ H Hv fr' H' Hv' → ExcAt B.G H' Hv' c fs dd → W (.ref (B.G.ecls c)) (some dd) σ H'
  | .bad => False
def dTI (B : Bd) (W : WX) (h : Iv) : TI := fun σ H R => ∃ fr Hv, Rel B fr σ H Hv ∧ PostI B W fr σ H Hv (h fr) R
def DI (X : Cx) (B : Bd) (W : WX) (tg iter : Expr) (h : Iv) : Prop := PI X tg iter (dTI B W h)
theorem pi_imp {X : Cx} {tg iter : Expr} {t t' : TI} (h : PI X tg iter t) (i : ∀ σ H R, t' σ H R → t σ H R) : PI X tg iter t' := ⟨fun pins s σ H R I hw => h.run pins s σ H R I (i σ H R hw)⟩
/-- a list, a tuple, a text -/
def iSeq (K : PySem.W.Frag) (tl : TE) : TI := fun σ H R => tl σ H fun x H1 => (∃ a, x = .ref a ∧ (∃ xs, SqL K H1 a xs) ∧ R (Itl K a) H1) ∨ (∃ a, x = .ref a ∧ (∃ xs, SqT K H1 a xs) ∧ R (Itt K a) H1) ∨ (∃ z, x = .str z ∧ R (Its z) H1)
theorem pi_seq {X : Cx} {tg l : Expr} {tl : TE} (hl : PE X l tl) : PI X tg l (iSeq X.K tl) := by
  refine ⟨fun pins s σ H R I h => ?_⟩
  refine thn (hl.run pins s σ H _ I h) fun v s1 ⟨x, H1, I1, r1, q1⟩ => ?_
  rcases q1 with ⟨a, e, ⟨xs, hq⟩, q⟩ | ⟨a, e, ⟨xs, hq⟩, q⟩ | ⟨z, e, q⟩
  · subst e
    cases r1
    obtain ⟨its, rv, p, hz⟩ := I1.list hq
    refine wpAny_pyIter_list p.isList ?_
    refine ⟨s1.heap.objs.size, [s1.heap.objs.size], _, _, H1, rfl, I1.kept (t' := s1.toks) fun b o e => Heap.get?_push_of_some _ e, turn_list a _, ⟨_, Heap.get?_push_size _ rfl, rfl, rfl⟩, fun b hb => ?_, q⟩
    have e : b = s1.heap.objs.size := by simpa using hb
    subst e
    exact I1.fpOk (Nat.le_refl _) (I1.hok.fresh (Nat.le_refl _))
  · subst e
    cases r1
    obtain ⟨its, rv, p, hz⟩ := I1.tuple hq
    refine wpAny_pyIter_tuple (show s1.heap.IsTuple a its.toArray from p) ?_
    refine ⟨s1.heap.objs.size, [s1.heap.objs.size], _, _, H1, rfl, I1.kept (t' := s1.toks) fun b o e => Heap.get?_push_of_some _ e, turn_tuple a _, ⟨_, Heap.get?_push_size _ rfl, rfl, rfl⟩, fun b hb => ?_, q⟩
    have e : b = s1.heap.objs.size := by simpa using hb
    subst e
    exact I1.fpOk (Nat.le_refl _) (I1.hok.fresh (Nat.le_refl _))
  · subst e
    obtain ⟨t, rfl⟩ := r1
    cases ha : z.cps.all (· < 128)
    · exact wpAny_pyIter_wide ha (pi_one (tk := s1.toks) I1 _ (turn_str _ z t "str_iterator" (.inr rfl)) ⟨_, Heap.get?_push_size _ rfl, rfl, rfl⟩ q)
    · exact wpAny_pyIter_ascii ha (pi_one (tk := s1.toks) I1 _ (turn_str _ z t "str_ascii_iterator" (.inl rfl)) ⟨_, Heap.get?_push_size _ rfl, rfl, rfl⟩ q)
def chars (z : Str) : List D := z.cps.toList.map fun c => .str ⟨#[c]⟩
def seqD : D → Option (List D)
  | .lst ds => some ds
  | .tup ds => some ds
  | .scr ns => some (ns.map D.int)
  | .str z => some (chars z)
  | _ => none
def iVal (f : Ev) : Iv := fun fr => (f fr).bind fun d fr1 => if pers d = true then (match seqD d with
  | some ds => .ok ds fr1
  | none => .bad) else .bad
section
variable {B : Bd} {Hv1 : Hp} {ds es : List D}
theorem repl_at (s : RepL B.G Hv1 ds vs) {i : Nat} (hi : i < ds.length) {x : V} (e : vs[i]? = some x) {Hv' : Hp} (h : Sub Hv1 Hv') : ∃ d, ds[i]? = some d ∧ Rep B.G Hv' d x := by
  obtain ⟨d, h1, h2⟩ := s.getV e
  exact ⟨d, h1, Rep.mono h _ _ h2⟩
theorem dwalk_list {a : Addr} {vs : List V} (q : Hv1 a = some (.lst vs)) (r : RepL B.G Hv1 ds vs) : DWalk B (Itl B.G.K a) ds Hv1 := by
  refine ⟨_, _, by rw [← r.length]; exact walk_list, fun H' Hv' s1 s2 => SqL.of (s2 _ _ (s1 _ _ q)), fun i H' Hv' x H'' hi s1 s2 y => ?_⟩
  obtain ⟨e, y⟩ := y
  obtain ⟨d, h1, h2⟩ := repl_at r hi y s1
  exact ⟨d, h1, .inl ⟨e, h2⟩⟩
theorem dwalk_tup {a : Addr} {vs : List V} (q : SqT B.G.K Hv1 a vs) (r : RepL B.G Hv1 ds vs) : DWalk B (Itt B.G.K a) ds Hv1 := by
  refine ⟨_, _, by rw [← r.length]; exact walk_tup, fun H' Hv' s1 s2 => s2.sqt (s1.sqt q), fun i H' Hv' x H'' hi s1 s2 y => ?_⟩
  obtain ⟨e, y⟩ := y
  obtain ⟨d, h1, h2⟩ := repl_at r hi y s1
  exact ⟨d, h1, .inl ⟨e, h2⟩⟩
theorem dwalk_scr {a : Addr} {ns : List Int} (q : SqL B.G.K Hv1 a (ns.map V.int)) : DWalk B (Itl B.G.K a) (ns.map D.int) Hv1 := by
  have w := walk_list (K := B.G.K) (a := a) (xs := ns.map V.int)
  rw [List.length_map] at w
  refine ⟨_, _, by rw [List.length_map]; exact w, fun H' Hv' s1 s2 => s2.sql (s1.sql q), fun i H' Hv' x H'' hi s1 s2 y => ?_⟩
  obtain ⟨e, y⟩ := y
  rw [List.getElem?_map] at y
  cases hn : ns[i]? with
  | none => rw [hn] at y; cases y
  | some n =>
    rw [hn] at y
    cases y
    exact ⟨.int n, by rw [List.getElem?_map, hn]; rfl, .inl ⟨e, Rep.int_iff.mpr rfl⟩⟩
theorem dwalk_str {z : Str} : DWalk B (Its z) (chars z) Hv1 := by
  refine ⟨_, _, by rw [show (chars z).length = z.cps.size by simp [chars]]; exact walk_str, fun _ _ _ _ => trivial, fun i H' Hv' x H'' hi s1 s2 y => ?_⟩
  obtain ⟨e, c, hc, rfl⟩ := y
  refine ⟨.str ⟨#[c]⟩, ?_, .inl ⟨e, Rep.str_iff.mpr rfl⟩⟩
  unfold chars
  rw [List.getElem?_map, Array.getElem?_toList, hc]
  rfl
end
section
variable {X : Cx} {B : Bd} {W : WX} {tg a b : Expr} {f g : Ev} {p pos : Pos}
theorem i_val (ha : DE X B W a f) (hK : X.K = B.G.K := by rfl) : DI X B W tg a (iVal f) := by
  refine pi_imp (pi_seq ha) fun σ H R h => ?_
  obtain ⟨fr, Hv, Rl, h⟩ := h
  refine ⟨fr, Hv, Rl, ?_⟩
  unfold iVal at h
  cases hf : f fr with
  | bad => rw [hf] at h; exact h.elim
  | exc c fs fr1 => rw [hf] at h; exact h
  | ok d fr1 =>
    rw [hf] at h
    dsimp only [Res.bind] at h
    intro v H1 Hv1 n rw1
    split at h
    · next hp =>
      have r := rw1.rep fun i z => by rw [z] at hp; cases hp
      cases d with
      | lst ds =>
        obtain ⟨x, vs, rfl, q, rl⟩ := Rep.lst_inv r
        exact .inl ⟨x, rfl, ⟨vs, SqL.of (n.rel.sub _ _ q)⟩, by rw [hK]; exact h _ H1 Hv1 n (dwalk_list q rl)⟩
      | tup ds =>
        obtain ⟨x, vs, rfl, q, rl⟩ := Rep.tup_inv r
        exact .inr (.inl ⟨x, rfl, ⟨vs, by rw [hK]; exact n.rel.sub.sqt q⟩, by rw [hK]; exact h _ H1 Hv1 n (dwalk_tup q rl)⟩)
      | scr ns =>
        obtain ⟨x, rfl, q⟩ := Rep.scr_inv r
        exact .inl ⟨x, rfl, ⟨_, by rw [hK]; exact n.rel.sub.sql q⟩, by rw [hK]; exact h _ H1 Hv1 n (dwalk_scr q)⟩
      | str z =>
        rw [Rep.str_iff.mp r]
        exact .inr (.inr ⟨z, rfl, h _ H1 Hv1 n dwalk_str⟩)
      | _ => exact h.elim
    · exact h.elim
end
end KS
namespace KS
open PySem PySem.Spec L2 PyProof.Rows
/-! ### enumerate over a tuple -/
set_option maxHeartbeats 1000000 in
theorem meets_enumerate_new1 {v : Value} {o : Obj} {H : Heap → Prop} (B : Begins v o H) :
    Meets (Builtin.«enumerate.__new__» ⟨[.type "enumerate", v], []⟩) (fun _ R s => H s.heap ∧
      R (.ok (.ret (.ref (s.heap.push o).objs.size))) { s with heap := (s.heap.push o).push { cls := .type "enumerate", data := .fields #[.none, .bool false, .ref s.heap.objs.size, rawInt 0, .none, .none] } }) :=
  .of_wp fun prog w A R s h => by
    obtain ⟨hp, g, d, tk, os⟩ := s; obtain ⟨h1, h⟩ := h
    have hsub := sub_enumerate
    have q1 : ∀ {A' : Around} {E : Value → Shared → Prop} {Q : Value → Shared → Prop}, Q (.ref hp.objs.size) ⟨hp.push o, g, d, tk, os⟩ → wpAny (model prog w) A' (pyIter v) Q E ⟨hp, g, d, tk, os⟩ :=
      fun q => B.iter prog w _ _ ⟨hp, g, d, tk, os⟩ _ h1 q
    wp_walk using q1
    refine wpAny_stack_any fun st => wpAny_pure ?_
    split
    · rename_i c _ _ _ _ _
      cases (c == Value.type "enumerate")
      · wp_walk using q1
        exact ⟨_, rfl, h⟩
      · wp_walk using q1
        exact ⟨_, rfl, h⟩
    · wp_walk using q1
      exact ⟨_, rfl, h⟩
theorem enum_begins1 {prog : Program} {w : World} {A : Around} {E : Value → Shared → Prop} {s : Shared} {v : Value} {o : Obj} {H : Heap → Prop} {Q : Value → Shared → Prop} (B : Begins v o H) (h1 : H s.heap)
    (h : ∀ h', IsEnum h' (s.heap.objs.size + 1) s.heap.objs.size 0 .none → h'.get? s.heap.objs.size = some o → h'.objs.size = s.heap.objs.size + 2 →
      (∀ b o, s.heap.get? b = some o → h'.get? b = some o) → Q (.ref (s.heap.objs.size + 1)) { s with heap := h' }) :
    wpAny (model prog w) A (call (.type "enumerate") [v]) Q E s := by
  refine callType_new F.called_enumerate (by decide) (F.typeCall_enumerate_1 _) (F.newCall_enumerate_1 _) (fun obj => F.args_object_init_2 obj _) F.entry_enumerate_new
    (meets_enumerate_new1 B) ⟨h1, ?_⟩
  have hz : (s.heap.push o).objs.size = s.heap.objs.size + 1 := Heap.size_push ..
  show _ ∧ _
  rw [hz]
  have he : IsEnum ((s.heap.push o).push { cls := .type "enumerate", data := .fields #[.none, .bool false, .ref s.heap.objs.size, rawInt 0, .none, .none] }) (s.heap.objs.size + 1) s.heap.objs.size 0 .none := by
    have := Heap.get?_push_size (s.heap.push o) (o := { cls := .type "enumerate", data := .fields #[.none, .bool false, .ref s.heap.objs.size, rawInt 0, .none, .none] }) rfl
    rw [hz] at this; exact this
  refine ⟨⟨_, he, rfl⟩, h _ he (Heap.get?_push_of_some _ (Heap.get?_push_size _ B.free)) (by rw [Heap.size_push, hz]) fun b o x => Heap.get?_push_of_some _ (Heap.get?_push_of_some _ x)⟩
/-- the tuple at a, each item in a new pair -/
def IteT (K : PySem.W.Frag) (a : Addr) : It :=
  ⟨fun i H => ∃ (xs : List V) (x : V), SqT K H a xs ∧ xs[i]? = some x, fun i H v H' => ∃ T x, v = .ref T ∧ H T = none ∧ H' = upd H T (.tup [.int (i : Nat), x]) ∧ ∀ xs, SqT K H a xs → xs[i]? = some x, fun i H => ∃ xs : List V, SqT K H a xs ∧ xs.length ≤ i⟩
theorem walk_enumT {K : PySem.W.Frag} {a : Addr} {xs : List V} : Walk (IteT K a) xs.length (fun H => SqT K H a xs) (YPair (fun i => some (.int (i : Nat))) (fun i => xs[i]?)) := by
  refine ⟨fun i _ hi q => ⟨xs, xs[i], q, by simp [hi]⟩, fun _ q => ⟨xs, q, Nat.le_refl _⟩, fun i H v H' _ q y => ?_⟩
  obtain ⟨T, x, h1, h2, h3, h4⟩ := y
  exact ⟨T, .int (i : Nat), x, h1, h2, h3, rfl, h4 xs q⟩
theorem turn_enumT {P : Program} {w : World} {K : PySem.W.Frag} {elts : List Expr} {kk : Nat} {tpos : Pos} (a e it : Addr) :
    Turn P w K (.Tuple elts kk tpos) (IteT K a) [e, it] e (fun i h => (∃ old, IsEnum h e it ((i : Nat) : Int) old) ∧ h.IsTupleIter it a i ∧ e ≠ it ∧ a ≠ it ∧ e ≠ a) where
  mem := by simp
  obj := fun i h st b hb => by
    obtain ⟨⟨old, he⟩, ⟨o, ho, hc, hd⟩, _⟩ := st
    have e' : b = e ∨ b = it := by simpa using hb
    rcases e' with z | z
    · rw [z]; exact ⟨_, he, fun v q => nomatch q⟩
    · rw [z]; exact ⟨o, ho, fun v q => by rw [hd] at q; cases q⟩
  keep := fun i h h' st k => let ⟨⟨old, he⟩, hi, hne⟩ := st; ⟨⟨old, k e (by simp) _ he⟩, hi.at fun o q => k it (by simp) o q, hne⟩
  item := by
    intro X hP hw hK hc i pins s σ H E I hf st hg
    subst hP hw hK
    obtain ⟨⟨old, he⟩, hit, hne, hat, hea⟩ := st
    obtain ⟨xs, x, hq, hx⟩ := hg
    obtain ⟨its, rv, p, hz⟩ := I.tuple hq
    obtain ⟨u, hu, ru⟩ := rv.get hx
    have hel : e < s.heap.objs.size := Heap.lt_size he
    have hil : it < s.heap.objs.size := by obtain ⟨_, q, _⟩ := hit; exact Heap.lt_size q
    have hlen := rv.length
    have hi : i < its.toArray.size := by
      have := (List.getElem?_eq_some_iff.mp hu).1
      simpa using this
    refine wpAny_pyNext_enum_itemD (Draws.tuple (show X.A.in1.handled = none from (I.ok.hd hc)) it a hat its.toArray) he ⟨hit, show s.heap.IsTuple a its.toArray from p⟩ hi hne (by simp [hne, hea]) fun y h' tk hPy ho hit' hT hsz hk => ?_
    have ey : y = u := by
      have : its.toArray[i]? = some y := hPy
      rw [show its.toArray[i]? = its[i]? by simp, hu] at this
      exact (Option.some.inj this).symm
    subst ey
    refine ⟨_, rfl, wpAny_letOwnedTupleGo_enum (s := { s with heap := h', toks := tk + 1 }) ho fun h'' he' sb => ?_⟩
    have hT2 : h''.get? s.heap.objs.size = some { cls := .type "tuple", data := .seq #[.int i tk, y] } := (sb.2 _ (Nat.ne_of_gt hel)).trans hT
    have new : ObjOk X.prog X.w (upd H s.heap.objs.size (.tup [.int (i : Nat), x])) h'' s.heap.objs.size (.tup [.int (i : Nat), x]) :=
      ⟨by show 2 ≤ sizeLine; decide, [.int i tk, y], .cons ⟨_, rfl⟩ (.cons ru .nil), ⟨_, hT2, rfl, _, rfl⟩⟩
    have I1 : Inv X pins σ (upd H s.heap.objs.size (.tup [.int (i : Nat), x])) { s with heap := h'', toks := tk + 1 } :=
      I.turnedNew (ch := [e, it]) (fun b ob hb q => (sb.2 b (fun z => hb (by simp [z]))).trans (hk b ob (fun z => hb (by simp [z])) (fun z => hb (by simp [z])) q)) hf (Nat.le_refl _) new
    refine ⟨.ref s.heap.objs.size, _, I1, rfl, ⟨_, x, rfl, I.hok.fresh (Nat.le_refl _), rfl, fun ys hy => by rw [I.tuple_inj hy hq]; exact hx⟩, ⟨⟨y, ?_⟩, hit'.1.at fun o q => (sb.2 it (Ne.symm hne)).trans q, hne, hat, hea⟩, fun b hb => ?_⟩
    · have e1 : ((i + 1 : Nat) : Int) = (i : Int) + 1 := by omega
      rw [e1]; exact he'
    · have hb' : b < s.heap.objs.size := by
        have e' : b = e ∨ b = it := by simpa using hb
        rcases e' with z | z
        · rw [z]; exact hel
        · rw [z]; exact hil
      rw [upd_ne (Nat.ne_of_lt hb')]
      exact (hf b hb).1
  done := by
    intro X hP hw hK hc i pins s σ H E I hf st hg
    subst hP hw hK
    obtain ⟨⟨old, he⟩, hit, hne, hat, hea⟩ := st
    obtain ⟨xs, hq, hx⟩ := hg
    obtain ⟨its, rv, p, hz⟩ := I.tuple hq
    obtain ⟨f0, f1, f2, f3, f4, f5⟩ := hf it (by simp)
    have hl := rv.length
    have hT : s.TypeIs (.ref e) "enumerate" := ⟨_, he, rfl⟩
    unfold pyNext
    refine wpAny_bind (wpAny_attempt (wpAny_callSpecial?_slot (name := Str.ofString "__next__") hT F.slot_enumerate_next
      (wpAny_call_entry F.slot_enumerate_next hT F.entry_enumerate_next ?_ (F.args_enumerate_next_1 _))))
    show wpAny _ _ (field (.ref e) 2 >>= _) _ _ _
    refine wpAny_bind (wpAny_field he rfl (x := .ref it) rfl ?_)
    refine wpAny_bind (wpAny_nextOf_tuple_end (show X.A.in1.handled = none from I.ok.hd hc) hit (show s.heap.IsTuple a its.toArray from p) (by simp; omega) fun h' x he' hx' => ?_)
    obtain ⟨o, ho, hc'⟩ := hx'
    refine wpAny_bind (wpAny_isInstance (T := "StopIteration") (b := true) ⟨o, ho, hc'⟩ isSubtype_stop ?_)
    exact wpAny_pure ⟨rfl, I.turned (t' := s.toks) (fun b o hb q => he' b o hb q) f0 f1 f3 f4 f5⟩
  self := fun A i s Q E st h => let ⟨⟨_, he⟩, _⟩ := st; wpAny_pyIter_enum he h
def iEnumA (K : PySem.W.Frag) (ta : TA) : TI := fun σ H R => ta σ H fun vs H1 => ∃ a xs, vs = [.ref a] ∧ ((SqL K H1 a xs ∧ R (Ite K a) H1) ∨ (SqT K H1 a xs ∧ R (IteT K a) H1))
theorem pi_enumA {X : Cx} {e : Expr} {ta : TA} {p pos tpos : Pos} {elts : List Expr} {kk : Nat} (hg : Gl X "enumerate") (hm : X.mg "enumerate" = none) (ha : PA X [e] ta) (hs : starEach [e] X.env = [(false, eval e X.env)] := by rfl) :
    PI X (.Tuple elts kk tpos) (.Call (.Name "enumerate" p) [e] [] pos) (iEnumA X.K ta) := by
  refine ⟨fun pins s σ H R I h => ?_⟩
  refine Call_ (ld_blt I hg hm boot_enumerate (PyProof.Rows.callWith_type1 (thn (ha.run pos pins s σ H _ I h) fun us s1 ⟨vs, H1, I1, r1, q1⟩ => ?_) hs rfl))
  obtain ⟨a, xs, ex, q1⟩ := q1
  subst ex
  cases r1 with
  | cons r rr =>
    cases rr
    cases r
    have fp : ∀ b ∈ [s1.heap.objs.size + 1, s1.heap.objs.size], FpOk X pins H1 b := fun b hb => by
      have e' : b = s1.heap.objs.size + 1 ∨ b = s1.heap.objs.size := by simpa using hb
      have hle : s1.heap.objs.size ≤ b := by
        rcases e' with z | z
        · rw [z]; exact Nat.le_add_right _ _
        · rw [z]; exact Nat.le_refl _
      exact I1.fpOk hle (I1.hok.fresh hle)
    rcases q1 with ⟨hq, q⟩ | ⟨hq, q⟩
    · obtain ⟨its, rv, p', hz⟩ := I1.list hq
      refine call_enumerate_list p'.isList fun h' he hit hsz hk => wpAny_pyIter_enum he ?_
      have I2 : Inv X pins σ H1 { s1 with heap := h' } := I1.kept (t' := s1.toks) hk
      exact ⟨s1.heap.objs.size + 1, [s1.heap.objs.size + 1, s1.heap.objs.size], _, _, H1, rfl, I2, turn_enum a (s1.heap.objs.size + 1) s1.heap.objs.size, ⟨⟨.none, he⟩, hit, Nat.succ_ne_self _⟩, fp, q⟩
    · obtain ⟨its, rv, p', hz⟩ := I1.tuple hq
      have pt : s1.heap.IsTuple a its.toArray := p'
      have al : a < s1.heap.objs.size := by obtain ⟨_, z, _⟩ := pt; exact Heap.lt_size z
      refine enum_begins1 (begins_tuple a its.toArray) pt fun h' he hit hsz hk => wpAny_pyIter_enum he ?_
      have I2 : Inv X pins σ H1 { s1 with heap := h' } := I1.kept (t' := s1.toks) hk
      exact ⟨s1.heap.objs.size + 1, [s1.heap.objs.size + 1, s1.heap.objs.size], _, _, H1, rfl, I2, turn_enumT a (s1.heap.objs.size + 1) s1.heap.objs.size, ⟨⟨.none, he⟩, ⟨_, hit, rfl, rfl⟩, Nat.succ_ne_self _, Nat.ne_of_lt al, Nat.ne_of_gt (Nat.lt_succ_of_lt al)⟩, fp, q⟩
end KS
namespace KS
open PySem PySem.Spec L2
def okI (j : Int) : Bool := decide (-(2 ^ 62) ≤ j ∧ j < 2 ^ 62)
def rangeD (i : Int) (n : Nat) : List D := (List.range n).map fun k => .int (i + (k : Nat))
def iRg1 (f : Ev) : Iv := fun fr => (f fr).bind fun d fr1 => match look fr1 d with
  | some (.int j) => if okI j = true then .ok (rangeD 0 j.toNat) fr1 else .bad
  | _ => .bad
def iRg2 (f g : Ev) : Iv := fun fr => (f fr).bind fun d fr1 => (g fr1).bind fun e fr2 => match look fr2 d, look fr2 e with
  | some (.int i), some (.int j) => if okI i = true then (if okI j = true then .ok (rangeD i (j - i).toNat) fr2 else .bad) else .bad
  | _, _ => .bad
def iotaD (ds : List D) : List D := ds.zipIdx.map fun p => .tup [.int (p.2 : Nat), p.1]
def iEn (f : Ev) : Iv := fun fr => (f fr).bind fun d fr1 => if pers d = true then (match d with
  | .lst ds => .ok (iotaD ds) fr1
  | .tup ds => .ok (iotaD ds) fr1
  | _ => .bad) else .bad
def zipD (xs ys : List D) : List D := (xs.zip ys).map fun p => .tup [p.1, p.2]
def iZp (f g : Ev) : Iv := fun fr => (f fr).bind fun d fr1 => if pers d = true then ((g fr1).bind fun e fr2 => if pers e = true then (match d, e with
  | .lst xs, .lst ys => .ok (zipD xs ys) fr2
  | .tup xs, .tup ys => .ok (zipD xs ys) fr2
  | _, _ => .bad) else .bad) else .bad
section
variable {B : Bd} {Hv1 : Hp}
theorem dwalk_range {lo : Int} {n : Nat} : DWalk B (Itr lo n) (rangeD lo n) Hv1 := by
  refine ⟨_, _, by rw [show (rangeD lo n).length = n by simp [rangeD]]; exact walk_range, fun _ _ _ _ => trivial, fun i H' Hv' x H'' hi s1 s2 y => ?_⟩
  obtain ⟨e, rfl⟩ := y
  have hi' : i < n := by simpa [rangeD] using hi
  refine ⟨.int (lo + i), ?_, .inl ⟨e, Rep.int_iff.mpr rfl⟩⟩
  unfold rangeD
  rw [List.getElem?_map, List.getElem?_range hi']
  rfl
theorem iota_len {ds : List D} : (iotaD ds).length = ds.length := by simp [iotaD]
theorem iota_get {ds : List D} {i : Nat} {d : D} (h : ds[i]? = some d) : (iotaD ds)[i]? = some (.tup [.int (i : Nat), d]) := by
  unfold iotaD
  rw [List.getElem?_map, List.getElem?_zipIdx, h]
  simp
theorem dwalk_enum {a : Addr} {ds : List D} {vs : List V} {J : It} {S : Hp → Prop} (w : Walk J vs.length S (YPair (fun i => some (.int (i : Nat))) (fun i => vs[i]?))) (hS : ∀ H' Hv', Sub Hv1 Hv' → Sub Hv' H' → S H') (r : RepL B.G Hv1 ds vs) : DWalk B J (iotaD ds) Hv1 := by
  refine ⟨S, _, by rw [iota_len, ← r.length]; exact w, hS, fun i H' Hv' x H'' hi s1 s2 y => ?_⟩
  obtain ⟨T, u, v, rfl, hT, rfl, e1, e2⟩ := y
  have e1 : some (V.int ((i : Nat) : Int)) = some u := e1
  cases e1
  obtain ⟨d, h1, h2⟩ := r.getV e2
  exact ⟨_, iota_get h1, .inr ⟨T, _, _, rfl, rfl, hT, rfl, .cons (Rep.int_iff.mpr rfl) (.cons (Rep.mono s1 _ _ h2) .nil)⟩⟩
theorem zip_len {xs ys : List D} : (zipD xs ys).length = min xs.length ys.length := by simp [zipD]
theorem zip_get {xs ys : List D} {i : Nat} {d e : D} (h : xs[i]? = some d) (k : ys[i]? = some e) : (zipD xs ys)[i]? = some (.tup [d, e]) := by
  unfold zipD
  have z : (xs.zip ys)[i]? = some (d, e) := List.getElem?_zip_eq_some.mpr ⟨h, k⟩
  rw [List.getElem?_map, z]
  rfl
theorem dwalk_zip {xs ys : List D} {vs us : List V} {J : It} {S : Hp → Prop} (w : Walk J (min vs.length us.length) S (YPair (fun i => vs[i]?) (fun i => us[i]?))) (hS : ∀ H' Hv', Sub Hv1 Hv' → Sub Hv' H' → S H') (r : RepL B.G Hv1 xs vs) (q : RepL B.G Hv1 ys us) : DWalk B J (zipD xs ys) Hv1 := by
  refine ⟨S, _, by rw [zip_len, ← r.length, ← q.length]; exact w, hS, fun i H' Hv' x H'' hi s1 s2 y => ?_⟩
  obtain ⟨T, u, v, rfl, hT, rfl, e1, e2⟩ := y
  obtain ⟨d, h1, h2⟩ := r.getV e1
  obtain ⟨e, h3, h4⟩ := q.getV e2
  exact ⟨_, zip_get h1 h3, .inr ⟨T, _, _, rfl, rfl, hT, rfl, .cons (Rep.mono s1 _ _ h2) (.cons (Rep.mono s1 _ _ h4) .nil)⟩⟩
end
theorem okI_spec {j : Int} (h : okI j = true) : -(2 ^ 62) ≤ j ∧ j < 2 ^ 62 := by simpa [okI] using h
section
variable {X : Cx} {B : Bd} {W : WX} {tg a b : Expr} {f g : Ev} {p pos : Pos}
theorem i_range1 (ha : DE X B W a f) (hm : X.mg "range" = none) (hg : Gl X "range" := by rfl) (he : starEach [a] X.env = (false, eval a X.env) :: starEach [] X.env := by rfl) (hs : starEach [a] X.env = [(false, eval a X.env)] := by rfl) : DI X B W tg (.Call (.Name "range" p) [a] [] pos) (iRg1 f) := by
  refine pi_imp (pi_range1 hg hm (pa_cons ha pa_nil he) hs) fun σ H R h => ?_
  obtain ⟨fr, Hv, Rl, h⟩ := h
  refine ⟨fr, Hv, Rl, ?_⟩
  unfold iRg1 at h
  cases hf : f fr with
  | bad => rw [hf] at h; exact h.elim
  | exc c fs fr1 => rw [hf] at h; exact h
  | ok d fr1 =>
    rw [hf] at h
    dsimp only [Res.bind] at h
    intro v H1 Hv1 n rw1
    split at h
    · next j hl =>
      split at h
      · next c =>
        obtain ⟨c1, c2⟩ := okI_spec c
        rw [n.rel.int_of rw1 hl]
        exact ⟨j, rfl, c1, c2, h _ H1 Hv1 n dwalk_range⟩
      · exact h.elim
    · exact h.elim
theorem i_range2 (ha : DE X B W a f) (hb : DE X B W b g) (hm : X.mg "range" = none) (hg : Gl X "range" := by rfl) (he2 : starEach [b] X.env = (false, eval b X.env) :: starEach [] X.env := by rfl) (he : starEach [a, b] X.env = (false, eval a X.env) :: starEach [b] X.env := by rfl)
    (hs : starEach [a, b] X.env = [(false, eval a X.env), (false, eval b X.env)] := by rfl) (hs2 : starEach [b] X.env = [(false, eval b X.env)] := by rfl) : DI X B W tg (.Call (.Name "range" p) [a, b] [] pos) (iRg2 f g) := by
  refine pi_imp (pi_range2 hg hm (pa_cons ha (pa_cons hb pa_nil he2) he) hs hs2) fun σ H R h => ?_
  obtain ⟨fr, Hv, Rl, h⟩ := h
  refine ⟨fr, Hv, Rl, ?_⟩
  unfold iRg2 at h
  cases hf : f fr with
  | bad => rw [hf] at h; exact h.elim
  | exc c fs fr1 => rw [hf] at h; exact h
  | ok d fr1 =>
    rw [hf] at h
    dsimp only [Res.bind] at h
    intro v H1 Hv1 n rw1
    refine ⟨fr1, Hv1, n.rel, ?_⟩
    cases hf2 : g fr1 with
    | bad => rw [hf2] at h; exact h.elim
    | exc c fs fr2 =>
      rw [hf2] at h
      exact fun dd H' Hv' m => h dd H' Hv' (n.trans m)
    | ok e fr2 =>
      rw [hf2] at h
      dsimp only at h
      intro v2 H2 Hv2 n2 rw2
      split at h
      · next i j hl hl2 =>
        split at h
        · next c =>
          split at h
          · next c' =>
            obtain ⟨c1, c2⟩ := okI_spec c
            obtain ⟨c3, c4⟩ := okI_spec c'
            rw [n2.rel.int_of (rw1.mono n2.ext) hl, n2.rel.int_of rw2 hl2]
            exact ⟨i, j, rfl, ⟨c1, c2, c3, c4⟩, h _ H2 Hv2 (n.trans n2) dwalk_range⟩
          · exact h.elim
        · exact h.elim
      · exact h.elim
theorem i_enum {elts : List Expr} {kk : Nat} {tpos : Pos} (ha : DE X B W a f) (hm : X.mg "enumerate" = none) (hK : X.K = B.G.K := by rfl) (hg : Gl X "enumerate" := by rfl) (he : starEach [a] X.env = (false, eval a X.env) :: starEach [] X.env := by rfl) (hs : starEach [a] X.env = [(false, eval a X.env)] := by rfl) :
    DI X B W (.Tuple elts kk tpos) (.Call (.Name "enumerate" p) [a] [] pos) (iEn f) := by
  refine pi_imp (pi_enumA hg hm (pa_cons ha pa_nil he) hs) fun σ H R h => ?_
  obtain ⟨fr, Hv, Rl, h⟩ := h
  refine ⟨fr, Hv, Rl, ?_⟩
  unfold iEn at h
  cases hf : f fr with
  | bad => rw [hf] at h; exact h.elim
  | exc c fs fr1 => rw [hf] at h; exact h
  | ok d fr1 =>
    rw [hf] at h
    dsimp only [Res.bind] at h
    intro v H1 Hv1 n rw1
    split at h
    · next hp =>
      have r := rw1.rep fun i z => by rw [z] at hp; cases hp
      cases d with
      | lst ds =>
        obtain ⟨x, vs, rfl, q, rl⟩ := Rep.lst_inv r
        exact ⟨x, vs, rfl, .inl ⟨SqL.of (n.rel.sub _ _ q), by rw [hK]; exact h _ H1 Hv1 n (dwalk_enum (a := x) walk_enum (fun H' Hv' s1 s2 => SqL.of (s2 _ _ (s1 _ _ q))) rl)⟩⟩
      | tup ds =>
        obtain ⟨x, vs, rfl, q, rl⟩ := Rep.tup_inv r
        exact ⟨x, vs, rfl, .inr ⟨by rw [hK]; exact n.rel.sub.sqt q, by rw [hK]; exact h _ H1 Hv1 n (dwalk_enum (a := x) walk_enumT (fun H' Hv' s1 s2 => s2.sqt (s1.sqt q)) rl)⟩⟩
      | _ => exact h.elim
    · exact h.elim
theorem walk_zipT {K : PySem.W.Frag} {a b : Addr} {xs ys : List V} {n : Nat} (hn : n = min xs.length ys.length) : Walk (RZ.ItzT K a b) n (fun H => SqT K H a xs ∧ SqT K H b ys) (YPair (fun i => xs[i]?) (fun i => ys[i]?)) := by
  subst hn
  refine ⟨fun i _ hi q => ?_, fun _ q => ⟨xs, ys, q.1, q.2, by omega⟩, fun i H v H' _ q y => ?_⟩
  · have h1 : i < xs.length := by omega
    have h2 : i < ys.length := by omega
    exact ⟨xs, ys, xs[i], ys[i], q.1, q.2, by simp [h1], by simp [h2]⟩
  · obtain ⟨T, x, z, h1, h2, h3, h4, h5⟩ := y
    exact ⟨T, x, z, h1, h2, h3, h4 xs q.1, h5 ys q.2⟩
theorem i_zip {elts : List Expr} {kk : Nat} {tpos : Pos} (ha : DE X B W a f) (hb : DE X B W b g) (hm : X.mg "zip" = none) (hK : X.K = B.G.K := by rfl) (hg : Gl X "zip" := by rfl) (he2 : starEach [b] X.env = (false, eval b X.env) :: starEach [] X.env := by rfl) (he : starEach [a, b] X.env = (false, eval a X.env) :: starEach [b] X.env := by rfl)
    (hpl : (backTo pos (starEach [b] X.env)).any (·.1) = false := by rfl) : DI X B W (.Tuple elts kk tpos) (.Call (.Name "zip" p) [a, b] [] pos) (iZp f g) := by
  refine pi_imp (RZ.pi_zipA hg hm (pa_cons ha (pa_cons hb pa_nil he2) he) he hpl) fun σ H R h => ?_
  obtain ⟨fr, Hv, Rl, h⟩ := h
  refine ⟨fr, Hv, Rl, ?_⟩
  unfold iZp at h
  cases hf : f fr with
  | bad => rw [hf] at h; exact h.elim
  | exc c fs fr1 => rw [hf] at h; exact h
  | ok d fr1 =>
    rw [hf] at h
    dsimp only [Res.bind] at h
    intro v H1 Hv1 n rw1
    refine ⟨fr1, Hv1, n.rel, ?_⟩
    split at h
    · next hp =>
      cases hf2 : g fr1 with
      | bad => rw [hf2] at h; exact h.elim
      | exc c fs fr2 =>
        rw [hf2] at h
        exact fun dd H' Hv' m => h dd H' Hv' (n.trans m)
      | ok e fr2 =>
        rw [hf2] at h
        dsimp only [Res.bind] at h
        intro v2 H2 Hv2 n2 rw2
        split at h
        · next hp2 =>
          have r := (rw1.mono n2.ext).rep fun i z => by rw [z] at hp; cases hp
          have r2 := rw2.rep fun i z => by rw [z] at hp2; cases hp2
          split at h
          · next xs ys =>
            obtain ⟨x, vs, rfl, q, rl⟩ := Rep.lst_inv r
            obtain ⟨y, us, rfl, q2, rl2⟩ := Rep.lst_inv r2
            exact ⟨x, y, vs, us, rfl, .inl ⟨SqL.of (n2.rel.sub _ _ q), SqL.of (n2.rel.sub _ _ q2), by rw [hK]; exact h _ H2 Hv2 (n.trans n2) (dwalk_zip (walk_zip rfl) (fun H' Hv' s1 s2 => ⟨SqL.of (s2 _ _ (s1 _ _ q)), SqL.of (s2 _ _ (s1 _ _ q2))⟩) rl rl2)⟩⟩
          · next xs ys =>
            obtain ⟨x, vs, rfl, q, qv, rl⟩ := n2.rel.tup_of (fr := fr2) (d := .tup xs) (.of r) rfl
            obtain ⟨y, us, rfl, q2, qv2, rl2⟩ := n2.rel.tup_of (fr := fr2) (d := .tup ys) (.of r2) rfl
            exact ⟨x, y, vs, us, rfl, .inr ⟨by rw [hK]; exact q, by rw [hK]; exact q2, by rw [hK]; exact h _ H2 Hv2 (n.trans n2) (dwalk_zip (walk_zipT rfl) (fun H' Hv' s1 s2 => ⟨s2.sqt (s1.sqt qv), s2.sqt (s1.sqt qv2)⟩) rl rl2)⟩⟩
          · exact h.elim
        · exact h.elim
    · exact (h : False).elim
end
/-! ### for -/
def loopF (t : Tv) (g : Sv) : List D → Sv
  | [], fr => .ok .nx fr
  | d :: ds, fr => match t d fr with
    | none => .bad
    | some fr1 => (g fr1).bind fun fl fr2 => match fl with
      | .nx => loopF t g ds fr2
      | .cnt => loopF t g ds fr2
      | .brk => .ok .nx fr2
      | .ret d => .ok (.ret d) fr2
def sFor (h : Iv) (t : Tv) (g : Sv) : Sv := fun fr => (h fr).bind fun ds fr1 => loopF t g ds fr1
section
variable {X : Cx} {B : Bd} {W : WX} {rf : Bool} {tg iter : Expr} {body : List Stmt} {is : List Nat} {t : Tv} {h : Iv} {g : Sv} {pos : Pos}
theorem s_for (hp : PassesOwn (model X.prog X.w) X.A X.env X.xe) (hc : X.calm = true) (hi : DI X B W tg iter h) (hg : DG X B tg is t) (hb : DSs X B W rf body g) (hs : ∀ x, foldedSetIterable iter X.env x = pure x := by intro _; rfl) :
    DS X B W rf (.For tg iter body [] pos) (sFor h t g) := by
  refine ps_imp (ps_for hp hc hi hg.pg hb hs) fun D σ H hh => ?_
  obtain ⟨fr, Hv, R, hh⟩ := hh
  refine ⟨fr, Hv, R, ?_⟩
  unfold sFor at hh
  cases hI : h fr with
  | bad => rw [hI] at hh; exact hh.elim
  | exc c fs fr1 =>
    rw [hI] at hh
    exact fun dd H' Hv' n e => hh dd σ H' Hv' n.rel n.ext e
  | ok ds fr1 =>
    rw [hI] at hh
    dsimp only [Res.bind] at hh
    intro J H1 Hv1 n w
    obtain ⟨S, Y, wk, hS, hY⟩ := w.ex
    refine for_it wk (fun i σ' H' => ∃ fr' Hv', Rel B fr' σ' H' Hv' ∧ Sub Hv1 Hv' ∧ PostS B W rf Hv' (loopF t g (ds.drop i) fr') D) ⟨fr1, Hv1, n.rel, .refl _, PostS.step n.ext hh⟩ (fun i σ' H' _ ⟨fr', Hv', R', s, _⟩ => hS H' Hv' s R'.sub) (fun i x σ' H' H'' hlt p y => ?_) (fun σ' H' p => ?_)
    · obtain ⟨fr', Hv', R', s, P⟩ := p
      obtain ⟨d, hd, hr⟩ := hY i H' Hv' x H'' hlt s R'.sub y
      have hdrop : ds.drop i = d :: ds.drop (i + 1) := by
        obtain ⟨hl, e⟩ := List.getElem?_eq_some_iff.mp hd
        rw [List.drop_eq_getElem_cons hl, e]
      rw [hdrop] at P
      obtain ⟨Hv2, s2, R2, r2⟩ : ∃ Hv2, Sub Hv' Hv2 ∧ Rel B fr' σ' H'' Hv2 ∧ Rep B.G Hv2 d x := by
        rcases hr with ⟨e, r⟩ | ⟨T, es, vs, rfl, rfl, hT, rfl, r⟩
        · rw [e]; exact ⟨Hv', .refl _, R', r⟩
        · have sT : Sub Hv' (upd Hv' T (.tup vs)) := (Sub.refl Hv').put (R'.hv_none hT)
          exact ⟨_, sT, R'.layV hT (fun ps z => by cases z), Rep.tup (.inl (.inl upd_same)) (RepL.mono sT _ _ r)⟩
      unfold loopF at P
      cases ht : t d fr' with
      | none => rw [ht] at P; exact P.elim
      | some fr2 =>
        rw [ht] at P
        dsimp only at P
        refine ⟨fr', Hv2, d, fr2, R2, r2, ht, fun σ2 R3 _ _ => ⟨fr2, Hv2, R3, ?_⟩⟩
        cases hgf : g fr2 with
        | bad => rw [hgf] at P; exact P.elim
        | exc c fs fr3 =>
          rw [hgf] at P
          exact fun dd σ' H' Hv' a b => P dd σ' H' Hv' a (s2.trans b)
        | ok fl fr3 =>
          rw [hgf] at P
          cases fl with
          | nx => exact fun σ' H' Hv' a b => ⟨fr3, Hv', a, s.trans (s2.trans b), PostS.step (s2.trans b) P⟩
          | cnt => exact fun σ' H' Hv' a b => ⟨fr3, Hv', a, s.trans (s2.trans b), PostS.step (s2.trans b) P⟩
          | brk => exact fun σ' H' Hv' a b => P σ' H' Hv' a (s2.trans b)
          | ret d => exact P
    · obtain ⟨fr', Hv', R', s, P⟩ := p
      rw [List.drop_length] at P
      exact P σ' H' Hv' R' (.refl _)
end
end KS
namespace KS
open PySem PySem.Spec L2
/-! ### comprehensions -/
def wipeF (fr : Fr) : List Nat → Fr
  | [] => fr
  | v :: vs => (wipeF fr vs).set v none
def restF (fr1 fr2 : Fr) : List Nat → Fr
  | [] => fr2
  | v :: vs => (restF fr1 fr2 vs).set v (fr1[v]?).join
def compL (vs : List Nat) (t : Tv) (c : Bv) (e : Ev) : List D → Fr → Res Fr (List D)
  | [], fr => .ok [] fr
  | d :: ds, fr => match t d (wipeF fr vs) with
    | none => .bad
    | some fr1 => (c fr1).bind fun b fr2 => if b = true then ((e fr2).bind fun y fr3 => if pers y = true then ((compL vs t c e ds fr3).bind fun r fr4 => .ok (y :: r) fr4) else .bad) else compL vs t c e ds fr2
def eComp (vs : List Nat) (h : Iv) (t : Tv) (c : Bv) (e : Ev) : Ev := fun fr => (h fr).bind fun ds fr1 => if ds.length ≤ sizeLine then (match compL vs t c e ds fr1 with
  | .ok r fr2 => .ok (.lst r) (restF fr1 fr2 vs)
  | _ => .bad) else .bad
def bYes : Bv := fun fr => .ok true fr
theorem wipeF_length {fr : Fr} : ∀ {vs : List Nat}, (wipeF fr vs).length = fr.length
  | [] => rfl
  | v :: vs => by rw [wipeF, List.length_set, wipeF_length]
theorem restF_length {fr1 fr2 : Fr} : ∀ {vs : List Nat}, (restF fr1 fr2 vs).length = fr2.length
  | [] => rfl
  | v :: vs => by rw [restF, List.length_set, restF_length]
theorem wipeF_out {fr : Fr} {j : Nat} : ∀ {vs : List Nat}, j ∉ vs → (wipeF fr vs)[j]? = fr[j]?
  | [], _ => rfl
  | v :: vs, h => by
    rw [List.mem_cons, not_or] at h
    rw [wipeF, List.getElem?_set_ne (Ne.symm h.1), wipeF_out h.2]
theorem wipeF_in {fr : Fr} {j : Nat} {d : D} : ∀ {vs : List Nat}, (wipeF fr vs)[j]? = some (some d) → j ∉ vs ∧ fr[j]? = some (some d)
  | [], h => ⟨by simp, h⟩
  | v :: vs, h => by
    rw [wipeF] at h
    rcases get_set h with ⟨_, z⟩ | ⟨n, z⟩
    · cases z
    · obtain ⟨a, b⟩ := wipeF_in z
      exact ⟨by simp only [List.mem_cons, not_or]; exact ⟨n, a⟩, b⟩
theorem restF_get {fr1 fr2 : Fr} {j : Nat} {d : D} : ∀ {vs : List Nat}, (restF fr1 fr2 vs)[j]? = some (some d) → (j ∈ vs ∧ fr1[j]? = some (some d)) ∨ (j ∉ vs ∧ fr2[j]? = some (some d))
  | [], h => .inr ⟨by simp, h⟩
  | v :: vs, h => by
    rw [restF] at h
    rcases get_set h with ⟨e, z⟩ | ⟨n, z⟩
    · subst e
      refine .inl ⟨List.mem_cons_self .., ?_⟩
      cases q : fr1[j]? with
      | none => rw [q] at z; cases z
      | some o =>
        rw [q] at z
        have z : some d = o := z
        rw [z]
    · rcases restF_get z with ⟨a, b⟩ | ⟨a, b⟩
      · exact .inl ⟨List.mem_cons_of_mem _ a, b⟩
      · exact .inr ⟨by simp only [List.mem_cons, not_or]; exact ⟨n, a⟩, b⟩
theorem restF_out {fr1 fr2 : Fr} {j : Nat} : ∀ {vs : List Nat}, j ∉ vs → (restF fr1 fr2 vs)[j]? = fr2[j]?
  | [], _ => rfl
  | v :: vs, h => by
    rw [List.mem_cons, not_or] at h
    rw [restF, List.getElem?_set_ne (Ne.symm h.1), restF_out h.2]
theorem wipe_none {σ : L2.St} {j : Nat} : ∀ {vs : List Nat}, j ∈ vs → j < σ.length → (wipe σ vs)[j]? = some none
  | [], h, _ => by simp at h
  | v :: vs, h, hl => by
    rw [wipe]
    by_cases e : j = v
    · subst e
      rw [List.getElem?_set_self (by rw [wipe_length]; exact hl)]
    · rw [List.getElem?_set_ne (Ne.symm e)]
      exact wipe_none ((List.mem_cons.mp h).resolve_left e) hl
theorem wipe_eq {σ σ2 : L2.St} {vs is : List Nat} (hl : σ2.length = (wipe σ vs).length) (ho : ∀ j, j ∉ is → σ2[j]? = (wipe σ vs)[j]?) (hi : ∀ j ∈ is, j ∈ vs) : wipe σ2 vs = wipe σ vs := by
  rw [wipe_length] at hl
  refine List.ext_getElem? fun j => ?_
  by_cases hv : j ∈ vs
  · by_cases hj : j < σ.length
    · rw [wipe_none hv (by rw [hl]; exact hj), wipe_none hv hj]
    · rw [List.getElem?_eq_none (by rw [wipe_length]; omega), List.getElem?_eq_none (by rw [wipe_length]; omega)]
  · rw [wipe_out hv, ho j (fun z => hv (hi j z))]
section
variable {B : Bd} {fr fr1 fr2 : Fr} {σ : L2.St} {H H1 Hv Hv1 : Hp}
theorem Rel.wipes (R : Rel B fr σ H Hv) {vs : List Nat} (hM : ∀ v ∈ vs, v ∉ B.M) : Rel B (wipeF fr vs) (wipe σ vs) H Hv where
  sub := R.sub
  ext0 := R.ext0
  new := R.new
  keep := R.keep
  len := by rw [wipeF_length, wipe_length]; exact R.len
  val := fun j d h hm => by
    obtain ⟨a, b⟩ := wipeF_in h
    rw [wipe_out a]
    exact R.val j d b hm
  box := fun j d h hc hm => by
    obtain ⟨a, b⟩ := wipeF_in h
    rw [wipe_out a]
    exact R.box j d b hc hm
  own := fun j d h hm => by
    obtain ⟨a, b⟩ := wipeF_in h.1
    rw [wipe_out a]
    exact R.own j d ⟨b, h.2⟩ hm
  sep := fun j k a dj dk hj hk hjk e1 e2 => by
    obtain ⟨a1, b1⟩ := wipeF_in e1.1
    obtain ⟨a2, b2⟩ := wipeF_in e2.1
    rw [wipe_out a1, wipe_out a2]
    exact R.sep j k a dj dk hj hk hjk ⟨b1, e1.2⟩ ⟨b2, e2.2⟩
  io := fun p hp => by
    obtain ⟨h1, ⟨d, h2, h3⟩, h4⟩ := R.io p hp
    have n : p.1 ∉ vs := fun z => hM _ z h1
    exact ⟨h1, ⟨d, by rw [wipeF_out n]; exact h2, h3⟩, by rw [wipe_out n]; exact h4⟩
  tab := R.tab
theorem Rel.rests (R1 : Rel B fr1 σ H1 Hv1) {vs : List Nat} (R : Rel B (wipeF fr2 vs) (wipe σ vs) H Hv) (s : Sub Hv1 Hv) (hM : ∀ v ∈ vs, v ∉ B.M) : Rel B (restF fr1 fr2 vs) σ H Hv where
  sub := R.sub
  ext0 := R.ext0
  new := R.new
  keep := R.keep
  len := by
    have := R.len
    rw [wipeF_length, wipe_length] at this
    rw [restF_length]; exact this
  val := fun j d h hm => by
    rcases restF_get h with ⟨a, b⟩ | ⟨a, b⟩
    · obtain ⟨v, h1, h2⟩ := R1.val j d b hm
      exact ⟨v, h1, Rep.mono s _ _ h2⟩
    · have := R.val j d (by rw [wipeF_out a]; exact b) hm
      rwa [wipe_out a] at this
  box := fun j d h hc hm => by
    rcases restF_get h with ⟨a, b⟩ | ⟨a, b⟩
    · exact absurd hm (hM _ a)
    · have := R.box j d (by rw [wipeF_out a]; exact b) hc hm
      rwa [wipe_out a] at this
  own := fun j d h hm => by
    rcases restF_get h.1 with ⟨a, b⟩ | ⟨a, b⟩
    · exact absurd hm (hM _ a)
    · have := R.own j d ⟨by rw [wipeF_out a]; exact b, h.2⟩ hm
      rwa [wipe_out a] at this
  sep := fun j k a dj dk hj hk hjk e1 e2 => by
    rcases restF_get e1.1 with ⟨a1, b1⟩ | ⟨a1, b1⟩
    · exact absurd hj (hM _ a1)
    rcases restF_get e2.1 with ⟨a2, b2⟩ | ⟨a2, b2⟩
    · exact absurd hk (hM _ a2)
    have := R.sep j k a dj dk hj hk hjk ⟨by rw [wipeF_out a1]; exact b1, e1.2⟩ ⟨by rw [wipeF_out a2]; exact b2, e2.2⟩
    rwa [wipe_out a1, wipe_out a2] at this
  io := fun p hp => by
    obtain ⟨h1, ⟨d, h2, h3⟩, h4⟩ := R.io p hp
    have n : p.1 ∉ vs := fun z => hM _ z h1
    rw [wipeF_out n] at h2
    rw [wipe_out n] at h4
    exact ⟨h1, ⟨d, by rw [restF_out n]; exact h2, h3⟩, h4⟩
  tab := R.tab
theorem Rel.upd_free (R : Rel B fr σ H Hv) {p : Addr} {o : HO} (no : ¬ Own B fr σ p) (h0 : B.H0 p = none) (hv : Hv p = none) (ht : p ∉ B.G.tabs) : Rel B fr σ (upd H p o) Hv where
  sub := fun b u h => by
    rw [upd_ne (fun z => by rw [z, hv] at h; cases h)]
    exact R.sub b u h
  ext0 := R.ext0
  new := R.new
  keep := fun b u h hi ht => by
    rw [upd_ne (ne_of_none h h0)]
    exact R.keep b u h hi ht
  len := R.len
  val := R.val
  box := R.box
  own := fun i d hf hm => by
    obtain ⟨a, hs, hva, hn, hc⟩ := R.own i d hf hm
    have ne : a ≠ p := fun e => no (by rw [← e]; exact ⟨i, d, hm, hf, hs⟩)
    exact ⟨a, hs, hva, hn, hc.mono (.refl _) (upd_ne ne)⟩
  sep := R.sep
  io := R.io
  tab := fun P hP => by
    obtain ⟨⟨ps, e, t⟩, v⟩ := R.tab P hP
    exact ⟨⟨ps, by rw [upd_ne (fun z : P = p => ht (by rw [← z]; exact hP))]; exact e, t⟩, v⟩
end
/-- what stands at the start of a turn -/
structure CInv (B : Bd) (vs : List Nat) (σ : L2.St) (fr1 : Fr) (H1 Hv1 : Hp) (D0 : Addr) (rem : Nat) (fr' : Fr) (H Hv' : Hp) (acc : List V) (ad : List D) : Prop where
  rel : Rel B (wipeF fr' vs) (wipe σ vs) H Hv'
  sub : Sub Hv1 Hv'
  at_ : H D0 = some (.lst acc)
  rep : RepL B.G Hv' ad acc
  hv : Hv' D0 = none
  no : ∀ j d, j ∈ B.M → (fr'[j]? = some (some d) ∧ isCell d = true) → σ[j]? ≠ some (some (.ref D0))
  keep : ∀ b o, H1 b = some o → ¬ Own B fr1 σ b → b ∉ B.G.tabs → H b = some o
  shr : Shr B fr1 fr'
  alive : ∀ b o, H1 b = some o → ∃ o', H b = some o'
  newv : ∀ b o, Hv' b = some o → Hv1 b = some o ∨ NewOk H1 b o ∨ Own B fr1 σ b
  sz : ad.length + rem ≤ sizeLine
section
variable {B : Bd} {vs is : List Nat} {σ : L2.St} {fr1 : Fr} {H1 Hv1 : Hp} {t : Tv} {c : Bv} {e : Ev}
theorem lc_step {J : It} {ds : List D} {Q : VK} {r0 : List D} {fr20 : Fr} (hM : ∀ v ∈ vs, v ∉ B.M) (hi : ∀ j ∈ is, j ∈ vs) (ok : TgOk t is) (R1 : Rel B fr1 σ H1 Hv1) (w : DWalk B J ds Hv1) (hsz : ds.length ≤ sizeLine) (hc : compL vs t c e ds fr1 = .ok r0 fr20)
    (hQ : ∀ p H' Hv', Nxt B fr1 σ H1 Hv1 (restF fr1 fr20 vs) H' Hv' → H1 p = none → Hv' p = none → Cell B.G H' Hv' p (.lst r0) → Q (.ref p) H') :
    ∀ D0, H1 D0 = none → ∃ W : Nat → Nat → Hp → Prop, (∃ m, W 0 m (upd H1 D0 (.lst []))) ∧ ∀ i m H, W i m H →
      (J.stop i H ∧ Q (.ref D0) H) ∨ (J.go i H ∧ ∃ Nx : Hp → Prop, (∀ H', Nx H' → ∃ m', m' < m ∧ W (i + 1) m' H') ∧ ∀ x H', J.yld i H x H' → dTG B is t x (wipe σ vs) H' fun σ2 H2 => wipe σ2 vs = wipe σ vs ∧ dTT B (fun _ _ _ _ => False) c σ2 H2 fun b H3 =>
        if b = true then dTE B (fun _ _ _ _ => False) e σ2 H3 fun y H4 => ∃ acc, H4 D0 = some (.lst acc) ∧ acc.length < sizeLine ∧ Nx (upd H4 D0 (.lst (acc ++ [y]))) else Nx H3) := by
  intro D0 hD
  obtain ⟨S, Y, wk, hS, hY⟩ := w.ex
  have hDt : D0 ∉ B.G.tabs := fun z => by
    obtain ⟨⟨ps, q, _⟩, _⟩ := R1.tab D0 z
    rw [hD] at q; cases q
  have hD0 := R1.h0_none hD
  refine lc_it wk (fun i H => ∃ fr' Hv' acc ad r, CInv B vs σ fr1 H1 Hv1 D0 (ds.length - i) fr' H Hv' acc ad ∧ compL vs t c e (ds.drop i) fr' = .ok r fr20 ∧ ad ++ r = r0) ?_ (fun i H _ ⟨fr', Hv', acc, ad, r, I, _⟩ => hS H Hv' I.sub I.rel.sub) (fun i x H H' hlt p y => ?_) (fun H p => ?_)
  · refine ⟨fr1, Hv1, [], [], r0, ⟨(R1.lay hD).wipes hM, .refl _, upd_same, .nil, R1.hv_none hD, fun j d hj hf hs => ?_, fun b o h _ _ => by rw [upd_ne (ne_of_none h hD)]; exact h, .refl _ _, fun b o h => ⟨o, by rw [upd_ne (ne_of_none h hD)]; exact h⟩, fun b o h => .inl h, by simpa using hsz⟩, hc, rfl⟩
    obtain ⟨⟨u, hu⟩, _⟩ := R1.own_some ⟨j, d, hj, hf, hs⟩
    rw [hD] at hu; cases hu
  · obtain ⟨fr', Hv', acc, ad, r, I, hcl, har⟩ := p
    obtain ⟨d, hd, hr⟩ := hY i H Hv' x H' hlt I.sub I.rel.sub y
    have hdrop : ds.drop i = d :: ds.drop (i + 1) := by
      obtain ⟨hl, e⟩ := List.getElem?_eq_some_iff.mp hd
      rw [List.drop_eq_getElem_cons hl, e]
    rw [hdrop] at hcl
    obtain ⟨Hv2, s2, R2, r2, at2, keep2, alive2, hv2, newv2⟩ : ∃ Hv2, Sub Hv' Hv2 ∧ Rel B (wipeF fr' vs) (wipe σ vs) H' Hv2 ∧ Rep B.G Hv2 d x ∧ H' D0 = some (.lst acc) ∧ (∀ b o, H b = some o → H' b = some o) ∧ (∀ b o, H1 b = some o → ∃ o', H' b = some o') ∧ Hv2 D0 = none ∧ (∀ b o, Hv2 b = some o → Hv' b = some o ∨ H b = none) := by
      rcases hr with ⟨e, r⟩ | ⟨T, es, us, rfl, rfl, hT, rfl, r⟩
      · rw [e]; exact ⟨Hv', .refl _, I.rel, r, I.at_, fun _ _ h => h, I.alive, I.hv, fun _ _ h => .inl h⟩
      · have sT : Sub Hv' (upd Hv' T (.tup us)) := (Sub.refl Hv').put (I.rel.hv_none hT)
        have neT : D0 ≠ T := ne_of_none I.at_ hT
        refine ⟨_, sT, I.rel.layV hT (fun ps z => by cases z), Rep.tup (.inl (.inl upd_same)) (RepL.mono sT _ _ r), by rw [upd_ne neT]; exact I.at_, fun b o h => by rw [upd_ne (ne_of_none h hT)]; exact h, fun b o h => ?_, by rw [upd_ne neT]; exact I.hv, fun b o h => ?_⟩
        · obtain ⟨o', h'⟩ := I.alive b o h
          exact ⟨o', by rw [upd_ne (ne_of_none h' hT)]; exact h'⟩
        · by_cases eb : b = T
          · exact .inr (eb ▸ hT)
          · rw [upd_ne eb] at h; exact .inl h
    unfold compL at hcl
    cases ht : t d (wipeF fr' vs) with
    | none => rw [ht] at hcl; cases hcl
    | some fr2 =>
      rw [ht] at hcl
      dsimp only at hcl
      refine ⟨wipeF fr' vs, Hv2, d, fr2, R2, r2, ht, fun σ2 R3 hl ho => ?_⟩
      have hw := wipe_eq hl ho hi
      refine ⟨hw, fr2, Hv2, R3, ?_⟩
      -- owned slots of a later frame are those of fr'
      have back : ∀ {frx : Fr}, Shr B fr2 frx → ∀ j dd, j ∈ B.M → (frx[j]? = some (some dd) ∧ isCell dd = true) → (∃ d0, fr'[j]? = some (some d0) ∧ isCell d0 = true) ∧ σ2[j]? = σ[j]? := fun {frx} sh j dd hj hf => by
        have njv : j ∉ vs := fun z => hM j z hj
        have nji : j ∉ is := fun z => njv (hi j z)
        obtain ⟨d0, h0, h1⟩ := sh j dd hj hf
        rw [ok d _ _ ht j nji, wipeF_out njv] at h0
        exact ⟨⟨d0, h0, h1⟩, by rw [ho j nji, wipe_out njv]⟩
      have noD : ∀ {frx : Fr}, Shr B fr2 frx → ¬ Own B frx σ2 D0 := fun {frx} sh ⟨j, dd, hj, hf, hs⟩ => by
        obtain ⟨⟨d0, hd0⟩, e1⟩ := back sh j dd hj hf
        rw [e1] at hs
        exact I.no j d0 hj hd0 hs
      -- an address not owned at the start is not owned in a later frame
      have noB : ∀ {frx : Fr} {b : Addr}, Shr B fr2 frx → ¬ Own B fr1 σ b → ¬ Own B frx σ2 b := fun {frx b} sh no ⟨j, dd, hj, hf, hs⟩ => by
        obtain ⟨⟨d0, hd0⟩, e1⟩ := back sh j dd hj hf
        rw [e1] at hs
        obtain ⟨d1, hd1⟩ := I.shr j d0 hj hd0
        exact no ⟨j, d1, hj, hd1, hs⟩
      have shr' : ∀ {frx : Fr}, Shr B fr2 frx → Shr B fr1 frx := fun {frx} sh j dd hj hf => by
        obtain ⟨⟨d0, hd0⟩, _⟩ := back sh j dd hj hf
        exact I.shr j d0 hj hd0
      have nos : ∀ {frx : Fr}, Shr B fr2 frx → ∀ j dd, j ∈ B.M → (frx[j]? = some (some dd) ∧ isCell dd = true) → σ[j]? ≠ some (some (.ref D0)) := fun {frx} sh j dd hj hf hs => by
        obtain ⟨⟨d0, hd0⟩, _⟩ := back sh j dd hj hf
        exact I.no j d0 hj hd0 hs
      have nvD : ∀ {frx : Fr} {Hx Hvx : Hp}, Nxt B fr2 σ2 H' Hv2 frx Hx Hvx → Hx D0 = some (.lst acc) := fun n => n.keep D0 _ at2 (noD (.refl _ _)) hDt
      cases hcc : c fr2 with
      | bad => rw [hcc] at hcl; cases hcl
      | exc k fs fr3 => rw [hcc] at hcl; cases hcl
      | ok b fr3 =>
        rw [hcc] at hcl
        dsimp only [Res.bind] at hcl
        intro H3 Hv3 n3
        have fin : ∀ {frx : Fr} {Hx Hvx : Hp} (n : Nxt B fr2 σ2 H' Hv2 frx Hx Hvx), Hvx D0 = none ∧ Rel B (wipeF frx vs) (wipe σ vs) Hx Hvx ∧ (∀ b o, H1 b = some o → ¬ Own B fr1 σ b → b ∉ B.G.tabs → Hx b = some o) ∧ (∀ b o, H1 b = some o → ∃ o', Hx b = some o') ∧ (∀ b o, Hvx b = some o → Hv1 b = some o ∨ NewOk H1 b o ∨ Own B fr1 σ b) := fun {frx Hx Hvx} n => by
          refine ⟨?_, ?_, fun b o h no nt => n.keep b o (keep2 b o (I.keep b o h no nt)) (noB (.refl _ _) no) nt, fun b o h => ?_, fun b o h => ?_⟩
          · cases z : Hvx D0 with
            | none => rfl
            | some u =>
              rcases n.newv D0 u z with q | (q | ⟨ws, q⟩) | q
              · rw [hv2] at q; cases q
              · rw [at2] at q; cases q
              · have h1 := n.rel.sub D0 u z
                rw [nvD n, q] at h1
                cases h1
              · exact absurd q (noD (.refl _ _))
          · have := n.rel.wipes hM
            rwa [hw] at this
          · obtain ⟨o', h'⟩ := alive2 b o h
            exact n.alive b o' h'
          · rcases n.newv b o h with q | (q | q) | q
            · rcases newv2 b o q with z | z
              · exact I.newv b o z
              · refine .inr (.inl (.inl ?_))
                cases e : H1 b with
                | none => rfl
                | some u =>
                  obtain ⟨u', h'⟩ := I.alive b u e
                  rw [z] at h'; cases h'
            · refine .inr (.inl (.inl ?_))
              cases e : H1 b with
              | none => rfl
              | some u =>
                obtain ⟨u', h'⟩ := alive2 b u e
                rw [q] at h'; cases h'
            · exact .inr (.inl (.inr q))
            · by_cases ho1 : Own B fr1 σ b
              · exact .inr (.inr ho1)
              · exact absurd q (noB (.refl _ _) ho1)
        cases b with
        | false =>
          rw [if_neg Bool.false_ne_true] at hcl ⊢
          obtain ⟨f1, f2, f3, f4, f5⟩ := fin n3
          refine ⟨fr3, Hv3, acc, ad, r, ⟨f2, I.sub.trans (s2.trans n3.ext), nvD n3, RepL.mono (s2.trans n3.ext) _ _ I.rep, f1, nos n3.shp, f3, shr' n3.shp, f4, f5, ?_⟩, hcl, har⟩
          have := I.sz
          omega
        | true =>
          rw [if_pos rfl] at hcl ⊢
          refine ⟨fr3, Hv3, n3.rel, ?_⟩
          cases hee : e fr3 with
          | bad => rw [hee] at hcl; cases hcl
          | exc k fs fr4 => rw [hee] at hcl; cases hcl
          | ok dy fr4 =>
            rw [hee] at hcl
            dsimp only [Res.bind] at hcl
            intro y H4 Hv4 n4 ry
            split at hcl
            · next hp =>
              have ry := ry.rep fun i z => by rw [z] at hp; cases hp
              have n := n3.trans n4
              obtain ⟨f1, f2, f3, f4, f5⟩ := fin n
              cases hrec : compL vs t c e (ds.drop (i + 1)) fr4 with
              | bad => rw [hrec] at hcl; cases hcl
              | exc k fs fr5 => rw [hrec] at hcl; cases hcl
              | ok r1 fr5 =>
                rw [hrec] at hcl
                dsimp only at hcl
                have hcl' : dy :: r1 = r ∧ fr5 = fr20 := by
                  cases hcl
                  exact ⟨rfl, rfl⟩
                obtain ⟨h1, h2⟩ := hcl'
                subst h1 h2
                have hsz := I.sz
                have la := I.rep.length
                refine ⟨acc, nvD n, by omega, fr4, Hv4, acc ++ [y], ad ++ [dy], r1, ⟨f2.upd_free ?_ hD0 f1 hDt, I.sub.trans (s2.trans n.ext), upd_same, (RepL.mono (s2.trans n.ext) _ _ I.rep).append (.cons ry .nil), f1, nos n.shp, fun b o h no nt => ?_, shr' n.shp, fun b o h => ?_, f5, ?_⟩, hrec, by rw [← har]; simp⟩
                · rintro ⟨j, dd, hj, hf, hs⟩
                  obtain ⟨a1, a2⟩ := wipeF_in hf.1
                  rw [wipe_out a1] at hs
                  exact nos n.shp j dd hj ⟨a2, hf.2⟩ hs
                · rw [upd_ne (ne_of_none h hD)]
                  exact f3 b o h no nt
                · by_cases eb : b = D0
                  · exact ⟨_, by rw [eb]; exact upd_same⟩
                  · rw [upd_ne eb]
                    exact f4 b o h
                · rw [List.length_append, List.length_singleton]
                  omega
            · cases hcl
  · obtain ⟨fr', Hv', acc, ad, r, I, hcl, har⟩ := p
    rw [List.drop_length] at hcl
    cases hcl
    rw [List.append_nil] at har
    subst har
    refine hQ D0 H Hv' ⟨R1.rests I.rel I.sub hM, I.sub, I.keep, fun j d hj hf => ?_, I.alive, I.newv⟩ hD I.hv ⟨acc, I.at_, I.rep⟩
    rcases restF_get hf.1 with ⟨a, b⟩ | ⟨a, b⟩
    · exact ⟨d, b, hf.2⟩
    · exact I.shr j d hj ⟨b, hf.2⟩
theorem lc_enter {W : WX} {h : Iv} {K : PySem.W.Frag} {σ0 : L2.St} {H0 : Hp} {Q : VK} (hM : ∀ v ∈ vs, v ∉ B.M) (hi : ∀ j ∈ is, j ∈ vs) (ok : TgOk t is) (hh : dTF B W (eComp vs h t c e) σ0 H0 Q) :
    tLc (dTI B W h) (dTG B is t) (dTT B (fun _ _ _ _ => False) c) (dTE B (fun _ _ _ _ => False) e) vs σ0 H0 Q := by
  obtain ⟨fr, Hv, R, hh⟩ := hh
  refine ⟨fr, Hv, R, ?_⟩
  unfold eComp at hh
  cases hI : h fr with
  | bad => rw [hI] at hh; exact hh.elim
  | exc k fs fr1 =>
    rw [hI] at hh
    exact hh
  | ok ds fr1 =>
    rw [hI] at hh
    dsimp only [Res.bind] at hh
    intro J H1 Hv1 n w
    split at hh
    · next hsz =>
      split at hh
      · next r fr2 hc =>
        exact lc_step hM hi ok n.rel w hsz hc fun p H' Hv' m hp hv hcell => hh p H' Hv' (n.trans m) (n.none R hp) hv hcell
      · exact (hh : False).elim
    · exact hh.elim
end
section
variable {X : Cx} {B : Bd} {W : WX} {rf : Bool} {elt tg iter : Expr} {ifs : List Expr} {scope : Scope} {own : List (Str × Nat)} {pos spos py : Pos} {is : List Nat} {h : Iv} {t : Tv} {c : Bv} {e : Ev}
abbrev W0 : WX := fun _ _ _ _ => False
abbrev BX (X : Cx) (scope : Scope) (s : Shared) (H : Hp) (C : Addr) (cl : List (Str × Addr)) (fp : List Addr) : Cx := X.blk s H scope (compEnvC scope cl C X.env) fp
theorem d_yes {X : Cx} : PTs X [] (dTT B W0 bYes) := ⟨fun pins s σ H Q I h => by
  obtain ⟨fr, Hv, R, h⟩ := h
  exact pts_nil.run pins s σ H Q I (h H Hv (.refl R))⟩
theorem d_lc (hM : ∀ v ∈ own.map (·.2), v ∉ B.M) (his : ∀ j ∈ is, j ∈ own.map (·.2)) (hc : X.calm = true) (hN : X.N.Nodup) (hi : DI X B W tg iter h) (ok : BlkOk X.N X.env.scope scope own)
    (hg : ∀ s H C cl fp, DG (BX X scope s H C cl fp) B tg is t) (ht : ∀ s H C cl fp, PTs (BX X scope s H C cl fp) ifs (dTT B W0 c)) (he : ∀ s H C cl fp, DE (BX X scope s H C cl fp) B W0 elt e)
    (hs : ∀ x, foldedSetIterable iter X.env x = pure x := by intro _; rfl) : DF X B W (.ListComp elt [⟨tg, iter, ifs, 0⟩] scope pos) (eComp (own.map (·.2)) h t c e) :=
  pe_imp (pe_lc hc hN hi ok (fun s H C cl fp => (hg s H C cl fp).pg) ht he hs) fun σ H Q hh => lc_enter (K := X.K) hM his (hg X.s_0 X.H_0 0 [] []).ok hh
theorem setF_in {i : Nat} {f : Ev} {D : Ends} {σ : L2.St} {H : Hp} (hi : i ∈ B.M) (hio : ∀ q ∈ B.io, q.1 ≠ i) (hh : dTS B W rf (sSetF i f) D σ H) : dTF B W f σ H (fun x H1 => D.nx (σ.set i (some x)) H1) := by
  obtain ⟨fr, Hv, R, hh⟩ := hh
  refine ⟨fr, Hv, R, ?_⟩
  unfold sSetF at hh
  cases hg : f fr with
  | bad => rw [hg] at hh; exact hh.elim
  | exc c fs fr1 =>
    rw [hg] at hh
    exact fun dd H' Hv' n => hh dd σ H' Hv' n.rel n.ext
  | ok d fr1 =>
    rw [hg] at hh
    dsimp only [Res.bind] at hh
    exact fun p H' Hv' n hp hv hc => hh _ H' Hv' (n.rel.setF hi hio (not_own_of_none R n hp) (R.h0_none hp) hv hc) n.ext
theorem set_in {i : Nat} {f : Ev} {D : Ends} {σ : L2.St} {H : Hp} (hi : i ∉ B.M) (hh : dTS B W rf (sSet i f) D σ H) : dTE B W f σ H (fun x H1 => D.nx (σ.set i (some x)) H1) := by
  obtain ⟨fr, Hv, R, hh⟩ := hh
  refine ⟨fr, Hv, R, ?_⟩
  unfold sSet at hh
  cases hg : f fr with
  | bad => rw [hg] at hh; exact hh.elim
  | exc c fs fr1 =>
    rw [hg] at hh
    exact fun dd H' Hv' n => hh dd σ H' Hv' n.rel n.ext
  | ok d fr1 =>
    rw [hg] at hh
    dsimp only [Res.bind] at hh
    split at hh
    · next c => exact fun v H' Hv' n r => hh _ H' Hv' (n.rel.setV hi (r.rep fun i z => by rw [z] at c; cases c)) n.ext
    · exact hh.elim
theorem s_setLcF {i : Nat} {y : Str} (hM : ∀ v ∈ own.map (·.2), v ∉ B.M) (his : ∀ j ∈ is, j ∈ own.map (·.2)) (hi' : i ∈ B.M) (hio : ∀ q ∈ B.io, q.1 ≠ i) (hc : X.calm = true) (hN : X.N.Nodup) (hi : DI X B W tg iter h) (ok : BlkOk X.N X.env.scope scope own)
    (hg : ∀ s H C cl fp, DG (BX X scope s H C cl fp) B tg is t) (ht : ∀ s H C cl fp, PTs (BX X scope s H C cl fp) ifs (dTT B W0 c)) (he : ∀ s H C cl fp, DE (BX X scope s H C cl fp) B W0 elt e)
    (hsw : swapsWith (.ListComp elt [⟨tg, iter, ifs, 0⟩] scope pos) (some (.Name y py)) spos.line X.env = pure true) (hy : X.N[i]? = some y := by rfl) (hyl : X.env.scope.names.lookup y = some .local := by rfl) (hs : ∀ x, foldedSetIterable iter X.env x = pure x := by intro _; rfl) :
    DS X B W rf (.Assign [.Name y py] (.ListComp elt [⟨tg, iter, ifs, 0⟩] scope pos) spos) (sSetF i (eComp (own.map (·.2)) h t c e)) :=
  ps_imp (ps_setLc hc hN hy hyl hsw hi ok (fun s H C cl fp => (hg s H C cl fp).pg) ht he hs) fun D σ H hh => lc_enter (K := X.K) hM his (hg X.s_0 X.H_0 0 [] []).ok (setF_in hi' hio hh)
theorem s_setLcV {i : Nat} {y : Str} (hM : ∀ v ∈ own.map (·.2), v ∉ B.M) (his : ∀ j ∈ is, j ∈ own.map (·.2)) (hi' : i ∉ B.M) (hc : X.calm = true) (hN : X.N.Nodup) (hi : DI X B W tg iter h) (ok : BlkOk X.N X.env.scope scope own)
    (hg : ∀ s H C cl fp, DG (BX X scope s H C cl fp) B tg is t) (ht : ∀ s H C cl fp, PTs (BX X scope s H C cl fp) ifs (dTT B W0 c)) (he : ∀ s H C cl fp, DE (BX X scope s H C cl fp) B W0 elt e)
    (hsw : swapsWith (.ListComp elt [⟨tg, iter, ifs, 0⟩] scope pos) (some (.Name y py)) spos.line X.env = pure true) (hy : X.N[i]? = some y := by rfl) (hyl : X.env.scope.names.lookup y = some .local := by rfl) (hs : ∀ x, foldedSetIterable iter X.env x = pure x := by intro _; rfl) :
    DS X B W rf (.Assign [.Name y py] (.ListComp elt [⟨tg, iter, ifs, 0⟩] scope pos) spos) (sSet i (eComp (own.map (·.2)) h t c e)) :=
  ps_imp (ps_setLc hc hN hy hyl hsw hi ok (fun s H C cl fp => (hg s H C cl fp).pg) ht he hs) fun D σ H hh => lc_enter (K := X.K) hM his (hg X.s_0 X.H_0 0 [] []).ok (df_de (set_in hi' hh))
end
end KS
namespace KS
open PySem PySem.Spec L2
/-! ### changing owned objects -/
/-- what a method does to the object c, its argument b: the value it gives, the object behind it; pz: the argument is kept -/
abbrev Mu := D → List D → Option (D × D)
def pick (fr : Fr) : List D → Option (List D)
  | [] => some []
  | d :: ds => match look fr d, pick fr ds with
    | some a, some as => some (a :: as)
    | _, _ => none
def eMut (i : Nat) (kd : D → Bool) (pz : Bool) (F : Mu) (g : Av) : Ev := fun fr => match fr[i]? with
  | some (some c0) => if kd c0 = true then ((g fr).bind fun ys fr1 => match fr1[i]? with
    | some (some c) => if isCell c = true then (if (pz = true → ys.all pers = true) then (match pick fr1 ys with
      | some bs => match F c bs with
        | some (r, c') => .ok r (fr1.set i (some c'))
        | none => .bad
      | none => .bad) else .bad) else .bad
    | _ => .bad) else .bad
  | _ => .bad
def isLstD : D → Bool
  | .lst _ => true
  | _ => false
def isDctD : D → Bool
  | .dct _ _ => true
  | _ => false
section
variable {B : Bd} {fr : Fr} {σ : L2.St} {H Hv : Hp}
theorem Rel.mut (R : Rel B fr σ H Hv) {i : Nat} {d d' : D} {a : Addr} {o : HO} (hi : i ∈ B.M) (e : fr[i]? = some (some d) ∧ isCell d = true) (hs : σ[i]? = some (some (.ref a))) (hc : Cell B.G (upd H a o) Hv a d') : Nxt B fr σ H Hv (fr.set i (some d')) (upd H a o) Hv := by
  obtain ⟨⟨u, hu⟩, hva, nta⟩ := R.own_some ⟨i, d, hi, e, hs⟩
  obtain ⟨a', hs', _, hn, _⟩ := R.own i d e hi
  rw [hs] at hs'
  cases hs'
  refine ⟨⟨fun b u h => ?_, R.ext0, R.new, fun b u h hio ht => ?_, by rw [List.length_set]; exact R.len, fun j dj h hm => ?_, fun j dj h hcl hm => ?_, fun j dj h hm => ?_, fun j k b dj dk hj hk hjk e1 e2 s1 => ?_, fun p hp => ?_, fun P hP => ?_⟩, .refl _, fun b u h no nt => ?_, fun j dj hj h => ?_, fun b u h => ?_, fun b u h => .inl h⟩
  · rw [upd_ne (fun z => by rw [z, hva] at h; cases h)]
    exact R.sub b u h
  · have ne : b ≠ a := fun z => by
      rcases hn with ⟨p, hp, q⟩ | q
      · exact hio p hp (by rw [q, z])
      · rw [← z, h] at q; cases q
    rw [upd_ne ne]
    exact R.keep b u h hio ht
  · rcases get_set h with ⟨z, _⟩ | ⟨n, z⟩
    · exact absurd hi (z ▸ hm)
    · exact R.val j dj z hm
  · rcases get_set h with ⟨z, q⟩ | ⟨n, z⟩
    · cases q
      rw [hc.isCell] at hcl; cases hcl
    · exact R.box j dj z hcl hm
  · rcases get_set h.1 with ⟨z, q⟩ | ⟨n, z⟩
    · subst z
      cases q
      exact ⟨a, hs, hva, hn, hc⟩
    · obtain ⟨b, h1, h2, h3, h4⟩ := R.own j dj ⟨z, h.2⟩ hm
      have ne : b ≠ a := fun q => R.sep j i b dj d hm hi n ⟨z, h.2⟩ e h1 (by rw [hs, q])
      exact ⟨b, h1, h2, h3, h4.mono (.refl _) (upd_ne ne)⟩
  · have back : ∀ {j dj}, (fr.set i (some d'))[j]? = some (some dj) ∧ isCell dj = true → ∃ d0, fr[j]? = some (some d0) ∧ isCell d0 = true := fun {j dj} h => by
      rcases get_set h.1 with ⟨z, _⟩ | ⟨_, z⟩
      · subst z; exact ⟨d, e⟩
      · exact ⟨dj, z, h.2⟩
    obtain ⟨d1, h1⟩ := back e1
    obtain ⟨d2, h2⟩ := back e2
    exact R.sep j k b d1 d2 hj hk hjk h1 h2 s1
  · obtain ⟨h1, ⟨dj, h2, h3⟩, h4⟩ := R.io p hp
    refine ⟨h1, ?_, h4⟩
    by_cases z : p.1 = i
    · have hl : i < fr.length := (List.getElem?_eq_some_iff.mp e.1).1
      exact ⟨d', by rw [z, List.getElem?_set_self hl], hc.isCell⟩
    · exact ⟨dj, by rw [List.getElem?_set_ne (Ne.symm z)]; exact h2, h3⟩
  · obtain ⟨⟨ps, q, t⟩, v⟩ := R.tab P hP
    exact ⟨⟨ps, by rw [upd_ne (fun z : P = a => nta (by rw [← z]; exact hP))]; exact q, t⟩, v⟩
  · rw [upd_ne (fun z => no ⟨i, d, hi, e, by rw [hs, z]⟩)]
    exact h
  · rcases get_set h.1 with ⟨z, _⟩ | ⟨_, z⟩
    · subst z; exact ⟨d, e⟩
    · exact ⟨dj, z, h.2⟩
  · by_cases z : b = a
    · exact ⟨o, by rw [z]; exact upd_same⟩
    · exact ⟨u, by rw [upd_ne z]; exact h⟩
/-- what a change is to give -/
def MuS (B : Bd) (r : V → List V → Hp → VK → Prop) (pz : Bool) (F : Mu) : Prop := ∀ fr σ H Hv a c ys bs vs res c' (Q : VK), Rel B fr σ H Hv → Cell B.G H Hv a c → Hv a = none → RepWs B σ Hv ys vs → pick fr ys = some bs → (pz = true → RepL B.G Hv ys vs ∧ bs = ys) → F c bs = some (res, c') →
  (∀ v o, Cell B.G (upd H a o) Hv a c' → Rep B.G Hv res v → Q v (upd H a o)) → r (.ref a) vs H Q
theorem pers_repL {ds : List D} {vs : List V} (r : RepWs B σ Hv ds vs) (h : ds.all pers = true) : RepL B.G Hv ds vs := by
  induction ds generalizing vs with
  | nil => rw [r]; exact .nil
  | cons d ds ih =>
    obtain ⟨v, t, rfl, h1, h2⟩ := r
    rw [List.all_cons, Bool.and_eq_true] at h
    exact .cons (h1.rep fun i z => by rw [z] at h; cases h.1) (ih h2 h.2)
theorem pers_pick {ds bs : List D} (h : ds.all pers = true) (e : pick fr ds = some bs) : bs = ds := by
  induction ds generalizing bs with
  | nil => cases e; rfl
  | cons d ds ih =>
    rw [List.all_cons, Bool.and_eq_true] at h
    unfold pick at e
    split at e
    · next a as ha has =>
      cases e
      rw [ih h.2 has]
      cases d <;> first | (cases ha; rfl) | exact absurd h.1 (by simp [pers])
    · cases e
variable {X : Cx} {W : WX} {e o : Expr} {es : List Expr} {g : Av} {i : Nat} {r : V → List V → Hp → VK → Prop} {pz : Bool} {F : Mu}
theorem kd_lst {d : D} (h : isLstD d = true) : isCell d = true := by cases d <;> first | rfl | cases h
theorem kd_dct {d : D} (h : isDctD d = true) : isCell d = true := by cases d <;> first | rfl | cases h
theorem mut_in {kd : D → Bool} {σ : L2.St} {H : Hp} {Q : VK} (hk : ∀ {d}, kd d = true → isCell d = true) (hi : i ∈ B.M) (hS : MuS B r pz F) (h : dTE B W (eMut i kd pz F g) σ H Q) :
    ∃ a c0 Hv, σ[i]? = some (some (V.ref a)) ∧ Cell B.G H Hv a c0 ∧ kd c0 = true ∧ dTA B W g σ H fun vs H2 => r (.ref a) vs H2 Q := by
  obtain ⟨fr, Hv, R, h⟩ := h
  unfold eMut at h
  split at h
  · next c0 e0 =>
    split at h
    · next cl0 =>
      obtain ⟨a, hs, hva, _, hcell⟩ := R.own i c0 ⟨e0, hk cl0⟩ hi
      refine ⟨a, c0, Hv, hs, hcell, cl0, fr, Hv, R, ?_⟩
      cases hg : g fr with
      | bad => rw [hg] at h; exact h.elim
      | exc c fs fr1 => rw [hg] at h; exact h
      | ok ys fr1 =>
        rw [hg] at h
        dsimp only [Res.bind] at h
        intro vs H2 Hv2 n rws
        split at h
        · next c e1 =>
          split at h
          · next cl1 =>
            split at h
            · next hp =>
              split at h
              · next bs hb =>
                split at h
                · next res c' hF =>
                  obtain ⟨a', hs', hva2, _, hcell2⟩ := n.rel.own i c ⟨e1, cl1⟩ hi
                  rw [hs] at hs'
                  cases hs'
                  exact hS fr1 σ H2 Hv2 a c ys bs vs res c' Q n.rel hcell2 hva2 rws hb (fun z => ⟨pers_repL rws (hp z), pers_pick (hp z) hb⟩) hF fun v o hc' hr => h v _ Hv2 (n.trans (n.rel.mut hi ⟨e1, cl1⟩ hs hc')) (.of hr)
                · exact (h : False).elim
              · exact (h : False).elim
            · exact (h : False).elim
          · exact (h : False).elim
        · exact (h : False).elim
    · exact (h : False).elim
  · exact (h : False).elim
theorem tyV_lst {K : PySem.W.Frag} {c0 : D} {a : Addr} (hc : Cell B.G H Hv a c0) (k : isLstD c0 = true) : tyV K "list" (.ref a) H := by
  cases c0 <;> first | cases k | skip
  obtain ⟨vs, e, _⟩ := hc
  exact .inl ⟨rfl, vs, SqL.of e⟩
theorem tyV_dct {K : PySem.W.Frag} {c0 : D} {a : Addr} (hc : Cell B.G H Hv a c0) (k : isDctD c0 = true) : tyV K "dict" (.ref a) H := by
  cases c0 <;> first | cases k | skip
  obtain ⟨us, ⟨kvs, e, _⟩ | ⟨kvs, e, _⟩, _⟩ := hc
  · exact .inr (.inr (.inl ⟨rfl, .inr ⟨kvs, e⟩⟩))
  · exact .inr (.inr (.inl ⟨rfl, .inl ⟨kvs, e⟩⟩))
variable {x name : Str} {id T : String} {np apos cpos : Pos}
theorem d_mut0 {kd : D → Bool} (hk : ∀ {d}, kd d = true → isCell d = true) (ht : ∀ {H Hv a c0}, Cell B.G H Hv a c0 → kd c0 = true → tyV X.K T (.ref a) H) (hS : MuS B r pz F) (hm : MtR X id r) (pa : PlainAttrs T) (slot : Slot T name id) (hty : typeOf (.builtin id) = pure (.type "method_descriptor"))
    (hi : i ∈ B.M) (hN : X.N[i]? = some x := by rfl) (hv : Vis X.env.scope x := by first | exact Or.inl rfl | exact Or.inr (Or.inl rfl) | exact Or.inr (Or.inr rfl)) (hd : (x == ("__debug__" : Str)) = false := by decide) (hcd : (x == ("__classdict__" : Str)) = false := by decide)
    (hbase : attributeBase (.Name x np) name X.env (eval (.Name x np) X.env) = eval (.Name x np) X.env := by rfl) (hline : (apos.endLine == cpos.line) = true := by rfl) :
    DE X B W (.Call (.Attribute (.Name x np) name apos) [] [] cpos) (eMut i kd pz F (fun fr => .ok [] fr)) := by
  refine pe_imp (pe_bm0 pa slot hty hm (pe_var hN hv hd hcd) hbase hline) fun σ H Q h => ?_
  obtain ⟨a, c0, Hv, hs, hc, hkc, fr, Hv', R, h⟩ := mut_in hk hi hS h
  exact ⟨_, hs, ht hc hkc, h [] H Hv' (.refl R) rfl⟩
theorem d_mut {kd : D → Bool} (hk : ∀ {d}, kd d = true → isCell d = true) (ht : ∀ {H Hv a c0}, Cell B.G H Hv a c0 → kd c0 = true → tyV X.K T (.ref a) H) (hS : MuS B r pz F) (hm : MtR X id r) (pa : PlainAttrs T) (slot : Slot T name id) (hty : typeOf (.builtin id) = pure (.type "method_descriptor"))
    (hi : i ∈ B.M) (ha : DA X B W (e :: es) g) (hN : X.N[i]? = some x := by rfl) (hv : Vis X.env.scope x := by first | exact Or.inl rfl | exact Or.inr (Or.inl rfl) | exact Or.inr (Or.inr rfl)) (hd : (x == ("__debug__" : Str)) = false := by decide) (hcd : (x == ("__classdict__" : Str)) = false := by decide)
    (hbase : attributeBase (.Name x np) name X.env (eval (.Name x np) X.env) = eval (.Name x np) X.env := by rfl)
    (hfew : ((backTo cpos (starEach (e :: es) X.env)).all (fun x => !x.1) && (backToKw cpos (keywordEach [] X.env)).all (fun x => x.1.isSome)
      && decide ((e :: es).length + ([] : List Keyword).length + (if ([] : List Keyword).isEmpty then 0 else 1) < 30)) = true := by rfl)
    (hline : (apos.endLine == cpos.line) = true := by rfl) (hs : starEach (e :: es) X.env = (false, eval e X.env) :: starEach es X.env := by rfl) (hplain : (backTo cpos (starEach es X.env)).any (·.1) = false := by rfl) :
    DE X B W (.Call (.Attribute (.Name x np) name apos) (e :: es) [] cpos) (eMut i kd pz F g) := by
  refine pe_imp (pe_bm pa slot hty hm (pe_var hN hv hd hcd) ha hbase hfew hline hs hplain) fun σ H Q h => ?_
  obtain ⟨a, c0, Hv, hs, hc, hkc, h⟩ := mut_in hk hi hS h
  exact ⟨_, hs, ht hc hkc, h⟩
/-! the methods of lists -/
def appM : Mu := fun c bs => match c, bs with
  | .lst ds, [b] => if ds.length < sizeLine then some (.non, .lst (ds ++ [b])) else none
  | _, _ => none
def extM : Mu := fun c bs => match c, bs with
  | .lst ds, [.lst es] => if ds.length + es.length ≤ sizeLine then some (.non, .lst (ds ++ es)) else none
  | _, _ => none
def popM : Mu := fun c bs => match c, bs with
  | .lst ds, [] => match ds[ds.length - 1]? with
    | some d => some (d, .lst ds.dropLast)
    | none => none
  | _, _ => none
def popAtM : Mu := fun c bs => match c, bs with
  | .lst ds, [.int i] => if -(2 ^ 63) ≤ i ∧ i < 2 ^ 63 then (match seqIndex? i ds.length with
    | some k => match ds[k]? with
      | some d => some (d, .lst (ds.eraseIdx k))
      | none => none
    | none => none) else none
  | _, _ => none
def revM : Mu := fun c bs => match c, bs with
  | .lst ds, [] => some (.non, .lst ds.reverse)
  | _, _ => none
def insM : Mu := fun c bs => match c, bs with
  | .lst ds, [.int i, b] => if ds.length < sizeLine ∧ 0 ≤ i ∧ i < 2 ^ 63 then some (.non, .lst (ds.take i.toNat ++ [b] ++ ds.drop i.toNat)) else none
  | _, _ => none
theorem mus_append : MuS B rAppend true appM := by
  intro fr σ H Hv a c ys bs vs res c' Q R hc hva rws hb hp hF k
  obtain ⟨rl, rfl⟩ := hp rfl
  unfold appM at hF
  split at hF
  · next ds b =>
    split at hF
    · next hz =>
      cases hF
      obtain ⟨us, e, r⟩ := hc
      obtain ⟨v, t, rfl, h1, h2⟩ := rl.cons_inv
      rw [h2.nil_inv]
      exact ⟨a, us, v, rfl, rfl, e, by rw [r.length]; exact hz, k .non _ ⟨us ++ [v], upd_same, r.append (.cons h1 .nil)⟩ repN⟩
    · cases hF
  · cases hF
theorem mus_extend : MuS B rExtend false extM := by
  intro fr σ H Hv a c ys bs vs res c' Q R hc hva rws hb hp hF k
  unfold extM at hF
  split at hF
  · next ds es =>
    split at hF
    · next hz =>
      cases hF
      obtain ⟨us, e, r⟩ := hc
      match ys, vs, rws, hb with
      | [y], _, ⟨v, t, rfl, h1, h2⟩, hb =>
        have ht : t = [] := h2
        subst ht
        have hl : look fr y = some (.lst es) := by
          unfold pick at hb
          split at hb
          · next a as ha has =>
            cases hb
            exact ha
          · cases hb
        obtain ⟨p, zs, rfl, e2, r2⟩ := R.list_of h1 hl
        exact ⟨a, p, us, zs, rfl, rfl, e, e2, by rw [r.length, r2.length]; exact hz, k .non _ ⟨us ++ zs, upd_same, r.append r2⟩ repN⟩
      | [], _, _, hb => cases hb
      | y1 :: y2 :: ys, _, _, hb =>
        unfold pick at hb
        split at hb
        · next a as ha has =>
          unfold pick at has
          split at has
          · cases has; cases hb
          · cases has
        · cases hb
    · cases hF
  · cases hF
theorem rws_nil {ys bs : List D} {vs : List V} (rws : RepWs B σ Hv ys vs) (hb : pick fr ys = some bs) (h : bs = []) : vs = [] := by
  cases ys with
  | nil => exact rws
  | cons y ys =>
    unfold pick at hb
    split at hb
    · cases hb; cases h
    · cases hb
theorem mus_pop : MuS B rPop false popM := by
  intro fr σ H Hv a c ys bs vs res c' Q R hc hva rws hb hp hF k
  unfold popM at hF
  split at hF
  · next ds =>
    split at hF
    · next d hd =>
      cases hF
      obtain ⟨us, e, r⟩ := hc
      rw [rws_nil rws hb rfl]
      obtain ⟨v, h1, h2⟩ := r.get hd
      exact ⟨a, us, v, rfl, rfl, e, by rw [r.length]; exact h1, k v _ ⟨_, upd_same, r.dropLast⟩ h2⟩
    · cases hF
  · cases hF
theorem mus_reverse : MuS B rReverse false revM := by
  intro fr σ H Hv a c ys bs vs res c' Q R hc hva rws hb hp hF k
  unfold revM at hF
  split at hF
  · next ds =>
    cases hF
    obtain ⟨us, e, r⟩ := hc
    rw [rws_nil rws hb rfl]
    exact ⟨a, us, rfl, rfl, e, k .non _ ⟨_, upd_same, r.reverse⟩ repN⟩
  · cases hF
theorem mus_popAt : MuS B rPopAt true popAtM := by
  intro fr σ H Hv a c ys bs vs res c' Q R hc hva rws hb hp hF k
  obtain ⟨rl, rfl⟩ := hp rfl
  unfold popAtM at hF
  split at hF
  · next ds i =>
    split at hF
    · next hz =>
      split at hF
      · next j hj =>
        split at hF
        · next d hd =>
          cases hF
          obtain ⟨us, e, r⟩ := hc
          obtain ⟨v, t, rfl, h1, h2⟩ := rl.cons_inv
          rw [h2.nil_inv, Rep.int_iff.mp h1]
          obtain ⟨v, h1, h2⟩ := r.get hd
          exact ⟨a, us, i, j, v, rfl, rfl, e, hz.1, hz.2, by rw [r.length]; exact hj, h1, k v _ ⟨_, upd_same, r.eraseIdx j⟩ h2⟩
        · cases hF
      · cases hF
    · cases hF
  · cases hF
theorem mus_insert : MuS B (fun x vs H Q => ∃ (l : Addr) (xs : List V) (i : Int) (y : V), x = .ref l ∧ vs = [.int i, y] ∧ H l = some (.lst xs) ∧ xs.length < sizeLine ∧ 0 ≤ i ∧ i < 2 ^ 63 ∧
    Q .non (upd H l (.lst (xs.take i.toNat ++ [y] ++ xs.drop i.toNat)))) true insM := by
  intro fr σ H Hv a c ys bs vs res c' Q R hc hva rws hb hp hF k
  obtain ⟨rl, rfl⟩ := hp rfl
  unfold insM at hF
  split at hF
  · next ds i b =>
    split at hF
    · next hz =>
      cases hF
      obtain ⟨us, e, r⟩ := hc
      obtain ⟨v, t, rfl, h1, h2⟩ := rl.cons_inv
      obtain ⟨v2, t2, rfl, h3, h4⟩ := h2.cons_inv
      rw [h4.nil_inv, Rep.int_iff.mp h1]
      exact ⟨a, us, i, v2, rfl, rfl, e, by rw [r.length]; exact hz.1, hz.2.1, hz.2.2, k .non _ ⟨_, upd_same, ((r.take _).append (.cons h3 .nil)).append (r.drop _)⟩ repN⟩
    · cases hF
  · cases hF
end
/-! ### name op= e -/
def sAug (i : Nat) (F : D → D → Option D) (f : Ev) : Sv := fun fr => match fr[i]? with
  | some (some a) => if pers a = true then ((f fr).bind fun y fr1 => match look fr1 y with
    | some b => match F a b with
      | some z => .ok .nx (fr1.set i (some z))
      | none => .bad
    | none => .bad) else .bad
  | _ => .bad
section
variable {X : Cx} {B : Bd} {W : WX} {rf : Bool} {e : Expr} {f : Ev} {pos pos' : Pos} {i : Nat} {x : Str} {op : Operator} {ti : TIp} {F : D → D → Option D}
theorem s_aug (hi : i ∉ B.M) (hS : OpS B ti F) (hp : PIp X op ti) (nd : X.N.Nodup) (he : DE X B W e f) (hN : X.N[i]? = some x := by rfl) (hx : Loc X.env.scope x := by first | exact Or.inl rfl | exact Or.inr rfl)
    (hf : X.fn x = true ∨ X.env.scope.names.lookup x = some .local := by first | exact .inl rfl | exact .inr rfl | assumption) : DS X B W rf (.AugAssign (.Name x pos') op e pos) (sAug i F f) := by
  refine ps_imp (ps_aug nd hN hx he hp hf) fun D σ H hh => ?_
  obtain ⟨fr, Hv, R, hh⟩ := hh
  unfold sAug at hh
  split at hh
  · next a ea =>
    obtain ⟨v, hs, hr⟩ := R.val i a ea hi
    refine ⟨v, hs, fr, Hv, R, ?_⟩
    split at hh
    · next hpa =>
      cases hg : f fr with
      | bad => rw [hg] at hh; exact hh.elim
      | exc c fs fr1 =>
        rw [hg] at hh
        exact fun dd H' Hv' n => hh dd σ H' Hv' n.rel n.ext
      | ok y fr1 =>
        rw [hg] at hh
        dsimp only [Res.bind] at hh
        intro vy H1 Hv1 n ry
        split at hh
        · next b hb =>
          split at hh
          · next z hz =>
            refine hS fr1 σ H1 Hv1 v vy a y a b z _ n.rel (.of (Rep.mono n.ext _ _ hr)) ry (by cases a <;> first | rfl | exact absurd hpa (by simp [pers])) hb hz fun u H' Hv' m r => hh _ H' Hv' (m.rel.setV hi r) (n.ext.trans m.ext)
          · exact (hh : False).elim
        · exact (hh : False).elim
    · exact (hh : False).elim
  · exact (hh : False).elim
def iaddF : D → D → Option D
  | .int i, .int j => some (.int (i + j))
  | _, _ => none
def isubF : D → D → Option D
  | .int i, .int j => some (.int (i - j))
  | _, _ => none
theorem ops_iadd : OpS B (ipI fun i j => i + j) iaddF := ops_ints (ints_of fun x y h => by cases x <;> cases y <;> first | rfl | exact absurd ⟨rfl, rfl⟩ (h _ _)) fun i j z H Q e k => by
  cases e
  exact ⟨i, j, rfl, rfl, k _ repI⟩
theorem ops_isub : OpS B (ipI fun i j => i - j) isubF := ops_ints (ints_of fun x y h => by cases x <;> cases y <;> first | rfl | exact absurd ⟨rfl, rfl⟩ (h _ _)) fun i j z H Q e k => by
  cases e
  exact ⟨i, j, rfl, rfl, k _ repI⟩
end
end KS
namespace KS
open PySem PySem.Spec L2
/-! ### isinstance -/
inductive Tn where
  | non | bl | int | str | tup | lst | dct
def Tn.nm : Tn → String
  | .non => "NoneType" | .bl => "bool" | .int => "int" | .str => "str" | .tup => "tuple" | .lst => "list" | .dct => "dict"
def isT : Tn → Tn → Bool
  | .non, .non => true | .bl, .bl => true | .bl, .int => true | .int, .int => true | .str, .str => true | .tup, .tup => true | .lst, .lst => true | .dct, .dct => true
  | _, _ => false
def tyI : D → Option Tn
  | .non => some .non
  | .bl _ => some .bl
  | .int _ => some .int
  | .str _ => some .str
  | .tup _ => some .tup
  | .lst _ => some .lst
  | .scr _ => some .lst
  | .dct _ _ => some .dct
  | _ => none
theorem kit_all (K : PySem.W.Frag) (t : Tn) : PySem.W.kitOne K (.type t.nm) (.type "NoneType") = some (isT t .non) ∧ PySem.W.kitOne K (.type t.nm) (.type "bool") = some (isT t .bl) ∧ PySem.W.kitOne K (.type t.nm) (.type "int") = some (isT t .int) ∧
    PySem.W.kitOne K (.type t.nm) (.type "str") = some (isT t .str) ∧ PySem.W.kitOne K (.type t.nm) (.type "tuple") = some (isT t .tup) ∧ PySem.W.kitOne K (.type t.nm) (.type "list") = some (isT t .lst) ∧ PySem.W.kitOne K (.type t.nm) (.type "dict") = some (isT t .dct) := by
  cases t <;> exact ⟨kit_ty (by decide +kernel), kit_ty (by decide +kernel), kit_ty (by decide +kernel), kit_ty (by decide +kernel), kit_ty (by decide +kernel), kit_ty (by decide +kernel), kit_ty (by decide +kernel)⟩
theorem kit_tn (K : PySem.W.Frag) (t u : Tn) : PySem.W.kitOne K (.type t.nm) (.type u.nm) = some (isT t u) := by
  obtain ⟨a, b, c, d, e, f, g⟩ := kit_all K t
  cases u <;> assumption
def isAny (t : Tn) : List Tn → Bool
  | [] => false
  | u :: us => isT t u || isAny t us
theorem kit_any (K : PySem.W.Frag) (t : Tn) : ∀ us : List Tn, PySem.W.kitAny K (.type t.nm) (us.map fun u => .type u.nm) = some (isAny t us)
  | [] => kitAny_nil
  | u :: us => by
    rw [List.map_cons]
    refine kitAny_cons (kit_tn K t u) (fun h => ?_) (fun h => ?_)
    · rw [isAny, h, Bool.false_or]
      exact kit_any K t us
    · rw [isAny, h, Bool.true_or]
def isiF (u : Tn) : D → Option D := fun d => (tyI d).map fun t => .bl (isT t u)
def isiTF (us : List Tn) : D → Option D := fun d => (tyI d).map fun t => .bl (isAny t us)
def isiCF (kc : Nat → Option Bool) : D → Option D
  | .obj c _ _ => (kc c).map .bl
  | _ => none
section
variable {X : Cx} {B : Bd} {W : WX} {a : Expr} {f : Ev} {p q pos tpos : Pos} {x : Str}
theorem tyx_of (hK : X.K = B.G.K) {fr : Fr} {σ : L2.St} {H Hv : Hp} (R : Rel B fr σ H Hv) {d e : D} {v : V} {t : Tn} (h : RepW B σ Hv d v) (hl : look fr d = some e) (ht : tyI e = some t) : TyX X.K H v (.type t.nm) := by
  cases e with
  | non => cases ht; rw [R.non_of h hl]; exact .base .non
  | bl b => cases ht; rw [R.bl_of h hl]; exact .base (.bl b)
  | int i => cases ht; rw [R.int_of h hl]; exact .base (.int i)
  | str z => cases ht; rw [R.str_of h hl]; exact .base (.str z)
  | tup ds =>
    cases ht
    obtain ⟨b, vs, rfl, s, _, _⟩ := R.tup_of h hl
    rcases s with (s | ⟨o, s⟩) | ⟨o, its, n, hk, hc, _⟩
    · exact .base (.tup s)
    · exact .fTuple s
    · exact .kTuple (by rw [hK]; exact hk) hc
  | lst ds =>
    cases ht
    obtain ⟨b, vs, rfl, s, _⟩ := R.list_of h hl
    exact .base (.lst s)
  | scr ns =>
    cases ht
    obtain ⟨b, rfl, s⟩ := Rep.scr_inv (look_scalar R h hl rfl)
    rcases R.sub.sql s with (s | ⟨o, s⟩) | ⟨o, its, n, hk, hc, _⟩
    · exact .base (.lst s)
    · exact .base (.frz s)
    · exact .kList (by rw [hK]; exact hk) hc
  | dct ks ds =>
    cases ht
    have key : ∃ b us, v = .ref b ∧ DctAt H b ks us := by
      cases d with
      | var i =>
        obtain ⟨hm, hs⟩ := h
        obtain ⟨b, hs', _, _, us, q, _⟩ := R.own i _ (look_var hl) hm
        rw [hs] at hs'
        cases hs'
        exact ⟨b, us, rfl, q⟩
      | dct ks' ds' =>
        have e : D.dct ks' ds' = .dct ks ds := Option.some.inj hl
        cases e
        obtain ⟨b, us, rfl, q, _⟩ := Rep.dct_inv h
        exact ⟨b, us, rfl, q.at fun o => R.sub b o⟩
      | _ => cases hl
    obtain ⟨b, us, rfl, ⟨kvs, e, _⟩ | ⟨kvs, e, _⟩⟩ := key
    · exact .base (.dT e)
    · exact .base (.dK e)
  | _ => cases ht
theorem d_isi (u : Tn) (ha : DE X B W a f) (hm : X.mg "isinstance" = none) (hmx : X.mg x = none) (hx : bootBuiltins x = some (.type u.nm)) (hK : X.K = B.G.K := by rfl) (hg : Gl X "isinstance" := by rfl) (hgx : Gl X x := by rfl) (hv : bootBuiltins "isinstance" = some (.builtin "isinstance") := by decide +kernel) (hn : (("isinstance" : String) : Str) ≠ "__name__" := by decide) (hdb : ((("isinstance" : String) : Str) == ("__debug__" : Str)) = false := by decide)
    (hnx : x ≠ "__name__" := by decide) (hdx : (x == ("__debug__" : Str)) = false := by decide)
    (he2 : starEach [.Name x q] X.env = (false, eval (.Name x q) X.env) :: starEach [] X.env := by rfl) (he : starEach [a, .Name x q] X.env = (false, eval a X.env) :: starEach [.Name x q] X.env := by rfl) (hpl : (backTo pos (starEach [.Name x q] X.env)).any (·.1) = false := by rfl) :
    DE X B W (.Call (.Name "isinstance" p) [a, .Name x q] [] pos) (eOp1 (isiF u) f) := by
  refine pe_imp (pe_callB call_isi hg hm hv (pa_cons ha (pa_cons (pe_bltn hgx hmx hx (show RelV (.ty u.nm) (.type u.nm) from rfl) hnx hdx) pa_nil he2) he) hn hdb he hpl) fun σ H Q h => ?_
  have e := ent1 (r := fun x1 H1 Q => rIsi X.K [x1, .ty u.nm] H1 Q) ?_ h
  · exact e
  · intro fr σ H Hv y dy b z Q R ry hy hz k
    unfold isiF at hz
    simp only [Option.map_eq_some_iff] at hz
    obtain ⟨t, ht, rfl⟩ := hz
    exact ⟨y, .ty u.nm, .type t.nm, .type u.nm, isT t u, rfl, .ty _, tyx_of hK R ry hy ht, kit_tn _ _ _, k _ H Hv (.refl R) repB⟩
theorem d_isi2 (u1 u2 : Tn) {x2 : Str} {q2 : Pos} {k1 : Nat} (ha : DE X B W a f) (hm : X.mg "isinstance" = none) (hmx : X.mg x = none) (hx : bootBuiltins x = some (.type u1.nm)) (hmx2 : X.mg x2 = none) (hx2 : bootBuiltins x2 = some (.type u2.nm)) (hK : X.K = B.G.K := by rfl) (hg : Gl X "isinstance" := by rfl) (hgx : Gl X x := by rfl) (hgx2 : Gl X x2 := by rfl)
    (hv : bootBuiltins "isinstance" = some (.builtin "isinstance") := by decide +kernel) (hn : (("isinstance" : String) : Str) ≠ "__name__" := by decide) (hdb : ((("isinstance" : String) : Str) == ("__debug__" : Str)) = false := by decide)
    (hnx : x ≠ "__name__" := by decide) (hdx : (x == ("__debug__" : Str)) = false := by decide) (hnx2 : x2 ≠ "__name__" := by decide) (hdx2 : (x2 == ("__debug__" : Str)) = false := by decide)
    (hs2 : starEach [.Name x2 q2] X.env = (false, eval (.Name x2 q2) X.env) :: starEach [] X.env := by rfl) (hs1 : starEach [.Name x q, .Name x2 q2] X.env = (false, eval (.Name x q) X.env) :: starEach [.Name x2 q2] X.env := by rfl)
    (he2 : starEach [.Tuple [.Name x q, .Name x2 q2] k1 tpos] X.env = (false, eval (.Tuple [.Name x q, .Name x2 q2] k1 tpos) X.env) :: starEach [] X.env := by rfl) (he : starEach [a, .Tuple [.Name x q, .Name x2 q2] k1 tpos] X.env = (false, eval a X.env) :: starEach [.Tuple [.Name x q, .Name x2 q2] k1 tpos] X.env := by rfl) (hpl : (backTo pos (starEach [.Tuple [.Name x q, .Name x2 q2] k1 tpos] X.env)).any (·.1) = false := by rfl) :
    DE X B W (.Call (.Name "isinstance" p) [a, .Tuple [.Name x q, .Name x2 q2] k1 tpos] [] pos) (eOp1 (isiTF [u1, u2]) f) := by
  refine pe_imp (pe_callB call_isiT hg hm hv (pa_cons ha (pa_cons (pe_tup (pa_cons (pe_bltn hgx hmx hx (show RelV (.ty u1.nm) (.type u1.nm) from rfl) hnx hdx) (pa_cons (pe_bltn hgx2 hmx2 hx2 (show RelV (.ty u2.nm) (.type u2.nm) from rfl) hnx2 hdx2) pa_nil hs2) hs1)) pa_nil he2) he) hn hdb he hpl) fun σ H Q h => ?_
  have e := ent1 (r := fun x1 H1 Q => 2 ≤ sizeLine ∧ ∀ T, H1 T = none → rIsiT X.K [x1, .ref T] (upd H1 T (.tup [.ty u1.nm, .ty u2.nm])) Q) ?_ h
  · exact e
  · intro fr σ H Hv y dy b z Q R ry hy hz k
    unfold isiTF at hz
    simp only [Option.map_eq_some_iff] at hz
    obtain ⟨t, ht, rfl⟩ := hz
    refine ⟨by decide, fun T hT => ?_⟩
    have n : Nxt B fr σ H Hv fr (upd H T (.tup [.ty u1.nm, .ty u2.nm])) Hv := ⟨R.lay hT, .refl _, fun b u h _ _ => by rw [upd_ne (ne_of_none h hT)]; exact h, .refl _ _, fun b u h => ⟨u, by rw [upd_ne (ne_of_none h hT)]; exact h⟩, fun b u h => .inl h⟩
    exact ⟨y, T, _, .type t.nm, [.type u1.nm, .type u2.nm], isAny t [u1, u2], rfl, upd_same, .cons (.ty _) (.cons (.ty _) .nil), tyx_of hK n.rel ry hy ht, kit_any _ t [u1, u2], k _ _ Hv n repB⟩
theorem d_isiC {C : Addr} (kc : Nat → Option Bool) (ha : DE X B W a f) (hm : X.mg "isinstance" = none) (hmx : X.mg x = some (.ref C)) (hkc : ∀ c b, kc c = some b → C8.InsC X.K (B.G.cls c) ∧ PySem.W.kitOne X.K (.ref (B.G.cls c)) (.ref C) = some b) (hg : Gl X "isinstance" := by rfl) (hgx : Gl X x := by rfl) (hv : bootBuiltins "isinstance" = some (.builtin "isinstance") := by decide +kernel) (hn : (("isinstance" : String) : Str) ≠ "__name__" := by decide) (hdb : ((("isinstance" : String) : Str) == ("__debug__" : Str)) = false := by decide)
    (hdx : (x == ("__debug__" : Str)) = false := by decide)
    (he2 : starEach [.Name x q] X.env = (false, eval (.Name x q) X.env) :: starEach [] X.env := by rfl) (he : starEach [a, .Name x q] X.env = (false, eval a X.env) :: starEach [.Name x q] X.env := by rfl) (hpl : (backTo pos (starEach [.Name x q] X.env)).any (·.1) = false := by rfl) :
    DE X B W (.Call (.Name "isinstance" p) [a, .Name x q] [] pos) (eOp1 (isiCF kc) f) := by
  refine pe_imp (pe_callB call_isi hg hm hv (pa_cons ha (pa_cons (pe_glob hgx hmx (show RelV (.ref C) (.ref C) from rfl) hdx) pa_nil he2) he) hn hdb he hpl) fun σ H Q h => ?_
  have e := ent1 (r := fun x1 H1 Q => rIsi X.K [x1, .ref C] H1 Q) ?_ h
  · exact e
  · intro fr σ H Hv y dy b z Q R ry hy hz k
    unfold isiCF at hz
    split at hz
    · next c ns fs =>
      simp only [Option.map_eq_some_iff] at hz
      obtain ⟨bb, hb, rfl⟩ := hz
      obtain ⟨I, hkit⟩ := hkc c bb hb
      obtain ⟨pp, dx, vs, rfl, e, _, _⟩ := obj_of R ry hy
      exact ⟨_, .ref C, .ref (B.G.cls c), .ref C, bb, rfl, .own C, .base (.ins e I.cl I.ha I.hn I.htk I.hm), hkit, k _ H Hv (.refl R) repB⟩
    · cases hz
end
/-! ### texts -/
def splF : D → D → Option D
  | .str a, .str b => if (b.length == 0) = false ∧ a.length + 2 ≤ sizeLine then some (.lst ((Txt.split a b).map D.str)) else none
  | _, _ => none
def strsOf : List D → Option (List Str)
  | [] => some []
  | .str b :: ds => (strsOf ds).map (b :: ·)
  | _ => none
theorem strs_rep {G : SE} {H : Hp} : ∀ {ds : List D} {vs : List V} {bs : List Str}, RepL G H ds vs → strsOf ds = some bs → vs = bs.map V.str
  | [], vs, bs, r, e => by
    rw [r.nil_inv]
    cases e
    rfl
  | d :: ds, vs, bs, r, e => by
    obtain ⟨v, t, rfl, h1, h2⟩ := r.cons_inv
    cases d with
    | str b =>
      simp only [strsOf, Option.map_eq_some_iff] at e
      obtain ⟨cs, e1, rfl⟩ := e
      rw [Rep.str_iff.mp h1, strs_rep h2 e1]
      rfl
    | _ => simp [strsOf] at e
theorem repl_strs {G : SE} {H : Hp} : ∀ ys : List Str, RepL G H (ys.map D.str) (ys.map V.str)
  | [] => .nil
  | y :: ys => .cons (Rep.str_iff.mpr rfl) (repl_strs ys)
def joinF : D → D → Option D
  | .str a, .lst ds => match strsOf ds with
    | some ys => if (ys.map (·.length)).sum + ys.length * a.length ≤ 16777216 then some (.str (Txt.join a ys)) else none
    | none => none
  | .str a, .tup ds => match strsOf ds with
    | some ys => if (ys.map (·.length)).sum + ys.length * a.length ≤ 16777216 then some (.str (Txt.join a ys)) else none
    | none => none
  | _, _ => none
/-- x.m(e), x a text -/
def eM1 (F : D → D → Option D) (f g : Ev) : Ev := fun fr => (f fr).bind fun x fr1 => match x with
  | .str _ => (g fr1).bind fun y fr2 => match look fr2 y with
    | some b => ofO (F x b) fr2
    | _ => .bad
  | _ => .bad
section
variable {X : Cx} {B : Bd} {W : WX} {o e : Expr} {f g : Ev} {apos pos : Pos} {r : V → List V → Hp → VK → Prop} {F : D → D → Option D}
theorem entM1 {σ : L2.St} {H : Hp} {Q : VK} (hr : OpS B (fun x y => r x [y]) F) (h : dTE B W (eM1 F f g) σ H Q) : tM1 r (dTE B W f) (dTE B W g) σ H Q := by
  obtain ⟨fr, Hv, R, h⟩ := h
  refine ⟨fr, Hv, R, ?_⟩
  unfold eM1 at h
  cases hf : f fr with
  | bad => rw [hf] at h; exact h.elim
  | exc c fs fr1 => rw [hf] at h; exact h
  | ok x fr1 =>
    rw [hf] at h
    dsimp only [Res.bind] at h
    intro vx H1 Hv1 n1 r1
    split at h
    · next z =>
      refine ⟨⟨z, n1.rel.str_of r1 rfl⟩, fr1, Hv1, n1.rel, ?_⟩
      cases hg : g fr1 with
      | bad => rw [hg] at h; exact h.elim
      | exc c fs fr2 =>
        rw [hg] at h
        exact fun dd H' Hv' n => h dd H' Hv' (n1.trans n)
      | ok y fr2 =>
        rw [hg] at h
        dsimp only at h
        intro vy H2 Hv2 n2 r2
        cases hy : look fr2 y with
        | none => rw [hy] at h; exact h.elim
        | some b =>
          rw [hy] at h
          dsimp only at h
          cases hz : F (.str z) b with
          | none => rw [hz] at h; exact h.elim
          | some w =>
            rw [hz] at h
            exact hr fr2 σ H2 Hv2 vx vy (.str z) y (.str z) b w Q n2.rel (r1.mono n2.ext) r2 rfl hy hz fun v H' Hv' n q => h v H' Hv' ((n1.trans n2).trans n) (.of q)
    · exact (h : False).elim
theorem entM1F {σ : L2.St} {H : Hp} {Q : VK} (hr : OpF B (fun x y => r x [y]) F) (h : dTF B W (eM1 F f g) σ H Q) : tM1 r (dTE B W f) (dTE B W g) σ H Q := by
  obtain ⟨fr, Hv, R, h⟩ := h
  refine ⟨fr, Hv, R, ?_⟩
  unfold eM1 at h
  cases hf : f fr with
  | bad => rw [hf] at h; exact h.elim
  | exc c fs fr1 => rw [hf] at h; exact h
  | ok x fr1 =>
    rw [hf] at h
    dsimp only [Res.bind] at h
    intro vx H1 Hv1 n1 r1
    split at h
    · next z =>
      refine ⟨⟨z, n1.rel.str_of r1 rfl⟩, fr1, Hv1, n1.rel, ?_⟩
      cases hg : g fr1 with
      | bad => rw [hg] at h; exact h.elim
      | exc c fs fr2 =>
        rw [hg] at h
        exact fun dd H' Hv' n => h dd H' Hv' (n1.trans n)
      | ok y fr2 =>
        rw [hg] at h
        dsimp only at h
        intro vy H2 Hv2 n2 r2
        cases hy : look fr2 y with
        | none => rw [hy] at h; exact h.elim
        | some b =>
          rw [hy] at h
          dsimp only at h
          cases hz : F (.str z) b with
          | none => rw [hz] at h; exact h.elim
          | some w =>
            rw [hz] at h
            exact hr fr2 σ H2 Hv2 vx vy (.str z) y (.str z) b w Q n2.rel (r1.mono n2.ext) r2 rfl hy hz fun p H' Hv' n hp q => h p H' Hv' ((n1.trans n2).trans n) ((n1.trans n2).none R hp) q
    · exact (h : False).elim
theorem opf_split : OpF B (fun x y => (fun x xs H Q => ∃ a b, x = .str a ∧ xs = [.str b] ∧ (b.length == 0) = false ∧ a.length + 2 ≤ sizeLine ∧ rNewStrs (Txt.split a b) H Q) x [y]) splF := by
  intro fr σ H Hv x y dx dy a b z Q R rx ry hx hy hz k
  unfold splF at hz
  split at hz
  · split at hz
    · next c =>
      cases hz
      rw [R.str_of rx hx, R.str_of ry hy]
      exact ⟨_, _, rfl, rfl, c.1, c.2, fun p hp => lay_own R hp (repl_strs _) k⟩
    · cases hz
  · cases hz
theorem d_split (ho : DE X B W o f) (he : DE X B W e g) (hs : starEach [e] X.env = [(false, eval e X.env)] := by rfl) (hbase : attributeBase o "split" X.env (eval o X.env) = eval o X.env := by rfl) (hline : (apos.endLine == pos.line) = true := by rfl) :
    DF X B W (.Call (.Attribute o "split" apos) [e] [] pos) (eM1 splF f g) := pe_imp (pe_split ho he hs hbase hline) fun _ _ _ h => entM1F opf_split h
theorem ops_join (hK : X.K = B.G.K) : OpS B (fun x y => (fun x xs H Q => ∃ a p, ∃ ys : List Str, x = .str a ∧ xs = [.ref p] ∧ (SqL X.K H p (ys.map V.str) ∨ SqT X.K H p (ys.map V.str)) ∧ (ys.map (·.length)).sum + ys.length * a.length ≤ 16777216 ∧ Q (.str (Txt.join a ys)) H) x [y]) joinF := by
  intro fr σ H Hv x y dx dy a b z Q R rx ry hx hy hz k
  unfold joinF at hz
  split at hz
  · split at hz
    · next ys hys =>
      split at hz
      · next c =>
        cases hz
        rw [R.str_of rx hx]
        obtain ⟨p, vs, rfl, q, r⟩ := R.list_of ry hy
        have ev := strs_rep r hys
        subst ev
        exact ⟨_, p, ys, rfl, rfl, .inl (SqL.of q), c, k _ H Hv (.refl R) repS⟩
      · cases hz
    · cases hz
  · split at hz
    · next ys hys =>
      split at hz
      · next c =>
        cases hz
        rw [R.str_of rx hx]
        obtain ⟨p, vs, rfl, q, _, r⟩ := R.tup_of ry hy
        have ev := strs_rep r hys
        subst ev
        exact ⟨_, p, ys, rfl, rfl, .inr (by rw [hK]; exact q), c, k _ H Hv (.refl R) repS⟩
      · cases hz
    · cases hz
  · cases hz
theorem d_join (ho : DE X B W o f) (he : DE X B W e g) (hK : X.K = B.G.K := by rfl) (hs : starEach [e] X.env = [(false, eval e X.env)] := by rfl) (hbase : attributeBase o "join" X.env (eval o X.env) = eval o X.env := by rfl) (hline : (apos.endLine == pos.line) = true := by rfl) :
    DE X B W (.Call (.Attribute o "join" apos) [e] [] pos) (eM1 joinF f g) := pe_imp (pe_join ho he hs hbase hline) fun _ _ _ h => entM1 (ops_join hK) h
/-! f-strings: constants and plain fields -/
def fmtF : D → Option Str
  | .str y => if y.length ≤ sizeLine then some y else none
  | .int i => if i.natAbs.log2 < 1920 then some (toString i) else none
  | _ => none
def eFs : List Ev → Str → Ev
  | [], acc => fun fr => .ok (.str acc) fr
  | f :: fs, acc => fun fr => (f fr).bind fun d fr1 => match d with
    | .str y => if (acc ++ y).length ≤ sizeLine then eFs fs (acc ++ y) fr1 else .bad
    | _ => .bad
theorem d_fmt {e : Expr} {f : Ev} {pos : Pos} (he : DE X B W e f) : DE X B W (.FormattedValue e (-1) none pos) (eOp1 (fun d => (fmtF d).map D.str) f) := by
  refine pe_imp (pe_fmt he) fun σ H Q h => ?_
  refine ent1 (r := fun x H1 Q => (∃ y : Str, x = .str y ∧ y.length ≤ sizeLine ∧ Q (.str y) H1) ∨ ∃ i : Int, x = .int i ∧ i.natAbs.log2 < 1920 ∧ Q (.str (toString i)) H1) ?_ h
  intro fr σ H Hv x dx a z Q R rx hx hz k
  simp only [Option.map_eq_some_iff] at hz
  obtain ⟨y, hy, rfl⟩ := hz
  unfold fmtF at hy
  split at hy
  · split at hy
    · next c =>
      cases hy
      exact .inl ⟨_, R.str_of rx hx, c, k _ H Hv (.refl R) repS⟩
    · cases hy
  · split at hy
    · next c =>
      cases hy
      exact .inr ⟨_, R.int_of rx hx, c, k _ H Hv (.refl R) repS⟩
    · cases hy
  · cases hy
inductive DJ (X : Cx) (B : Bd) (W : WX) : List Expr → List Ev → Prop where
  | nil : DJ X B W [] []
  | cons {e : Expr} {t : Ev} {es : List Expr} {ts : List Ev} (h : DE X B W e t) (r : DJ X B W es ts) : DJ X B W (e :: es) (t :: ts)
theorem DJ.pj {es : List Expr} {fs : List Ev} (h : DJ X B W es fs) : PJ X es (fs.map (dTE B W)) := by
  induction h with
  | nil => exact .nil
  | cons h r ih => exact .cons h ih
theorem entJ {σ : L2.St} {Q : VK} : ∀ (fs : List Ev) (acc : Str) {H : Hp}, dTE B W (eFs fs acc) σ H Q → tJs (fs.map (dTE B W)) acc σ H fun out H1 => Q (.str out) H1
  | [], acc, H, h => by
    obtain ⟨fr, Hv, R, h⟩ := h
    exact h _ H Hv (.refl R) (.of repS)
  | f :: fs, acc, H, h => by
    obtain ⟨fr, Hv, R, h⟩ := h
    refine ⟨fr, Hv, R, ?_⟩
    unfold eFs at h
    cases hf : f fr with
    | bad => rw [hf] at h; exact h.elim
    | exc c fs fr1 => rw [hf] at h; exact h
    | ok d fr1 =>
      rw [hf] at h
      dsimp only [Res.bind] at h
      intro v H1 Hv1 n r
      split at h
      · next y =>
        split at h
        · next c => exact ⟨y, n.rel.str_of r rfl, c, entJ fs (acc ++ y) ⟨fr1, Hv1, n.rel, PostE.step n h⟩⟩
        · exact (h : False).elim
      · exact (h : False).elim
theorem d_fstr {v1 v2 : Expr} {rest : List Expr} {fs : List Ev} {pos : Pos} (h : DJ X B W (v1 :: v2 :: rest) fs) : DE X B W (.JoinedStr (v1 :: v2 :: rest) pos) (eFs fs Str.empty) :=
  pe_imp (pe_joined h.pj) fun _ _ _ h => entJ fs _ h
theorem d_fstr1 {e : Expr} {f : Ev} {pos : Pos} (h : DE X B W e f) : DE X B W (.JoinedStr [e] pos) f := pe_joined1 h
end
end KS
namespace KS
open PySem PySem.Spec L2
/-! ### making an instance -/
def tMakeS (C : Addr) (sp : Sp) (E : L2.St → XK) (t : TA) : TE := fun σ H Q => t σ H fun vs H1 => ∀ x dx, H1 x = none → H1 dx = none → dx ≠ x →
  sp (.ref x :: (vs ++ [])) (upd (upd H1 dx (.own x)) x (.ins C dx [])) (fun v H2 => v = .non ∧ Q (.ref x) H2) (E σ)
section
variable {X : Cx} {CX : CXT} {k : Nat} {f C : Addr} {fd : FuncData} {ps : List Str} {sp : Sp} {E : L2.St → XK} {x : Str} {p pos : Pos} {e : Expr} {es : List Expr} {t : TA}
theorem run_makeS {pins : List (Addr × Obj)} {σ : L2.St} {H : Hp} {s : Shared} {Q : VK} {us ds : List Value} {vs dvs : List V} (M : Mk X.K C f) (F : FnOk X.prog X.w X.K X.mg X.base CX k f fd ps sp) (hr : Room (k + 1) X.A) (hb : Binds X.K fd ps ds) (hd : Vals dvs ds)
    (hx : PassesAt CX X σ (E σ)) (I : Inv X pins σ H s) (r : Vals vs us)
    (h : ∀ x dx, H x = none → H dx = none → dx ≠ x → sp (.ref x :: (vs ++ dvs)) (upd (upd H dx (.own x)) x (.ins C dx [])) (fun v H2 => v = .non ∧ Q (.ref x) H2) (E σ)) :
    wpAny (model X.prog X.w) X.A (call (.ref C) us) (EP X pins σ Q) X.xe s := by
  have hq := h (s.heap.objs.size + 1) s.heap.objs.size (I.hok.fresh (Nat.le_succ _)) (I.hok.fresh (Nat.le_refl _)) (Nat.ne_of_lt (Nat.lt_succ_self _))
  have I2 := Inv.made (C := C) I
  have r2 : Vals (V.ref (s.heap.objs.size + 1) :: (vs ++ dvs)) (Value.ref (s.heap.objs.size + 1) :: (us ++ ds)) := .cons rfl (r.append hd)
  have hl : (Value.ref (s.heap.objs.size + 1) :: us ++ ds).length = ps.length := by
    have e := r2.length
    rw [F.len _ _ _ _ hq] at e
    exact e.symm
  refine wpAny_call (make_map (f := f) I.kIn M.makes M.init (beq_iff_eq.mp M.fn) (codeAny_mono (F.run _ X.stack _ _ ⟨Value.ref (s.heap.objs.size + 1) :: us, []⟩ (Value.ref (s.heap.objs.size + 1) :: (us ++ ds)) _ _ (E σ) (hr.make C us [])
    (I2.env0.make C us []) (hb _ (Value.ref (s.heap.objs.size + 1) :: us) I2.kIn hl) r2 hq) fun r s' hq' => ?_))
  cases r with
  | error e => exact hx pins _ _ e s' I2 hq'
  | ok fl =>
    cases fl with
    | ret u =>
      obtain ⟨v, H', I3, rv, ev, q3⟩ := I2.after hq'
      subst ev
      exact ⟨rv, ⟨V.ref (s.heap.objs.size + 1), H', I3, rfl, q3⟩⟩
    | next => exact False.elim hq'
    | brk => exact False.elim hq'
    | cont => exact False.elim hq'
theorem pe_makeS (M : Mk X.K C f) (F : FnOk X.prog X.w X.K X.mg X.base CX k f fd ps sp) (hr : Room (k + 1) X.A) (hg : Gl X x) (hm : X.mg x = some (.ref C)) (hb : Binds X.K fd ps []) (hx : ∀ σ, PassesAt CX X σ (E σ))
    (ha : PA X (e :: es) t) (hdb : (x == ("__debug__" : Str)) = false := by decide) (he : starEach (e :: es) X.env = (false, eval e X.env) :: starEach es X.env := by rfl) (hpl : (backTo pos (starEach es X.env)).any (·.1) = false := by rfl) :
    PE X (.Call (.Name x p) (e :: es) [] pos) (tMakeS C sp E t) := by
  refine ⟨fun pins s σ H Q I h => ?_⟩
  refine wpAny_Call_Name_kw (ld_glob I hg hm ?_ hdb)
  refine PySem.W.callWith_K (h₀ := X.base) I.ok.mod.kin M.kp (thn (ha.run pos pins s σ H _ I h) fun us s1 ⟨vs, H1, I1, r, q⟩ => ⟨I1.kIn, ?_⟩) he hpl
  exact run_makeS (dvs := []) M F hr hb .nil (hx σ) I1 r q
end
def eMake (c : Nat) (F : Fn) (g : Av) : Ev := fun fr => (g fr).bind fun ds fr1 => if ds.all pers = true then (match F (.obj c [] [] :: ds) with
  | .ok .non (o :: _) => .ok o fr1
  | .exc k fs _ => .exc k fs fr1
  | _ => .bad) else .bad
section
variable {B : Bd} {fr : Fr} {σ : L2.St} {H Hv H' Hv' : Hp} {ds outs : List D} {vs : List V}
/-- after C's __init__ at x -/
theorem nxt_make (R : Rel B fr σ H Hv) {x dx C : Addr} (hx : H x = none) (hdx : H dx = none) {n : Nat} (f : FinC B.G (true :: List.replicate n false) outs (.ref x :: vs) (upd (upd H dx (.own x)) x (.ins C dx [])) Hv H' Hv') : Nxt B fr σ H Hv fr H' Hv' := by
  have io : ∀ {b}, ioA (true :: List.replicate n false) (.ref x :: vs) b → b = x := fun {b} ⟨i, h1, h2⟩ => by
    cases i with
    | zero => cases h2; rfl
    | succ i =>
      rw [List.getElem?_cons_succ, List.getElem?_replicate] at h1
      split at h1 <;> cases h1
  have up : ∀ {b o}, H b = some o → upd (upd H dx (.own x)) x (.ins C dx []) b = some o ∧ b ≠ x := fun {b o} h => by
    rw [upd_ne (ne_of_none h hx), upd_ne (ne_of_none h hdx)]
    exact ⟨h, ne_of_none h hx⟩
  have kp : ∀ b o, H b = some o → b ∉ B.G.tabs → H' b = some o := fun b o h ht => f.keep b o (up h).1 (fun q => (up h).2 (io q)) ht
  have none_of : ∀ {b}, upd (upd H dx (.own x)) x (.ins C dx []) b = none → H b = none := fun {b} z => by
    cases e : H b with
    | none => rfl
    | some u => rw [(up e).1] at z; cases z
  refine ⟨⟨f.sub, R.ext0.trans f.ext, fun b o h => ?_, fun b o h hi ht => kp b o (R.keep b o h hi ht) ht, R.len, fun i d e hm => ?_, fun i d e hc hm => ?_, fun i d e hm => ?_, R.sep, R.io, f.tab⟩, f.ext, fun b o h _ nt => kp b o h nt, .refl _ _, fun b o h => ?_, fun b o h => ?_⟩
  · rcases f.new b o h with z | z
    · exact R.new b o z
    · exact .inr (z.imp (fun z => R.h0_none (none_of z)) id)
  · obtain ⟨v, hs, hr⟩ := R.val i d e hm
    exact ⟨v, hs, Rep.mono f.ext _ _ hr⟩
  · obtain ⟨e2, v, z, hs, hr⟩ := R.box i d e hc hm
    exact ⟨e2, v, z, hs, Rep.mono f.ext _ _ hr⟩
  · obtain ⟨a, hs, hva, hn, hc⟩ := R.own i d e hm
    obtain ⟨⟨u, hu⟩, _, nt⟩ := R.own_some ⟨i, d, hm, e, hs⟩
    refine ⟨a, hs, ?_, hn, hc.mono f.ext ((kp a u hu nt).trans hu.symm)⟩
    cases q : Hv' a with
    | none => rfl
    | some o =>
      rcases f.new a o q with z | z | ⟨ws, z⟩
      · rw [hva] at z; cases z
      · rw [(up hu).1] at z; cases z
      · have h1 := f.sub a o q
        rw [kp a u hu nt, z] at h1
        cases h1
        exact (hc.not_tup hu).elim
  · by_cases ht : b ∈ B.G.tabs
    · obtain ⟨⟨ps, e, _⟩, _⟩ := f.tab b ht
      exact ⟨_, e⟩
    · exact ⟨o, kp b o h ht⟩
  · rcases f.new b o h with z | z
    · exact .inl z
    · exact .inr (.inl (z.imp none_of id))
theorem start_make (R : Rel B fr σ H Hv) {x dx : Addr} {c : Nat} (hx : H x = none) (hdx : H dx = none) (ne : dx ≠ x) (r : RepL B.G Hv ds vs) : Start B.G (true :: List.replicate ds.length false) (.obj c [] [] :: ds) (.ref x :: vs) (upd (upd H dx (.own x)) x (.ins (B.G.cls c) dx [])) Hv where
  sub := fun b u h => by
    have := R.sub b u h
    rw [upd_ne (ne_of_none this hx), upd_ne (ne_of_none this hdx)]
    exact this
  tab := fun P hP => by
    obtain ⟨⟨ps, e, t⟩, v⟩ := R.tab P hP
    exact ⟨⟨ps, by rw [upd_ne (ne_of_none e hx), upd_ne (ne_of_none e hdx)]; exact e, t⟩, v⟩
  lend := by simp
  lenv := by simp [r.length]
  val := fun i d hm hd => by
    cases i with
    | zero => cases hm
    | succ i => exact r.get hd
  own := fun i d hm hd => by
    cases i with
    | zero =>
      have e : D.obj c [] [] = d := Option.some.inj hd
      subst e
      exact ⟨x, rfl, R.hv_none hx, dx, [], upd_same, rfl, .nil⟩
    | succ i =>
      rw [List.getElem?_cons_succ, List.getElem?_replicate] at hm
      split at hm <;> cases hm
  sep := fun i j a hij hi hj => by
    have z : ∀ {i : Nat}, (true :: List.replicate ds.length false)[i]? = some true → i = 0 := fun {i} h => by
      cases i with
      | zero => rfl
      | succ i =>
        rw [List.getElem?_cons_succ, List.getElem?_replicate] at h
        split at h <;> cases h
    exact absurd ((z hi).trans (z hj).symm) hij
variable {X : Cx} {W : WX} {e : Expr} {es : List Expr} {g : Av} {k : Nat} {f : Addr} {fd : FuncData} {ps : List Str} {F : Fn} {x : Str} {p pos : Pos} {c : Nat}
theorem d_make (n : Nat) (M : Mk X.K (B.G.cls c) f) (Fk : FnOk X.prog X.w X.K X.mg X.base (L2.CX X.prog X.w) k f fd ps (spOf B.G (true :: List.replicate n false) false F)) (hn : ∀ fr ds fr1, g fr = .ok ds fr1 → ds.length = n) (hr : Room (k + 1) X.A) (hm : X.mg x = some (.ref (B.G.cls c))) (hb : Binds X.K fd ps []) (tk : ∀ σ, PassesAt (L2.CX X.prog X.w) X σ (WE W σ))
    (ha : DA X B W (e :: es) g) (hg : Gl X x := by rfl) (hdb : (x == ("__debug__" : Str)) = false := by decide) (he : starEach (e :: es) X.env = (false, eval e X.env) :: starEach es X.env := by rfl) (hpl : (backTo pos (starEach es X.env)).any (·.1) = false := by rfl) :
    DF X B W (.Call (.Name x p) (e :: es) [] pos) (eMake c F g) := by
  refine pe_imp (pe_makeS M Fk hr hg hm hb tk ha hdb he hpl) fun σ H Q h => ?_
  obtain ⟨fr, Hv, R, h⟩ := h
  refine ⟨fr, Hv, R, ?_⟩
  unfold eMake at h
  cases hgf : g fr with
  | bad => rw [hgf] at h; exact h.elim
  | exc c fs fr1 => rw [hgf] at h; exact h
  | ok ds fr1 =>
    have hlen := hn _ _ _ hgf
    rw [hgf] at h
    dsimp only [Res.bind] at h
    intro vs H1 Hv1 n1 rws x dx hx hdx ne
    split at h
    · next hp =>
      have rl := pers_repL rws hp
      rw [List.append_nil]
      refine ⟨.obj c [] [] :: ds, Hv1, by rw [← hlen]; exact start_make n1.rel hx hdx ne rl, ?_⟩
      split at h
      · next o outs hF =>
        rw [hF]
        intro v H' Hv' fin ret
        have ret : Rep B.G Hv' .non v := by
          unfold RetR at ret
          rwa [if_neg Bool.false_ne_true] at ret
        refine ⟨Rep.non_iff.mp ret, ?_⟩
        obtain ⟨h1, d, hd, hcell⟩ := fin.io 0 x rfl rfl
        cases hd
        exact h x H' Hv' (n1.trans (nxt_make n1.rel hx hdx fin)) (n1.none R hx) h1 hcell
      · next k fs outs hF =>
        rw [hF]
        intro dd H' Hv' fin ex
        exact h dd H' Hv' (n1.trans (nxt_make n1.rel hx hdx fin)) ex
      · exact (h : False).elim
    · exact (h : False).elim
end
/-! ### self.f = e -/
def putN (n : Nat) (d : D) : List Nat → List D → List Nat × List D
  | [], _ => ([n], [d])
  | m :: ns, e :: fs => if m = n then (m :: ns, d :: fs) else (m :: (putN n d ns fs).1, e :: (putN n d ns fs).2)
  | m :: ns, [] => (m :: ns, [])
def sFldS (i n : Nat) (cs : List Nat) (f : Ev) : Sv := fun fr => (f fr).bind fun d fr1 => if pers d = true then (match fr1[i]? with
  | some (some (.obj c ns fs)) => if c ∈ cs then (if ns.length < 1000 then .ok .nx (fr1.set i (some (.obj c (putN n d ns fs).1 (putN n d ns fs).2))) else .bad) else .bad
  | _ => .bad) else .bad
theorem putN_ok {G : SE} {Hv : Hp} {n : Nat} {d : D} {v : V} (inj : ∀ m, G.fld m = G.fld n → m = n) (hr : Rep G Hv d v) : ∀ {ns : List Nat} {fs : List D} {vs : List V}, ns.length = vs.length → RepL G Hv fs vs →
    ∃ vs', putF (G.fld n) v ((ns.map G.fld).zip vs) = (((putN n d ns fs).1.map G.fld).zip vs') ∧ (putN n d ns fs).1.length = vs'.length ∧ RepL G Hv (putN n d ns fs).2 vs'
  | [], fs, vs, hl, r => by
    have e : vs = [] := List.eq_nil_of_length_eq_zero hl.symm
    subst e
    exact ⟨[v], rfl, rfl, .cons hr .nil⟩
  | m :: ns, [], vs, hl, r => by
    rw [r.nil_inv] at hl
    cases hl
  | m :: ns, e :: fs, vs, hl, r => by
    obtain ⟨u, t, rfl, h1, h2⟩ := r.cons_inv
    by_cases q : m = n
    · subst q
      refine ⟨v :: t, ?_, ?_, ?_⟩
      · rw [List.map_cons, List.zip_cons_cons, putF, if_pos rfl, putN, if_pos rfl]
        rfl
      · rw [putN, if_pos rfl]
        simpa using hl
      · rw [putN, if_pos rfl]
        exact .cons hr h2
    · obtain ⟨vs', e1, e2, e3⟩ := putN_ok inj hr (by simpa using hl) h2
      refine ⟨u :: vs', ?_, ?_, ?_⟩
      · rw [List.map_cons, List.zip_cons_cons, putF, if_neg (fun z => q (inj m z)), putN, if_neg q, e1]
        rfl
      · rw [putN, if_neg q]
        simpa using e2
      · rw [putN, if_neg q]
        exact .cons h1 e3
section
variable {X : Cx} {B : Bd} {W : WX} {rf : Bool} {e : Expr} {f : Ev} {pos pos' np : Pos} {i n : Nat} {x y : Str} {cs : List Nat}
theorem s_fldS (hi : i ∈ B.M) (he : DE X B W e f) (hx : x = B.G.fld n) (inj : ∀ m, B.G.fld m = B.G.fld n → m = n) (hc : ∀ c ∈ cs, Cls X.K (B.G.cls c) ∧ NoAttr X.K (B.G.cls c) x) (hN : X.N[i]? = some y := by rfl) (hv : Vis X.env.scope y := by first | exact Or.inl rfl | exact Or.inr (Or.inl rfl) | exact Or.inr (Or.inr rfl)) (hd : (y == ("__debug__" : Str)) = false := by decide) (hcd : (y == ("__classdict__" : Str)) = false := by decide)
    (hs : swapsWith e (some (.Attribute (.Name y np) x pos')) pos.line X.env = pure false := by rfl) : DS X B W rf (.Assign [.Attribute (.Name y np) x pos'] e pos) (sFldS i n cs f) := by
  refine ps_imp (ps_fld (pe_var hN hv hd hcd) he hs) fun D σ H hh => ?_
  obtain ⟨fr, Hv, R, hh⟩ := hh
  refine ⟨fr, Hv, R, ?_⟩
  unfold sFldS at hh
  cases hg : f fr with
  | bad => rw [hg] at hh; exact hh.elim
  | exc c fs fr1 =>
    rw [hg] at hh
    exact fun dd H' Hv' m => hh dd σ H' Hv' m.rel m.ext
  | ok d fr1 =>
    rw [hg] at hh
    dsimp only [Res.bind] at hh
    intro v H1 Hv1 n1 r
    split at hh
    · next hp =>
      have r := r.rep fun i z => by rw [z] at hp; cases hp
      split at hh
      · next c ns fs ei =>
        split at hh
        · next hcc =>
          split at hh
          · next hlen =>
            obtain ⟨a, hsl, hva, hn, dx, vs, ea, hl, rl⟩ := n1.rel.own i _ ⟨ei, rfl⟩ hi
            obtain ⟨c1, c2⟩ := hc c hcc
            obtain ⟨vs', e1, e2, e3⟩ := putN_ok inj r hl rl
            refine ⟨_, hsl, a, _, dx, _, rfl, ea, c1, c2, ?_, ?_⟩
            · rw [List.length_zip, List.length_map]
              omega
            · have hcell : Cell B.G (upd H1 a (.ins (B.G.cls c) dx (putF x v ((ns.map B.G.fld).zip vs)))) Hv1 a (.obj c (putN n d ns fs).1 (putN n d ns fs).2) := ⟨dx, vs', by rw [upd_same, hx, e1], e2, e3⟩
              have m := n1.rel.mut hi ⟨ei, rfl⟩ hsl hcell
              exact hh σ _ Hv1 m.rel (n1.ext.trans m.ext)
          · exact (hh : False).elim
        · exact (hh : False).elim
      · exact (hh : False).elim
    · exact (hh : False).elim
end
/-! ### own exceptions -/
/-- what the __init__ of an exception's class gives: its fields in its dict -/
def oexSp (C : Addr) (nms : List Str) : Sp := fun vs H Q E => ∃ a ws, vs = .ref a :: ws ∧ ws.length = nms.length ∧ H a = some (exo a C none) ∧
  ∀ d l, H d = none → d ≠ a → (∀ (k : Nat) (n : Str) (v : V), nms[k]? = some n → ws[k]? = some v → l.lookup n = some v) → Q .non (upd (upd H d (exd d l)) a (exo a C (some d)))
def sRaise (c n : Nat) (g : Av) : Sv := fun fr => (g fr).bind fun ds fr1 => if ds.all pers = true ∧ ds.length = n then .exc c ds fr1 else .bad
section
variable {X : Cx} {B : Bd} {W : WX} {rf : Bool} {e : Expr} {es : List Expr} {g : Av} {k : Nat} {f : Addr} {fd : FuncData} {ps : List Str} {x : Str} {p pos cpos : Pos} {c n : Nat}
theorem s_raise (T : OexC X.K (B.G.ecls c)) (iC : PySem.W.findIn X.K (.ref (B.G.ecls c)) "__init__" = some (some (.ref f))) (tI : PySem.W.typeIn X.K (.ref f) = some (.type "function")) (Fk : FnOk X.prog X.w X.K X.mg X.base (L2.CX X.prog X.w) k f fd ps (oexSp (B.G.ecls c) (B.G.efld c))) (hr : Room (k + 1) X.A) (hb : Binds X.K fd ps []) (hm : X.mg x = some (.ref (B.G.ecls c)))
    (hn : (B.G.efld c).length = n) (hn9 : n ≤ 900) (hc : X.calm = true) (tk : Takes X W) (ha : DA X B W (e :: es) g) (hg : Gl X x := by rfl) (hdb : (x == ("__debug__" : Str)) = false := by decide) (he : starEach (e :: es) X.env = (false, eval e X.env) :: starEach es X.env := by rfl) (hpl : (backTo cpos (starEach es X.env)).any (·.1) = false := by rfl) :
    DS X B W rf (.Raise (some (.Call (.Name x p) (e :: es) [] cpos)) none pos) (sRaise c n g) := by
  refine ps_imp (ps_raise hc tk (pmk_oex T iC tI Fk hr hb .nil passL hg hm ha hdb he hpl)) fun D σ H hh => ?_
  obtain ⟨fr, Hv, R, hh⟩ := hh
  refine ⟨fr, Hv, R, ?_⟩
  unfold sRaise at hh
  cases hgf : g fr with
  | bad => rw [hgf] at hh; exact hh.elim
  | exc c fs fr1 =>
    rw [hgf] at hh
    exact fun dd H' Hv' m => hh dd σ H' Hv' m.rel m.ext
  | ok ds fr1 =>
    rw [hgf] at hh
    dsimp only [Res.bind] at hh
    intro vs H1 Hv1 n1 rws
    split at hh
    · next hp =>
      have rl := pers_repL rws hp.1
      have hvl := rl.length
      refine ⟨by omega, fun a hna => ⟨a, vs, by rw [List.append_nil], by omega, upd_same, fun d l hd hda hl => ⟨rfl, d, l, upd_same, ?_, ?_, ?_⟩⟩⟩
      · rw [upd_ne hda, upd_same]
      · rw [upd_ne hda] at hd
        exact hd
      · have hdn : H1 d = none := by rw [upd_ne hda] at hd; exact hd
        have key : upd (del (upd (upd (upd H1 a (exo a (B.G.ecls c) none)) d (exd d l)) a (exo a (B.G.ecls c) (some d))) a) d (.xd l) = upd H1 d (.xd l) := by
          funext b
          by_cases hbd : b = d
          · rw [hbd, upd_same, upd_same]
          · rw [upd_ne hbd, upd_ne hbd]
            by_cases hba : b = a
            · rw [hba, del_same, hna]
            · rw [del_ne hba, upd_ne hba, upd_ne hbd, upd_ne hba]
        rw [key]
        refine hh d σ _ Hv1 (n1.rel.lay hdn) n1.ext ⟨l, upd_same, by omega, fun k nm dk e1 e2 => ?_⟩
        obtain ⟨v, h1, h2⟩ := rl.get e2
        exact ⟨v, hl k nm v e1 h1, h2⟩
    · exact (hh : False).elim
end
end KS
namespace KS
open PySem PySem.Spec PyProof.Rows L2
open PySem.W (EachIs AllAlike Sortable list_sort_data dataLe dataLe_ii alike alikeAll)
/-! ### sorted(d), d a dict whose keys are pairs of ints -/
section
variable {prog : Program} {w : World}
def RawD (d : Addr) (es : Array DictEntry) (ep : Nat) (h : Heap) : Prop := ∃ o, h.get? d = some o ∧ o.ExactDict ∧ o.data = .dict es ep
theorem kdl_raw {d : Addr} {es : Array DictEntry} {ep : Nat} (lo : (d == sysModules) = false) : PySem.W.KdlSrc prog w "dict" d d es.size (fun i v => ∃ en, es[i]? = some en ∧ v = en.key) (RawD d es ep) where
  type := fun _ ⟨o, ho, hx, _⟩ => ⟨o, ho, hx.1⟩
  there := fun _ ⟨o, ho, _⟩ => ⟨Heap.lt_size ho, Heap.lt_size ho⟩
  keep := fun _ _ ⟨o, ho, r⟩ hk => ⟨o, hk d (.inl rfl) o ho, r⟩
  notList := by decide
  notTuple := by decide
  hint := fun _ _ _ _ ⟨o, ho, hx, _⟩ hq => PySem.W.kdl_hint_dict ⟨o, ho, hx.1⟩ hq
  iter := fun A s hh hm => by
    obtain ⟨o, ho, hx, hdt⟩ := hm
    have hlt : d < s.heap.objs.size := Heap.lt_size ho
    refine ⟨_, fun i h => h.IsKeyIter s.heap.objs.size d i es.size ep ∧ RawD d es ep h, (fun _ _ hq => iter_keys lo ho hx hdt hq), ⟨fun b hb => ?_, fun i h h' st k => ?_, fun i s' Q E hi st hq => ?_, fun s' Q E st hq => ?_, fun i s' Q E st hq => ?_⟩, ⟨_, Heap.get?_push_size _ rfl, rfl, rfl⟩, o, Heap.get?_push_of_some _ ho, hx, hdt⟩
    · rw [List.mem_singleton.mp hb]
      exact List.mem_cons_self ..
    · obtain ⟨st, o', ho', r⟩ := st
      exact ⟨st.at fun oi e => k _ (by simp) oi e, o', k d (by simp) _ ho', r⟩
    · obtain ⟨st, o', ho', hx', hd'⟩ := st
      have hen : es[i]? = some es[i] := by simp [hi]
      refine next_key_item st ho' hd' rfl hen fun h' st' sb => ?_
      exact hq _ h' s'.toks ⟨_, hen, rfl⟩ ⟨st', o', (sb.2 d (Nat.ne_of_lt hlt)).trans ho', hx', hd'⟩ fun b o hb e => (sb.2 b (fun z => hb (by simp [z]))).trans e
    · obtain ⟨st, o', ho', hx', hd'⟩ := st
      exact next_key_end hh st ho' hd' rfl (Nat.le_refl _) fun h' eb => hq h' s'.toks fun b o hb e => eb b o (fun z => hb (by simp [z])) e
    · exact wpAny_pyIter_keyiter st.1 hq
end
abbrev PP := Int × Int
def kP (p : PP) : List L2.Key := [.inl p.1, .inl p.2]
def vP (p : PP) : List V := [.int p.1, .int p.2]
def leP (p q : PP) : Bool := decide (p.1 < q.1 ∨ (p.1 = q.1 ∧ p.2 ≤ q.2))
def rSortDP : List V → Hp → VK → Prop := fun vs H Q => ∃ (a : Addr) (kvs : List (List L2.Key × V)) (ks : List PP), vs = [.ref a] ∧ H a = some (.dT kvs) ∧ kvs.map (·.1) = ks.map kP ∧
  ∀ (qs : List Addr) (p : Addr), H p = none → qs.length = ks.length → (∀ (i : Nat) (q : Addr) (z : PP), qs[i]? = some q → (ks.mergeSort leP)[i]? = some z → H q = some (.tup (vP z))) → Q (.ref p) (upd H p (.lst (qs.map V.ref)))
theorem ints2 {u : List Value} {i j : Int} (r : Vals [.int i, .int j] u) : ∃ t1 t2, u = [.int i t1, .int j t2] := by
  cases r with
  | cons h1 r =>
    cases r with
    | cons h2 r =>
      cases r
      obtain ⟨t1, rfl⟩ := h1
      obtain ⟨t2, rfl⟩ := h2
      exact ⟨t1, t2, rfl⟩
theorem eachIs_get {α β : Type} {R : α → β → Prop} : ∀ {l : List α} {m : List β}, l.length = m.length → (∀ (i : Nat) (a : α) (b : β), l[i]? = some a → m[i]? = some b → R a b) → EachIs R l m
  | [], [], _, _ => .nil
  | a :: l, b :: m, hl, h => .cons (h 0 a b rfl rfl) (eachIs_get (by simpa using hl) fun i a b e f => h (i + 1) a b (by simpa using e) (by simpa using f))
  | [], _ :: _, hl, _ => by simp at hl
  | _ :: _, [], hl, _ => by simp at hl
theorem get_eachIs {α β : Type} {R : α → β → Prop} {l : List α} {m : List β} (h : EachIs R l m) : ∀ (i : Nat) (a : α) (b : β), l[i]? = some a → m[i]? = some b → R a b := by
  induction h with
  | nil => intro i a b e; simp at e
  | cons h t ih =>
    intro i a b e f
    cases i with
    | zero => cases e; cases f; exact h
    | succ i => exact ih i a b (by simpa using e) (by simpa using f)
theorem cr_sortedDP {X : Cx} (hc : X.calm = true) (hu : X.A.units + 16 < cLine) : CallR X (.builtin "sorted") rSortDP := by
  intro pins s σ H xs us Q I r h
  obtain ⟨a, kvs, ks, ex, ha, hks, q⟩ := h
  subst ex
  obtain ⟨u, eu, rx⟩ := vals1 r
  subst eu
  cases rx
  obtain ⟨z, hd, xs', rel, o, es, ep, ho, hx, hdat, hes, his, hn⟩ := dt_of I.hok ha
  have l1 : kvs.length = xs'.length := Paired.length rel
  have l2 : es.size = xs'.length := size_of_entries hes
  have l3 : kvs.length = ks.length := by
    have e := congrArg List.length hks
    rwa [List.length_map, List.length_map] at e
  have hh : X.A.handled = none := I.ok.hd hc
  refine Calls.call_function_entry PyProof.Rows.kind_sorted PyProof.Rows.plain_sorted PyProof.Rows.entry_sorted (PyProof.Rows.args_sorted1 _) ?_
  unfold Builtin.«sorted»
  refine wpAny_bind (m := checkCount "sorted" 1 1 _) (wpAny_pure ?_)
  refine wpAny_bind (PySem.W.kdu_collect (A := X.A.in1) (kdl_raw (es := es) (ep := ep) hd) hh ⟨o, ho, hx, hdat⟩ (by omega) fun h' tk acc hk hacc => ?_)
  have hal : acc.toList.length = ks.length := by rw [Array.length_toList, hacc.1]; omega
  -- the i-th value that was drawn is the i-th key's tuple
  have key : ∀ (i : Nat) (v : Value) (p : PP), acc.toList[i]? = some v → ks[i]? = some p → ∃ qa : Addr, v = .ref qa ∧ H qa = some (.tup (vP p)) := by
    intro i v p e1 e2
    obtain ⟨en, e3, rfl⟩ := hacc.2 i v (by rw [← Array.getElem?_toList]; exact e1)
    rw [entry_at hes i] at e3
    cases hxj : xs'[i]? with
    | none => rw [hxj] at e3; exact nomatch (show (none : Option DictEntry) = some en from e3)
    | some x =>
      rw [hxj] at e3
      have een : entryOfKey (tupleKind (mixKind X.prog X.w)) x = en := Option.some.inj e3
      obtain ⟨e0, he0, r1, r2, r3⟩ := DX.pget rel hxj
      have e4 : (kvs.map (·.1))[i]? = some e0.1 := by rw [List.getElem?_map, he0]; rfl
      rw [hks, List.getElem?_map, e2] at e4
      have e5 : kP p = e0.1 := Option.some.inj e4
      refine ⟨x.2.1, by rw [← een]; rfl, ?_⟩
      rw [← e5] at r2
      exact r2
  have I1 : Inv X pins σ H { s with heap := h', toks := tk } := I.kept hk
  refine wpAny_bind (wpAny_newList ?_ (by rw [hal]; omega))
  have hoL : (h'.push (seqObj "list" acc.toList.toArray 0)).get? h'.objs.size = some (seqObj "list" acc.toList.toArray 0) := Heap.get?_push_size _ rfl
  show wpAny _ _ _ _ _ { s with heap := h'.push (seqObj "list" acc.toList.toArray 0), toks := tk }
  let enc : PP → PyData := fun b => .tuple [.int b.1, .int b.2]
  have hR : EachIs (fun (v : Value) (p : PP) => ∃ qa : Addr, v = .ref qa ∧ H qa = some (.tup (vP p))) acc.toList ks := eachIs_get hal key
  have hrd : EachIs (fun (v : Value) (p : PP) => ∃ as, Reads (h'.push (seqObj "list" acc.toList.toArray 0)) v (enc p) as ∧ h'.objs.size ∉ as) acc.toList ks := eachIs_get hal fun i v p e1 e2 => by
    obtain ⟨qa, rfl, hq⟩ := key i v p e1 e2
    obtain ⟨_, its, rv, oq, g1, g2, n, g3⟩ := (show ObjOk X.prog X.w H h' qa (.tup (vP p)) from I1.hok qa _ hq)
    obtain ⟨t1, t2, rfl⟩ := ints2 rv
    exact ⟨[], .tuple (Heap.get?_push_of_some _ g1) g2 g3 (.cons (as := []) (bs := []) (.int _ _) (.cons (as := []) (bs := []) (.int _ _) .nil)), by simp⟩
  have hal2 : AllAlike (ks.map enc) := AllAlike.of fun b b' => by simp [enc, alike, alikeAll]
  have hsr : Sortable (ks.map enc) := Sortable.tuples fun b => ⟨_, _, rfl⟩
  refine wpAny_bind (wpAny_holding (list_sort_data (s := { s with heap := h'.push (seqObj "list" acc.toList.toArray 0), toks := tk }) hoL hR hrd hal2 hsr (by omega) (fun b _ => ?_) fun out g1 g2 => ?_))
  · show X.A.in1.units + 1 + (enc b).depth < cLine
    have e1 : (enc b).depth ≤ 8 := by simp [enc, PyData.depth, PyData.depthAll]
    have e2 : X.A.in1.units = X.A.units + 1 := rfl
    omega
  obtain ⟨e', he'⟩ := PyProof.Rows.sortedHeap_at (vs := acc.toList) (out := out.toArray) hoL
  have hdl : dataLe false enc = leP := by
    have := dataLe_ii (β := PP) (fun b => b.1) (fun b => b.2)
    exact this
  rw [hdl] at g2
  -- the addresses
  obtain ⟨qs, rfl⟩ : ∃ qs : List Addr, out = qs.map Value.ref := by
    clear he' hdl g1
    generalize ks.mergeSort leP = m at g2
    induction g2 with
    | nil => exact ⟨[], rfl⟩
    | cons h t ih =>
      obtain ⟨qa, rfl, _⟩ := h
      obtain ⟨qs, rfl⟩ := ih
      exact ⟨qa :: qs, rfl⟩
  have hlen : (qs.map V.ref).length ≤ sizeLine := by
    rw [List.length_map] at g1 ⊢
    omega
  have rv : Vals (qs.map V.ref) (qs.map Value.ref) := by
    clear he' hdl g1 g2 hlen
    induction qs with
    | nil => exact .nil
    | cons q qs ih => exact .cons rfl ih
  refine wpAny_pure ⟨_, rfl, .ref h'.objs.size, upd H h'.objs.size (.lst (qs.map V.ref)), I1.laid (t' := tk) (fun b u e => ?_) (Nat.le_refl _)
    (show ObjOk X.prog X.w _ _ _ (.lst (qs.map V.ref)) from ⟨hlen, qs.map Value.ref, e', rv, he'⟩), rfl, q qs _ (I1.hok.fresh (Nat.le_refl _)) (by simpa using g1) fun i qa zz e1 e2 => ?_⟩
  · have hb : b < h'.objs.size := Heap.lt_size e
    rw [PyProof.Rows.sortedHeap_old (Nat.ne_of_lt hb) (by rw [size_push']; exact Nat.lt_succ_of_lt hb)]
    exact Heap.get?_push_of_some _ e
  · obtain ⟨q', e3, e4⟩ := get_eachIs g2 i (.ref qa) zz (by rw [List.getElem?_map, e1]; rfl) e2
    cases e3
    exact e4
end KS
namespace KS
open PySem PySem.Spec L2
/-! ### dicts whose keys are tuples -/
def toKey : D → Option L2.Key
  | .int i => some (.inl i)
  | .str s => some (.inr s)
  | _ => none
def toKeys : List D → Option (List L2.Key)
  | [] => some []
  | d :: ds => match toKey d, toKeys ds with
    | some k, some ks => some (k :: ks)
    | _, _ => none
abbrev TD := List (List L2.Key × D)
def dTm (kvs : TD) : D := .dct (.bl true :: kvs.map fun p => .tup (p.1.map kD)) (kvs.map (·.2))
def zipT : List D → List D → Option TD
  | [], [] => some []
  | .tup ds :: ks, v :: vs => match toKeys ds, zipT ks vs with
    | some k, some r => some ((k, v) :: r)
    | _, _ => none
  | _, _ => none
def unT : D → Option TD
  | .dct (.bl true :: ks) vs => zipT ks vs
  | _ => none
theorem toKeys_kD : ∀ k : List L2.Key, toKeys (k.map kD) = some k
  | [] => rfl
  | .inl i :: k => by simp [toKeys, kD, toKey, toKeys_kD k]
  | .inr i :: k => by simp [toKeys, kD, toKey, toKeys_kD k]
theorem kD_toKey {d : D} {k : L2.Key} (h : toKey d = some k) : d = kD k := by
  cases d <;> first | (cases h; rfl) | cases h
theorem kD_toKeys : ∀ {ds : List D} {k : List L2.Key}, toKeys ds = some k → ds = k.map kD
  | [], k, h => by cases h; rfl
  | d :: ds, k, h => by
    unfold toKeys at h
    split at h
    · next a as ha has =>
      cases h
      rw [List.map_cons, ← kD_toKey ha, ← kD_toKeys has]
    · cases h
theorem zipT_map : ∀ kvs : TD, zipT (kvs.map fun p => .tup (p.1.map kD)) (kvs.map (·.2)) = some kvs
  | [] => rfl
  | (k, v) :: r => by simp [zipT, toKeys_kD, zipT_map r]
@[simp] theorem unT_dTm (kvs : TD) : unT (dTm kvs) = some kvs := zipT_map kvs
theorem zipT_inv : ∀ {ks vs : List D} {kvs : TD}, zipT ks vs = some kvs → ks = kvs.map (fun p => .tup (p.1.map kD)) ∧ vs = kvs.map (·.2)
  | [], [], kvs, h => by cases h; exact ⟨rfl, rfl⟩
  | [], _ :: _, kvs, h => by simp [zipT] at h
  | d :: ks, [], kvs, h => by cases d <;> simp [zipT] at h
  | d :: ks, v :: vs, kvs, h => by
    cases d with
    | tup ds =>
      simp only [zipT] at h
      split at h
      · next k r hk hr =>
        cases h
        obtain ⟨a, b⟩ := zipT_inv hr
        exact ⟨by rw [List.map_cons, ← a, kD_toKeys hk], by rw [List.map_cons, ← b]⟩
      · cases h
    | _ => simp [zipT] at h
theorem unT_inv {d : D} {kvs : TD} (h : unT d = some kvs) : d = dTm kvs := by
  unfold unT at h
  split at h
  · obtain ⟨a, b⟩ := zipT_inv h
    rw [a, b]
    rfl
  · cases h
def valV' (kvs : TD) (k : List L2.Key) : Option D := (kvs.find? fun kv => decide (kv.1 = k)).map (·.2)
def putK' (kvs : TD) (k : List L2.Key) (v : D) : TD := if (kvs.any fun kv => decide (kv.1 = k)) = true then kvs.map (fun kv => if kv.1 = k then (kv.1, v) else kv) else kvs ++ [(k, v)]
def dropK' (kvs : TD) (k : List L2.Key) : TD := kvs.filter fun kv => decide (kv.1 ≠ k)
inductive KP (G : SE) (Hv : Hp) : TD → List (List L2.Key × V) → Prop where
  | nil : KP G Hv [] []
  | cons {k : List L2.Key} {d : D} {v : V} {r : TD} {s : List (List L2.Key × V)} (h : Rep G Hv d v) (t : KP G Hv r s) : KP G Hv ((k, d) :: r) ((k, v) :: s)
theorem kD_inj : ∀ {k l : L2.Key}, kD k = kD l → k = l
  | .inl i, .inl j, h => by cases h; rfl
  | .inr i, .inr j, h => by cases h; rfl
  | .inl i, .inr j, h => by cases h
  | .inr i, .inl j, h => by cases h
theorem kDs_inj : ∀ {k l : List L2.Key}, k.map kD = l.map kD → k = l
  | [], [], _ => rfl
  | [], _ :: _, h => by cases h
  | _ :: _, [], h => by cases h
  | a :: k, b :: l, h => by
    rw [List.map_cons, List.map_cons] at h
    injection h with h1 h2
    rw [kD_inj h1, kDs_inj h2]
theorem kp_of {G : SE} {Hv : Hp} : ∀ {kvs : TD} {us : List (List L2.Key × V)}, kvs.map (fun p => D.tup (p.1.map kD)) = us.map (fun p => D.tup (p.1.map kD)) → RepL G Hv (kvs.map (·.2)) (us.map (·.2)) → KP G Hv kvs us
  | [], [], _, _ => .nil
  | [], _ :: _, h, _ => by cases h
  | _ :: _, [], h, _ => by cases h
  | (k, d) :: r, (l, v) :: s, h, q => by
    rw [List.map_cons, List.map_cons] at h
    injection h with h1 h2
    injection h1 with h1
    have e := kDs_inj h1
    dsimp only at e
    subst e
    rw [List.map_cons, List.map_cons] at q
    obtain ⟨v', t, e, q1, q2⟩ := q.cons_inv
    injection e with e1 e2
    subst e1 e2
    exact .cons q1 (kp_of h2 q2)
theorem KP.cell {G : SE} {H Hv : Hp} {a : Addr} {kvs : TD} {us : List (List L2.Key × V)} (h : KP G Hv kvs us) (e : H a = some (.dT us)) : Cell G H Hv a (dTm kvs) := by
  have z : kvs.map (fun p => D.tup (p.1.map kD)) = us.map (fun p => D.tup (p.1.map kD)) ∧ RepL G Hv (kvs.map (·.2)) (us.map (·.2)) := by
    clear e
    induction h with
    | nil => exact ⟨rfl, .nil⟩
    | cons h t ih => exact ⟨by rw [List.map_cons, List.map_cons, ih.1], .cons h ih.2⟩
  exact ⟨_, .inl ⟨us, e, by rw [z.1], rfl⟩, z.2⟩
theorem cell_T {G : SE} {H Hv : Hp} {a : Addr} {kvs : TD} (h : Cell G H Hv a (dTm kvs)) : ∃ us, H a = some (.dT us) ∧ KP G Hv kvs us := by
  obtain ⟨us, ⟨kv, e, h1, h2⟩ | ⟨kv, e, h1, h2⟩, r⟩ := h
  · injection h1 with _ h1
    subst h2
    exact ⟨kv, e, kp_of h1 r⟩
  · injection h1 with h1
    cases h1
theorem KP.length {G : SE} {Hv : Hp} {kvs : TD} {us : List (List L2.Key × V)} (h : KP G Hv kvs us) : us.length = kvs.length := by
  induction h with
  | nil => rfl
  | cons h t ih => rw [List.length_cons, List.length_cons, ih]
theorem KP.val {G : SE} {Hv : Hp} {kvs : TD} {us : List (List L2.Key × V)} (h : KP G Hv kvs us) (k : List L2.Key) : (valV' kvs k).isSome = (valV us k).isSome ∧ ∀ d, valV' kvs k = some d → ∃ v, valV us k = some v ∧ Rep G Hv d v := by
  induction h with
  | nil => exact ⟨rfl, fun d e => by cases e⟩
  | @cons k' d v r s h t ih =>
    by_cases e : k' = k
    · exact ⟨by simp [valV', valV, e], fun d' e' => by
        have : d = d' := by simpa [valV', e] using e'
        subst this
        exact ⟨v, by simp [valV, e], h⟩⟩
    · have e1 : valV' ((k', d) :: r) k = valV' r k := by simp [valV', e]
      have e2 : valV ((k', v) :: s) k = valV s k := by simp [valV, e]
      rw [e1, e2]
      exact ih
theorem KP.any {G : SE} {Hv : Hp} {kvs : TD} {us : List (List L2.Key × V)} (h : KP G Hv kvs us) (k : List L2.Key) : (kvs.any fun kv => decide (kv.1 = k)) = us.any fun kv => decide (kv.1 = k) := by
  induction h with
  | nil => rfl
  | cons h t ih => rw [List.any_cons, List.any_cons, ih]
theorem KP.put {G : SE} {Hv : Hp} {kvs : TD} {us : List (List L2.Key × V)} (h : KP G Hv kvs us) {k : List L2.Key} {d : D} {v : V} (r : Rep G Hv d v) : KP G Hv (putK' kvs k d) (putK us k v) := by
  unfold putK' putK
  rw [h.any k]
  split
  · rename_i hh0
    clear hh0
    induction h with
    | nil => exact .nil
    | @cons k' d' v' r' s' h t ih =>
      rw [List.map_cons, List.map_cons]
      by_cases e : k' = k
      · simp only [e, if_true]
        exact .cons r ih
      · simp only [e, if_false]
        exact .cons h ih
  · rename_i hh0
    clear hh0
    induction h with
    | nil => exact .cons r .nil
    | cons h t ih => exact .cons h ih
theorem KP.drop {G : SE} {Hv : Hp} {kvs : TD} {us : List (List L2.Key × V)} (h : KP G Hv kvs us) (k : List L2.Key) : KP G Hv (dropK' kvs k) (dropK us k) := by
  unfold dropK' dropK
  induction h with
  | nil => exact .nil
  | @cons k' d' v' r' s' h t ih =>
    by_cases e : k' = k
    · rw [List.filter_cons_of_neg (by simp [e]), List.filter_cons_of_neg (by simp [e])]
      exact ih
    · rw [List.filter_cons_of_pos (by simp [e]), List.filter_cons_of_pos (by simp [e])]
      exact .cons h ih
theorem key_rep {B : Bd} {fr : Fr} {σ : L2.St} {H Hv : Hp} {d : D} {v : V} {k : L2.Key} (h : RepW B σ Hv d v) (e : toKey d = some k) : v = kV k := by
  cases d <;> first | cases e | skip
  · exact (Rep.int_iff (G := B.G) (H := Hv)).mp h
  · exact (Rep.str_iff (G := B.G) (H := Hv)).mp h
theorem keys_rep {B : Bd} {fr : Fr} {σ : L2.St} {H Hv : Hp} : ∀ {ds : List D} {vs : List V} {k : List L2.Key}, RepWs B σ Hv ds vs → toKeys ds = some k → vs = k.map kV
  | [], vs, k, h, e => by cases e; exact h
  | d :: ds, vs, k, ⟨v, t, e1, h1, h2⟩, e => by
    unfold toKeys at e
    split at e
    · next a as ha has =>
      cases e
      rw [e1, List.map_cons, key_rep (fr := fr) (H := H) h1 ha, keys_rep (fr := fr) (H := H) h2 has]
    · cases e
def sDput (i : Nat) (gk : Av) (fv : Ev) : Sv := fun fr => (fv fr).bind fun v fr1 => if pers v = true then (match fr1[i]? with
  | some (some c0) => if isDctD c0 = true then ((gk fr1).bind fun ks fr2 => match fr2[i]? with
    | some (some c) => match toKeys ks, unT c with
      | some k, some kvs => if kvs.length < sizeLine ∧ ks.length ≤ sizeLine then .ok .nx (fr2.set i (some (dTm (putK' kvs k v)))) else .bad
      | _, _ => .bad
    | _ => .bad) else .bad
  | _ => .bad) else .bad
def eDin (i : Nat) (gk : Av) : Ev := fun fr => (gk fr).bind fun ks fr2 => match fr2[i]? with
    | some (some c) => match toKeys ks, unT c with
      | some k, some kvs => if ks.length ≤ sizeLine then .ok (.bl (valV' kvs k).isSome) fr2 else .bad
      | _, _ => .bad
    | _ => .bad
section
variable {X : Cx} {B : Bd} {W : WX} {rf : Bool} {es : List Expr} {value : Expr} {gk : Av} {fv : Ev} {i : Nat} {x : Str} {np pos pos' tpos : Pos} {x1 : Nat}
theorem lay_key {fr : Fr} {σ : L2.St} {H Hv : Hp} (R : Rel B fr σ H Hv) {T : Addr} {vs : List V} (hT : H T = none) : Nxt B fr σ H Hv fr (upd H T (.tup vs)) Hv :=
  ⟨R.lay hT, .refl _, fun b u h _ _ => by rw [upd_ne (ne_of_none h hT)]; exact h, .refl _ _, fun b u h => ⟨u, by rw [upd_ne (ne_of_none h hT)]; exact h⟩, fun b u h => .inl h⟩
theorem s_dput (hu : X.A.units + 1 < cLine) (hi : i ∈ B.M) (hk : DA X B W es gk) (hv : DE X B W value fv) (hN : X.N[i]? = some x := by rfl) (hvs : Vis X.env.scope x := by first | exact Or.inl rfl | exact Or.inr (Or.inl rfl) | exact Or.inr (Or.inr rfl)) (hd : (x == ("__debug__" : Str)) = false := by decide) (hcd : (x == ("__classdict__" : Str)) = false := by decide)
    (hs : swapsWith value (some (.Subscript (.Name x np) (.Tuple es x1 tpos) pos')) pos.line X.env = pure false := by rfl) : DS X B W rf (.Assign [.Subscript (.Name x np) (.Tuple es x1 tpos) pos'] value pos) (sDput i gk fv) := by
  refine ps_imp (ps_dput hu (pe_var hN hvs hd hcd) (pe_tup hk) hv hs) fun D σ H hh => ?_
  obtain ⟨fr, Hv, R, hh⟩ := hh
  refine ⟨fr, Hv, R, ?_⟩
  unfold sDput at hh
  cases hf : fv fr with
  | bad => rw [hf] at hh; exact hh.elim
  | exc c fs fr1 =>
    rw [hf] at hh
    exact fun dd H' Hv' m => hh dd σ H' Hv' m.rel m.ext
  | ok v fr1 =>
    rw [hf] at hh
    dsimp only [Res.bind] at hh
    intro vv H1 Hv1 n1 rv
    split at hh
    · next hp =>
      have rv := rv.rep fun i z => by rw [z] at hp; cases hp
      split at hh
      · next c0 e0 =>
        split at hh
        · next hc0 =>
          obtain ⟨a, hsl, hva, _, _⟩ := n1.rel.own i c0 ⟨e0, kd_dct hc0⟩ hi
          refine ⟨_, hsl, fr1, Hv1, n1.rel, ?_⟩
          cases hg : gk fr1 with
          | bad => rw [hg] at hh; exact hh.elim
          | exc c fs fr2 =>
            rw [hg] at hh
            exact fun dd H' Hv' m => hh dd σ H' Hv' m.rel (n1.ext.trans m.ext)
          | ok ks fr2 =>
            rw [hg] at hh
            dsimp only at hh
            intro vs H2 Hv2 n2 rws
            split at hh
            · next c ec =>
              split at hh
              · next k kvs hk' hun =>
                split at hh
                · next hz =>
                  refine ⟨by rw [repWs_length rws]; exact hz.2, fun T hT => ?_⟩
                  have hcell : isCell c = true := by rw [unT_inv hun]; rfl
                  obtain ⟨a', hsl', hva2, _, hce⟩ := n2.rel.own i c ⟨ec, hcell⟩ hi
                  rw [hsl] at hsl'
                  cases hsl'
                  rw [unT_inv hun] at hce
                  obtain ⟨us, eu, kp⟩ := cell_T hce
                  have n3 := lay_key (vs := vs) n2.rel hT
                  have eu3 : upd H2 T (.tup vs) a = some (.dT us) := by rw [upd_ne (ne_of_none eu hT)]; exact eu
                  have rvk := keys_rep (fr := fr2) (H := H2) rws hk'
                  refine ⟨a, _, rfl, .t eu3 (by rw [rvk]; exact upd_same) (by rw [kp.length]; exact hz.1), ?_⟩
                  have m := n3.rel.mut hi ⟨ec, hcell⟩ hsl ((kp.put (k := k) (Rep.mono n2.ext _ _ rv)).cell upd_same)
                  exact hh σ _ Hv2 m.rel (n1.ext.trans (n2.ext.trans (n3.ext.trans m.ext)))
                · exact (hh : False).elim
              · exact (hh : False).elim
            · exact (hh : False).elim
        · exact (hh : False).elim
      · exact (hh : False).elim
    · exact (hh : False).elim
theorem d_din (hu : X.A.units + 1 < cLine) (hi : i ∈ B.M) (hk : DA X B W es gk) (hm : behindInMarks .In (.Name x np) = false := by rfl) (hN : X.N[i]? = some x := by rfl) (hvs : Vis X.env.scope x := by first | exact Or.inl rfl | exact Or.inr (Or.inl rfl) | exact Or.inr (Or.inr rfl)) (hd : (x == ("__debug__" : Str)) = false := by decide) (hcd : (x == ("__classdict__" : Str)) = false := by decide) :
    PC X .In (.Tuple es x1 tpos) (.Name x np) (dTE B W (eDin i gk)) := by
  have h0 := pc_din hu (pe_tup (x1 := x1) (pos := tpos) hk) (pe_var (pos := np) hN hvs hd hcd)
  refine ⟨fun pins s σ H Q I h => h0.run pins s σ H Q I ?_⟩
  obtain ⟨fr, Hv, R, h⟩ := h
  refine ⟨fr, Hv, R, ?_⟩
  unfold eDin at h
  cases hg : gk fr with
  | bad => rw [hg] at h; exact h.elim
  | exc c fs fr2 => rw [hg] at h; exact h
  | ok ks fr2 =>
    rw [hg] at h
    dsimp only [Res.bind] at h
    intro vs H2 Hv2 n2 rws
    split at h
    · next c ec =>
      split at h
      · next k kvs hk' hun =>
        split at h
        · next hz =>
          refine ⟨by rw [repWs_length rws]; exact hz, fun T hT => ?_⟩
          have hcell : isCell c = true := by rw [unT_inv hun]; rfl
          obtain ⟨a, hsl, hva2, _, hce⟩ := n2.rel.own i c ⟨ec, hcell⟩ hi
          rw [unT_inv hun] at hce
          obtain ⟨us, eu, kp⟩ := cell_T hce
          have n3 := lay_key (vs := vs) n2.rel hT
          have eu3 : upd H2 T (.tup vs) a = some (.dT us) := by rw [upd_ne (ne_of_none eu hT)]; exact eu
          have rvk := keys_rep (fr := fr2) (H := H2) rws hk'
          refine ⟨_, hsl, a, _, rfl, .t eu3 (by rw [rvk]; exact upd_same), ?_⟩
          rw [← (kp.val k).1]
          exact h (.bl _) _ Hv2 (n2.trans n3) (.of repB)
        · exact (h : False).elim
      · exact (h : False).elim
    · exact (h : False).elim
theorem d_dinE (hu : X.A.units + 1 < cLine) (hi : i ∈ B.M) (hk : DA X B W es gk) (hm : behindInMarks .In (.Name x np) = false := by rfl) (hN : X.N[i]? = some x := by rfl) (hvs : Vis X.env.scope x := by first | exact Or.inl rfl | exact Or.inr (Or.inl rfl) | exact Or.inr (Or.inr rfl)) (hd : (x == ("__debug__" : Str)) = false := by decide) (hcd : (x == ("__classdict__" : Str)) = false := by decide) :
    DE X B W (.Compare (.Tuple es x1 tpos) [.In] [.Name x np] pos) (eDin i gk) := pe_cmp (d_din hu hi hk hm hN hvs hd hcd) hm
theorem dt_dinE (hu : X.A.units + 1 < cLine) (hi : i ∈ B.M) (hk : DA X B W es gk) (hm : behindInMarks .In (.Name x np) = false := by rfl) (hN : X.N[i]? = some x := by rfl) (hvs : Vis X.env.scope x := by first | exact Or.inl rfl | exact Or.inr (Or.inl rfl) | exact Or.inr (Or.inr rfl)) (hd : (x == ("__debug__" : Str)) = false := by decide) (hcd : (x == ("__classdict__" : Str)) = false := by decide) :
    DT X B W (.Compare (.Tuple es x1 tpos) [.In] [.Name x np] pos) (bE (eDin i gk)) :=
  pt_imp (pt_cmp (d_din hu hi hk hm hN hvs hd hcd) hm) fun σ H Q ⟨fr, Hv, R, h⟩ => ⟨fr, Hv, R, postB_E h⟩
theorem d_dnew : DF X B W (.Dict [] [] pos) (eC (dTm [])) := by
  refine pe_imp pe_dnewT fun σ H Q h => ?_
  obtain ⟨fr, Hv, R, h⟩ := h
  intro p hp
  exact h p _ Hv ⟨R.lay hp, .refl _, fun b u h _ _ => by rw [upd_ne (ne_of_none h hp)]; exact h, .refl _ _, fun b u h => ⟨u, by rw [upd_ne (ne_of_none h hp)]; exact h⟩, fun b u h => .inl h⟩ hp (R.hv_none hp) (KP.nil.cell upd_same)
/-! d.pop(k) -/
def rPopT1 : V → List V → Hp → VK → Prop := fun x xs H Q => ∃ (a : Addr) (kvs : List (List L2.Key × V)) (k : List L2.Key) (b : Addr) (v : V), x = .ref a ∧ xs = [.ref b] ∧ H a = some (.dT kvs) ∧ H b = some (.tup (k.map kV)) ∧
  valV kvs k = some v ∧ Q v (upd H a (.dT (dropK kvs k)))
theorem mt_popT1 (hu : X.A.units + 1 < cLine) : MtR X "dict.pop" rPopT1 := by
  intro pins s σ H x xs v us Q I rx rxs h
  obtain ⟨a, kvs, k, b, v0, rfl, rfl, ha, hb, hv0, q1⟩ := h
  cases rx
  obtain ⟨u1, rfl, r1⟩ := vals1 rxs
  cases r1
  obtain ⟨z, hd, xs', rel, dd⟩ := dt_of I.hok ha
  have hz : xs'.length ≤ sizeLine := by rw [← Paired.length rel]; exact z
  have r := rel.val k
  rw [hv0] at r
  cases hp : atKey xs' k with
  | none => rw [hp] at r; exact (show False from r).elim
  | some p =>
    rw [hp] at r
    refine call_pop_heap (knd := tupleKind (mixKind X.prog X.w)) (.inl rfl) (PySem.F.args_dict_pop_2 _ _) (PySem.tupleKind_room_in1 hu) (key_of I.hok hb) hd dd hp (fun h' dd' hs => ?_) hz
    obtain ⟨o, es, ep, hq, h2, h3, h4, _, h5⟩ := dd'
    have I2 : Inv X pins σ (upd H a (.dT (dropK kvs k))) { s with heap := h', toks := s.toks + (tupleKind (mixKind X.prog X.w)).draws k } :=
      d_write I (by rw [ha]; exact True.intro) hs ⟨o, hq⟩ ⟨Nat.le_trans (dropK_le kvs k) z, hd, _, (DX.KT_drop k rel).keeps (fun c ys ec => (by rw [upd_ne (ne_of ec ha (fun z => nomatch z))]; exact ec)), o, es, ep, hq, h2, h3, h4, h5⟩
    exact ⟨v0, _, I2, r, q1⟩
end
end KS
namespace KS
open PySem PySem.Spec L2
def eDpop (i : Nat) (gk : Av) : Ev := fun fr => match fr[i]? with
  | some (some c0) => if isDctD c0 = true then ((gk fr).bind fun ks fr2 => match fr2[i]? with
    | some (some c) => match toKeys ks, unT c with
      | some k, some kvs => if ks.length ≤ sizeLine then (match valV' kvs k with
        | some d => .ok d (fr2.set i (some (dTm (dropK' kvs k))))
        | none => .bad) else .bad
      | _, _ => .bad
    | _ => .bad) else .bad
  | _ => .bad
def toPP : List L2.Key → Option PP
  | [.inl i, .inl j] => some (i, j)
  | _ => none
def toPPs : List (List L2.Key) → Option (List PP)
  | [] => some []
  | k :: ks => match toPP k, toPPs ks with
    | some p, some r => some (p :: r)
    | _, _ => none
def dPP (p : PP) : D := .tup [.int p.1, .int p.2]
def eSortD (i : Nat) : Ev := fun fr => match fr[i]? with
  | some (some c) => match unT c with
    | some kvs => match toPPs (kvs.map (·.1)) with
      | some ps => .ok (.lst ((ps.mergeSort leP).map dPP)) fr
      | none => .bad
    | none => .bad
  | _ => .bad
theorem toPPs_map : ∀ {ks : List (List L2.Key)} {ps : List PP}, toPPs ks = some ps → ks = ps.map kP
  | [], ps, h => by cases h; rfl
  | k :: ks, ps, h => by
    unfold toPPs at h
    split at h
    · next p r hp hr =>
      cases h
      rw [List.map_cons, ← toPPs_map hr]
      have : k = kP p := by
        unfold toPP at hp
        split at hp
        · cases hp; rfl
        · cases hp
      rw [this]
    · cases h
theorem toPPs_kP : ∀ ps : List PP, toPPs (ps.map kP) = some ps
  | [] => rfl
  | (i, j) :: ps => by simp [toPPs, toPP, kP, toPPs_kP ps]
theorem KP.keys {G : SE} {Hv : Hp} {kvs : TD} {us : List (List L2.Key × V)} (h : KP G Hv kvs us) : us.map (·.1) = kvs.map (·.1) := by
  induction h with
  | nil => rfl
  | cons h t ih => rw [List.map_cons, List.map_cons, ih]
section
variable {X : Cx} {B : Bd} {W : WX} {rf : Bool} {es : List Expr} {gk : Av} {i : Nat} {x : Str} {np pos apos cpos tpos : Pos} {x1 : Nat}
theorem d_dpop (hu : X.A.units + 1 < cLine) (hi : i ∈ B.M) (hk : DA X B W es gk) (hN : X.N[i]? = some x := by rfl) (hvs : Vis X.env.scope x := by first | exact Or.inl rfl | exact Or.inr (Or.inl rfl) | exact Or.inr (Or.inr rfl)) (hd : (x == ("__debug__" : Str)) = false := by decide) (hcd : (x == ("__classdict__" : Str)) = false := by decide)
    (he2 : starEach [.Tuple es x1 tpos] X.env = (false, eval (.Tuple es x1 tpos) X.env) :: starEach [] X.env := by rfl) (hbase : attributeBase (.Name x np) "pop" X.env (eval (.Name x np) X.env) = eval (.Name x np) X.env := by rfl)
    (hfew : ((backTo cpos (starEach [.Tuple es x1 tpos] X.env)).all (fun x => !x.1) && (backToKw cpos (keywordEach [] X.env)).all (fun x => x.1.isSome)
      && decide (([.Tuple es x1 tpos] : List Expr).length + ([] : List Keyword).length + (if ([] : List Keyword).isEmpty then 0 else 1) < 30)) = true := by rfl)
    (hline : (apos.endLine == cpos.line) = true := by rfl) (hplain : (backTo cpos (starEach [] X.env)).any (·.1) = false := by rfl) :
    DE X B W (.Call (.Attribute (.Name x np) "pop" apos) [.Tuple es x1 tpos] [] cpos) (eDpop i gk) := by
  refine pe_imp (pe_bm F.plainAttrs_dict F.slot_dict_pop F.type_dict_pop (mt_popT1 hu) (pe_var hN hvs hd hcd) (pa_cons (pe_tup hk) pa_nil he2) hbase hfew hline he2 hplain) fun σ H Q h => ?_
  obtain ⟨fr, Hv, R, h⟩ := h
  unfold eDpop at h
  split at h
  · next c0 e0 =>
    split at h
    · next hc0 =>
      obtain ⟨a, hsl, hva, _, hce0⟩ := R.own i c0 ⟨e0, kd_dct hc0⟩ hi
      refine ⟨_, hsl, tyV_dct hce0 hc0, fr, Hv, R, ?_⟩
      cases hg : gk fr with
      | bad => rw [hg] at h; exact h.elim
      | exc c fs fr2 => rw [hg] at h; exact h
      | ok ks fr2 =>
        rw [hg] at h
        dsimp only [Res.bind] at h
        intro vs H2 Hv2 n2 rws
        split at h
        · next c ec =>
          split at h
          · next k kvs hk' hun =>
            split at h
            · next hz =>
              refine ⟨by rw [repWs_length rws]; exact hz, fun T hT => ?_⟩
              split at h
              · next d hd' =>
                have hcell : isCell c = true := by rw [unT_inv hun]; rfl
                obtain ⟨a', hsl', hva2, _, hce⟩ := n2.rel.own i c ⟨ec, hcell⟩ hi
                rw [hsl] at hsl'
                cases hsl'
                rw [unT_inv hun] at hce
                obtain ⟨us, eu, kp⟩ := cell_T hce
                have n3 := lay_key (vs := vs) n2.rel hT
                have eu3 : upd H2 T (.tup vs) a = some (.dT us) := by rw [upd_ne (ne_of_none eu hT)]; exact eu
                have rvk := keys_rep (fr := fr2) (H := H2) rws hk'
                obtain ⟨v, h1, h2⟩ := (kp.val k).2 d hd'
                have m := n3.rel.mut hi ⟨ec, hcell⟩ hsl ((kp.drop k).cell upd_same)
                exact ⟨a, us, k, T, v, rfl, rfl, eu3, by rw [rvk]; exact upd_same, h1, h v _ Hv2 ((n2.trans n3).trans m) (.of h2)⟩
              · exact (h : False).elim
            · exact (h : False).elim
          · exact (h : False).elim
        · exact (h : False).elim
    · exact (h : False).elim
  · exact (h : False).elim
/-- tuples that stand become values, one by one -/
theorem freeze_tups {fr : Fr} {σ : L2.St} {H : Hp} : ∀ (qs : List Addr) (ps : List PP) {Hv : Hp}, Rel B fr σ H Hv → qs.length = ps.length → (∀ (i : Nat) (q : Addr) (z : PP), qs[i]? = some q → ps[i]? = some z → H q = some (.tup (vP z))) →
    ∃ Hv', Nxt B fr σ H Hv fr H Hv' ∧ RepL B.G Hv' (ps.map dPP) (qs.map V.ref) ∧ (∀ b, Hv' b ≠ none → Hv b ≠ none ∨ ∃ vs, H b = some (.tup vs))
  | [], [], Hv, R, _, _ => ⟨Hv, .refl R, .nil, fun b h => .inl h⟩
  | [], _ :: _, _, _, hl, _ => by simp at hl
  | _ :: _, [], _, _, hl, _ => by simp at hl
  | q :: qs, p :: ps, Hv, R, hl, h => by
    have hq := h 0 q p rfl rfl
    have no : ¬ Own B fr σ q := fun ⟨i, d, hi, hf, hs⟩ => by
      obtain ⟨a, hs', _, _, hc⟩ := R.own i d hf hi
      rw [hs] at hs'
      cases hs'
      exact hc.not_tup hq
    have s := sub_freeze R hq
    have R1 := R.freeze hq (.inr ⟨_, rfl⟩) (fun ps z => by cases z) no
    have n1 : Nxt B fr σ H Hv fr H (upd Hv q (.tup (vP p))) := ⟨R1, s, fun b u h _ _ => h, .refl _ _, fun b u h => ⟨u, h⟩, fun b u h => by
      by_cases e : b = q
      · rw [e, upd_same] at h
        exact .inr (.inl (.inr ⟨_, (Option.some.inj h).symm⟩))
      · rw [upd_ne e] at h
        exact .inl h⟩
    obtain ⟨Hv', n2, r, old⟩ := freeze_tups qs ps R1 (by simpa using hl) fun i q z e1 e2 => h (i + 1) q z (by simpa using e1) (by simpa using e2)
    refine ⟨Hv', n1.trans n2, .cons (Rep.tup (.inl (.inl (n2.ext _ _ upd_same))) (.cons (Rep.int_iff.mpr rfl) (.cons (Rep.int_iff.mpr rfl) .nil))) r, fun b hb => ?_⟩
    rcases old b hb with z | z
    · by_cases e : b = q
      · exact .inr ⟨_, by rw [e]; exact hq⟩
      · rw [upd_ne e] at z
        exact .inl z
    · exact .inr z
theorem d_sortD (hu : X.A.units + 16 < cLine) (hc : X.calm = true) (hi : i ∈ B.M) (hm : X.mg "sorted" = none) {np2 : Pos} (hN : X.N[i]? = some x := by rfl) (hvs : Vis X.env.scope x := by first | exact Or.inl rfl | exact Or.inr (Or.inl rfl) | exact Or.inr (Or.inr rfl)) (hd : (x == ("__debug__" : Str)) = false := by decide) (hcd : (x == ("__classdict__" : Str)) = false := by decide)
    (hg : Gl X "sorted" := by rfl) (hv : bootBuiltins "sorted" = some (.builtin "sorted") := by decide +kernel) (hn : (("sorted" : String) : Str) ≠ "__name__" := by decide) (hdb : ((("sorted" : String) : Str) == ("__debug__" : Str)) = false := by decide)
    (he : starEach [.Name x np] X.env = (false, eval (.Name x np) X.env) :: starEach [] X.env := by rfl) (hpl : (backTo pos (starEach [] X.env)).any (·.1) = false := by rfl) :
    DF X B W (.Call (.Name "sorted" np2) [.Name x np] [] pos) (eSortD i) := by
  refine pe_imp (pe_callB (cr_sortedDP hc hu) hg hm hv (pa_cons (pe_var hN hvs hd hcd) pa_nil he) hn hdb he hpl) fun σ H Q h => ?_
  obtain ⟨fr, Hv, R, h⟩ := h
  unfold eSortD at h
  split at h
  · next c ec =>
    split at h
    · next kvs hun =>
      split at h
      · next ps hps =>
        have hcell : isCell c = true := by rw [unT_inv hun]; rfl
        obtain ⟨a, hsl, hva, _, hce⟩ := R.own i c ⟨ec, hcell⟩ hi
        rw [unT_inv hun] at hce
        obtain ⟨us, eu, kp⟩ := cell_T hce
        have hkeys := kp.keys
        refine ⟨_, hsl, a, us, ps, rfl, eu, by rw [hkeys, toPPs_map hps], fun qs p hp hl hq => ?_⟩
        have hlm : qs.length = (ps.mergeSort leP).length := by rw [List.length_mergeSort]; exact hl
        obtain ⟨Hv', n, r, old⟩ := freeze_tups qs (ps.mergeSort leP) R hlm hq
        have hvp : Hv' p = none := n.rel.hv_none hp
        have R2 := n.rel.lay (o := .lst (qs.map V.ref)) hp
        exact h p _ Hv' (n.trans ⟨R2, .refl _, fun b u h _ _ => by rw [upd_ne (ne_of_none h hp)]; exact h, .refl _ _, fun b u h => ⟨u, by rw [upd_ne (ne_of_none h hp)]; exact h⟩, fun b u h => .inl h⟩) hp hvp ⟨_, upd_same, r⟩
      · exact (h : False).elim
    · exact (h : False).elim
  · exact (h : False).elim
end
end KS
namespace KS
open PySem PySem.Spec L2
/-! ### own == -/
section
variable {X : Cx} {n : Nat} {C f : Addr} {fd : FuncData} {ps : List Str} {sp : Sp}
theorem op_eqO (F : FnOk X.prog X.w X.K X.mg X.base (L2.CX X.prog X.w) n f fd ps sp) (hr : Room n X.A)
    (hs : PySem.W.findIn X.K (.ref C) "__eq__" = some (some (.ref f))) (hf : PySem.W.isFn X.K (.ref f) = true) (hb : Binds X.K fd ps []) :
    OpR X (compareOp .Eq) (fun x y H Q => ∃ a b dx dy fs gs, x = .ref a ∧ y = .ref b ∧ H a = some (.ins C dx fs) ∧ H b = some (.ins C dy gs) ∧ sp [.ref a, .ref b] H Q (fun _ _ _ => False)) := by
  intro pins s σ H x y u v Q I rx ry hq
  obtain ⟨a, b, dx, dy, fs, gs, rfl, rfl, ha, hb', hsp⟩ := hq
  cases rx
  cases ry
  show wpAny (model X.prog X.w) X.A (richCompare .Eq _ _) (EP X pins σ Q) X.xe s
  obtain ⟨mA, J, _⟩ := ins_get I.hok ha
  obtain ⟨mB, J', _⟩ := ins_get I.hok hb'
  obtain ⟨od, J, _⟩ := J.look
  obtain ⟨od', J', _⟩ := J'.look
  obtain ⟨m, hF⟩ := I.fr
  refine PySem.W.cmp_K (op := .Eq) (tb := .ref C) hr.units0 hF I.ok.mod.kin J J'.type (by simp [PySem.W.notFirst]) hs hf ?_
  have e0 : Env0 X.prog X.w X.K X.mg X.base X.A X.stack s H := I.env0
  have hl := F.len _ _ _ _ hsp
  have r2 : Vals [V.ref a, V.ref b] [Value.ref a, Value.ref b] := .cons rfl (.cons rfl .nil)
  refine wpAny_call (codeAny_mono (F.run X.A X.stack s H ⟨[.ref a, .ref b], []⟩ [.ref a, .ref b] [.ref a, .ref b] _ _ hr e0 (by
    have := hb s [.ref a, .ref b] I.kIn (by simpa using hl)
    simpa using this) r2 hsp) fun r s' hq => ?_)
  cases r with
  | error e =>
    obtain ⟨_, _, _, _, _, _, _, _, _, _, _, _, z⟩ := hq
    exact z.elim
  | ok fl =>
    cases fl with
    | ret w =>
      obtain ⟨z, H', I', rz, q⟩ := I.after hq
      have nz : w ≠ .notImplemented := fun e => by
        subst e
        cases z <;> first | (cases rz; done) | (obtain ⟨_, h⟩ := rz; cases h; done)
      have fin : EP X pins σ Q w s' := ⟨z, H', I', rz, q⟩
      cases w <;> first | exact absurd rfl nz | exact fin
    | next => exact False.elim hq
    | brk => exact False.elim hq
    | cont => exact False.elim hq
end
def eEqO (c : Nat) (F : Fn) (f g : Ev) : Ev := fun fr => (f fr).bind fun x fr1 => (g fr1).bind fun y fr2 => if pers x = true ∧ pers y = true then (match x, y with
  | .obj c1 ns fs, .obj c2 ms gs => if c1 = c ∧ c2 = c then (match F [.obj c1 ns fs, .obj c2 ms gs] with
    | .ok d _ => if pers d = true then .ok d fr2 else .bad
    | _ => .bad) else .bad
  | _, _ => .bad) else .bad
section
variable {B : Bd} {fr : Fr} {σ : L2.St} {H Hv H' Hv' : Hp} {ds outs : List D} {vs : List V}
theorem nxt_val (R : Rel B fr σ H Hv) {n : Nat} (f : FinC B.G (List.replicate n false) outs vs H Hv H' Hv') : Nxt B fr σ H Hv fr H' Hv' := by
  have io : ∀ {b}, ¬ ioA (List.replicate n false) vs b := fun {b} ⟨i, h1, h2⟩ => by
    rw [List.getElem?_replicate] at h1
    split at h1 <;> cases h1
  have kp : ∀ b o, H b = some o → b ∉ B.G.tabs → H' b = some o := fun b o h ht => f.keep b o h io ht
  refine ⟨⟨f.sub, R.ext0.trans f.ext, fun b o h => ?_, fun b o h hi ht => kp b o (R.keep b o h hi ht) ht, R.len, fun i d e hm => ?_, fun i d e hc hm => ?_, fun i d e hm => ?_, R.sep, R.io, f.tab⟩, f.ext, fun b o h _ nt => kp b o h nt, .refl _ _, fun b o h => ?_, fun b o h => ?_⟩
  · rcases f.new b o h with z | z
    · exact R.new b o z
    · exact .inr (z.imp (fun z => R.h0_none z) id)
  · obtain ⟨v, hs, hr⟩ := R.val i d e hm
    exact ⟨v, hs, Rep.mono f.ext _ _ hr⟩
  · obtain ⟨e2, v, z, hs, hr⟩ := R.box i d e hc hm
    exact ⟨e2, v, z, hs, Rep.mono f.ext _ _ hr⟩
  · obtain ⟨a, hs, hva, hn, hc⟩ := R.own i d e hm
    obtain ⟨⟨u, hu⟩, _, nt⟩ := R.own_some ⟨i, d, hm, e, hs⟩
    refine ⟨a, hs, ?_, hn, hc.mono f.ext ((kp a u hu nt).trans hu.symm)⟩
    cases q : Hv' a with
    | none => rfl
    | some o =>
      rcases f.new a o q with z | z | ⟨ws, z⟩
      · rw [hva] at z; cases z
      · rw [hu] at z; cases z
      · have h1 := f.sub a o q
        rw [kp a u hu nt, z] at h1
        cases h1
        exact (hc.not_tup hu).elim
  · by_cases ht : b ∈ B.G.tabs
    · obtain ⟨⟨ps, e, _⟩, _⟩ := f.tab b ht
      exact ⟨_, e⟩
    · exact ⟨o, kp b o h ht⟩
  · rcases f.new b o h with z | z
    · exact .inl z
    · exact .inr (.inl z)
theorem start_val (R : Rel B fr σ H Hv) (r : RepL B.G Hv ds vs) : Start B.G (List.replicate ds.length false) ds vs H Hv where
  sub := R.sub
  tab := R.tab
  lend := by simp
  lenv := by simp [r.length]
  val := fun i d hm hd => r.get hd
  own := fun i d hm hd => by
    rw [List.getElem?_replicate] at hm
    split at hm <;> cases hm
  sep := fun i j a hij hi hj => by
    rw [List.getElem?_replicate] at hi
    split at hi <;> cases hi
variable {X : Cx} {W : WX} {a b : Expr} {f g : Ev} {pos : Pos} {n c : Nat} {fa : Addr} {fd : FuncData} {ps : List Str} {F : Fn}
abbrev rEqO (K : PySem.W.Frag) (C : Addr) (sp : Sp) : R2 := fun x y H Q => ∃ a b dx dy fs gs, x = .ref a ∧ y = .ref b ∧ H a = some (.ins C dx fs) ∧ H b = some (.ins C dy gs) ∧ sp [.ref a, .ref b] H Q (fun _ _ _ => False)
theorem entEqO {σ : L2.St} {H : Hp} {Q : VK} {K : PySem.W.Frag} (h : dTE B W (eEqO c F f g) σ H Q) : tOp (rEqO K (B.G.cls c) (spOf B.G [false, false] false F)) (dTE B W f) (dTE B W g) σ H Q := by
  obtain ⟨fr, Hv, R, h⟩ := h
  refine ⟨fr, Hv, R, ?_⟩
  unfold eEqO at h
  cases hff : f fr with
  | bad => rw [hff] at h; exact h.elim
  | exc k fs fr1 => rw [hff] at h; exact h
  | ok x fr1 =>
    rw [hff] at h
    dsimp only [Res.bind] at h
    intro vx H1 Hv1 n1 r1
    refine ⟨fr1, Hv1, n1.rel, ?_⟩
    cases hgg : g fr1 with
    | bad => rw [hgg] at h; exact h.elim
    | exc k fs fr2 =>
      rw [hgg] at h
      exact fun dd H' Hv' m => h dd H' Hv' (n1.trans m)
    | ok y fr2 =>
      rw [hgg] at h
      dsimp only at h
      intro vy H2 Hv2 n2 r2
      split at h
      · next hp =>
        have r1 := (r1.mono n2.ext).rep fun i z => by rw [z] at hp; cases hp.1
        have r2 := r2.rep fun i z => by rw [z] at hp; cases hp.2
        cases x with
        | obj c1 ns fs =>
          cases y with
          | obj c2 ms gs =>
            dsimp only at h
            split at h
            · next hc =>
              obtain ⟨p1, dx1, vs1, rfl, e1, _, _⟩ := Rep.obj_inv r1
              obtain ⟨p2, dx2, vs2, rfl, e2, _, _⟩ := Rep.obj_inv r2
              refine ⟨p1, p2, dx1, dx2, _, _, rfl, rfl, by rw [← hc.1]; exact n2.rel.sub _ _ e1, by rw [← hc.2]; exact n2.rel.sub _ _ e2, [.obj c1 ns fs, .obj c2 ms gs], Hv2, start_val n2.rel (.cons r1 (.cons r2 .nil)), ?_⟩
              split at h
              · next d outs hF =>
                rw [hF]
                split at h
                · next hpd =>
                  intro v H' Hv' fin ret
                  have ret : Rep B.G Hv' d v := by
                    unfold RetR at ret
                    rwa [if_neg Bool.false_ne_true] at ret
                  exact h v H' Hv' ((n1.trans n2).trans (nxt_val (n := 2) n2.rel fin)) (.of ret)
                · exact (h : False).elim
              · exact (h : False).elim
            · exact (h : False).elim
          | _ => exact (h : False).elim
        | _ => exact (h : False).elim
      · exact (h : False).elim
theorem d_eqO (Fk : FnOk X.prog X.w X.K X.mg X.base (L2.CX X.prog X.w) n fa fd ps (spOf B.G [false, false] false F)) (hr : Room n X.A)
    (hs : PySem.W.findIn X.K (.ref (B.G.cls c)) "__eq__" = some (some (.ref fa))) (hf : PySem.W.isFn X.K (.ref fa) = true) (hb : Binds X.K fd ps []) (ha : DE X B W a f) (hbb : DE X B W b g) (hm : behindInMarks .Eq b = false := by rfl) :
    DE X B W (.Compare a [.Eq] [b] pos) (eEqO c F f g) := pe_imp (pe_cmpR (op_eqO (C := B.G.cls c) Fk hr hs hf hb) ha hbb hm) fun _ _ _ h => entEqO (K := X.K) h
theorem dt_eqO (Fk : FnOk X.prog X.w X.K X.mg X.base (L2.CX X.prog X.w) n fa fd ps (spOf B.G [false, false] false F)) (hr : Room n X.A)
    (hs : PySem.W.findIn X.K (.ref (B.G.cls c)) "__eq__" = some (some (.ref fa))) (hf : PySem.W.isFn X.K (.ref fa) = true) (hb : Binds X.K fd ps []) (ha : DE X B W a f) (hbb : DE X B W b g) (hm : behindInMarks .Eq b = false := by rfl) :
    DT X B W (.Compare a [.Eq] [b] pos) (bE (eEqO c F f g)) := pt_imp (pt_cmpR (op_eqO (C := B.G.cls c) Fk hr hs hf hb) ha hbb hm) fun _ _ _ ⟨fr, Hv, R, h⟩ => entEqO (K := X.K) ⟨fr, Hv, R, postB_E h⟩
end
/-! ### the __init__ of an own exception: self.f = f, .. -/
def tOexs (K : PySem.W.Frag) : Nat → List Str → TS
  | _, [] => tNext
  | k, n :: ns => tSeq (tOst K n (tVar 0) (tVar k)) (tOexs K (k + 1) ns)
theorem oexs_go {K : PySem.W.Frag} {C a d : Addr} {σ : L2.St} {D : Ends} (T : OexC K C) (hs : σ[0]? = some (some (.ref a))) (hda : d ≠ a) : ∀ (ns : List Str) (k : Nat) (ws : List V) (l : List (Str × V)) (H : Hp), H a = some (exo a C (some d)) → H d = some (exd d l) → ws.length = ns.length → l.length + ns.length ≤ 900 → ns.Nodup →
    (∀ n ∈ ns, PySem.W.findIn K (.ref C) n = some none) → (∀ i v, ws[i]? = some v → σ[k + i]? = some (some v)) →
    (∀ l', (∀ (i : Nat) (n : Str) (v : V), ns[i]? = some n → ws[i]? = some v → l'.lookup n = some v) → (∀ n, n ∉ ns → l'.lookup n = l.lookup n) → D.nx σ (upd H d (exd d l'))) → tOexs K k ns D σ H
  | [], k, ws, l, H, ha, hd, hl, hz, nd, hn, hv, q => by
    show D.nx σ H
    have e : upd H d (exd d l) = H := by
      funext b
      by_cases h : b = d
      · rw [h, upd_same, hd]
      · rw [upd_ne h]
    rw [← e]
    exact q l (fun i n v h => by simp at h) fun n _ => rfl
  | n :: ns, k, [], l, H, ha, hd, hl, hz, nd, hn, hv, q => by simp at hl
  | n :: ns, k, w :: ws, l, H, ha, hd, hl, hz, nd, hn, hv, q => by
    refine ⟨w, by have := hv 0 w rfl; simpa using this, _, hs, a, C, rfl, T, hn n (List.mem_cons_self ..), .inr ⟨d, l, ha, hd, by simp at hz; omega, ?_⟩⟩
    rw [List.nodup_cons] at nd
    refine oexs_go T hs hda ns (k + 1) ws ((n, w) :: l) _ (by rw [upd_ne (Ne.symm hda)]; exact ha) upd_same (by simpa using hl) (by simp at hz ⊢; omega) nd.2 (fun m hm => hn m (List.mem_cons_of_mem _ hm)) (fun i v h => by
      have := hv (i + 1) v (by simpa using h)
      rwa [show k + (i + 1) = k + 1 + i by omega] at this) fun l' h1 h2 => ?_
    have e : upd (upd H d (exd d ((n, w) :: l))) d (exd d l') = upd H d (exd d l') := by
      funext b
      by_cases h : b = d
      · rw [h, upd_same, upd_same]
      · rw [upd_ne h, upd_ne h, upd_ne h]
    rw [e]
    refine q l' (fun i m v e1 e2 => ?_) fun m hm => ?_
    · cases i with
      | zero =>
        cases e1
        cases e2
        rw [h2 n nd.1]
        simp [List.lookup]
      | succ i => exact h1 i m v (by simpa using e1) (by simpa using e2)
    · rw [List.mem_cons, not_or] at hm
      rw [h2 m hm.2]
      have : (m == n) = false := by simpa using hm.1
      simp [List.lookup, this]
theorem fn_oex {P : Program} {w : World} {K : PySem.W.Frag} {mg : Str → Option Value} {base : Heap} {x qual : Str} {st : Stmt} {f C : Addr} {fd : FuncData} {N ps nms : List Str} (k : Nat) (F : Fun K x qual st f fd) (S : FnScope N ps (defScope st)) (hlen : ps.length = nms.length + 1) (hNl : ps.length ≤ N.length) (T : OexC K C)
    (h1 : 1 ≤ nms.length) (h9 : nms.length ≤ 900) (nd : nms.Nodup) (hn : ∀ n ∈ nms, PySem.W.findIn K (.ref C) n = some none)
    (hbody : ∀ (cdv : Value) (A : Around) (outer : List Env) (s : Shared) (H : Hp) (E : XK), PSs (cxOf (L2.CX P w) P w K mg base N qual (defScope st) f cdv A outer s H E) (defBody st) (tOexs K 1 nms)) :
    FnOk P w K mg base (L2.CX P w) (k + 1) f fd ps (oexSp C nms) := by
  refine F.okX S (fun vs H Q E h => ?_) (fun cdv A outer s H vs Q E hr h => ⟨_, hbody cdv A outer s H E, ?_⟩)
  · obtain ⟨a, ws, rfl, hl, _⟩ := h
    rw [List.length_cons, hl, hlen]
  · obtain ⟨a, ws, rfl, hl, ha, q⟩ := h
    have get : ∀ (i : Nat) (v : V), (V.ref a :: ws)[i]? = some v → (L2.start N (V.ref a :: ws))[i]? = some (some v) := fun i v e => (start_get (by rw [List.length_cons, hl, ← hlen]; exact hNl)).mpr e
    cases nms with
    | nil => simp at h1
    | cons n ns =>
      cases ws with
      | nil => simp at hl
      | cons w ws =>
        have g0 := get 0 _ rfl
        rw [List.nodup_cons] at nd
        refine ⟨w, get 1 w rfl, _, g0, a, C, rfl, T, hn n (List.mem_cons_self ..), .inl ⟨ha, fun d hd hda => ?_⟩⟩
        refine oexs_go T g0 hda ns 2 ws [(n, w)] _ upd_same (by rw [upd_ne hda]; exact upd_same) (by simpa using hl) (by simp at h9 ⊢; omega) nd.2 (fun m hm => hn m (List.mem_cons_of_mem _ hm)) (fun i v e => by
          have := get (i + 2) v (by simpa using e)
          rwa [show i + 2 = 2 + i by omega] at this) fun l' e1 e2 => ?_
        have e : upd (upd (upd H d (exd d [(n, w)])) a (exo a C (some d))) d (exd d l') = upd (upd H d (exd d l')) a (exo a C (some d)) := by
          funext b
          by_cases hb : b = d
          · rw [hb, upd_same, upd_ne hda, upd_same]
          · rw [upd_ne hb]
            by_cases hb2 : b = a
            · rw [hb2, upd_same, upd_same]
            · rw [upd_ne hb2, upd_ne hb, upd_ne hb2, upd_ne hb]
        show Q .non _
        rw [e]
        refine q d l' hd hda fun i m v g1 g2 => ?_
        cases i with
        | zero =>
          cases g1
          cases g2
          rw [e2 n nd.1]
          simp [List.lookup]
        | succ i => exact e1 i m v (by simpa using g1) (by simpa using g2)
end KS
namespace KS
open PySem PySem.Spec L2
def orF (F G : D → D → Option D) : D → D → Option D := fun a b => match F a b with
  | some z => some z
  | none => G a b
theorem OpS.or {B : Bd} {r r' : R2} {F F' : D → D → Option D} (h : OpS B r F) (h' : OpS B r' F') : OpS B (fun x y H Q => r x y H Q ∨ r' x y H Q) (orF F F') := by
  intro fr σ H Hv x y dx dy a b z Q R rx ry hx hy hz k
  unfold orF at hz
  split at hz
  · next w e =>
    cases hz
    exact .inl (h fr σ H Hv x y dx dy a b _ Q R rx ry hx hy e k)
  · exact .inr (h' fr σ H Hv x y dx dy a b _ Q R rx ry hx hy hz k)
def leTs (ns ms : List Int) : Bool := Ob.lexAt (fun j => decide (ns.getD j 0 = ms.getD j 0)) (fun j => decide (ns.getD j 0 ≤ ms.getD j 0)) (decide (ns.length ≤ ms.length)) 0 (min ns.length ms.length)
def leTF : D → D → Option D
  | .tup ds, .tup es => match intsOf ds, intsOf es with
    | some ns, some ms => some (.bl (leTs ns ms))
    | _, _ => none
  | _, _ => none
section
variable {X : Cx} {B : Bd}
theorem ops_leT (hK : X.K = B.G.K) : OpS B (rLeT X.K) leTF := by
  intro fr σ H Hv x y dx dy a b z Q R rx ry hx hy hz k
  unfold leTF at hz
  split at hz
  · split at hz
    · next ns ms h1 h2 =>
      cases hz
      obtain ⟨p, vs, rfl, q, _, r⟩ := R.tup_of rx hx
      obtain ⟨p2, vs2, rfl, q2, _, r2⟩ := R.tup_of ry hy
      have e1 := ints_rep r h1
      have e2 := ints_rep r2 h2
      subst e1 e2
      exact ⟨p, p2, ns, ms, rfl, rfl, by rw [hK]; exact q, by rw [hK]; exact q2, k _ H Hv (.refl R) repB⟩
    · cases hz
  · cases hz
abbrev leA : D → D → Option D := orF leF leTF
theorem ops_leA (hK : X.K = B.G.K := by rfl) : OpS B (fun x y H Q => rI0 (fun i j => .bl (decide (i ≤ j))) x y H Q ∨ rLeT X.K x y H Q) leA := ops_le.or (ops_leT hK)
theorem op_leA (hu : X.A.units < cLine) : OpR X (compareOp .LtE) (fun x y H Q => rI0 (fun i j => .bl (decide (i ≤ j))) x y H Q ∨ rLeT X.K x y H Q) := op_le.or (op_leT hu)
def inSF : D → D → Option D
  | .str i, .str j => some (.bl (!(Builtin.Str.occurrences j i 0 j.length 1).isEmpty))
  | _, _ => none
theorem ops_inS : OpS B (fun x y H Q => ∃ i j, x = .str i ∧ y = .str j ∧ Q (.bl (!(Builtin.Str.occurrences j i 0 j.length 1).isEmpty)) H) inSF := by
  intro fr σ H Hv x y dx dy a b z Q R rx ry hx hy hz k
  unfold inSF at hz
  split at hz
  · cases hz
    rw [R.str_of rx hx, R.str_of ry hy]
    exact ⟨_, _, rfl, rfl, k _ H Hv (.refl R) repB⟩
  · cases hz
abbrev inA : D → D → Option D := orF inF inSF
theorem ops_inA (hK : X.K = B.G.K := by rfl) : OpS B (fun x y H Q => rInD X.K x y H Q ∨ (∃ i j, x = .str i ∧ y = .str j ∧ Q (.bl (!(Builtin.Str.occurrences j i 0 j.length 1).isEmpty)) H)) inA := (ops_ing hK V.bl D.bl fun _ _ => repB).or ops_inS
theorem op_inA (hu : X.A.units + 65 < cLine) : OpR X (compareOp .In) (fun x y H Q => rInD X.K x y H Q ∨ (∃ i j, x = .str i ∧ y = .str j ∧ Q (.bl (!(Builtin.Str.occurrences j i 0 j.length 1).isEmpty)) H)) := (op_inD hu).or op_in_str
theorem ops_notIn (hK : X.K = B.G.K := by rfl) : OpS B (rNotInD X.K) notInF := ops_ing hK (fun k => V.bl (!k)) (fun k => D.bl (!k)) fun _ _ => repB
theorem ops_eqA (hK : X.K = B.G.K := by rfl) : OpS B (fun x y H Q => rEq x y H Q ∨ rEqD X.K x y H Q) eqF := ops_eq hK
theorem ops_neA (hK : X.K = B.G.K := by rfl) : OpS B (fun x y H Q => rNe x y H Q ∨ rNeD X.K x y H Q) neF := ops_ne hK
end
theorem u0 {k : Nat} {A : Around} (r : Room k A) : A.units < cLine := by have := r.un; omega
theorem u1 {k : Nat} {A : Around} (r : Room k A) : A.units + 1 < cLine := by have := r.un; omega
theorem u16 {k : Nat} {A : Around} (r : Room k A) : A.units + 16 < cLine := by have := r.un; omega
theorem u64 {k : Nat} {A : Around} (r : Room k A) : A.units + 64 < cLine := by have := r.un; omega
theorem u65 {k : Nat} {A : Around} (r : Room k A) : A.units + 65 < cLine := by have := r.un; omega
theorem op_eqA {X : Cx} (hu : X.A.units + 64 < cLine) : OpR X (compareOp .Eq) (fun x y H Q => rEq x y H Q ∨ rEqD X.K x y H Q) := op_eq.or (op_eqD hu)
theorem op_neA {X : Cx} (hu : X.A.units + 64 < cLine) : OpR X (compareOp .NotEq) (fun x y H Q => rNe x y H Q ∨ rNeD X.K x y H Q) := op_ne.or (op_neD hu)
theorem io_ne {ms : List Bool} {io : List (Nat × Addr)} {i : Nat} (h : ∀ p ∈ io, ms[p.1]? = some true) (hi : ms[i]? ≠ some true) : ∀ p ∈ io, p.1 ≠ i := fun p hp z => hi (by rw [← z]; exact h p hp)
theorem fnok_bad {G : SE} {k : Nat} {f : Addr} {fd : FuncData} {ps : List Str} {ms : List Bool} {rf : Bool} : FnOk G.P G.w G.K G.mg G.base (L2.CX G.P G.w) k f fd ps (spOf G ms rf fun _ => .bad) :=
  ⟨fun vs H Q E h => by obtain ⟨_, _, _, z⟩ := h; exact z.elim, fun A outer s H args us vs Q E _ _ _ _ h => by obtain ⟨_, _, _, z⟩ := h; exact z.elim⟩
theorem pts1 {X : Cx} {c : Expr} {t : TT} (h : PT X c t) : PTs X [c] t := pts_one h
end KS
namespace KS
open PySem PySem.Spec L2
theorem d_globE {X : Cx} {B : Bd} {W : WX} {x : Str} {v : V} {d : D} {pos : Pos} (h : ∃ u, X.mg x = some u ∧ RelV v u) (hr : Rep B.G (fun _ => none) d v) (hg : Gl X x := by rfl) (hd : (x == ("__debug__" : Str)) = false := by decide) : DE X B W (.Name x pos) (eC d) := by
  obtain ⟨u, hm, r⟩ := h
  exact d_glob hr hm r hg hd
theorem aLenN : ∀ fr ds fr1, aNil fr = .ok ds fr1 → ds.length = 0 := fun fr ds fr1 h => by cases h; rfl
theorem aLenC {f : Ev} {g : Av} {n : Nat} (k : ∀ fr ds fr1, g fr = .ok ds fr1 → ds.length = n) : ∀ fr ds fr1, aCons f g fr = .ok ds fr1 → ds.length = n + 1 := by
  intro fr ds fr1 h
  unfold aCons at h
  cases hf : f fr with
  | ok d fr2 =>
    rw [hf] at h
    dsimp only [Res.bind] at h
    cases hg : g fr2 with
    | ok es fr3 =>
      rw [hg] at h
      cases h
      rw [List.length_cons, k _ _ _ hg]
    | exc => rw [hg] at h; cases h
    | bad => rw [hg] at h; cases h
  | exc => rw [hf] at h; cases h
  | bad => rw [hf] at h; cases h
end KS
namespace KS
def NoNx (g : Sv) : Prop := ∀ fr fr', g fr ≠ .ok .nx fr'
theorem noNx_seq {g h : Sv} (k : NoNx h) : NoNx (sSeq g h) := by
  intro fr fr' e
  unfold sSeq at e
  cases hg : g fr with
  | ok fl fr1 =>
    rw [hg] at e
    cases fl with
    | nx => exact k fr1 fr' e
    | _ => cases e
  | exc => rw [hg] at e; cases e
  | bad => rw [hg] at e; cases e
theorem noNx_seqL {g h : Sv} (k : NoNx g) : NoNx (sSeq g h) := by
  intro fr fr' e
  unfold sSeq at e
  cases hg : g fr with
  | ok fl fr1 =>
    rw [hg] at e
    cases fl with
    | nx => exact k fr fr1 hg
    | _ => cases e
  | exc => rw [hg] at e; cases e
  | bad => rw [hg] at e; cases e
theorem noNx_retV {i : Nat} : NoNx (sRetV i) := by
  intro fr fr' e
  unfold sRetV at e
  split at e
  · split at e <;> cases e
  · cases e
theorem noNx_retF {f : Ev} : NoNx (sRetF f) := by
  intro fr fr' e
  unfold sRetF at e
  cases hg : f fr with
  | ok d fr1 => rw [hg] at e; cases e
  | exc => rw [hg] at e; cases e
  | bad => rw [hg] at e; cases e
end KS
/-! KS21: how the functions run: rewriting rules for plain reasoning. -/
namespace KS
open PySem
@[simp] theorem bind_ok {σ α β : Type} (a : α) (s : σ) (k : α → σ → Res σ β) : (Res.ok a s).bind k = k a s := rfl
@[simp] theorem bind_exc {σ α β : Type} (c : Nat) (fs : List D) (s : σ) (k : α → σ → Res σ β) : (Res.exc c fs s).bind k = .exc c fs s := rfl
@[simp] theorem bind_bad {σ α β : Type} (k : α → σ → Res σ β) : (Res.bad).bind k = .bad := rfl
theorem eVar_at {i : Nat} {fr : Fr} {d : D} (h : fr[i]? = some (some d)) : eVar i fr = .ok d fr := by unfold eVar; rw [h]
theorem ePl_at {i : Nat} {fr : Fr} {d : D} (h : fr[i]? = some (some d)) (c : isCell d = true) : ePl i fr = .ok (.var i) fr := by unfold ePl; rw [h]; simp [c]
end KS
namespace KS
def Ends (r : Res Fr Fl) (P : Fl → Fr → Prop) : Prop := ∃ fl fr, r = .ok fl fr ∧ P fl fr
theorem Ends.mk {fl : Fl} {fr : Fr} {P : Fl → Fr → Prop} (h : P fl fr) : Ends (.ok fl fr) P := ⟨fl, fr, rfl, h⟩
theorem Ends.imp {r : Res Fr Fl} {P Q : Fl → Fr → Prop} (h : Ends r P) (k : ∀ fl fr, P fl fr → Q fl fr) : Ends r Q := by
  obtain ⟨fl, fr, e, p⟩ := h
  exact ⟨fl, fr, e, k fl fr p⟩
/-- what a turn is to reach -/
def Turned (I : Fr → Prop) (R : Fl → Fr → Prop) : Fl → Fr → Prop
  | .nx, fr => I fr
  | .cnt, fr => I fr
  | .brk, fr => R .nx fr
  | .ret d, fr => R (.ret d) fr
theorem loop_ends {t : Tv} {g : Sv} {I : List D → Fr → Prop} {R : Fl → Fr → Prop} (h : ∀ d ds fr, I (d :: ds) fr → ∃ fr1, t d fr = some fr1 ∧ Ends (g fr1) (Turned (I ds) R)) (h0 : ∀ fr, I [] fr → R .nx fr) : ∀ ds fr, I ds fr → Ends (loopF t g ds fr) R
  | [], fr, i => ⟨.nx, fr, rfl, h0 fr i⟩
  | d :: ds, fr, i => by
    obtain ⟨fr1, e, fl, fr2, e2, p⟩ := h d ds fr i
    unfold loopF
    rw [e]
    dsimp only
    rw [e2]
    cases fl with
    | nx => exact loop_ends h h0 ds fr2 p
    | cnt => exact loop_ends h h0 ds fr2 p
    | brk => exact ⟨.nx, fr2, rfl, p⟩
    | ret d => exact ⟨.ret d, fr2, rfl, p⟩
/-- one statement, then the rest -/
theorem seq_ends {g h : Sv} {fr : Fr} {P : Fl → Fr → Prop} (k : Ends (g fr) (fun fl fr1 => match fl with | .nx => Ends (h fr1) P | fl => P fl fr1)) : Ends (sSeq g h fr) P := by
  obtain ⟨fl, fr1, e, p⟩ := k
  unfold sSeq
  rw [e]
  cases fl with
  | nx => exact p
  | brk => exact ⟨_, _, rfl, p⟩
  | cnt => exact ⟨_, _, rfl, p⟩
  | ret d => exact ⟨_, _, rfl, p⟩
theorem for_ends {h : Iv} {t : Tv} {g : Sv} {fr fr1 : Fr} {ds : List D} {R : Fl → Fr → Prop} (e : h fr = .ok ds fr1) (k : Ends (loopF t g ds fr1) R) : Ends (sFor h t g fr) R := by
  unfold sFor
  rw [e]
  exact k
theorem if_ends {t : Bv} {g h : Sv} {fr fr1 : Fr} {b : Bool} {R : Fl → Fr → Prop} (e : t fr = .ok b fr1) (k : Ends (if b then g fr1 else h fr1) R) : Ends (sIf t g h fr) R := by
  unfold sIf
  rw [e]
  exact k
theorem run_ends {k n : Nat} {g : Sv} {ds : List D} {d : D} (h : Ends (g (startF n ds)) (fun fl fr => fl = .ret d)) : ∃ outs, runFn k n g ds = .ok d outs := by
  obtain ⟨fl, fr, e, rfl⟩ := h
  exact ⟨outsOf k fr, by unfold runFn; rw [e]⟩
theorem run_endsD {k n : Nat} {g : Sv} {ds : List D} {P : D → Prop} (h : Ends (g (startF n ds)) (fun fl fr => ∃ d, fl = .ret d ∧ P d)) : ∃ d outs, runFn k n g ds = .ok d outs ∧ P d := by
  obtain ⟨fl, fr, e, d, rfl, p⟩ := h
  exact ⟨d, outsOf k fr, by unfold runFn; rw [e], p⟩
end KS
namespace KS
@[simp] theorem ends_ok {fl : Fl} {fr : Fr} {P : Fl → Fr → Prop} : Ends (.ok fl fr) P ↔ P fl fr := ⟨fun ⟨_, _, e, p⟩ => by cases e; exact p, fun p => ⟨_, _, rfl, p⟩⟩
theorem outsOf_eq {k : Nat} {fr : Fr} {l : List D} (h : outsOf k fr = l) : outsOf k fr = l := h
theorem map_snoc {ps : List Int} {p : Int} : List.map D.int ps ++ [D.int p] = List.map D.int (ps ++ [p]) := by simp
end KS
namespace KS
/-! single steps, where simp on numbers is dear (a length's product is unfolded by the kernel: name the length first) -/
theorem op2_ok {F : D → D → Option D} {f g : Ev} {fr fr1 fr2 : Fr} {x y a b z : D} (hf : f fr = .ok x fr1) (hg : g fr1 = .ok y fr2) (hx : look fr2 x = some a) (hy : look fr2 y = some b) (hF : F a b = some z) : eOp2 F f g fr = .ok z fr2 := by
  unfold eOp2
  rw [hf, bind_ok, hg, bind_ok, hx, hy]
  dsimp only
  rw [hF]
  rfl
theorem op2i {F : D → D → Option D} {f g : Ev} {fr : Fr} {i j : Int} {z : D} (hf : f fr = .ok (.int i) fr) (hg : g fr = .ok (.int j) fr) (hF : F (.int i) (.int j) = some z) : eOp2 F f g fr = .ok z fr := op2_ok hf hg rfl rfl hF
theorem op1_ok {F : D → Option D} {f : Ev} {fr fr1 : Fr} {x a z : D} (hf : f fr = .ok x fr1) (hx : look fr1 x = some a) (hF : F a = some z) : eOp1 F f fr = .ok z fr1 := by
  unfold eOp1
  rw [hf, bind_ok, hx]
  dsimp only
  rw [hF]
  rfl
theorem set_ok {i : Nat} {f : Ev} {fr fr1 : Fr} {d : D} (hf : f fr = .ok d fr1) (hp : pers d = true) : sSet i f fr = .ok .nx (fr1.set i (some d)) := by
  unfold sSet
  rw [hf, bind_ok, if_pos hp]
theorem mul_c (i j : Int) (h : -(2 ^ 64) < j ∧ j < 2 ^ 64) : mulF (.int i) (.int j) = some (.int (i * j)) := by unfold mulF; dsimp only; rw [if_pos (.inr h)]
theorem mod_c (i j : Int) (h : 0 < j) : modF (.int i) (.int j) = some (.int (i % j)) := by unfold modF; dsimp only; rw [if_pos h]
end KS
namespace KS
open PySem
theorem comp_go {vs : List Nat} {t : Tv} {c : Bv} {e : Ev} {W fr0 : Fr} {T : D → Fr} {p : D → Bool} {f : D → D} (hw : ∀ d, wipeF (T d) vs = W) (hr : ∀ d, restF fr0 (T d) vs = fr0) :
    ∀ (ds : List D) (fr : Fr), wipeF fr vs = W → restF fr0 fr vs = fr0 → (∀ d ∈ ds, t d W = some (T d)) → (∀ d ∈ ds, c (T d) = .ok (p d) (T d)) → (∀ d ∈ ds, p d = true → e (T d) = .ok (f d) (T d) ∧ pers (f d) = true) →
      ∃ fr', compL vs t c e ds fr = .ok ((ds.filter p).map f) fr' ∧ restF fr0 fr' vs = fr0
  | [], fr, _, h2, _, _, _ => ⟨fr, rfl, h2⟩
  | d :: ds, fr, h1, h2, ht, hc, he => by
    have a := List.mem_cons_self (a := d) (l := ds)
    obtain ⟨fr', e1, e2⟩ := comp_go hw hr ds (T d) (hw d) (hr d) (fun x hx => ht x (List.mem_cons_of_mem _ hx)) (fun x hx => hc x (List.mem_cons_of_mem _ hx)) (fun x hx => he x (List.mem_cons_of_mem _ hx))
    refine ⟨fr', ?_, e2⟩
    unfold compL
    rw [h1, ht d a]
    dsimp only
    rw [hc d a, bind_ok]
    cases hp : p d with
    | false =>
      rw [if_neg Bool.false_ne_true, e1, List.filter_cons_of_neg (by rw [hp]; exact Bool.false_ne_true)]
    | true =>
      obtain ⟨g1, g2⟩ := he d a hp
      rw [if_pos rfl, g1, bind_ok, if_pos g2, e1, bind_ok, List.filter_cons_of_pos hp, List.map_cons]
theorem comp_ok {vs : List Nat} {h : Iv} {t : Tv} {c : Bv} {e : Ev} {fr0 fr : Fr} {ds : List D} (W : Fr) (T : D → Fr) (p : D → Bool) (f : D → D) (hh : h fr0 = .ok ds fr) (hl : ds.length ≤ 16777216) (hW : wipeF fr vs = W) (ht : ∀ d ∈ ds, t d W = some (T d)) (hc : ∀ d ∈ ds, c (T d) = .ok (p d) (T d))
    (he : ∀ d ∈ ds, p d = true → e (T d) = .ok (f d) (T d) ∧ pers (f d) = true) (hw : ∀ d, wipeF (T d) vs = W) (hr0 : restF fr fr vs = fr) (hr : ∀ d, restF fr (T d) vs = fr) : eComp vs h t c e fr0 = .ok (.lst ((ds.filter p).map f)) fr := by
  obtain ⟨fr', e1, e2⟩ := comp_go hw hr ds fr hW hr0 ht hc he
  unfold eComp
  rw [hh, bind_ok, if_pos (show ds.length ≤ sizeLine from hl), e1]
  dsimp only
  rw [e2]
theorem val_lst {f : Ev} {fr fr1 : Fr} {ds : List D} (h : f fr = .ok (.lst ds) fr1) : iVal f fr = .ok ds fr1 := by unfold iVal; rw [h]; rfl
theorem val_tup {f : Ev} {fr fr1 : Fr} {ds : List D} (h : f fr = .ok (.tup ds) fr1) : iVal f fr = .ok ds fr1 := by unfold iVal; rw [h]; rfl
theorem val_str {f : Ev} {fr fr1 : Fr} {z : Str} (h : f fr = .ok (.str z) fr1) : iVal f fr = .ok (chars z) fr1 := by unfold iVal; rw [h]; rfl
theorem m1_ok {F : D → D → Option D} {f g : Ev} {fr fr1 fr2 : Fr} {z : Str} {y b w : D} (hf : f fr = .ok (.str z) fr1) (hg : g fr1 = .ok y fr2) (hy : look fr2 y = some b) (hF : F (.str z) b = some w) : eM1 F f g fr = .ok w fr2 := by
  unfold eM1
  rw [hf, bind_ok]
  dsimp only
  rw [hg, bind_ok, hy]
  dsimp only
  rw [hF]
  rfl
theorem setF_ok {i : Nat} {f : Ev} {fr fr1 : Fr} {d : D} (hf : f fr = .ok d fr1) : sSetF i f fr = .ok .nx (fr1.set i (some d)) := by
  unfold sSetF
  rw [hf, bind_ok]
theorem ret_ok {f : Ev} {fr fr1 : Fr} {d : D} (hf : f fr = .ok d fr1) (hp : pers d = true) : sRet f fr = .ok (.ret d) fr1 := by
  unfold sRet
  rw [hf, bind_ok, if_pos hp]
theorem ret_seq {g h : Sv} {fr fr1 : Fr} {d : D} (e : g fr = .ok (.ret d) fr1) : sSeq g h fr = .ok (.ret d) fr1 := by
  unfold sSeq
  rw [e, bind_ok]
theorem seq_nx {g h : Sv} {fr fr1 : Fr} (e : g fr = .ok .nx fr1) : sSeq g h fr = h fr1 := by
  unfold sSeq
  rw [e, bind_ok]
theorem run_ok {k n : Nat} {g : Sv} {ds : List D} {d : D} {fr : Fr} (e : g (startF n ds) = .ok (.ret d) fr) : runFn k n g ds = .ok d (outsOf k fr) := by
  unfold runFn
  rw [e]
/-- a call that changes nothing that its caller owns -/
theorem call_val {F : Fn} {g : Av} {fr fr1 : Fr} {ds : List D} {d : D} {outs : List D} {ms : List Bool} (hg : g fr = .ok ds fr1) (hm : argC fr1 ms ds = some ds) (hi : ioV ms ds = []) (hF : F ds = .ok d outs) (ho : outs.length = ms.length) (hp : ioP ms ds outs = []) : eCall ms F g fr = .ok d fr1 := by
  unfold eCall
  rw [hg, bind_ok, hm]
  dsimp only
  rw [hi, if_pos List.nodup_nil, hF]
  dsimp only
  rw [if_pos ho, hp]
  rfl
theorem outs_len {k : Nat} {fr : Fr} : (outsOf k fr).length = k := by simp [outsOf]
end KS
namespace KS
open PySem
theorem app_ok {i : Nat} {e : Ev} {fr fr1 : Fr} {d : D} {ds0 ds : List D} (h0 : fr[i]? = some (some (.lst ds0))) (he : e fr = .ok d fr1) (hp : pers d = true) (h1 : fr1[i]? = some (some (.lst ds))) (hl : ds.length < 16777216) :
    sX (eMut i isLstD true appM (aCons e aNil)) fr = .ok .nx (fr1.set i (some (.lst (ds ++ [d])))) := by
  have hlk : look fr1 d = some d := by cases d <;> first | rfl | cases hp
  have hM : eMut i isLstD true appM (aCons e aNil) fr = .ok .non (fr1.set i (some (.lst (ds ++ [d])))) := by
    unfold eMut
    rw [h0]
    dsimp only
    rw [if_pos (show isLstD (.lst ds0) = true from rfl)]
    have ha : aCons e aNil fr = .ok [d] fr1 := by
      unfold aCons
      rw [he, bind_ok]
      rfl
    rw [ha, bind_ok, h1]
    dsimp only
    rw [if_pos (show isCell (.lst ds) = true from rfl), if_pos (fun _ => by simp [hp])]
    have hpk : pick fr1 [d] = some [d] := by
      unfold pick pick
      rw [hlk]
    rw [hpk]
    dsimp only
    have hA : appM (.lst ds) [d] = some (.non, .lst (ds ++ [d])) := by
      unfold appM
      dsimp only
      rw [if_pos (show ds.length < sizeLine from hl)]
    rw [hA]
  unfold sX
  rw [hM, bind_ok]
end KS
namespace Lk11
open PySem PySem.Spec L2 KS
/-! the text as functions of plain Lean -/
def kc_Net : Nat → Option Bool := fun c => if c = 0 then some true else none
def g_law_pool : Sv :=
  (sSeq (sSetF 2 (eLst aNil))
  (sSeq (sSet 3 (eC (.int 1)))
  (sSeq (sFor (iVal (eVar 0)) (tgN 4)
  (sSeq (sSet 5 (eOp1 intF (eOp1 absF (eVar 4))))
  (sSeq (sIf (bE (eOp2 geF (eVar 5) (eOp2 powF (eC (.int 10)) (eC (.int 18)))))
  (sSeq (sFor (iRg1 (eOp2 min2F (eC (.int 60)) (eOp2 subF (eVar 1) (eOp1 lenF (ePl 2))))) (tgN 6)
  (sSeq (sX (eMut 2 isLstD true appM (aCons (eOp2 modF (eOp1 intF (eVar 5)) (eC (.int 2520))) aNil)))
  (sSeq (sSet 5 (eOp2 fdivF (eVar 5) (eC (.int 2520))))
  (sSeq (sIf (bE (eOp2 eqF (eVar 5) (eC (.int 0))))
  (sSeq sBrk
  sNx)
  sNx)
  sNx))))
  sNx)
  (sSeq (sSet 7 (eOp2 modF (eOp1 intF (eOp2 addF (eOp2 addF (eOp2 mulF (eVar 4) (eC (.int 48271))) (eOp2 mulF (eOp1 lenF (ePl 2)) (eC (.int 69621)))) (eC (.int 11)))) (eC (.int 2147483647))))
  (sSeq (sSet 8 (eOp2 modF (eOp1 intF (eOp2 addF (eOp2 mulF (eVar 7) (eVar 7)) (eC (.int 5)))) (eC (.int 2147483629))))
  (sSeq (sX (eMut 2 isLstD true appM (aCons (eOp2 modF (eOp1 intF (eOp2 fdivF (eVar 8) (eC (.int 7)))) (eC (.int 2520))) aNil)))
  (sSeq (sX (eMut 2 isLstD true appM (aCons (eOp2 modF (eOp2 modF (eOp1 intF (eOp2 addF (eOp2 mulF (eVar 8) (eC (.int 16807))) (eVar 7))) (eC (.int 2147483587))) (eC (.int 2520))) aNil)))
  sNx)))))
  (sSeq (sSet 3 (eOp2 modF (eOp1 intF (eOp2 addF (eOp2 mulF (eVar 3) (eC (.int 263))) (eVar 4))) (eC (.int 1000003))))
  sNx))))
  (sSeq (sFor (iRg1 (eVar 1)) (tgN 6)
  (sSeq (sSet 3 (eOp2 modF (eOp1 intF (eOp2 addF (eOp2 addF (eOp2 mulF (eVar 3) (eC (.int 48271))) (eOp2 mulF (eVar 6) (eC (.int 69621)))) (eC (.int 17)))) (eC (.int 2147483647))))
  (sSeq (sX (eMut 2 isLstD true appM (aCons (eOp2 modF (eOp1 intF (eOp2 fdivF (eVar 3) (eC (.int 5)))) (eC (.int 2520))) aNil)))
  sNx)))
  (sSeq (sSetF 2 (eSlF (ePl 2) oNone (oSome (eVar 1))))
  (sSeq (sX (eMut 2 isLstD false revM (fun fr => .ok [] fr)))
  (sSeq (sRetV 2)
  sNx)))))))
def fn_law_pool : Fn := runFn 2 9 g_law_pool
def g_law_draw : Sv :=
  (sSeq (sIf (bE (eOp2 eqF (eOp1 lenF (ePl 0)) (eC (.int 0))))
  (sSeq (sRet (eC (.int 0)))
  sNx)
  sNx)
  (sSeq (sRet (eOp2 modF (eOp1 intF (eMut 0 isLstD false popM (fun fr => .ok [] fr))) (eVar 1)))
  sNx))
def fn_law_draw : Fn := runFn 2 2 g_law_draw
def g_law_arcs : Sv :=
  (sSeq (sSet 3 (eOp2 addF (eC (.int 1)) (eCall [true, false] fn_law_draw (aCons (ePl 0) (aCons (eVar 1) aNil)))))
  (sSeq (sSetF 4 (eC (dTm [])))
  (sSeq (sIf (bE (eOp2 ltF (eCall [true, false] fn_law_draw (aCons (ePl 0) (aCons (eC (.int 6)) aNil))) (eVar 2)))
  (sSeq (sSet 3 (eC (.int 5)))
  (sSeq (sSet 5 (eCall [true, false] fn_law_draw (aCons (ePl 0) (aCons (eC (.int 5)) aNil))))
  (sSeq (sSet 6 (eOp2 addF (eC (.int 1)) (eCall [true, false] fn_law_draw (aCons (ePl 0) (aCons (eC (.int 2)) aNil)))))
  (sSeq (sFor (iRg1 (eC (.int 5))) (tgN 7)
  (sSeq (sSet 8 (eOp2 modF (eOp1 intF (eOp2 addF (eVar 5) (eOp2 mulF (eVar 7) (eVar 6)))) (eC (.int 5))))
  (sSeq (sSet 9 (eOp2 modF (eOp1 intF (eOp2 addF (eOp2 addF (eVar 5) (eOp2 mulF (eVar 7) (eVar 6))) (eVar 6))) (eC (.int 5))))
  (sSeq (sDput 4 (aCons (eVar 8) (aCons (eVar 9) aNil)) (eC (.bl true)))
  (sSeq (sDput 4 (aCons (eVar 9) (aCons (eVar 8) aNil)) (eC (.bl true)))
  sNx)))))
  (sSeq (sFor (iRg1 (eCall [true, false] fn_law_draw (aCons (ePl 0) (aCons (eC (.int 4)) aNil)))) (tgN 7)
  (sSeq (sSet 8 (eCall [true, false] fn_law_draw (aCons (ePl 0) (aCons (eC (.int 5)) aNil))))
  (sSeq (sSet 9 (eOp2 modF (eOp1 intF (eOp2 addF (eOp2 addF (eVar 8) (eC (.int 1))) (eCall [true, false] fn_law_draw (aCons (ePl 0) (aCons (eC (.int 4)) aNil))))) (eC (.int 5))))
  (sSeq (sIf (bE (eDin 4 (aCons (eVar 8) (aCons (eVar 9) aNil))))
  (sSeq (sX (eDpop 4 (aCons (eVar 8) (aCons (eVar 9) aNil))))
  sNx)
  (sSeq (sDput 4 (aCons (eVar 8) (aCons (eVar 9) aNil)) (eC (.bl true)))
  sNx))
  sNx))))
  sNx)))))
  (sSeq (sSet 10 (eOp2 ixF (eLst (aCons (eC (.int 1)) (aCons (eC (.int 2)) (aCons (eC (.int 3)) (aCons (eC (.int 5)) (aCons (eC (.int 6)) aNil)))))) (eCall [true, false] fn_law_draw (aCons (ePl 0) (aCons (eC (.int 5)) aNil)))))
  (sSeq (sFor (iRg1 (eVar 3)) (tgN 11)
  (sSeq (sFor (iRg1 (eVar 3)) (tgN 12)
  (sSeq (sIf (bAnd (bE (eOp2 neF (eVar 11) (eVar 12))) (bE (eOp2 ltF (eCall [true, false] fn_law_draw (aCons (ePl 0) (aCons (eC (.int 6)) aNil))) (eVar 10))))
  (sSeq (sDput 4 (aCons (eVar 11) (aCons (eVar 12) aNil)) (eC (.bl true)))
  sNx)
  sNx)
  sNx))
  sNx))
  sNx)))
  (sSeq (sRet (eTup (aCons (eVar 3) (aCons (eOp1 tupF (eSortD 4)) aNil))))
  sNx))))
def fn_law_arcs : Fn := runFn 3 13 g_law_arcs
def g_law_knows : Sv :=
  (sSeq (sRet (eOp1 tupF (eComp [2] (iVal (eOp2 ixF (eVar 0) (eC (.int 1)))) (tgN 2) (bE (eOp2 eqF (eOp2 ixF (eVar 2) (eC (.int 0))) (eVar 1))) (eOp2 ixF (eVar 2) (eC (.int 1))))))
  sNx)
def fn_law_knows : Fn := runFn 2 3 g_law_knows
def g_law_text : Sv :=
  (sSeq (sSetF 1 (eLst (aCons (eOp2 addF (eC (.str (PySem.Str.ofString "net "))) (eOp1 strF (eOp2 ixF (eVar 0) (eC (.int 0))))) aNil)))
  (sSeq (sFor (iRg1 (eOp2 ixF (eVar 0) (eC (.int 0)))) (tgN 2)
  (sSeq (sSet 3 (eCall [false, false] fn_law_knows (aCons (eVar 0) (aCons (eVar 2) aNil))))
  (sSeq (sX (eMut 1 isLstD true appM (aCons (eOp2 ixF (eLst (aCons (eM1 joinF (eC (.str (PySem.Str.ofString ","))) (eComp [4] (iVal (eVar 3)) (tgN 4) bYes (eOp1 strF (eVar 4)))) (aCons (eC (.str (PySem.Str.ofString "-"))) aNil))) (eOp1 intF (eOp2 eqF (eOp1 lenF (eVar 3)) (eC (.int 0))))) aNil)))
  sNx)))
  (sSeq (sRet (eM1 joinF (eC (.str (PySem.Str.ofString "\n"))) (ePl 1)))
  sNx)))
def fn_law_text : Fn := runFn 1 5 g_law_text
def g_is_below : Sv :=
  (sSeq (sRet (eAnd (eOp1 (isiF .int) (eVar 0)) (eAnd (eNot (eOp1 (isiF .bl) (eVar 0))) (eChain leA ltF (eC (.int 0)) (eVar 0) (eVar 1)))))
  sNx)
def fn_is_below : Fn := runFn 2 2 g_is_below
def g_first_wrong_arc : Sv :=
  (sSeq (sIf (bNot (bE (eOp1 (isiTF [.lst, .tup]) (eVar 1))))
  (sSeq (sRet (eC (.int 0)))
  sNx)
  sNx)
  (sSeq (sSet 2 (eTup (aCons (eOp1 negF (eC (.int 1))) (aCons (eOp1 negF (eC (.int 1))) aNil))))
  (sSeq (sFor (iEn (eVar 1)) (tgT [3, 4])
  (sSeq (sIf (bOr (bNot (bE (eOp1 (isiF .tup) (eVar 4)))) (bOr (bE (eOp2 neF (eOp1 lenF (eVar 4)) (eC (.int 2)))) (bNot (bE (eOp1 allF (eComp [5] (iVal (eVar 4)) (tgN 5) bYes (eCall [false, false] fn_is_below (aCons (eVar 5) (aCons (eVar 0) aNil)))))))))
  (sSeq (sRet (eVar 3))
  sNx)
  sNx)
  (sSeq (sIf (bOr (bE (eOp2 eqF (eOp2 ixF (eVar 4) (eC (.int 0))) (eOp2 ixF (eVar 4) (eC (.int 1))))) (bE (eOp2 leA (eVar 4) (eVar 2))))
  (sSeq (sRet (eVar 3))
  sNx)
  sNx)
  (sSeq (sSet 2 (eVar 4))
  sNx))))
  (sSeq (sRet (eC .non))
  sNx))))
def fn_first_wrong_arc : Fn := runFn 2 6 g_first_wrong_arc
def g_Net_init : Sv :=
  (sSeq (sIf (bOr (bNot (bE (eCall [false, false] fn_is_below (aCons (eVar 1) (aCons (eOp2 addF (eC (.int 12)) (eC (.int 1))) aNil))))) (bE (eOp2 ltF (eVar 1) (eC (.int 1)))))
  (sSeq (sRaise 0 2 (aCons (eC (.str (PySem.Str.ofString "size"))) (aCons (eC (.int 0)) aNil)))
  sNx)
  sNx)
  (sSeq (sSet 3 (eCall [false, false] fn_first_wrong_arc (aCons (eVar 1) (aCons (eVar 2) aNil))))
  (sSeq (sIf (bE (eOp2 notNF (eVar 3) (eC .non)))
  (sSeq (sRaise 0 2 (aCons (eC (.str (PySem.Str.ofString "arcs"))) (aCons (eVar 3) aNil)))
  sNx)
  sNx)
  (sSeq (sFldS 0 0 [0] (eVar 1))
  (sSeq (sFldS 0 1 [0] (eOp1 tupF (eVar 2)))
  (sSeq (sFldS 0 2 [0] (eOp1 tupF (eComp [4] (iRg1 (eVar 1)) (tgN 4) bYes (eOp1 tupF (eComp [5, 6] (iVal (eAttr [0] 1 (ePl 0))) (tgT [5, 6]) (bE (eOp2 eqF (eVar 5) (eVar 4))) (eVar 6))))))
  sNx))))))
def fn_Net_init : Fn := runFn 3 7 g_Net_init
def g_number_of : Sv :=
  (sSeq (sIf (bOr (bE (eOp2 eqF (eOp1 lenF (eVar 0)) (eC (.int 0)))) (bOr (bE (eOp2 gtF (eOp1 lenF (eVar 0)) (eC (.int 2)))) (bNot (bE (eOp1 allF (eComp [1] (iVal (eVar 0)) (tgN 1) bYes (eOp2 inA (eVar 1) (eC (.str (PySem.Str.ofString "0123456789"))))))))))
  (sSeq (sRet (eOp1 negF (eC (.int 1))))
  sNx)
  sNx)
  (sSeq (sIf (bAnd (bE (eOp2 eqF (eOp1 lenF (eVar 0)) (eC (.int 2)))) (bE (eOp2 eqF (eOp2 ixF (eVar 0) (eC (.int 0))) (eC (.str (PySem.Str.ofString "0"))))))
  (sSeq (sRet (eOp1 negF (eC (.int 1))))
  sNx)
  sNx)
  (sSeq (sRet (eOp1 intF (eVar 0)))
  sNx)))
def fn_number_of : Fn := runFn 1 2 g_number_of
def g_size_of : Sv :=
  (sSeq (sSet 1 (eM1 splF (eVar 0) (eC (.str (PySem.Str.ofString " ")))))
  (sSeq (sIf (bOr (bE (eOp2 neF (eOp1 lenF (eVar 1)) (eC (.int 2)))) (bE (eOp2 neF (eOp2 ixF (eVar 1) (eC (.int 0))) (eC (.str (PySem.Str.ofString "net"))))))
  (sSeq (sRet (eC (.int 0)))
  sNx)
  sNx)
  (sSeq (sSet 2 (eCall [false] fn_number_of (aCons (eOp2 ixF (eVar 1) (eC (.int 1))) aNil)))
  (sSeq (sRet (eIf (bE (eChain leA leA (eC (.int 1)) (eVar 2) (eC (.int 12)))) (eVar 2) (eC (.int 0))))
  sNx))))
def fn_size_of : Fn := runFn 1 3 g_size_of
def g_known_of : Sv :=
  (sSeq (sIf (bE (eOp2 eqF (eVar 0) (eC (.str (PySem.Str.ofString "-")))))
  (sSeq (sRet (eLst aNil))
  sNx)
  sNx)
  (sSeq (sSet 3 (eComp [4] (iVal (eM1 splF (eVar 0) (eC (.str (PySem.Str.ofString ","))))) (tgN 4) bYes (eCall [false] fn_number_of (aCons (eVar 4) aNil))))
  (sSeq (sIf (bNot (bE (eOp1 allF (eComp [5] (iVal (eVar 3)) (tgN 5) bYes (eAnd (eChain leA ltF (eC (.int 0)) (eVar 5) (eVar 2)) (eOp2 neF (eVar 5) (eVar 1)))))))
  (sSeq (sRet (eC .non))
  sNx)
  sNx)
  (sSeq (sIf (bNot (bE (eOp1 allF (eComp [6, 7] (iZp (eVar 3) (eSlF (eVar 3) (oSome (eC (.int 1))) oNone)) (tgT [6, 7]) bYes (eOp2 ltF (eVar 6) (eVar 7))))))
  (sSeq (sRet (eC .non))
  sNx)
  sNx)
  (sSeq (sRet (eVar 3))
  sNx)))))
def fn_known_of : Fn := runFn 3 8 g_known_of
def g_read_net : Sv :=
  (sSeq (sSet 1 (eM1 splF (eVar 0) (eC (.str (PySem.Str.ofString "\n")))))
  (sSeq (sSet 2 (eCall [false] fn_size_of (aCons (eOp2 ixF (eVar 1) (eC (.int 0))) aNil)))
  (sSeq (sIf (bE (eOp2 eqF (eVar 2) (eC (.int 0))))
  (sSeq (sRaise 1 2 (aCons (eVar 0) (aCons (eC (.int 0)) aNil)))
  sNx)
  sNx)
  (sSeq (sSet 3 (eOp2 addF (eOp1 lenF (eOp2 ixF (eVar 1) (eC (.int 0)))) (eC (.int 1))))
  (sSeq (sSetF 4 (eLst aNil))
  (sSeq (sFor (iEn (eSl (eVar 1) (oSome (eC (.int 1))) oNone)) (tgT [5, 6])
  (sSeq (sSet 7 (eIf (bE (eOp2 ltF (eVar 5) (eVar 2))) (eCall [false, false, false] fn_known_of (aCons (eVar 6) (aCons (eVar 5) (aCons (eVar 2) aNil)))) (eC .non)))
  (sSeq (sIf (bE (eOp2 isNF (eVar 7) (eC .non)))
  (sSeq (sRaise 1 2 (aCons (eVar 0) (aCons (eVar 3) aNil)))
  sNx)
  sNx)
  (sSeq (sX (eMut 4 isLstD false extM (aCons (eComp [8] (iVal (eVar 7)) (tgN 8) bYes (eTup (aCons (eVar 5) (aCons (eVar 8) aNil)))) aNil)))
  (sSeq (sAug 3 iaddF (eOp2 addF (eOp1 lenF (eVar 6)) (eC (.int 1))))
  sNx)))))
  (sSeq (sIf (bE (eOp2 leA (eOp1 lenF (eVar 1)) (eVar 2)))
  (sSeq (sRaise 1 2 (aCons (eVar 0) (aCons (eOp1 lenF (eVar 0)) aNil)))
  sNx)
  sNx)
  (sSeq (sRet (eMake 0 fn_Net_init (aCons (eVar 2) (aCons (eFz 4) aNil))))
  sNx))))))))
def fn_read_net : Fn := runFn 1 9 g_read_net
def g_law_same (rec : Fn) : Sv :=
  (sSeq (sIf (bE (eOp1 (isiF .tup) (eVar 1)))
  (sSeq (sIf (bOr (bNot (bE (eOp1 (isiF .tup) (eVar 0)))) (bE (eOp2 neF (eOp1 lenF (eVar 0)) (eOp1 lenF (eVar 1)))))
  (sSeq (sRet (eC (.bl false)))
  sNx)
  sNx)
  (sSeq (sFor (iRg1 (eOp1 lenF (eVar 1))) (tgN 2)
  (sSeq (sIf (bNot (bE (eCall [false, false] rec (aCons (eOp2 ixF (eVar 0) (eVar 2)) (aCons (eOp2 ixF (eVar 1) (eVar 2)) aNil)))))
  (sSeq (sRet (eC (.bl false)))
  sNx)
  sNx)
  sNx))
  (sSeq (sRet (eC (.bl true)))
  sNx)))
  sNx)
  (sSeq (sIf (bE (eOp2 isNF (eVar 1) (eC .non)))
  (sSeq (sRet (eOp2 isNF (eVar 0) (eC .non)))
  sNx)
  sNx)
  (sSeq (sIf (bE (eOp1 (isiF .bl) (eVar 1)))
  (sSeq (sRet (eAnd (eOp1 (isiF .bl) (eVar 0)) (eOp2 eqF (eVar 0) (eVar 1))))
  sNx)
  sNx)
  (sSeq (sIf (bE (eOp1 (isiF .str) (eVar 1)))
  (sSeq (sRet (eAnd (eOp1 (isiF .str) (eVar 0)) (eOp2 eqF (eVar 0) (eVar 1))))
  sNx)
  sNx)
  (sSeq (sRet (eAnd (eOp1 (isiF .int) (eVar 0)) (eAnd (eNot (eOp1 (isiF .bl) (eVar 0))) (eOp2 eqF (eVar 0) (eVar 1)))))
  sNx)))))
def fn_law_sameN : Nat → Fn
  | 0 => fun _ => .bad
  | n + 1 => runFn 2 3 (g_law_same (fn_law_sameN n))
def fn_law_same : Fn := fn_law_sameN 6
def g_Net_eq : Sv :=
  (sSeq (sRet (eAnd (eOp1 (isiCF kc_Net) (eVar 1)) (eAnd (eOp2 eqF (eAttr [0] 0 (eVar 0)) (eAttr [0] 0 (eVar 1))) (eOp2 eqF (eAttr [0] 1 (eVar 0)) (eAttr [0] 1 (eVar 1))))))
  sNx)
def fn_Net_eq : Fn := runFn 2 2 g_Net_eq
def g_write_net : Sv :=
  (sSeq (sSetF 1 (eLst (aCons (eFs [(eC (.str (PySem.Str.ofString "net "))), (eOp1 (fun d => (fmtF d).map D.str) (eAttr [0] 0 (eVar 0)))] PySem.Str.empty) aNil)))
  (sSeq (sFor (iVal (eAttr [0] 2 (eVar 0))) (tgN 2)
  (sSeq (sX (eMut 1 isLstD true appM (aCons (eIf (bTru (eVar 2)) (eM1 joinF (eC (.str (PySem.Str.ofString ","))) (eComp [3] (iVal (eVar 2)) (tgN 3) bYes (eOp1 strF (eVar 3)))) (eC (.str (PySem.Str.ofString "-")))) aNil)))
  sNx))
  (sSeq (sRet (eM1 joinF (eC (.str (PySem.Str.ofString "\n"))) (ePl 1)))
  sNx)))
def fn_write_net : Fn := runFn 1 4 g_write_net
def g_law_told : Sv :=
  (sSeq (sSet 1 (eCall [false] fn_law_text (aCons (eVar 0) aNil)))
  (sSeq (sSet 2 (eMake 0 fn_Net_init (aCons (eOp2 ixF (eVar 0) (eC (.int 0))) (aCons (eOp2 ixF (eVar 0) (eC (.int 1))) aNil))))
  (sSeq (sSet 3 (eCall [false] fn_read_net (aCons (eVar 1) aNil)))
  (sSeq (sIf (bOr (bNot (bE (eCall [false, false] fn_law_same (aCons (eCall [false] fn_write_net (aCons (eVar 2) aNil)) (aCons (eVar 1) aNil))))) (bNot (bE (eEqO 0 fn_Net_eq (eVar 3) (eVar 2)))))
  (sSeq (sRet (eC (.bl false)))
  sNx)
  sNx)
  (sSeq (sRet (eAnd (eCall [false, false] fn_law_same (aCons (eTup (aCons (eAttr [0] 0 (eVar 3)) (aCons (eAttr [0] 1 (eVar 3)) aNil))) (aCons (eVar 0) aNil))) (eCall [false, false] fn_law_same (aCons (eCall [false] fn_write_net (aCons (eVar 3) aNil)) (aCons (eVar 1) aNil)))))
  sNx)))))
def fn_law_told : Fn := runFn 1 4 g_law_told
def g_law : Sv :=
  (sSeq (sSetF 1 (eCall [false, false] fn_law_pool (aCons (eVar 0) (aCons (eC (.int 300)) aNil))))
  (sSeq (sSet 2 (eCall [true, false, false] fn_law_arcs (aCons (ePl 1) (aCons (eC (.int 12)) (aCons (eC (.int 2)) aNil)))))
  (sSeq (sIf (bNot (bE (eCall [false] fn_law_told (aCons (eVar 2) aNil))))
  (sSeq (sRet (eC (.bl false)))
  sNx)
  sNx)
  (sSeq (sIf (bE (eOp2 eqF (eOp1 lenF (eOp2 ixF (eVar 2) (eC (.int 1)))) (eC (.int 0))))
  (sSeq (sRet (eC (.bl true)))
  sNx)
  sNx)
  (sSeq (sSet 3 (eCall [true, false] fn_law_draw (aCons (ePl 1) (aCons (eOp1 lenF (eOp2 ixF (eVar 2) (eC (.int 1)))) aNil))))
  (sSeq (sRet (eCall [false] fn_law_told (aCons (eTup (aCons (eOp2 ixF (eVar 2) (eC (.int 0))) (aCons (eOp2 addF (eSl (eOp2 ixF (eVar 2) (eC (.int 1))) oNone (oSome (eVar 3))) (eSl (eOp2 ixF (eVar 2) (eC (.int 1))) (oSome (eOp2 addF (eVar 3) (eC (.int 1)))) oNone)) aNil))) aNil)))
  sNx))))))
def fn_law : Fn := runFn 1 4 g_law
end Lk11
namespace Lk11
open PySem PySem.Spec L2 KS PyProof.Rows
def main_body : List Stmt := PySem.Challenge.pw_keptandsaid_k11_texts_of_nets.main.body
def st_law_pool : Stmt := (main_body.getD 18 (.Pass ⟨0, 0, 0, 0⟩))
def st_law_draw : Stmt := (main_body.getD 19 (.Pass ⟨0, 0, 0, 0⟩))
def st_law_arcs : Stmt := (main_body.getD 21 (.Pass ⟨0, 0, 0, 0⟩))
def st_law_knows : Stmt := (main_body.getD 22 (.Pass ⟨0, 0, 0, 0⟩))
def st_law_text : Stmt := (main_body.getD 23 (.Pass ⟨0, 0, 0, 0⟩))
def st_is_below : Stmt := (main_body.getD 7 (.Pass ⟨0, 0, 0, 0⟩))
def st_first_wrong_arc : Stmt := (main_body.getD 8 (.Pass ⟨0, 0, 0, 0⟩))
def st_Net_init : Stmt := (inClass (main_body.getD 9 (.Pass ⟨0, 0, 0, 0⟩)) 0)
def st_number_of : Stmt := (main_body.getD 13 (.Pass ⟨0, 0, 0, 0⟩))
def st_size_of : Stmt := (main_body.getD 14 (.Pass ⟨0, 0, 0, 0⟩))
def st_known_of : Stmt := (main_body.getD 15 (.Pass ⟨0, 0, 0, 0⟩))
def st_read_net : Stmt := (main_body.getD 16 (.Pass ⟨0, 0, 0, 0⟩))
def st_law_same : Stmt := (main_body.getD 20 (.Pass ⟨0, 0, 0, 0⟩))
def st_Net_eq : Stmt := (inClass (main_body.getD 9 (.Pass ⟨0, 0, 0, 0⟩)) 1)
def st_write_net : Stmt := (main_body.getD 12 (.Pass ⟨0, 0, 0, 0⟩))
def st_law_told : Stmt := (main_body.getD 24 (.Pass ⟨0, 0, 0, 0⟩))
def st_law : Stmt := (main_body.getD 25 (.Pass ⟨0, 0, 0, 0⟩))
def st_xInvalidNet : Stmt := (inClass (main_body.getD 3 (.Pass ⟨0, 0, 0, 0⟩)) 0)
def st_xInvalidText : Stmt := (inClass (main_body.getD 4 (.Pass ⟨0, 0, 0, 0⟩)) 0)
structure Txt (G : SE) where
  f_law_pool : Addr
  fd_law_pool : FuncData
  f_law_draw : Addr
  fd_law_draw : FuncData
  f_law_arcs : Addr
  fd_law_arcs : FuncData
  f_law_knows : Addr
  fd_law_knows : FuncData
  f_law_text : Addr
  fd_law_text : FuncData
  f_is_below : Addr
  fd_is_below : FuncData
  f_first_wrong_arc : Addr
  fd_first_wrong_arc : FuncData
  f_Net_init : Addr
  fd_Net_init : FuncData
  f_number_of : Addr
  fd_number_of : FuncData
  f_size_of : Addr
  fd_size_of : FuncData
  f_known_of : Addr
  fd_known_of : FuncData
  f_read_net : Addr
  fd_read_net : FuncData
  f_law_same : Addr
  fd_law_same : FuncData
  f_Net_eq : Addr
  fd_Net_eq : FuncData
  f_write_net : Addr
  fd_write_net : FuncData
  f_law_told : Addr
  fd_law_told : FuncData
  f_law : Addr
  fd_law : FuncData
  of_InvalidNet : Addr
  od_InvalidNet : FuncData
  of_InvalidText : Addr
  od_InvalidText : FuncData
  F_law_pool : Fun G.K (PySem.Str.ofString "_law_pool") (PySem.Str.ofString "_law_pool") st_law_pool f_law_pool fd_law_pool
  b_law_pool : Binds G.K fd_law_pool [(PySem.Str.ofString "_law_script"), (PySem.Str.ofString "_law_many")] []
  m_law_pool : G.mg (PySem.Str.ofString "_law_pool") = some (.ref f_law_pool)
  F_law_draw : Fun G.K (PySem.Str.ofString "_law_draw") (PySem.Str.ofString "_law_draw") st_law_draw f_law_draw fd_law_draw
  b_law_draw : Binds G.K fd_law_draw [(PySem.Str.ofString "_law_pool_here"), (PySem.Str.ofString "_law_many")] []
  m_law_draw : G.mg (PySem.Str.ofString "_law_draw") = some (.ref f_law_draw)
  F_law_arcs : Fun G.K (PySem.Str.ofString "_law_arcs") (PySem.Str.ofString "_law_arcs") st_law_arcs f_law_arcs fd_law_arcs
  b_law_arcs : Binds G.K fd_law_arcs [(PySem.Str.ofString "_law_pool_here"), (PySem.Str.ofString "_law_most"), (PySem.Str.ofString "_law_odds")] []
  m_law_arcs : G.mg (PySem.Str.ofString "_law_arcs") = some (.ref f_law_arcs)
  F_law_knows : Fun G.K (PySem.Str.ofString "_law_knows") (PySem.Str.ofString "_law_knows") st_law_knows f_law_knows fd_law_knows
  b_law_knows : Binds G.K fd_law_knows [(PySem.Str.ofString "_law_net"), (PySem.Str.ofString "_law_i")] []
  m_law_knows : G.mg (PySem.Str.ofString "_law_knows") = some (.ref f_law_knows)
  F_law_text : Fun G.K (PySem.Str.ofString "_law_text") (PySem.Str.ofString "_law_text") st_law_text f_law_text fd_law_text
  b_law_text : Binds G.K fd_law_text [(PySem.Str.ofString "_law_net")] []
  m_law_text : G.mg (PySem.Str.ofString "_law_text") = some (.ref f_law_text)
  F_is_below : Fun G.K (PySem.Str.ofString "is_below") (PySem.Str.ofString "is_below") st_is_below f_is_below fd_is_below
  b_is_below : Binds G.K fd_is_below [(PySem.Str.ofString "value"), (PySem.Str.ofString "many")] []
  m_is_below : G.mg (PySem.Str.ofString "is_below") = some (.ref f_is_below)
  F_first_wrong_arc : Fun G.K (PySem.Str.ofString "first_wrong_arc") (PySem.Str.ofString "first_wrong_arc") st_first_wrong_arc f_first_wrong_arc fd_first_wrong_arc
  b_first_wrong_arc : Binds G.K fd_first_wrong_arc [(PySem.Str.ofString "size"), (PySem.Str.ofString "arcs")] []
  m_first_wrong_arc : G.mg (PySem.Str.ofString "first_wrong_arc") = some (.ref f_first_wrong_arc)
  F_Net_init : Fun G.K (PySem.Str.ofString "__init__") (PySem.Str.ofString "Net.__init__") st_Net_init f_Net_init fd_Net_init
  b_Net_init : Binds G.K fd_Net_init [(PySem.Str.ofString "self"), (PySem.Str.ofString "size"), (PySem.Str.ofString "arcs")] []
  F_number_of : Fun G.K (PySem.Str.ofString "number_of") (PySem.Str.ofString "number_of") st_number_of f_number_of fd_number_of
  b_number_of : Binds G.K fd_number_of [(PySem.Str.ofString "word")] []
  m_number_of : G.mg (PySem.Str.ofString "number_of") = some (.ref f_number_of)
  F_size_of : Fun G.K (PySem.Str.ofString "size_of") (PySem.Str.ofString "size_of") st_size_of f_size_of fd_size_of
  b_size_of : Binds G.K fd_size_of [(PySem.Str.ofString "line")] []
  m_size_of : G.mg (PySem.Str.ofString "size_of") = some (.ref f_size_of)
  F_known_of : Fun G.K (PySem.Str.ofString "known_of") (PySem.Str.ofString "known_of") st_known_of f_known_of fd_known_of
  b_known_of : Binds G.K fd_known_of [(PySem.Str.ofString "line"), (PySem.Str.ofString "place"), (PySem.Str.ofString "size")] []
  m_known_of : G.mg (PySem.Str.ofString "known_of") = some (.ref f_known_of)
  F_read_net : Fun G.K (PySem.Str.ofString "read_net") (PySem.Str.ofString "read_net") st_read_net f_read_net fd_read_net
  b_read_net : Binds G.K fd_read_net [(PySem.Str.ofString "text")] []
  m_read_net : G.mg (PySem.Str.ofString "read_net") = some (.ref f_read_net)
  F_law_same : Fun G.K (PySem.Str.ofString "_law_same") (PySem.Str.ofString "_law_same") st_law_same f_law_same fd_law_same
  b_law_same : Binds G.K fd_law_same [(PySem.Str.ofString "_law_told_here"), (PySem.Str.ofString "_law_due")] []
  m_law_same : G.mg (PySem.Str.ofString "_law_same") = some (.ref f_law_same)
  F_Net_eq : Fun G.K (PySem.Str.ofString "__eq__") (PySem.Str.ofString "Net.__eq__") st_Net_eq f_Net_eq fd_Net_eq
  b_Net_eq : Binds G.K fd_Net_eq [(PySem.Str.ofString "self"), (PySem.Str.ofString "other")] []
  F_write_net : Fun G.K (PySem.Str.ofString "write_net") (PySem.Str.ofString "write_net") st_write_net f_write_net fd_write_net
  b_write_net : Binds G.K fd_write_net [(PySem.Str.ofString "net")] []
  m_write_net : G.mg (PySem.Str.ofString "write_net") = some (.ref f_write_net)
  F_law_told : Fun G.K (PySem.Str.ofString "_law_told") (PySem.Str.ofString "_law_told") st_law_told f_law_told fd_law_told
  b_law_told : Binds G.K fd_law_told [(PySem.Str.ofString "_law_net")] []
  m_law_told : G.mg (PySem.Str.ofString "_law_told") = some (.ref f_law_told)
  F_law : Fun G.K (PySem.Str.ofString "law") (PySem.Str.ofString "law") st_law f_law fd_law
  b_law : Binds G.K fd_law [(PySem.Str.ofString "_law_script")] []
  m_law : G.mg (PySem.Str.ofString "law") = some (.ref f_law)
  n_abs : G.mg (PySem.Str.ofString "abs") = none
  n_all : G.mg (PySem.Str.ofString "all") = none
  n_bool : G.mg (PySem.Str.ofString "bool") = none
  n_enumerate : G.mg (PySem.Str.ofString "enumerate") = none
  n_int : G.mg (PySem.Str.ofString "int") = none
  n_isinstance : G.mg (PySem.Str.ofString "isinstance") = none
  n_len : G.mg (PySem.Str.ofString "len") = none
  n_list : G.mg (PySem.Str.ofString "list") = none
  n_min : G.mg (PySem.Str.ofString "min") = none
  n_range : G.mg (PySem.Str.ofString "range") = none
  n_sorted : G.mg (PySem.Str.ofString "sorted") = none
  n_str : G.mg (PySem.Str.ofString "str") = none
  n_tuple : G.mg (PySem.Str.ofString "tuple") = none
  n_zip : G.mg (PySem.Str.ofString "zip") = none
  c_FIGURES : ∃ u, G.mg (PySem.Str.ofString "FIGURES") = some u ∧ RelV (.str (PySem.Str.ofString "0123456789")) u
  c_MOST_PLACES : ∃ u, G.mg (PySem.Str.ofString "MOST_PLACES") = some u ∧ RelV (.int 12) u
  m_Net : G.mg (PySem.Str.ofString "Net") = some (.ref (G.cls 0))
  mk_Net : Mk G.K (G.cls 0) f_Net_init
  eqf_Net : PySem.W.findIn G.K (.ref (G.cls 0)) (PySem.Str.ofString "__eq__") = some (some (.ref f_Net_eq))
  eqi_Net : PySem.W.isFn G.K (.ref f_Net_eq) = true
  kc_Net : ∀ c b, kc_Net c = some b → C8.InsC G.K (G.cls c) ∧ PySem.W.kitOne G.K (.ref (G.cls c)) (.ref (G.cls 0)) = some b
  fx_size : (PySem.Str.ofString "size") = G.fld 0
  inj_size : ∀ m, G.fld m = G.fld 0 → m = 0
  fc_size : ∀ c ∈ ([0] : List Nat), Cls G.K (G.cls c) ∧ NoAttr G.K (G.cls c) (PySem.Str.ofString "size")
  f1_Net_size : ∀ c ∈ ([0] : List Nat), Cls G.K (G.cls c) ∧ NoAttr G.K (G.cls c) (PySem.Str.ofString "size")
  fx_arcs : (PySem.Str.ofString "arcs") = G.fld 1
  inj_arcs : ∀ m, G.fld m = G.fld 1 → m = 1
  fc_arcs : ∀ c ∈ ([0] : List Nat), Cls G.K (G.cls c) ∧ NoAttr G.K (G.cls c) (PySem.Str.ofString "arcs")
  f1_Net_arcs : ∀ c ∈ ([0] : List Nat), Cls G.K (G.cls c) ∧ NoAttr G.K (G.cls c) (PySem.Str.ofString "arcs")
  fx_knows : (PySem.Str.ofString "knows") = G.fld 2
  inj_knows : ∀ m, G.fld m = G.fld 2 → m = 2
  fc_knows : ∀ c ∈ ([0] : List Nat), Cls G.K (G.cls c) ∧ NoAttr G.K (G.cls c) (PySem.Str.ofString "knows")
  f1_Net_knows : ∀ c ∈ ([0] : List Nat), Cls G.K (G.cls c) ∧ NoAttr G.K (G.cls c) (PySem.Str.ofString "knows")
  ox_InvalidNet : OexC G.K (G.ecls 0)
  oi_InvalidNet : PySem.W.findIn G.K (.ref (G.ecls 0)) (PySem.Str.ofString "__init__") = some (some (.ref of_InvalidNet))
  ot_InvalidNet : PySem.W.typeIn G.K (.ref of_InvalidNet) = some (.type "function")
  oF_InvalidNet : Fun G.K (PySem.Str.ofString "__init__") (PySem.Str.ofString "InvalidNet.__init__") st_xInvalidNet of_InvalidNet od_InvalidNet
  ob_InvalidNet : Binds G.K od_InvalidNet [(PySem.Str.ofString "self"), (PySem.Str.ofString "part"), (PySem.Str.ofString "place")] []
  om_InvalidNet : G.mg (PySem.Str.ofString "InvalidNet") = some (.ref (G.ecls 0))
  oe_InvalidNet : G.efld 0 = [(PySem.Str.ofString "part"), (PySem.Str.ofString "place")]
  on_InvalidNet : ∀ n ∈ ([(PySem.Str.ofString "part"), (PySem.Str.ofString "place")] : List Str), PySem.W.findIn G.K (.ref (G.ecls 0)) n = some none
  ox_InvalidText : OexC G.K (G.ecls 1)
  oi_InvalidText : PySem.W.findIn G.K (.ref (G.ecls 1)) (PySem.Str.ofString "__init__") = some (some (.ref of_InvalidText))
  ot_InvalidText : PySem.W.typeIn G.K (.ref of_InvalidText) = some (.type "function")
  oF_InvalidText : Fun G.K (PySem.Str.ofString "__init__") (PySem.Str.ofString "InvalidText.__init__") st_xInvalidText of_InvalidText od_InvalidText
  ob_InvalidText : Binds G.K od_InvalidText [(PySem.Str.ofString "self"), (PySem.Str.ofString "text"), (PySem.Str.ofString "at")] []
  om_InvalidText : G.mg (PySem.Str.ofString "InvalidText") = some (.ref (G.ecls 1))
  oe_InvalidText : G.efld 1 = [(PySem.Str.ofString "text"), (PySem.Str.ofString "at")]
  on_InvalidText : ∀ n ∈ ([(PySem.Str.ofString "text"), (PySem.Str.ofString "at")] : List Str), PySem.W.findIn G.K (.ref (G.ecls 1)) n = some none
section
variable {G : SE}
abbrev WB (E : XK) : WX := fun cls d _ H => E cls d H
theorem sc_xInvalidNet : FnScope [(PySem.Str.ofString "self"), (PySem.Str.ofString "part"), (PySem.Str.ofString "place")] [(PySem.Str.ofString "self"), (PySem.Str.ofString "part"), (PySem.Str.ofString "place")] (defScope st_xInvalidNet) := ⟨rfl, rfl, rfl, by decide +kernel, rfl, by decide +kernel, by decide +kernel⟩
theorem Txt.ok_InvalidNet (T : Txt G) : FnOk G.P G.w G.K G.mg G.base (L2.CX G.P G.w) 1 T.of_InvalidNet T.od_InvalidNet [(PySem.Str.ofString "self"), (PySem.Str.ofString "part"), (PySem.Str.ofString "place")] (oexSp (G.ecls 0) (G.efld 0)) := by
  rw [T.oe_InvalidNet]
  exact fn_oex 0 T.oF_InvalidNet sc_xInvalidNet rfl (by decide) T.ox_InvalidNet (by decide) (by decide) (by decide +kernel) T.on_InvalidNet fun cdv A outer s H E => (pss_cons (ps_ost (pe_var (i := 0) rfl (by first | exact Or.inl rfl | exact Or.inr (Or.inl rfl))) (pe_var (i := 1) rfl (by first | exact Or.inl rfl | exact Or.inr (Or.inl rfl)))) (pss_cons (ps_ost (pe_var (i := 0) rfl (by first | exact Or.inl rfl | exact Or.inr (Or.inl rfl))) (pe_var (i := 2) rfl (by first | exact Or.inl rfl | exact Or.inr (Or.inl rfl)))) pss_nil))
theorem Txt.ol_InvalidNet (T : Txt G) : (G.efld 0).length = 2 := by rw [T.oe_InvalidNet]; rfl
theorem sc_xInvalidText : FnScope [(PySem.Str.ofString "self"), (PySem.Str.ofString "text"), (PySem.Str.ofString "at")] [(PySem.Str.ofString "self"), (PySem.Str.ofString "text"), (PySem.Str.ofString "at")] (defScope st_xInvalidText) := ⟨rfl, rfl, rfl, by decide +kernel, rfl, by decide +kernel, by decide +kernel⟩
theorem Txt.ok_InvalidText (T : Txt G) : FnOk G.P G.w G.K G.mg G.base (L2.CX G.P G.w) 1 T.of_InvalidText T.od_InvalidText [(PySem.Str.ofString "self"), (PySem.Str.ofString "text"), (PySem.Str.ofString "at")] (oexSp (G.ecls 1) (G.efld 1)) := by
  rw [T.oe_InvalidText]
  exact fn_oex 0 T.oF_InvalidText sc_xInvalidText rfl (by decide) T.ox_InvalidText (by decide) (by decide) (by decide +kernel) T.on_InvalidText fun cdv A outer s H E => (pss_cons (ps_ost (pe_var (i := 0) rfl (by first | exact Or.inl rfl | exact Or.inr (Or.inl rfl))) (pe_var (i := 1) rfl (by first | exact Or.inl rfl | exact Or.inr (Or.inl rfl)))) (pss_cons (ps_ost (pe_var (i := 0) rfl (by first | exact Or.inl rfl | exact Or.inr (Or.inl rfl))) (pe_var (i := 2) rfl (by first | exact Or.inl rfl | exact Or.inr (Or.inl rfl)))) pss_nil))
theorem Txt.ol_InvalidText (T : Txt G) : (G.efld 1).length = 2 := by rw [T.oe_InvalidText]; rfl
theorem sc_law_pool : FnScope [(PySem.Str.ofString "_law_script"), (PySem.Str.ofString "_law_many"), (PySem.Str.ofString "_law_pool_here"), (PySem.Str.ofString "_law_total"), (PySem.Str.ofString "_law_cell"), (PySem.Str.ofString "_law_rest"), (PySem.Str.ofString "_law_k"), (PySem.Str.ofString "_law_first"), (PySem.Str.ofString "_law_second")] [(PySem.Str.ofString "_law_script"), (PySem.Str.ofString "_law_many")] (defScope st_law_pool) := ⟨rfl, rfl, rfl, by decide +kernel, rfl, by decide +kernel, by decide +kernel⟩
theorem ret_law_pool : ∀ ds fr, g_law_pool (startF 9 ds) ≠ .ok .nx fr := fun ds fr => (noNx_seq (noNx_seq (noNx_seq (noNx_seq (noNx_seq (noNx_seq (noNx_seqL noNx_retV))))))) _ _
theorem ok_law_pool (T : Txt G) : FnOk G.P G.w G.K G.mg G.base (L2.CX G.P G.w) 1 T.f_law_pool T.fd_law_pool [(PySem.Str.ofString "_law_script"), (PySem.Str.ofString "_law_many")] (spOf G [false, false] true fn_law_pool) :=
  fnok_of (G := G) (M := [2]) T.F_law_pool sc_law_pool rfl (by decide) (.inr ret_law_pool) fun cdv A outer s H E io Hv hio hr =>
  (ss_cons (s_setF (i := 2) (show 2 ∈ ([2] : List Nat) by decide) (io_ne hio (by decide)) sc_law_pool.nd (d_lst a_nil))
  (ss_cons (s_set (i := 3) (show ¬ 3 ∈ ([2] : List Nat) by decide) sc_law_pool.nd d_int)
  (ss_cons (s_for (passes_of rfl) rfl (i_val (d_var (i := 0) (show ¬ 0 ∈ ([2] : List Nat) by decide))) (g_name (i := 4) (show ¬ 4 ∈ ([2] : List Nat) by decide) sc_law_pool.nd)
  (ss_cons (s_set (i := 5) (show ¬ 5 ∈ ([2] : List Nat) by decide) sc_law_pool.nd (d_t1 cas_int call_intA T.n_int (d_b1 cas_abs call_abs T.n_abs (d_var (i := 4) (show ¬ 4 ∈ ([2] : List Nat) by decide)))))
  (ss_cons (s_if (dt_cmp ops_ge op_ge (d_var (i := 5) (show ¬ 5 ∈ ([2] : List Nat) by decide)) (d_pow d_int d_int) rfl)
  (ss_cons (s_for (passes_of rfl) rfl (i_range1 (d_b2 cas_min2 (call_min2 rfl) T.n_min d_int (d_sub (d_var (i := 1) (show ¬ 1 ∈ ([2] : List Nat) by decide)) (d_b1 (cas_len rfl) call_len T.n_len (d_pl (i := 2) (show 2 ∈ ([2] : List Nat) by decide))))) T.n_range) (g_name (i := 6) (show ¬ 6 ∈ ([2] : List Nat) by decide) sc_law_pool.nd)
  (ss_cons (s_expr (d_mut (i := 2) kd_lst tyV_lst mus_append mt_append F.plainAttrs_list F.slot_list_append F.type_list_append (show 2 ∈ ([2] : List Nat) by decide) (a_cons (d_mod (d_t1 cas_int call_intA T.n_int (d_var (i := 5) (show ¬ 5 ∈ ([2] : List Nat) by decide))) d_int) a_nil)))
  (ss_cons (s_set (i := 5) (show ¬ 5 ∈ ([2] : List Nat) by decide) sc_law_pool.nd (d_fdiv (d_var (i := 5) (show ¬ 5 ∈ ([2] : List Nat) by decide)) d_int))
  (ss_cons (s_if (dt_cmp (ops_eqA) (op_eqA (u64 hr)) (d_var (i := 5) (show ¬ 5 ∈ ([2] : List Nat) by decide)) d_int rfl)
  (ss_cons s_break
  ss_nil)
  ss_nil)
  ss_nil))))
  ss_nil)
  (ss_cons (s_set (i := 7) (show ¬ 7 ∈ ([2] : List Nat) by decide) sc_law_pool.nd (d_mod (d_t1 cas_int call_intA T.n_int (d_add (d_add (d_mul (d_var (i := 4) (show ¬ 4 ∈ ([2] : List Nat) by decide)) d_int) (d_mul (d_b1 (cas_len rfl) call_len T.n_len (d_pl (i := 2) (show 2 ∈ ([2] : List Nat) by decide))) d_int)) d_int)) d_int))
  (ss_cons (s_set (i := 8) (show ¬ 8 ∈ ([2] : List Nat) by decide) sc_law_pool.nd (d_mod (d_t1 cas_int call_intA T.n_int (d_add (d_mul (d_var (i := 7) (show ¬ 7 ∈ ([2] : List Nat) by decide)) (d_var (i := 7) (show ¬ 7 ∈ ([2] : List Nat) by decide))) d_int)) d_int))
  (ss_cons (s_expr (d_mut (i := 2) kd_lst tyV_lst mus_append mt_append F.plainAttrs_list F.slot_list_append F.type_list_append (show 2 ∈ ([2] : List Nat) by decide) (a_cons (d_mod (d_t1 cas_int call_intA T.n_int (d_fdiv (d_var (i := 8) (show ¬ 8 ∈ ([2] : List Nat) by decide)) d_int)) d_int) a_nil)))
  (ss_cons (s_expr (d_mut (i := 2) kd_lst tyV_lst mus_append mt_append F.plainAttrs_list F.slot_list_append F.type_list_append (show 2 ∈ ([2] : List Nat) by decide) (a_cons (d_mod (d_mod (d_t1 cas_int call_intA T.n_int (d_add (d_mul (d_var (i := 8) (show ¬ 8 ∈ ([2] : List Nat) by decide)) d_int) (d_var (i := 7) (show ¬ 7 ∈ ([2] : List Nat) by decide)))) d_int) d_int) a_nil)))
  ss_nil)))))
  (ss_cons (s_set (i := 3) (show ¬ 3 ∈ ([2] : List Nat) by decide) sc_law_pool.nd (d_mod (d_t1 cas_int call_intA T.n_int (d_add (d_mul (d_var (i := 3) (show ¬ 3 ∈ ([2] : List Nat) by decide)) d_int) (d_var (i := 4) (show ¬ 4 ∈ ([2] : List Nat) by decide)))) d_int))
  ss_nil))))
  (ss_cons (s_for (passes_of rfl) rfl (i_range1 (d_var (i := 1) (show ¬ 1 ∈ ([2] : List Nat) by decide)) T.n_range) (g_name (i := 6) (show ¬ 6 ∈ ([2] : List Nat) by decide) sc_law_pool.nd)
  (ss_cons (s_set (i := 3) (show ¬ 3 ∈ ([2] : List Nat) by decide) sc_law_pool.nd (d_mod (d_t1 cas_int call_intA T.n_int (d_add (d_add (d_mul (d_var (i := 3) (show ¬ 3 ∈ ([2] : List Nat) by decide)) d_int) (d_mul (d_var (i := 6) (show ¬ 6 ∈ ([2] : List Nat) by decide)) d_int)) d_int)) d_int))
  (ss_cons (s_expr (d_mut (i := 2) kd_lst tyV_lst mus_append mt_append F.plainAttrs_list F.slot_list_append F.type_list_append (show 2 ∈ ([2] : List Nat) by decide) (a_cons (d_mod (d_t1 cas_int call_intA T.n_int (d_fdiv (d_var (i := 3) (show ¬ 3 ∈ ([2] : List Nat) by decide)) d_int)) d_int) a_nil)))
  ss_nil)))
  (ss_cons (s_setF (i := 2) (show 2 ∈ ([2] : List Nat) by decide) (io_ne hio (by decide)) sc_law_pool.nd (d_slF (d_pl (i := 2) (show 2 ∈ ([2] : List Nat) by decide)) do_none (do_some (d_var (i := 1) (show ¬ 1 ∈ ([2] : List Nat) by decide)))))
  (ss_cons (s_expr (d_mut0 (i := 2) kd_lst tyV_lst mus_reverse mt_reverse F.plainAttrs_list F.slot_list_reverse F.type_list_reverse (show 2 ∈ ([2] : List Nat) by decide)))
  (ss_cons (s_retV (i := 2) (show 2 ∈ ([2] : List Nat) by decide) (io_ne hio (by decide)))
  ss_nil)))))))
theorem sc_law_draw : FnScope [(PySem.Str.ofString "_law_pool_here"), (PySem.Str.ofString "_law_many")] [(PySem.Str.ofString "_law_pool_here"), (PySem.Str.ofString "_law_many")] (defScope st_law_draw) := ⟨rfl, rfl, rfl, by decide +kernel, rfl, by decide +kernel, by decide +kernel⟩
theorem ok_law_draw (T : Txt G) : FnOk G.P G.w G.K G.mg G.base (L2.CX G.P G.w) 1 T.f_law_draw T.fd_law_draw [(PySem.Str.ofString "_law_pool_here"), (PySem.Str.ofString "_law_many")] (spOf G [true, false] false fn_law_draw) :=
  fnok_of (G := G) (M := [0]) T.F_law_draw sc_law_draw rfl (by decide) (.inl rfl) fun cdv A outer s H E io Hv hio hr =>
  (ss_cons (s_if (dt_cmp (ops_eqA) (op_eqA (u64 hr)) (d_b1 (cas_len rfl) call_len T.n_len (d_pl (i := 0) (show 0 ∈ ([0] : List Nat) by decide))) d_int rfl)
  (ss_cons (s_ret rfl d_int)
  ss_nil)
  ss_nil)
  (ss_cons (s_ret rfl (d_mod (d_t1 cas_int call_intA T.n_int (d_mut0 (i := 0) kd_lst tyV_lst mus_pop mt_pop F.plainAttrs_list F.slot_list_pop F.type_list_pop (show 0 ∈ ([0] : List Nat) by decide))) (d_var (i := 1) (show ¬ 1 ∈ ([0] : List Nat) by decide))))
  ss_nil))
theorem sc_law_arcs : FnScope [(PySem.Str.ofString "_law_pool_here"), (PySem.Str.ofString "_law_most"), (PySem.Str.ofString "_law_odds"), (PySem.Str.ofString "_law_size"), (PySem.Str.ofString "_law_there"), (PySem.Str.ofString "_law_turn"), (PySem.Str.ofString "_law_step"), (PySem.Str.ofString "_law_k"), (PySem.Str.ofString "_law_one"), (PySem.Str.ofString "_law_two"), (PySem.Str.ofString "_law_many"), (PySem.Str.ofString "_law_i"), (PySem.Str.ofString "_law_j")] [(PySem.Str.ofString "_law_pool_here"), (PySem.Str.ofString "_law_most"), (PySem.Str.ofString "_law_odds")] (defScope st_law_arcs) := ⟨rfl, rfl, rfl, by decide +kernel, rfl, by decide +kernel, by decide +kernel⟩
theorem ok_law_arcs (T : Txt G) : FnOk G.P G.w G.K G.mg G.base (L2.CX G.P G.w) 2 T.f_law_arcs T.fd_law_arcs [(PySem.Str.ofString "_law_pool_here"), (PySem.Str.ofString "_law_most"), (PySem.Str.ofString "_law_odds")] (spOf G [true, false, false] false fn_law_arcs) :=
  fnok_of (G := G) (M := [0, 4]) T.F_law_arcs sc_law_arcs rfl (by decide) (.inl rfl) fun cdv A outer s H E io Hv hio hr =>
  (ss_cons (s_set (i := 3) (show ¬ 3 ∈ ([0, 4] : List Nat) by decide) sc_law_arcs.nd (d_add d_int (d_call (ok_law_draw T) (hr.mono (by decide)) T.m_law_draw T.F_law_draw.kp T.b_law_draw (fun σ => passAt (takes_of rfl rfl rfl rfl) σ) (a_cons (d_pl (i := 0) (show 0 ∈ ([0, 4] : List Nat) by decide)) (a_cons (d_var (i := 1) (show ¬ 1 ∈ ([0, 4] : List Nat) by decide)) a_nil)))))
  (ss_cons (s_setF (i := 4) (show 4 ∈ ([0, 4] : List Nat) by decide) (io_ne hio (by decide)) sc_law_arcs.nd d_dnew)
  (ss_cons (s_if (dt_cmp ops_lt op_lt (d_call (ok_law_draw T) (hr.mono (by decide)) T.m_law_draw T.F_law_draw.kp T.b_law_draw (fun σ => passAt (takes_of rfl rfl rfl rfl) σ) (a_cons (d_pl (i := 0) (show 0 ∈ ([0, 4] : List Nat) by decide)) (a_cons d_int a_nil))) (d_var (i := 2) (show ¬ 2 ∈ ([0, 4] : List Nat) by decide)) rfl)
  (ss_cons (s_set (i := 3) (show ¬ 3 ∈ ([0, 4] : List Nat) by decide) sc_law_arcs.nd d_int)
  (ss_cons (s_set (i := 5) (show ¬ 5 ∈ ([0, 4] : List Nat) by decide) sc_law_arcs.nd (d_call (ok_law_draw T) (hr.mono (by decide)) T.m_law_draw T.F_law_draw.kp T.b_law_draw (fun σ => passAt (takes_of rfl rfl rfl rfl) σ) (a_cons (d_pl (i := 0) (show 0 ∈ ([0, 4] : List Nat) by decide)) (a_cons d_int a_nil))))
  (ss_cons (s_set (i := 6) (show ¬ 6 ∈ ([0, 4] : List Nat) by decide) sc_law_arcs.nd (d_add d_int (d_call (ok_law_draw T) (hr.mono (by decide)) T.m_law_draw T.F_law_draw.kp T.b_law_draw (fun σ => passAt (takes_of rfl rfl rfl rfl) σ) (a_cons (d_pl (i := 0) (show 0 ∈ ([0, 4] : List Nat) by decide)) (a_cons d_int a_nil)))))
  (ss_cons (s_for (passes_of rfl) rfl (i_range1 d_int T.n_range) (g_name (i := 7) (show ¬ 7 ∈ ([0, 4] : List Nat) by decide) sc_law_arcs.nd)
  (ss_cons (s_set (i := 8) (show ¬ 8 ∈ ([0, 4] : List Nat) by decide) sc_law_arcs.nd (d_mod (d_t1 cas_int call_intA T.n_int (d_add (d_var (i := 5) (show ¬ 5 ∈ ([0, 4] : List Nat) by decide)) (d_mul (d_var (i := 7) (show ¬ 7 ∈ ([0, 4] : List Nat) by decide)) (d_var (i := 6) (show ¬ 6 ∈ ([0, 4] : List Nat) by decide))))) d_int))
  (ss_cons (s_set (i := 9) (show ¬ 9 ∈ ([0, 4] : List Nat) by decide) sc_law_arcs.nd (d_mod (d_t1 cas_int call_intA T.n_int (d_add (d_add (d_var (i := 5) (show ¬ 5 ∈ ([0, 4] : List Nat) by decide)) (d_mul (d_var (i := 7) (show ¬ 7 ∈ ([0, 4] : List Nat) by decide)) (d_var (i := 6) (show ¬ 6 ∈ ([0, 4] : List Nat) by decide)))) (d_var (i := 6) (show ¬ 6 ∈ ([0, 4] : List Nat) by decide)))) d_int))
  (ss_cons (s_dput (i := 4) (u1 hr) (show 4 ∈ ([0, 4] : List Nat) by decide) (a_cons (d_var (i := 8) (show ¬ 8 ∈ ([0, 4] : List Nat) by decide)) (a_cons (d_var (i := 9) (show ¬ 9 ∈ ([0, 4] : List Nat) by decide)) a_nil)) d_bl)
  (ss_cons (s_dput (i := 4) (u1 hr) (show 4 ∈ ([0, 4] : List Nat) by decide) (a_cons (d_var (i := 9) (show ¬ 9 ∈ ([0, 4] : List Nat) by decide)) (a_cons (d_var (i := 8) (show ¬ 8 ∈ ([0, 4] : List Nat) by decide)) a_nil)) d_bl)
  ss_nil)))))
  (ss_cons (s_for (passes_of rfl) rfl (i_range1 (d_call (ok_law_draw T) (hr.mono (by decide)) T.m_law_draw T.F_law_draw.kp T.b_law_draw (fun σ => passAt (takes_of rfl rfl rfl rfl) σ) (a_cons (d_pl (i := 0) (show 0 ∈ ([0, 4] : List Nat) by decide)) (a_cons d_int a_nil))) T.n_range) (g_name (i := 7) (show ¬ 7 ∈ ([0, 4] : List Nat) by decide) sc_law_arcs.nd)
  (ss_cons (s_set (i := 8) (show ¬ 8 ∈ ([0, 4] : List Nat) by decide) sc_law_arcs.nd (d_call (ok_law_draw T) (hr.mono (by decide)) T.m_law_draw T.F_law_draw.kp T.b_law_draw (fun σ => passAt (takes_of rfl rfl rfl rfl) σ) (a_cons (d_pl (i := 0) (show 0 ∈ ([0, 4] : List Nat) by decide)) (a_cons d_int a_nil))))
  (ss_cons (s_set (i := 9) (show ¬ 9 ∈ ([0, 4] : List Nat) by decide) sc_law_arcs.nd (d_mod (d_t1 cas_int call_intA T.n_int (d_add (d_add (d_var (i := 8) (show ¬ 8 ∈ ([0, 4] : List Nat) by decide)) d_int) (d_call (ok_law_draw T) (hr.mono (by decide)) T.m_law_draw T.F_law_draw.kp T.b_law_draw (fun σ => passAt (takes_of rfl rfl rfl rfl) σ) (a_cons (d_pl (i := 0) (show 0 ∈ ([0, 4] : List Nat) by decide)) (a_cons d_int a_nil))))) d_int))
  (ss_cons (s_if (dt_dinE (i := 4) (u1 hr) (show 4 ∈ ([0, 4] : List Nat) by decide) (a_cons (d_var (i := 8) (show ¬ 8 ∈ ([0, 4] : List Nat) by decide)) (a_cons (d_var (i := 9) (show ¬ 9 ∈ ([0, 4] : List Nat) by decide)) a_nil)))
  (ss_cons (s_expr (d_dpop (i := 4) (u1 hr) (show 4 ∈ ([0, 4] : List Nat) by decide) (a_cons (d_var (i := 8) (show ¬ 8 ∈ ([0, 4] : List Nat) by decide)) (a_cons (d_var (i := 9) (show ¬ 9 ∈ ([0, 4] : List Nat) by decide)) a_nil))))
  ss_nil)
  (ss_cons (s_dput (i := 4) (u1 hr) (show 4 ∈ ([0, 4] : List Nat) by decide) (a_cons (d_var (i := 8) (show ¬ 8 ∈ ([0, 4] : List Nat) by decide)) (a_cons (d_var (i := 9) (show ¬ 9 ∈ ([0, 4] : List Nat) by decide)) a_nil)) d_bl)
  ss_nil))
  ss_nil))))
  ss_nil)))))
  (ss_cons (s_set (i := 10) (show ¬ 10 ∈ ([0, 4] : List Nat) by decide) sc_law_arcs.nd (d_ix (DF.de (d_lst (a_cons d_int (a_cons d_int (a_cons d_int (a_cons d_int (a_cons d_int a_nil))))))) (d_call (ok_law_draw T) (hr.mono (by decide)) T.m_law_draw T.F_law_draw.kp T.b_law_draw (fun σ => passAt (takes_of rfl rfl rfl rfl) σ) (a_cons (d_pl (i := 0) (show 0 ∈ ([0, 4] : List Nat) by decide)) (a_cons d_int a_nil)))))
  (ss_cons (s_for (passes_of rfl) rfl (i_range1 (d_var (i := 3) (show ¬ 3 ∈ ([0, 4] : List Nat) by decide)) T.n_range) (g_name (i := 11) (show ¬ 11 ∈ ([0, 4] : List Nat) by decide) sc_law_arcs.nd)
  (ss_cons (s_for (passes_of rfl) rfl (i_range1 (d_var (i := 3) (show ¬ 3 ∈ ([0, 4] : List Nat) by decide)) T.n_range) (g_name (i := 12) (show ¬ 12 ∈ ([0, 4] : List Nat) by decide) sc_law_arcs.nd)
  (ss_cons (s_if (DW.dt (dw_and (dt_cmp (ops_neA) (op_neA (u64 hr)) (d_var (i := 11) (show ¬ 11 ∈ ([0, 4] : List Nat) by decide)) (d_var (i := 12) (show ¬ 12 ∈ ([0, 4] : List Nat) by decide)) rfl) (dw_and1 (dt_cmp ops_lt op_lt (d_call (ok_law_draw T) (hr.mono (by decide)) T.m_law_draw T.F_law_draw.kp T.b_law_draw (fun σ => passAt (takes_of rfl rfl rfl rfl) σ) (a_cons (d_pl (i := 0) (show 0 ∈ ([0, 4] : List Nat) by decide)) (a_cons d_int a_nil))) (d_var (i := 10) (show ¬ 10 ∈ ([0, 4] : List Nat) by decide)) rfl))))
  (ss_cons (s_dput (i := 4) (u1 hr) (show 4 ∈ ([0, 4] : List Nat) by decide) (a_cons (d_var (i := 11) (show ¬ 11 ∈ ([0, 4] : List Nat) by decide)) (a_cons (d_var (i := 12) (show ¬ 12 ∈ ([0, 4] : List Nat) by decide)) a_nil)) d_bl)
  ss_nil)
  ss_nil)
  ss_nil))
  ss_nil))
  ss_nil)))
  (ss_cons (s_ret rfl (d_tup (a_cons (d_var (i := 3) (show ¬ 3 ∈ ([0, 4] : List Nat) by decide)) (a_cons (d_t1 (cas_tup rfl) call_tuple_of T.n_tuple (DF.de (d_sortD (i := 4) (u16 hr) rfl (show 4 ∈ ([0, 4] : List Nat) by decide) T.n_sorted))) a_nil))))
  ss_nil))))
theorem sc_law_knows : FnScope [(PySem.Str.ofString "_law_net"), (PySem.Str.ofString "_law_i"), (PySem.Str.ofString "_law_arc")] [(PySem.Str.ofString "_law_net"), (PySem.Str.ofString "_law_i")] (defScope st_law_knows) := ⟨rfl, rfl, rfl, by decide +kernel, rfl, by decide +kernel, by decide +kernel⟩
theorem ok_law_knows (T : Txt G) : FnOk G.P G.w G.K G.mg G.base (L2.CX G.P G.w) 1 T.f_law_knows T.fd_law_knows [(PySem.Str.ofString "_law_net"), (PySem.Str.ofString "_law_i")] (spOf G [false, false] false fn_law_knows) :=
  fnok_of (G := G) (M := []) T.F_law_knows sc_law_knows rfl (by decide) (.inl rfl) fun cdv A outer s H E io Hv hio hr =>
  (ss_cons (s_ret rfl (d_t1 (cas_tup rfl) call_tuple_of T.n_tuple (DF.de (d_lc (own := [((PySem.Str.ofString "_law_arc"), 2)]) (show ∀ v ∈ ([2] : List Nat), ¬ v ∈ ([] : List Nat) by decide) (by decide) rfl sc_law_knows.nd (i_val (d_ix (d_var (i := 0) (show ¬ 0 ∈ ([] : List Nat) by decide)) d_int)) (blkOk_by (by kernel_rfl)) (fun _ _ _ _ _ => (g_name (i := 2) (show ¬ 2 ∈ ([] : List Nat) by decide) sc_law_knows.nd)) (fun _ _ _ _ _ => (pts1 (dt_cmp (ops_eqA) (op_eqA (u64 hr)) (d_ix (d_var (i := 2) (show ¬ 2 ∈ ([] : List Nat) by decide)) d_int) (d_var (i := 1) (show ¬ 1 ∈ ([] : List Nat) by decide)) rfl))) (fun _ _ _ _ _ => (d_ix (d_var (i := 2) (show ¬ 2 ∈ ([] : List Nat) by decide)) d_int))))))
  ss_nil)
theorem sc_law_text : FnScope [(PySem.Str.ofString "_law_net"), (PySem.Str.ofString "_law_lines"), (PySem.Str.ofString "_law_i"), (PySem.Str.ofString "_law_knows_here"), (PySem.Str.ofString "_law_j")] [(PySem.Str.ofString "_law_net")] (defScope st_law_text) := ⟨rfl, rfl, rfl, by decide +kernel, rfl, by decide +kernel, by decide +kernel⟩
theorem ok_law_text (T : Txt G) : FnOk G.P G.w G.K G.mg G.base (L2.CX G.P G.w) 2 T.f_law_text T.fd_law_text [(PySem.Str.ofString "_law_net")] (spOf G [false] false fn_law_text) :=
  fnok_of (G := G) (M := [1]) T.F_law_text sc_law_text rfl (by decide) (.inl rfl) fun cdv A outer s H E io Hv hio hr =>
  (ss_cons (s_setF (i := 1) (show 1 ∈ ([1] : List Nat) by decide) (io_ne hio (by decide)) sc_law_text.nd (d_lst (a_cons (d_add d_str (d_t1 cas_str call_str_int T.n_str (d_ix (d_var (i := 0) (show ¬ 0 ∈ ([1] : List Nat) by decide)) d_int))) a_nil)))
  (ss_cons (s_for (passes_of rfl) rfl (i_range1 (d_ix (d_var (i := 0) (show ¬ 0 ∈ ([1] : List Nat) by decide)) d_int) T.n_range) (g_name (i := 2) (show ¬ 2 ∈ ([1] : List Nat) by decide) sc_law_text.nd)
  (ss_cons (s_set (i := 3) (show ¬ 3 ∈ ([1] : List Nat) by decide) sc_law_text.nd (d_call (ok_law_knows T) (hr.mono (by decide)) T.m_law_knows T.F_law_knows.kp T.b_law_knows (fun σ => passAt (takes_of rfl rfl rfl rfl) σ) (a_cons (d_var (i := 0) (show ¬ 0 ∈ ([1] : List Nat) by decide)) (a_cons (d_var (i := 2) (show ¬ 2 ∈ ([1] : List Nat) by decide)) a_nil))))
  (ss_cons (s_expr (d_mut (i := 1) kd_lst tyV_lst mus_append mt_append F.plainAttrs_list F.slot_list_append F.type_list_append (show 1 ∈ ([1] : List Nat) by decide) (a_cons (d_ix (DF.de (d_lst (a_cons (d_join d_str (DF.de (d_lc (own := [((PySem.Str.ofString "_law_j"), 4)]) (show ∀ v ∈ ([4] : List Nat), ¬ v ∈ ([1] : List Nat) by decide) (by decide) rfl sc_law_text.nd (i_val (d_var (i := 3) (show ¬ 3 ∈ ([1] : List Nat) by decide))) (blkOk_by (by kernel_rfl)) (fun _ _ _ _ _ => (g_name (i := 4) (show ¬ 4 ∈ ([1] : List Nat) by decide) sc_law_text.nd)) (fun _ _ _ _ _ => d_yes) (fun _ _ _ _ _ => (d_t1 cas_str call_str_int T.n_str (d_var (i := 4) (show ¬ 4 ∈ ([1] : List Nat) by decide))))))) (a_cons d_str a_nil)))) (d_t1 cas_int call_intA T.n_int (d_cmp (ops_eqA) (op_eqA (u64 hr)) (d_b1 (cas_len rfl) call_len T.n_len (d_var (i := 3) (show ¬ 3 ∈ ([1] : List Nat) by decide))) d_int rfl))) a_nil)))
  ss_nil)))
  (ss_cons (s_ret rfl (d_join d_str (d_pl (i := 1) (show 1 ∈ ([1] : List Nat) by decide))))
  ss_nil)))
theorem sc_is_below : FnScope [(PySem.Str.ofString "value"), (PySem.Str.ofString "many")] [(PySem.Str.ofString "value"), (PySem.Str.ofString "many")] (defScope st_is_below) := ⟨rfl, rfl, rfl, by decide +kernel, rfl, by decide +kernel, by decide +kernel⟩
theorem ok_is_below (T : Txt G) : FnOk G.P G.w G.K G.mg G.base (L2.CX G.P G.w) 1 T.f_is_below T.fd_is_below [(PySem.Str.ofString "value"), (PySem.Str.ofString "many")] (spOf G [false, false] false fn_is_below) :=
  fnok_of (G := G) (M := []) T.F_is_below sc_is_below rfl (by decide) (.inl rfl) fun cdv A outer s H E io Hv hio hr =>
  (ss_cons (s_ret rfl (d_and (d_isi .int (d_var (i := 0) (show ¬ 0 ∈ ([] : List Nat) by decide)) T.n_isinstance T.n_int (by decide +kernel)) (d_and (d_not (d_isi .bl (d_var (i := 0) (show ¬ 0 ∈ ([] : List Nat) by decide)) T.n_isinstance T.n_bool (by decide +kernel))) (d_one (d_chain (ops_leA) ops_lt (op_leA (u0 hr)) op_lt d_int (d_var (i := 0) (show ¬ 0 ∈ ([] : List Nat) by decide)) (d_var (i := 1) (show ¬ 1 ∈ ([] : List Nat) by decide)))))))
  ss_nil)
theorem sc_first_wrong_arc : FnScope [(PySem.Str.ofString "size"), (PySem.Str.ofString "arcs"), (PySem.Str.ofString "ahead"), (PySem.Str.ofString "number"), (PySem.Str.ofString "arc"), (PySem.Str.ofString "place")] [(PySem.Str.ofString "size"), (PySem.Str.ofString "arcs")] (defScope st_first_wrong_arc) := ⟨rfl, rfl, rfl, by decide +kernel, rfl, by decide +kernel, by decide +kernel⟩
theorem ok_first_wrong_arc (T : Txt G) : FnOk G.P G.w G.K G.mg G.base (L2.CX G.P G.w) 2 T.f_first_wrong_arc T.fd_first_wrong_arc [(PySem.Str.ofString "size"), (PySem.Str.ofString "arcs")] (spOf G [false, false] false fn_first_wrong_arc) :=
  fnok_of (G := G) (M := []) T.F_first_wrong_arc sc_first_wrong_arc rfl (by decide) (.inl rfl) fun cdv A outer s H E io Hv hio hr =>
  (ss_cons (s_if (dt_not (dt_val (d_isi2 .lst .tup (d_var (i := 1) (show ¬ 1 ∈ ([] : List Nat) by decide)) T.n_isinstance T.n_list (by decide +kernel) T.n_tuple (by decide +kernel))))
  (ss_cons (s_ret rfl d_int)
  ss_nil)
  ss_nil)
  (ss_cons (s_set (i := 2) (show ¬ 2 ∈ ([] : List Nat) by decide) sc_first_wrong_arc.nd (d_tup (a_cons (d_neg d_int) (a_cons (d_neg d_int) a_nil))))
  (ss_cons (s_for (passes_of rfl) rfl (i_enum (d_var (i := 1) (show ¬ 1 ∈ ([] : List Nat) by decide)) T.n_enumerate) (g_tup rfl (gs_cons (i := 3) (show ¬ 3 ∈ ([] : List Nat) by decide) sc_first_wrong_arc.nd (gs_cons (i := 4) (show ¬ 4 ∈ ([] : List Nat) by decide) sc_first_wrong_arc.nd gs_nil)))
  (ss_cons (s_if (DW.dt (dw_or (dt_not (dt_val (d_isi .tup (d_var (i := 4) (show ¬ 4 ∈ ([] : List Nat) by decide)) T.n_isinstance T.n_tuple (by decide +kernel)))) (dw_or (dt_cmp (ops_neA) (op_neA (u64 hr)) (d_b1 (cas_len rfl) call_len T.n_len (d_var (i := 4) (show ¬ 4 ∈ ([] : List Nat) by decide))) d_int rfl) (dw_or1 (dt_not (dt_val (d_b1 (cas_all rfl) (cr_all rfl) T.n_all (DF.de (d_lc (own := [((PySem.Str.ofString "place"), 5)]) (show ∀ v ∈ ([5] : List Nat), ¬ v ∈ ([] : List Nat) by decide) (by decide) rfl sc_first_wrong_arc.nd (i_val (d_var (i := 4) (show ¬ 4 ∈ ([] : List Nat) by decide))) (blkOk_by (by kernel_rfl)) (fun _ _ _ _ _ => (g_name (i := 5) (show ¬ 5 ∈ ([] : List Nat) by decide) sc_first_wrong_arc.nd)) (fun _ _ _ _ _ => d_yes) (fun _ _ _ _ _ => (d_call (ok_is_below T) (hr.mono (by decide)) T.m_is_below T.F_is_below.kp T.b_is_below (fun σ => passAt takes0 σ) (a_cons (d_var (i := 5) (show ¬ 5 ∈ ([] : List Nat) by decide)) (a_cons (d_var (i := 0) (show ¬ 0 ∈ ([] : List Nat) by decide)) a_nil)))))))))))))
  (ss_cons (s_ret rfl (d_var (i := 3) (show ¬ 3 ∈ ([] : List Nat) by decide)))
  ss_nil)
  ss_nil)
  (ss_cons (s_if (DW.dt (dw_or (dt_cmp (ops_eqA) (op_eqA (u64 hr)) (d_ix (d_var (i := 4) (show ¬ 4 ∈ ([] : List Nat) by decide)) d_int) (d_ix (d_var (i := 4) (show ¬ 4 ∈ ([] : List Nat) by decide)) d_int) rfl) (dw_or1 (dt_cmp (ops_leA) (op_leA (u0 hr)) (d_var (i := 4) (show ¬ 4 ∈ ([] : List Nat) by decide)) (d_var (i := 2) (show ¬ 2 ∈ ([] : List Nat) by decide)) rfl))))
  (ss_cons (s_ret rfl (d_var (i := 3) (show ¬ 3 ∈ ([] : List Nat) by decide)))
  ss_nil)
  ss_nil)
  (ss_cons (s_set (i := 2) (show ¬ 2 ∈ ([] : List Nat) by decide) sc_first_wrong_arc.nd (d_var (i := 4) (show ¬ 4 ∈ ([] : List Nat) by decide)))
  ss_nil))))
  (ss_cons (s_ret rfl d_non)
  ss_nil))))
theorem sc_Net_init : FnScope [(PySem.Str.ofString "self"), (PySem.Str.ofString "size"), (PySem.Str.ofString "arcs"), (PySem.Str.ofString "wrong"), (PySem.Str.ofString "place"), (PySem.Str.ofString "i"), (PySem.Str.ofString "j")] [(PySem.Str.ofString "self"), (PySem.Str.ofString "size"), (PySem.Str.ofString "arcs")] (defScope st_Net_init) := ⟨rfl, rfl, rfl, by decide +kernel, rfl, by decide +kernel, by decide +kernel⟩
theorem ok_Net_init (T : Txt G) : FnOk G.P G.w G.K G.mg G.base (L2.CX G.P G.w) 3 T.f_Net_init T.fd_Net_init [(PySem.Str.ofString "self"), (PySem.Str.ofString "size"), (PySem.Str.ofString "arcs")] (spOf G [true, false, false] false fn_Net_init) :=
  fnok_of (G := G) (M := [0]) T.F_Net_init sc_Net_init rfl (by decide) (.inl rfl) fun cdv A outer s H E io Hv hio hr =>
  (ss_cons (s_if (DW.dt (dw_or (dt_not (dt_val (d_call (ok_is_below T) (hr.mono (by decide)) T.m_is_below T.F_is_below.kp T.b_is_below (fun σ => passAt (takes_of rfl rfl rfl rfl) σ) (a_cons (d_var (i := 1) (show ¬ 1 ∈ ([0] : List Nat) by decide)) (a_cons (d_add (d_globE T.c_MOST_PLACES repI) d_int) a_nil))))) (dw_or1 (dt_cmp ops_lt op_lt (d_var (i := 1) (show ¬ 1 ∈ ([0] : List Nat) by decide)) d_int rfl))))
  (ss_cons (s_raise (c := 0) T.ox_InvalidNet T.oi_InvalidNet T.ot_InvalidNet T.ok_InvalidNet (hr.mono (by decide)) T.ob_InvalidNet T.om_InvalidNet T.ol_InvalidNet (by decide) rfl (takes_of rfl rfl rfl rfl) (a_cons d_str (a_cons d_int a_nil)))
  ss_nil)
  ss_nil)
  (ss_cons (s_set (i := 3) (show ¬ 3 ∈ ([0] : List Nat) by decide) sc_Net_init.nd (d_call (ok_first_wrong_arc T) (hr.mono (by decide)) T.m_first_wrong_arc T.F_first_wrong_arc.kp T.b_first_wrong_arc (fun σ => passAt (takes_of rfl rfl rfl rfl) σ) (a_cons (d_var (i := 1) (show ¬ 1 ∈ ([0] : List Nat) by decide)) (a_cons (d_var (i := 2) (show ¬ 2 ∈ ([0] : List Nat) by decide)) a_nil))))
  (ss_cons (s_if (dt_cmp ops_notN op_notN (d_var (i := 3) (show ¬ 3 ∈ ([0] : List Nat) by decide)) d_non rfl)
  (ss_cons (s_raise (c := 0) T.ox_InvalidNet T.oi_InvalidNet T.ot_InvalidNet T.ok_InvalidNet (hr.mono (by decide)) T.ob_InvalidNet T.om_InvalidNet T.ol_InvalidNet (by decide) rfl (takes_of rfl rfl rfl rfl) (a_cons d_str (a_cons (d_var (i := 3) (show ¬ 3 ∈ ([0] : List Nat) by decide)) a_nil)))
  ss_nil)
  ss_nil)
  (ss_cons (s_fldS (i := 0) (n := 0) (cs := [0]) (show 0 ∈ ([0] : List Nat) by decide) (d_var (i := 1) (show ¬ 1 ∈ ([0] : List Nat) by decide)) T.fx_size T.inj_size T.f1_Net_size)
  (ss_cons (s_fldS (i := 0) (n := 1) (cs := [0]) (show 0 ∈ ([0] : List Nat) by decide) (d_t1 (cas_tup rfl) call_tuple_of T.n_tuple (d_var (i := 2) (show ¬ 2 ∈ ([0] : List Nat) by decide))) T.fx_arcs T.inj_arcs T.f1_Net_arcs)
  (ss_cons (s_fldS (i := 0) (n := 2) (cs := [0]) (show 0 ∈ ([0] : List Nat) by decide) (d_t1 (cas_tup rfl) call_tuple_of T.n_tuple (DF.de (d_lc (own := [((PySem.Str.ofString "place"), 4)]) (show ∀ v ∈ ([4] : List Nat), ¬ v ∈ ([0] : List Nat) by decide) (by decide) rfl sc_Net_init.nd (i_range1 (d_var (i := 1) (show ¬ 1 ∈ ([0] : List Nat) by decide)) T.n_range) (blkOk_by (by kernel_rfl)) (fun _ _ _ _ _ => (g_name (i := 4) (show ¬ 4 ∈ ([0] : List Nat) by decide) sc_Net_init.nd)) (fun _ _ _ _ _ => d_yes) (fun _ _ _ _ _ => (d_t1 (cas_tup rfl) call_tuple_of T.n_tuple (DF.de (d_lc (own := [((PySem.Str.ofString "i"), 5), ((PySem.Str.ofString "j"), 6)]) (show ∀ v ∈ ([5, 6] : List Nat), ¬ v ∈ ([0] : List Nat) by decide) (by decide) rfl sc_Net_init.nd (i_val (d_attr (n := 1) (cs := [0]) (d_pl (i := 0) (show 0 ∈ ([0] : List Nat) by decide)) T.fx_arcs T.inj_arcs T.fc_arcs)) (blkOk_by (by kernel_rfl)) (fun _ _ _ _ _ => (g_tup rfl (gs_cons (i := 5) (show ¬ 5 ∈ ([0] : List Nat) by decide) sc_Net_init.nd (gs_cons (i := 6) (show ¬ 6 ∈ ([0] : List Nat) by decide) sc_Net_init.nd gs_nil)))) (fun _ _ _ _ _ => (pts1 (dt_cmp (ops_eqA) (op_eqA (u64 hr)) (d_var (i := 5) (show ¬ 5 ∈ ([0] : List Nat) by decide)) (d_var (i := 4) (show ¬ 4 ∈ ([0] : List Nat) by decide)) rfl))) (fun _ _ _ _ _ => (d_var (i := 6) (show ¬ 6 ∈ ([0] : List Nat) by decide)))))))))) T.fx_knows T.inj_knows T.f1_Net_knows)
  ss_nil))))))
theorem sc_number_of : FnScope [(PySem.Str.ofString "word"), (PySem.Str.ofString "sign")] [(PySem.Str.ofString "word")] (defScope st_number_of) := ⟨rfl, rfl, rfl, by decide +kernel, rfl, by decide +kernel, by decide +kernel⟩
theorem ok_number_of (T : Txt G) : FnOk G.P G.w G.K G.mg G.base (L2.CX G.P G.w) 1 T.f_number_of T.fd_number_of [(PySem.Str.ofString "word")] (spOf G [false] false fn_number_of) :=
  fnok_of (G := G) (M := []) T.F_number_of sc_number_of rfl (by decide) (.inl rfl) fun cdv A outer s H E io Hv hio hr =>
  (ss_cons (s_if (DW.dt (dw_or (dt_cmp (ops_eqA) (op_eqA (u64 hr)) (d_b1 (cas_len rfl) call_len T.n_len (d_var (i := 0) (show ¬ 0 ∈ ([] : List Nat) by decide))) d_int rfl) (dw_or (dt_cmp ops_gt op_gt (d_b1 (cas_len rfl) call_len T.n_len (d_var (i := 0) (show ¬ 0 ∈ ([] : List Nat) by decide))) d_int rfl) (dw_or1 (dt_not (dt_val (d_b1 (cas_all rfl) (cr_all rfl) T.n_all (DF.de (d_lc (own := [((PySem.Str.ofString "sign"), 1)]) (show ∀ v ∈ ([1] : List Nat), ¬ v ∈ ([] : List Nat) by decide) (by decide) rfl sc_number_of.nd (i_val (d_var (i := 0) (show ¬ 0 ∈ ([] : List Nat) by decide))) (blkOk_by (by kernel_rfl)) (fun _ _ _ _ _ => (g_name (i := 1) (show ¬ 1 ∈ ([] : List Nat) by decide) sc_number_of.nd)) (fun _ _ _ _ _ => d_yes) (fun _ _ _ _ _ => (d_cmp (ops_inA) (op_inA (u65 hr)) (d_var (i := 1) (show ¬ 1 ∈ ([] : List Nat) by decide)) (d_globE T.c_FIGURES repS) rfl)))))))))))
  (ss_cons (s_ret rfl (d_neg d_int))
  ss_nil)
  ss_nil)
  (ss_cons (s_if (DW.dt (dw_and (dt_cmp (ops_eqA) (op_eqA (u64 hr)) (d_b1 (cas_len rfl) call_len T.n_len (d_var (i := 0) (show ¬ 0 ∈ ([] : List Nat) by decide))) d_int rfl) (dw_and1 (dt_cmp (ops_eqA) (op_eqA (u64 hr)) (d_ix (d_var (i := 0) (show ¬ 0 ∈ ([] : List Nat) by decide)) d_int) d_str rfl))))
  (ss_cons (s_ret rfl (d_neg d_int))
  ss_nil)
  ss_nil)
  (ss_cons (s_ret rfl (d_t1 cas_int call_intA T.n_int (d_var (i := 0) (show ¬ 0 ∈ ([] : List Nat) by decide))))
  ss_nil)))
theorem sc_size_of : FnScope [(PySem.Str.ofString "line"), (PySem.Str.ofString "words"), (PySem.Str.ofString "size")] [(PySem.Str.ofString "line")] (defScope st_size_of) := ⟨rfl, rfl, rfl, by decide +kernel, rfl, by decide +kernel, by decide +kernel⟩
theorem ok_size_of (T : Txt G) : FnOk G.P G.w G.K G.mg G.base (L2.CX G.P G.w) 2 T.f_size_of T.fd_size_of [(PySem.Str.ofString "line")] (spOf G [false] false fn_size_of) :=
  fnok_of (G := G) (M := []) T.F_size_of sc_size_of rfl (by decide) (.inl rfl) fun cdv A outer s H E io Hv hio hr =>
  (ss_cons (s_set (i := 1) (show ¬ 1 ∈ ([] : List Nat) by decide) sc_size_of.nd (DF.de (d_split (d_var (i := 0) (show ¬ 0 ∈ ([] : List Nat) by decide)) d_str)))
  (ss_cons (s_if (DW.dt (dw_or (dt_cmp (ops_neA) (op_neA (u64 hr)) (d_b1 (cas_len rfl) call_len T.n_len (d_var (i := 1) (show ¬ 1 ∈ ([] : List Nat) by decide))) d_int rfl) (dw_or1 (dt_cmp (ops_neA) (op_neA (u64 hr)) (d_ix (d_var (i := 1) (show ¬ 1 ∈ ([] : List Nat) by decide)) d_int) d_str rfl))))
  (ss_cons (s_ret rfl d_int)
  ss_nil)
  ss_nil)
  (ss_cons (s_set (i := 2) (show ¬ 2 ∈ ([] : List Nat) by decide) sc_size_of.nd (d_call (ok_number_of T) (hr.mono (by decide)) T.m_number_of T.F_number_of.kp T.b_number_of (fun σ => passAt (takes_of rfl rfl rfl rfl) σ) (a_cons (d_ix (d_var (i := 1) (show ¬ 1 ∈ ([] : List Nat) by decide)) d_int) a_nil)))
  (ss_cons (s_ret rfl (d_if (dt_chain (ops_leA) (ops_leA) (op_leA (u0 hr)) (op_leA (u0 hr)) d_int (d_var (i := 2) (show ¬ 2 ∈ ([] : List Nat) by decide)) (d_globE T.c_MOST_PLACES repI)) (d_var (i := 2) (show ¬ 2 ∈ ([] : List Nat) by decide)) d_int))
  ss_nil))))
theorem sc_known_of : FnScope [(PySem.Str.ofString "line"), (PySem.Str.ofString "place"), (PySem.Str.ofString "size"), (PySem.Str.ofString "known"), (PySem.Str.ofString "word"), (PySem.Str.ofString "other"), (PySem.Str.ofString "one"), (PySem.Str.ofString "after")] [(PySem.Str.ofString "line"), (PySem.Str.ofString "place"), (PySem.Str.ofString "size")] (defScope st_known_of) := ⟨rfl, rfl, rfl, by decide +kernel, rfl, by decide +kernel, by decide +kernel⟩
theorem ok_known_of (T : Txt G) : FnOk G.P G.w G.K G.mg G.base (L2.CX G.P G.w) 2 T.f_known_of T.fd_known_of [(PySem.Str.ofString "line"), (PySem.Str.ofString "place"), (PySem.Str.ofString "size")] (spOf G [false, false, false] false fn_known_of) :=
  fnok_of (G := G) (M := []) T.F_known_of sc_known_of rfl (by decide) (.inl rfl) fun cdv A outer s H E io Hv hio hr =>
  (ss_cons (s_if (dt_cmp (ops_eqA) (op_eqA (u64 hr)) (d_var (i := 0) (show ¬ 0 ∈ ([] : List Nat) by decide)) d_str rfl)
  (ss_cons (s_ret rfl (DF.de (d_lst a_nil)))
  ss_nil)
  ss_nil)
  (ss_cons (s_setLcV (i := 3) (own := [((PySem.Str.ofString "word"), 4)]) (show ∀ v ∈ ([4] : List Nat), ¬ v ∈ ([] : List Nat) by decide) (by decide) (show ¬ 3 ∈ ([] : List Nat) by decide) rfl sc_known_of.nd (i_val (DF.de (d_split (d_var (i := 0) (show ¬ 0 ∈ ([] : List Nat) by decide)) d_str))) (blkOk_by (by kernel_rfl)) (fun _ _ _ _ _ => (g_name (i := 4) (show ¬ 4 ∈ ([] : List Nat) by decide) sc_known_of.nd)) (fun _ _ _ _ _ => d_yes) (fun _ _ _ _ _ => (d_call (ok_number_of T) (hr.mono (by decide)) T.m_number_of T.F_number_of.kp T.b_number_of (fun σ => passAt takes0 σ) (a_cons (d_var (i := 4) (show ¬ 4 ∈ ([] : List Nat) by decide)) a_nil))) (sw_true rfl rfl rfl (by decide +kernel)))
  (ss_cons (s_if (dt_not (dt_val (d_b1 (cas_all rfl) (cr_all rfl) T.n_all (DF.de (d_lc (own := [((PySem.Str.ofString "other"), 5)]) (show ∀ v ∈ ([5] : List Nat), ¬ v ∈ ([] : List Nat) by decide) (by decide) rfl sc_known_of.nd (i_val (d_var (i := 3) (show ¬ 3 ∈ ([] : List Nat) by decide))) (blkOk_by (by kernel_rfl)) (fun _ _ _ _ _ => (g_name (i := 5) (show ¬ 5 ∈ ([] : List Nat) by decide) sc_known_of.nd)) (fun _ _ _ _ _ => d_yes) (fun _ _ _ _ _ => (d_and (d_chain (ops_leA) ops_lt (op_leA (u0 hr)) op_lt d_int (d_var (i := 5) (show ¬ 5 ∈ ([] : List Nat) by decide)) (d_var (i := 2) (show ¬ 2 ∈ ([] : List Nat) by decide))) (d_one (d_cmp (ops_neA) (op_neA (u64 hr)) (d_var (i := 5) (show ¬ 5 ∈ ([] : List Nat) by decide)) (d_var (i := 1) (show ¬ 1 ∈ ([] : List Nat) by decide)) rfl)))))))))
  (ss_cons (s_ret rfl d_non)
  ss_nil)
  ss_nil)
  (ss_cons (s_if (dt_not (dt_val (d_b1 (cas_all rfl) (cr_all rfl) T.n_all (DF.de (d_lc (own := [((PySem.Str.ofString "one"), 6), ((PySem.Str.ofString "after"), 7)]) (show ∀ v ∈ ([6, 7] : List Nat), ¬ v ∈ ([] : List Nat) by decide) (by decide) rfl sc_known_of.nd (i_zip (d_var (i := 3) (show ¬ 3 ∈ ([] : List Nat) by decide)) (DF.de (d_slF (d_var (i := 3) (show ¬ 3 ∈ ([] : List Nat) by decide)) (do_some d_int) do_none)) T.n_zip) (blkOk_by (by kernel_rfl)) (fun _ _ _ _ _ => (g_tup rfl (gs_cons (i := 6) (show ¬ 6 ∈ ([] : List Nat) by decide) sc_known_of.nd (gs_cons (i := 7) (show ¬ 7 ∈ ([] : List Nat) by decide) sc_known_of.nd gs_nil)))) (fun _ _ _ _ _ => d_yes) (fun _ _ _ _ _ => (d_cmp ops_lt op_lt (d_var (i := 6) (show ¬ 6 ∈ ([] : List Nat) by decide)) (d_var (i := 7) (show ¬ 7 ∈ ([] : List Nat) by decide)) rfl)))))))
  (ss_cons (s_ret rfl d_non)
  ss_nil)
  ss_nil)
  (ss_cons (s_ret rfl (d_var (i := 3) (show ¬ 3 ∈ ([] : List Nat) by decide)))
  ss_nil)))))
theorem sc_read_net : FnScope [(PySem.Str.ofString "text"), (PySem.Str.ofString "lines"), (PySem.Str.ofString "size"), (PySem.Str.ofString "at"), (PySem.Str.ofString "arcs"), (PySem.Str.ofString "place"), (PySem.Str.ofString "line"), (PySem.Str.ofString "known"), (PySem.Str.ofString "other")] [(PySem.Str.ofString "text")] (defScope st_read_net) := ⟨rfl, rfl, rfl, by decide +kernel, rfl, by decide +kernel, by decide +kernel⟩
theorem ok_read_net (T : Txt G) : FnOk G.P G.w G.K G.mg G.base (L2.CX G.P G.w) 5 T.f_read_net T.fd_read_net [(PySem.Str.ofString "text")] (spOf G [false] false fn_read_net) :=
  fnok_of (G := G) (M := [4]) T.F_read_net sc_read_net rfl (by decide) (.inl rfl) fun cdv A outer s H E io Hv hio hr =>
  (ss_cons (s_set (i := 1) (show ¬ 1 ∈ ([4] : List Nat) by decide) sc_read_net.nd (DF.de (d_split (d_var (i := 0) (show ¬ 0 ∈ ([4] : List Nat) by decide)) d_str)))
  (ss_cons (s_set (i := 2) (show ¬ 2 ∈ ([4] : List Nat) by decide) sc_read_net.nd (d_call (ok_size_of T) (hr.mono (by decide)) T.m_size_of T.F_size_of.kp T.b_size_of (fun σ => passAt (takes_of rfl rfl rfl rfl) σ) (a_cons (d_ix (d_var (i := 1) (show ¬ 1 ∈ ([4] : List Nat) by decide)) d_int) a_nil)))
  (ss_cons (s_if (dt_cmp (ops_eqA) (op_eqA (u64 hr)) (d_var (i := 2) (show ¬ 2 ∈ ([4] : List Nat) by decide)) d_int rfl)
  (ss_cons (s_raise (c := 1) T.ox_InvalidText T.oi_InvalidText T.ot_InvalidText T.ok_InvalidText (hr.mono (by decide)) T.ob_InvalidText T.om_InvalidText T.ol_InvalidText (by decide) rfl (takes_of rfl rfl rfl rfl) (a_cons (d_var (i := 0) (show ¬ 0 ∈ ([4] : List Nat) by decide)) (a_cons d_int a_nil)))
  ss_nil)
  ss_nil)
  (ss_cons (s_set (i := 3) (show ¬ 3 ∈ ([4] : List Nat) by decide) sc_read_net.nd (d_add (d_b1 (cas_len rfl) call_len T.n_len (d_ix (d_var (i := 1) (show ¬ 1 ∈ ([4] : List Nat) by decide)) d_int)) d_int))
  (ss_cons (s_setF (i := 4) (show 4 ∈ ([4] : List Nat) by decide) (io_ne hio (by decide)) sc_read_net.nd (d_lst a_nil))
  (ss_cons (s_for (passes_of rfl) rfl (i_enum (d_sl (d_var (i := 1) (show ¬ 1 ∈ ([4] : List Nat) by decide)) (do_some d_int) do_none) T.n_enumerate) (g_tup rfl (gs_cons (i := 5) (show ¬ 5 ∈ ([4] : List Nat) by decide) sc_read_net.nd (gs_cons (i := 6) (show ¬ 6 ∈ ([4] : List Nat) by decide) sc_read_net.nd gs_nil)))
  (ss_cons (s_set (i := 7) (show ¬ 7 ∈ ([4] : List Nat) by decide) sc_read_net.nd (d_if (dt_cmp ops_lt op_lt (d_var (i := 5) (show ¬ 5 ∈ ([4] : List Nat) by decide)) (d_var (i := 2) (show ¬ 2 ∈ ([4] : List Nat) by decide)) rfl) (d_call (ok_known_of T) (hr.mono (by decide)) T.m_known_of T.F_known_of.kp T.b_known_of (fun σ => passAt (takes_of rfl rfl rfl rfl) σ) (a_cons (d_var (i := 6) (show ¬ 6 ∈ ([4] : List Nat) by decide)) (a_cons (d_var (i := 5) (show ¬ 5 ∈ ([4] : List Nat) by decide)) (a_cons (d_var (i := 2) (show ¬ 2 ∈ ([4] : List Nat) by decide)) a_nil)))) d_non))
  (ss_cons (s_if (dt_cmp ops_isN op_isN (d_var (i := 7) (show ¬ 7 ∈ ([4] : List Nat) by decide)) d_non rfl)
  (ss_cons (s_raise (c := 1) T.ox_InvalidText T.oi_InvalidText T.ot_InvalidText T.ok_InvalidText (hr.mono (by decide)) T.ob_InvalidText T.om_InvalidText T.ol_InvalidText (by decide) rfl (takes_of rfl rfl rfl rfl) (a_cons (d_var (i := 0) (show ¬ 0 ∈ ([4] : List Nat) by decide)) (a_cons (d_var (i := 3) (show ¬ 3 ∈ ([4] : List Nat) by decide)) a_nil)))
  ss_nil)
  ss_nil)
  (ss_cons (s_expr (d_mut (i := 4) kd_lst tyV_lst mus_extend mt_extend F.plainAttrs_list F.slot_list_extend F.type_list_extend (show 4 ∈ ([4] : List Nat) by decide) (a_cons (DF.de (d_lc (own := [((PySem.Str.ofString "other"), 8)]) (show ∀ v ∈ ([8] : List Nat), ¬ v ∈ ([4] : List Nat) by decide) (by decide) rfl sc_read_net.nd (i_val (d_var (i := 7) (show ¬ 7 ∈ ([4] : List Nat) by decide))) (blkOk_by (by kernel_rfl)) (fun _ _ _ _ _ => (g_name (i := 8) (show ¬ 8 ∈ ([4] : List Nat) by decide) sc_read_net.nd)) (fun _ _ _ _ _ => d_yes) (fun _ _ _ _ _ => (d_tup (a_cons (d_var (i := 5) (show ¬ 5 ∈ ([4] : List Nat) by decide)) (a_cons (d_var (i := 8) (show ¬ 8 ∈ ([4] : List Nat) by decide)) a_nil)))))) a_nil)))
  (ss_cons (s_aug (i := 3) (show ¬ 3 ∈ ([4] : List Nat) by decide) ops_iadd ip_add sc_read_net.nd (d_add (d_b1 (cas_len rfl) call_len T.n_len (d_var (i := 6) (show ¬ 6 ∈ ([4] : List Nat) by decide))) d_int))
  ss_nil)))))
  (ss_cons (s_if (dt_cmp (ops_leA) (op_leA (u0 hr)) (d_b1 (cas_len rfl) call_len T.n_len (d_var (i := 1) (show ¬ 1 ∈ ([4] : List Nat) by decide))) (d_var (i := 2) (show ¬ 2 ∈ ([4] : List Nat) by decide)) rfl)
  (ss_cons (s_raise (c := 1) T.ox_InvalidText T.oi_InvalidText T.ot_InvalidText T.ok_InvalidText (hr.mono (by decide)) T.ob_InvalidText T.om_InvalidText T.ol_InvalidText (by decide) rfl (takes_of rfl rfl rfl rfl) (a_cons (d_var (i := 0) (show ¬ 0 ∈ ([4] : List Nat) by decide)) (a_cons (d_b1 (cas_len rfl) call_len T.n_len (d_var (i := 0) (show ¬ 0 ∈ ([4] : List Nat) by decide))) a_nil)))
  ss_nil)
  ss_nil)
  (ss_cons (s_ret rfl (DF.de (d_make (c := 0) 2 T.mk_Net (ok_Net_init T) (aLenC (aLenC aLenN)) (hr.mono (by decide)) T.m_Net T.b_Net_init (fun σ => passAt (takes_of rfl rfl rfl rfl) σ) (a_cons (d_var (i := 2) (show ¬ 2 ∈ ([4] : List Nat) by decide)) (a_cons (d_fz (i := 4) (show 4 ∈ ([4] : List Nat) by decide) (io_ne hio (by decide))) a_nil)))))
  ss_nil))))))))
theorem sc_law_same : FnScope [(PySem.Str.ofString "_law_told_here"), (PySem.Str.ofString "_law_due"), (PySem.Str.ofString "_law_k")] [(PySem.Str.ofString "_law_told_here"), (PySem.Str.ofString "_law_due")] (defScope st_law_same) := ⟨rfl, rfl, rfl, by decide +kernel, rfl, by decide +kernel, by decide +kernel⟩
theorem ok_law_sameN (T : Txt G) : ∀ n, FnOk G.P G.w G.K G.mg G.base (L2.CX G.P G.w) (1 + n) T.f_law_same T.fd_law_same [(PySem.Str.ofString "_law_told_here"), (PySem.Str.ofString "_law_due")] (spOf G [false, false] false (fn_law_sameN n))
  | 0 => fnok_bad
  | n + 1 => by
    have ih := ok_law_sameN T n
    exact fnok_of (G := G) (M := []) T.F_law_same sc_law_same rfl (by decide) (.inl rfl) fun cdv A outer s H E io Hv hio hr => by
      have hrec := hr
      exact (ss_cons (s_if (dt_val (d_isi .tup (d_var (i := 1) (show ¬ 1 ∈ ([] : List Nat) by decide)) T.n_isinstance T.n_tuple (by decide +kernel)))
  (ss_cons (s_if (DW.dt (dw_or (dt_not (dt_val (d_isi .tup (d_var (i := 0) (show ¬ 0 ∈ ([] : List Nat) by decide)) T.n_isinstance T.n_tuple (by decide +kernel)))) (dw_or1 (dt_cmp (ops_neA) (op_neA (u64 hr)) (d_b1 (cas_len rfl) call_len T.n_len (d_var (i := 0) (show ¬ 0 ∈ ([] : List Nat) by decide))) (d_b1 (cas_len rfl) call_len T.n_len (d_var (i := 1) (show ¬ 1 ∈ ([] : List Nat) by decide))) rfl))))
  (ss_cons (s_ret rfl d_bl)
  ss_nil)
  ss_nil)
  (ss_cons (s_for (passes_of rfl) rfl (i_range1 (d_b1 (cas_len rfl) call_len T.n_len (d_var (i := 1) (show ¬ 1 ∈ ([] : List Nat) by decide))) T.n_range) (g_name (i := 2) (show ¬ 2 ∈ ([] : List Nat) by decide) sc_law_same.nd)
  (ss_cons (s_if (dt_not (dt_val (d_call ih hrec T.m_law_same T.F_law_same.kp T.b_law_same (fun σ => passAt (takes_of rfl rfl rfl rfl) σ) (a_cons (d_ix (d_var (i := 0) (show ¬ 0 ∈ ([] : List Nat) by decide)) (d_var (i := 2) (show ¬ 2 ∈ ([] : List Nat) by decide))) (a_cons (d_ix (d_var (i := 1) (show ¬ 1 ∈ ([] : List Nat) by decide)) (d_var (i := 2) (show ¬ 2 ∈ ([] : List Nat) by decide))) a_nil)))))
  (ss_cons (s_ret rfl d_bl)
  ss_nil)
  ss_nil)
  ss_nil))
  (ss_cons (s_ret rfl d_bl)
  ss_nil)))
  ss_nil)
  (ss_cons (s_if (dt_cmp ops_isN op_isN (d_var (i := 1) (show ¬ 1 ∈ ([] : List Nat) by decide)) d_non rfl)
  (ss_cons (s_ret rfl (d_cmp ops_isN op_isN (d_var (i := 0) (show ¬ 0 ∈ ([] : List Nat) by decide)) d_non rfl))
  ss_nil)
  ss_nil)
  (ss_cons (s_if (dt_val (d_isi .bl (d_var (i := 1) (show ¬ 1 ∈ ([] : List Nat) by decide)) T.n_isinstance T.n_bool (by decide +kernel)))
  (ss_cons (s_ret rfl (d_and (d_isi .bl (d_var (i := 0) (show ¬ 0 ∈ ([] : List Nat) by decide)) T.n_isinstance T.n_bool (by decide +kernel)) (d_one (d_cmp (ops_eqA) (op_eqA (u64 hr)) (d_var (i := 0) (show ¬ 0 ∈ ([] : List Nat) by decide)) (d_var (i := 1) (show ¬ 1 ∈ ([] : List Nat) by decide)) rfl))))
  ss_nil)
  ss_nil)
  (ss_cons (s_if (dt_val (d_isi .str (d_var (i := 1) (show ¬ 1 ∈ ([] : List Nat) by decide)) T.n_isinstance T.n_str (by decide +kernel)))
  (ss_cons (s_ret rfl (d_and (d_isi .str (d_var (i := 0) (show ¬ 0 ∈ ([] : List Nat) by decide)) T.n_isinstance T.n_str (by decide +kernel)) (d_one (d_cmp (ops_eqA) (op_eqA (u64 hr)) (d_var (i := 0) (show ¬ 0 ∈ ([] : List Nat) by decide)) (d_var (i := 1) (show ¬ 1 ∈ ([] : List Nat) by decide)) rfl))))
  ss_nil)
  ss_nil)
  (ss_cons (s_ret rfl (d_and (d_isi .int (d_var (i := 0) (show ¬ 0 ∈ ([] : List Nat) by decide)) T.n_isinstance T.n_int (by decide +kernel)) (d_and (d_not (d_isi .bl (d_var (i := 0) (show ¬ 0 ∈ ([] : List Nat) by decide)) T.n_isinstance T.n_bool (by decide +kernel))) (d_one (d_cmp (ops_eqA) (op_eqA (u64 hr)) (d_var (i := 0) (show ¬ 0 ∈ ([] : List Nat) by decide)) (d_var (i := 1) (show ¬ 1 ∈ ([] : List Nat) by decide)) rfl)))))
  ss_nil)))))
theorem ok_law_same (T : Txt G) : FnOk G.P G.w G.K G.mg G.base (L2.CX G.P G.w) 7 T.f_law_same T.fd_law_same [(PySem.Str.ofString "_law_told_here"), (PySem.Str.ofString "_law_due")] (spOf G [false, false] false fn_law_same) := ok_law_sameN T 6
theorem sc_Net_eq : FnScope [(PySem.Str.ofString "self"), (PySem.Str.ofString "other")] [(PySem.Str.ofString "self"), (PySem.Str.ofString "other")] (defScope st_Net_eq) := ⟨rfl, rfl, rfl, by decide +kernel, rfl, by decide +kernel, by decide +kernel⟩
theorem ok_Net_eq (T : Txt G) : FnOk G.P G.w G.K G.mg G.base (L2.CX G.P G.w) 1 T.f_Net_eq T.fd_Net_eq [(PySem.Str.ofString "self"), (PySem.Str.ofString "other")] (spOf G [false, false] false fn_Net_eq) :=
  fnok_of (G := G) (M := []) T.F_Net_eq sc_Net_eq rfl (by decide) (.inl rfl) fun cdv A outer s H E io Hv hio hr =>
  (ss_cons (s_ret rfl (d_and (d_isiC kc_Net (d_var (i := 1) (show ¬ 1 ∈ ([] : List Nat) by decide)) T.n_isinstance T.m_Net T.kc_Net) (d_and (d_cmp (ops_eqA) (op_eqA (u64 hr)) (d_attr (n := 0) (cs := [0]) (d_var (i := 0) (show ¬ 0 ∈ ([] : List Nat) by decide)) T.fx_size T.inj_size T.fc_size) (d_attr (n := 0) (cs := [0]) (d_var (i := 1) (show ¬ 1 ∈ ([] : List Nat) by decide)) T.fx_size T.inj_size T.fc_size) rfl) (d_one (d_cmp (ops_eqA) (op_eqA (u64 hr)) (d_attr (n := 1) (cs := [0]) (d_var (i := 0) (show ¬ 0 ∈ ([] : List Nat) by decide)) T.fx_arcs T.inj_arcs T.fc_arcs) (d_attr (n := 1) (cs := [0]) (d_var (i := 1) (show ¬ 1 ∈ ([] : List Nat) by decide)) T.fx_arcs T.inj_arcs T.fc_arcs) rfl)))))
  ss_nil)
theorem sc_write_net : FnScope [(PySem.Str.ofString "net"), (PySem.Str.ofString "lines"), (PySem.Str.ofString "known"), (PySem.Str.ofString "place")] [(PySem.Str.ofString "net")] (defScope st_write_net) := ⟨rfl, rfl, rfl, by decide +kernel, rfl, by decide +kernel, by decide +kernel⟩
theorem ok_write_net (T : Txt G) : FnOk G.P G.w G.K G.mg G.base (L2.CX G.P G.w) 1 T.f_write_net T.fd_write_net [(PySem.Str.ofString "net")] (spOf G [false] false fn_write_net) :=
  fnok_of (G := G) (M := [1]) T.F_write_net sc_write_net rfl (by decide) (.inl rfl) fun cdv A outer s H E io Hv hio hr =>
  (ss_cons (s_setF (i := 1) (show 1 ∈ ([1] : List Nat) by decide) (io_ne hio (by decide)) sc_write_net.nd (d_lst (a_cons (d_fstr (.cons d_str (.cons (d_fmt (d_attr (n := 0) (cs := [0]) (d_var (i := 0) (show ¬ 0 ∈ ([1] : List Nat) by decide)) T.fx_size T.inj_size T.fc_size)) .nil))) a_nil)))
  (ss_cons (s_for (passes_of rfl) rfl (i_val (d_attr (n := 2) (cs := [0]) (d_var (i := 0) (show ¬ 0 ∈ ([1] : List Nat) by decide)) T.fx_knows T.inj_knows T.fc_knows)) (g_name (i := 2) (show ¬ 2 ∈ ([1] : List Nat) by decide) sc_write_net.nd)
  (ss_cons (s_expr (d_mut (i := 1) kd_lst tyV_lst mus_append mt_append F.plainAttrs_list F.slot_list_append F.type_list_append (show 1 ∈ ([1] : List Nat) by decide) (a_cons (d_if (dt_tru (d_var (i := 2) (show ¬ 2 ∈ ([1] : List Nat) by decide))) (d_join d_str (DF.de (d_lc (own := [((PySem.Str.ofString "place"), 3)]) (show ∀ v ∈ ([3] : List Nat), ¬ v ∈ ([1] : List Nat) by decide) (by decide) rfl sc_write_net.nd (i_val (d_var (i := 2) (show ¬ 2 ∈ ([1] : List Nat) by decide))) (blkOk_by (by kernel_rfl)) (fun _ _ _ _ _ => (g_name (i := 3) (show ¬ 3 ∈ ([1] : List Nat) by decide) sc_write_net.nd)) (fun _ _ _ _ _ => d_yes) (fun _ _ _ _ _ => (d_t1 cas_str call_str_int T.n_str (d_var (i := 3) (show ¬ 3 ∈ ([1] : List Nat) by decide))))))) d_str) a_nil)))
  ss_nil))
  (ss_cons (s_ret rfl (d_join d_str (d_pl (i := 1) (show 1 ∈ ([1] : List Nat) by decide))))
  ss_nil)))
theorem sc_law_told : FnScope [(PySem.Str.ofString "_law_net"), (PySem.Str.ofString "_law_text_here"), (PySem.Str.ofString "_law_helper"), (PySem.Str.ofString "_law_told_here")] [(PySem.Str.ofString "_law_net")] (defScope st_law_told) := ⟨rfl, rfl, rfl, by decide +kernel, rfl, by decide +kernel, by decide +kernel⟩
theorem ok_law_told (T : Txt G) : FnOk G.P G.w G.K G.mg G.base (L2.CX G.P G.w) 8 T.f_law_told T.fd_law_told [(PySem.Str.ofString "_law_net")] (spOf G [false] false fn_law_told) :=
  fnok_of (G := G) (M := []) T.F_law_told sc_law_told rfl (by decide) (.inl rfl) fun cdv A outer s H E io Hv hio hr =>
  (ss_cons (s_set (i := 1) (show ¬ 1 ∈ ([] : List Nat) by decide) sc_law_told.nd (d_call (ok_law_text T) (hr.mono (by decide)) T.m_law_text T.F_law_text.kp T.b_law_text (fun σ => passAt (takes_of rfl rfl rfl rfl) σ) (a_cons (d_var (i := 0) (show ¬ 0 ∈ ([] : List Nat) by decide)) a_nil)))
  (ss_cons (s_set (i := 2) (show ¬ 2 ∈ ([] : List Nat) by decide) sc_law_told.nd (DF.de (d_make (c := 0) 2 T.mk_Net (ok_Net_init T) (aLenC (aLenC aLenN)) (hr.mono (by decide)) T.m_Net T.b_Net_init (fun σ => passAt (takes_of rfl rfl rfl rfl) σ) (a_cons (d_ix (d_var (i := 0) (show ¬ 0 ∈ ([] : List Nat) by decide)) d_int) (a_cons (d_ix (d_var (i := 0) (show ¬ 0 ∈ ([] : List Nat) by decide)) d_int) a_nil)))))
  (ss_cons (s_set (i := 3) (show ¬ 3 ∈ ([] : List Nat) by decide) sc_law_told.nd (d_call (ok_read_net T) (hr.mono (by decide)) T.m_read_net T.F_read_net.kp T.b_read_net (fun σ => passAt (takes_of rfl rfl rfl rfl) σ) (a_cons (d_var (i := 1) (show ¬ 1 ∈ ([] : List Nat) by decide)) a_nil)))
  (ss_cons (s_if (DW.dt (dw_or (dt_not (dt_val (d_call (ok_law_same T) (hr.mono (by decide)) T.m_law_same T.F_law_same.kp T.b_law_same (fun σ => passAt (takes_of rfl rfl rfl rfl) σ) (a_cons (d_call (ok_write_net T) (hr.mono (by decide)) T.m_write_net T.F_write_net.kp T.b_write_net (fun σ => passAt (takes_of rfl rfl rfl rfl) σ) (a_cons (d_var (i := 2) (show ¬ 2 ∈ ([] : List Nat) by decide)) a_nil)) (a_cons (d_var (i := 1) (show ¬ 1 ∈ ([] : List Nat) by decide)) a_nil))))) (dw_or1 (dt_not (dt_eqO (c := 0) (ok_Net_eq T) (hr.mono (by decide)) T.eqf_Net T.eqi_Net T.b_Net_eq (d_var (i := 3) (show ¬ 3 ∈ ([] : List Nat) by decide)) (d_var (i := 2) (show ¬ 2 ∈ ([] : List Nat) by decide)))))))
  (ss_cons (s_ret rfl d_bl)
  ss_nil)
  ss_nil)
  (ss_cons (s_ret rfl (d_and (d_call (ok_law_same T) (hr.mono (by decide)) T.m_law_same T.F_law_same.kp T.b_law_same (fun σ => passAt (takes_of rfl rfl rfl rfl) σ) (a_cons (d_tup (a_cons (d_attr (n := 0) (cs := [0]) (d_var (i := 3) (show ¬ 3 ∈ ([] : List Nat) by decide)) T.fx_size T.inj_size T.fc_size) (a_cons (d_attr (n := 1) (cs := [0]) (d_var (i := 3) (show ¬ 3 ∈ ([] : List Nat) by decide)) T.fx_arcs T.inj_arcs T.fc_arcs) a_nil))) (a_cons (d_var (i := 0) (show ¬ 0 ∈ ([] : List Nat) by decide)) a_nil))) (d_one (d_call (ok_law_same T) (hr.mono (by decide)) T.m_law_same T.F_law_same.kp T.b_law_same (fun σ => passAt (takes_of rfl rfl rfl rfl) σ) (a_cons (d_call (ok_write_net T) (hr.mono (by decide)) T.m_write_net T.F_write_net.kp T.b_write_net (fun σ => passAt (takes_of rfl rfl rfl rfl) σ) (a_cons (d_var (i := 3) (show ¬ 3 ∈ ([] : List Nat) by decide)) a_nil)) (a_cons (d_var (i := 1) (show ¬ 1 ∈ ([] : List Nat) by decide)) a_nil))))))
  ss_nil)))))
theorem sc_law : FnScope [(PySem.Str.ofString "_law_script"), (PySem.Str.ofString "_law_pool_here"), (PySem.Str.ofString "_law_net"), (PySem.Str.ofString "_law_at")] [(PySem.Str.ofString "_law_script")] (defScope st_law) := ⟨rfl, rfl, rfl, by decide +kernel, rfl, by decide +kernel, by decide +kernel⟩
theorem ok_law (T : Txt G) : FnOk G.P G.w G.K G.mg G.base (L2.CX G.P G.w) 9 T.f_law T.fd_law [(PySem.Str.ofString "_law_script")] (spOf G [false] false fn_law) :=
  fnok_of (G := G) (M := [1]) T.F_law sc_law rfl (by decide) (.inl rfl) fun cdv A outer s H E io Hv hio hr =>
  (ss_cons (s_setF (i := 1) (show 1 ∈ ([1] : List Nat) by decide) (io_ne hio (by decide)) sc_law.nd (d_callF (ok_law_pool T) (hr.mono (by decide)) T.m_law_pool T.F_law_pool.kp T.b_law_pool (fun σ => passAt (takes_of rfl rfl rfl rfl) σ) (a_cons (d_var (i := 0) (show ¬ 0 ∈ ([1] : List Nat) by decide)) (a_cons d_int a_nil))))
  (ss_cons (s_set (i := 2) (show ¬ 2 ∈ ([1] : List Nat) by decide) sc_law.nd (d_call (ok_law_arcs T) (hr.mono (by decide)) T.m_law_arcs T.F_law_arcs.kp T.b_law_arcs (fun σ => passAt (takes_of rfl rfl rfl rfl) σ) (a_cons (d_pl (i := 1) (show 1 ∈ ([1] : List Nat) by decide)) (a_cons d_int (a_cons d_int a_nil)))))
  (ss_cons (s_if (dt_not (dt_val (d_call (ok_law_told T) (hr.mono (by decide)) T.m_law_told T.F_law_told.kp T.b_law_told (fun σ => passAt (takes_of rfl rfl rfl rfl) σ) (a_cons (d_var (i := 2) (show ¬ 2 ∈ ([1] : List Nat) by decide)) a_nil))))
  (ss_cons (s_ret rfl d_bl)
  ss_nil)
  ss_nil)
  (ss_cons (s_if (dt_cmp (ops_eqA) (op_eqA (u64 hr)) (d_b1 (cas_len rfl) call_len T.n_len (d_ix (d_var (i := 2) (show ¬ 2 ∈ ([1] : List Nat) by decide)) d_int)) d_int rfl)
  (ss_cons (s_ret rfl d_bl)
  ss_nil)
  ss_nil)
  (ss_cons (s_set (i := 3) (show ¬ 3 ∈ ([1] : List Nat) by decide) sc_law.nd (d_call (ok_law_draw T) (hr.mono (by decide)) T.m_law_draw T.F_law_draw.kp T.b_law_draw (fun σ => passAt (takes_of rfl rfl rfl rfl) σ) (a_cons (d_pl (i := 1) (show 1 ∈ ([1] : List Nat) by decide)) (a_cons (d_b1 (cas_len rfl) call_len T.n_len (d_ix (d_var (i := 2) (show ¬ 2 ∈ ([1] : List Nat) by decide)) d_int)) a_nil))))
  (ss_cons (s_ret rfl (d_call (ok_law_told T) (hr.mono (by decide)) T.m_law_told T.F_law_told.kp T.b_law_told (fun σ => passAt (takes_of rfl rfl rfl rfl) σ) (a_cons (d_tup (a_cons (d_ix (d_var (i := 2) (show ¬ 2 ∈ ([1] : List Nat) by decide)) d_int) (a_cons (d_add (d_sl (d_ix (d_var (i := 2) (show ¬ 2 ∈ ([1] : List Nat) by decide)) d_int) do_none (do_some (d_var (i := 3) (show ¬ 3 ∈ ([1] : List Nat) by decide)))) (d_sl (d_ix (d_var (i := 2) (show ¬ 2 ∈ ([1] : List Nat) by decide)) d_int) (do_some (d_add (d_var (i := 3) (show ¬ 3 ∈ ([1] : List Nat) by decide)) d_int)) do_none)) a_nil))) a_nil)))
  ss_nil))))))
end
end Lk11
namespace Lk11
open PySem KS
def lsI (ps : List Int) : D := .lst (ps.map D.int)
theorem draw_nil (m : Int) : fn_law_draw [lsI [], .int m] = .ok (.int 0) [lsI [], .int m] := by
  rfl
theorem draw_cons (ps : List Int) (p m : Int) (hm : 0 < m) : fn_law_draw [lsI (ps ++ [p]), .int m] = .ok (.int (p % m)) [lsI ps, .int m] := by
  have z : ¬ ((ps.length : Int) + 1 = 0) := by omega
  unfold fn_law_draw runFn g_law_draw lsI
  simp [startF, outsOf, sSeq, sIf, sRet, sRetN, sSet, sSetF, sX, sNx, sBrk, sCnt, bE, bAnd, bOr, bNot, bTru, truB, eAnd, eOr, eNot, eIf, eChain, eOp2, eOp1, eC, eVar, ePl, eFz, aNil, aCons, eTup, eLst, eCall, argC, ioV, ioP, setP, eMut, isLstD, isDctD, pick, look, pers, isCell, ofO, lenF, eqF, neF, eqB, scalE, intF, absF, addF, subF, mulF, fdivF, modF, powF, negF, ltF, leF, gtF, geF, leA, orF, isNF, notNF, isNon, appM, extM, popM, revM, ixF, eSl, eSlF, slF, slFL, cutD, oNone, oSome, sRetV, sRetF, min2F, max2F, tupF, lstF, strF, isiF, isiTF, tyI, isT, isAny, hm, z]
  rfl
theorem draw (ps : List Int) (m : Int) (hm : 0 < m) : ∃ (r : Int) (ps' : List Int), fn_law_draw [lsI ps, .int m] = .ok (.int r) [lsI ps', .int m] ∧ 0 ≤ r ∧ r < m := by
  rcases List.eq_nil_or_concat ps with rfl | ⟨qs, q, rfl⟩
  · exact ⟨0, [], draw_nil m, Int.le_refl _, hm⟩
  · rw [List.concat_eq_append]
    exact ⟨q % m, qs, draw_cons qs q m hm, Int.emod_nonneg _ (by omega), Int.emod_lt_of_pos _ hm⟩
theorem emod_lt (i : Int) : -(2 ^ 64 : Int) < i % 2147483647 ∧ i % 2147483647 < 2 ^ 64 := by omega
/-! the pool -/
abbrev F9 (s : List Int) (ps : List Int) (tot : Int) (a b c d e : Option D) : Fr := [some (.scr s), some (.int 300), some (lsI ps), some (.int tot), a, b, c, d, e]
theorem sz : sizeLine = 16777216 := rfl
theorem pool_in (s ps : List Int) (tot rest : Int) (a c d e : Option D) (hl : ps.length < 16777216) :
    Ends ((sSeq (sX (eMut 2 isLstD true appM (aCons (eOp2 modF (eOp1 intF (eVar 5)) (eC (.int 2520))) aNil)))
      (sSeq (sSet 5 (eOp2 fdivF (eVar 5) (eC (.int 2520))))
      (sSeq (sIf (bE (eOp2 eqF (eVar 5) (eC (.int 0))))
      (sSeq sBrk
      sNx)
      sNx)
      sNx))) (F9 s ps tot a (some (.int rest)) c d e)) (Turned (fun fr => ∃ r2, fr = F9 s (ps ++ [rest % 2520]) tot a (some (.int r2)) c d e) (fun fl fr => fl = .nx ∧ ∃ r2, fr = F9 s (ps ++ [rest % 2520]) tot a (some (.int r2)) c d e)) := by
  by_cases h : rest / 2520 = 0
  · simp [startF, outsOf, sSeq, sIf, sRet, sRetN, sSet, sSetF, sX, sNx, sBrk, sCnt, bE, bAnd, bOr, bNot, bTru, truB, eAnd, eOr, eNot, eIf, eChain, eOp2, eOp1, eC, eVar, ePl, eFz, aNil, aCons, eTup, eLst, eCall, argC, ioV, ioP, setP, eMut, isLstD, isDctD, pick, look, pers, isCell, ofO, lenF, eqF, neF, eqB, scalE, intF, absF, addF, subF, mulF, fdivF, modF, powF, negF, ltF, leF, gtF, geF, leA, orF, isNF, notNF, isNon, appM, extM, popM, revM, ixF, eSl, eSlF, slF, slFL, cutD, oNone, oSome, sRetV, sRetF, min2F, max2F, tupF, lstF, strF, isiF, isiTF, tyI, isT, isAny, lsI, sz, hl, h, Turned]
  · simp [startF, outsOf, sSeq, sIf, sRet, sRetN, sSet, sSetF, sX, sNx, sBrk, sCnt, bE, bAnd, bOr, bNot, bTru, truB, eAnd, eOr, eNot, eIf, eChain, eOp2, eOp1, eC, eVar, ePl, eFz, aNil, aCons, eTup, eLst, eCall, argC, ioV, ioP, setP, eMut, isLstD, isDctD, pick, look, pers, isCell, ofO, lenF, eqF, neF, eqB, scalE, intF, absF, addF, subF, mulF, fdivF, modF, powF, negF, ltF, leF, gtF, geF, leA, orF, isNF, notNF, isNon, appM, extM, popM, revM, ixF, eSl, eSlF, slF, slFL, cutD, oNone, oSome, sRetV, sRetF, min2F, max2F, tupF, lstF, strF, isiF, isiTF, tyI, isT, isAny, lsI, sz, hl, h, Turned]
theorem F9_len (ps : List Int) (h : ps.length ≤ 16777216) : eOp1 lenF (ePl 2) = fun fr => eOp1 lenF (ePl 2) fr := rfl
theorem len2 (s : List Int) (ps : List Int) (tot L : Int) (a b c d e : Option D) (hL : (ps.length : Int) = L) : eOp1 lenF (ePl 2) (F9 s ps tot a b c d e) = .ok (.int L) (F9 s ps tot a b c d e) := by simp [startF, outsOf, sSeq, sIf, sRet, sRetN, sSet, sSetF, sX, sNx, sBrk, sCnt, bE, bAnd, bOr, bNot, bTru, truB, eAnd, eOr, eNot, eIf, eChain, eOp2, eOp1, eC, eVar, ePl, eFz, aNil, aCons, eTup, eLst, eCall, argC, ioV, ioP, setP, eMut, isLstD, isDctD, pick, look, pers, isCell, ofO, lenF, eqF, neF, eqB, scalE, intF, absF, addF, subF, mulF, fdivF, modF, powF, negF, ltF, leF, gtF, geF, leA, orF, isNF, notNF, isNon, appM, extM, popM, revM, ixF, eSl, eSlF, slF, slFL, cutD, oNone, oSome, sRetV, sRetF, min2F, max2F, tupF, lstF, strF, isiF, isiTF, tyI, isT, isAny, lsI, hL]
theorem el1 (s : List Int) (ps : List Int) (tot cell L : Int) (b c d e : Option D) (hL : (ps.length : Int) = L) : sSet 7 (eOp2 modF (eOp1 intF (eOp2 addF (eOp2 addF (eOp2 mulF (eVar 4) (eC (.int 48271))) (eOp2 mulF (eOp1 lenF (ePl 2)) (eC (.int 69621)))) (eC (.int 11)))) (eC (.int 2147483647))) (F9 s ps tot (some (.int cell)) b c d e) = .ok .nx (F9 s ps tot (some (.int cell)) b c (some (.int ((cell * 48271 + L * 69621 + 11) % 2147483647))) e) := by
  have a2 : eOp2 mulF (eVar 4) (eC (.int 48271)) (F9 s ps tot (some (.int cell)) b c d e) = .ok (.int (cell * 48271)) (F9 s ps tot (some (.int cell)) b c d e) := op2i rfl rfl (mul_c cell 48271 (by omega))
  have a4 : eOp2 mulF (eOp1 lenF (ePl 2)) (eC (.int 69621)) (F9 s ps tot (some (.int cell)) b c d e) = .ok (.int (L * 69621)) (F9 s ps tot (some (.int cell)) b c d e) := op2i (len2 s ps tot L _ _ _ _ _ hL) rfl (mul_c L 69621 (by omega))
  have a5 : eOp2 addF (eOp2 mulF (eVar 4) (eC (.int 48271))) (eOp2 mulF (eOp1 lenF (ePl 2)) (eC (.int 69621))) (F9 s ps tot (some (.int cell)) b c d e) = .ok (.int (cell * 48271 + L * 69621)) (F9 s ps tot (some (.int cell)) b c d e) := op2i a2 a4 rfl
  have a6 : eOp2 addF (eOp2 addF (eOp2 mulF (eVar 4) (eC (.int 48271))) (eOp2 mulF (eOp1 lenF (ePl 2)) (eC (.int 69621)))) (eC (.int 11)) (F9 s ps tot (some (.int cell)) b c d e) = .ok (.int (cell * 48271 + L * 69621 + 11)) (F9 s ps tot (some (.int cell)) b c d e) := op2i a5 rfl rfl
  have a8 := op2i (op1_ok (F := intF) a6 rfl rfl) (g := eC (.int 2147483647)) rfl (mod_c (cell * 48271 + L * 69621 + 11) 2147483647 (by omega))
  exact set_ok a8 rfl
theorem el2 (s : List Int) (ps : List Int) (tot cell x : Int) (b c e : Option D) (q1 : -18446744073709551616 < x ∧ x < 18446744073709551616) : sSet 8 (eOp2 modF (eOp1 intF (eOp2 addF (eOp2 mulF (eVar 7) (eVar 7)) (eC (.int 5)))) (eC (.int 2147483629))) (F9 s ps tot (some (.int cell)) b c (some (.int x)) e) = .ok .nx (F9 s ps tot (some (.int cell)) b c (some (.int x)) (some (.int ((x * x + 5) % 2147483629)))) := by simp [startF, outsOf, sSeq, sIf, sRet, sRetN, sSet, sSetF, sX, sNx, sBrk, sCnt, bE, bAnd, bOr, bNot, bTru, truB, eAnd, eOr, eNot, eIf, eChain, eOp2, eOp1, eC, eVar, ePl, eFz, aNil, aCons, eTup, eLst, eCall, argC, ioV, ioP, setP, eMut, isLstD, isDctD, pick, look, pers, isCell, ofO, lenF, eqF, neF, eqB, scalE, intF, absF, addF, subF, mulF, fdivF, modF, powF, negF, ltF, leF, gtF, geF, leA, orF, isNF, notNF, isNon, appM, extM, popM, revM, ixF, eSl, eSlF, slF, slFL, cutD, oNone, oSome, sRetV, sRetF, min2F, max2F, tupF, lstF, strF, isiF, isiTF, tyI, isT, isAny, lsI, q1]
theorem el3 (s : List Int) (ps : List Int) (tot x y : Int) (a b c : Option D) (e1 : ps.length < 16777216) : sX (eMut 2 isLstD true appM (aCons (eOp2 modF (eOp1 intF (eOp2 fdivF (eVar 8) (eC (.int 7)))) (eC (.int 2520))) aNil)) (F9 s ps tot a b c (some (.int x)) (some (.int y))) = .ok .nx (F9 s (ps ++ [y / 7 % 2520]) tot a b c (some (.int x)) (some (.int y))) := by simp [startF, outsOf, sSeq, sIf, sRet, sRetN, sSet, sSetF, sX, sNx, sBrk, sCnt, bE, bAnd, bOr, bNot, bTru, truB, eAnd, eOr, eNot, eIf, eChain, eOp2, eOp1, eC, eVar, ePl, eFz, aNil, aCons, eTup, eLst, eCall, argC, ioV, ioP, setP, eMut, isLstD, isDctD, pick, look, pers, isCell, ofO, lenF, eqF, neF, eqB, scalE, intF, absF, addF, subF, mulF, fdivF, modF, powF, negF, ltF, leF, gtF, geF, leA, orF, isNF, notNF, isNon, appM, extM, popM, revM, ixF, eSl, eSlF, slF, slFL, cutD, oNone, oSome, sRetV, sRetF, min2F, max2F, tupF, lstF, strF, isiF, isiTF, tyI, isT, isAny, lsI, sz, e1]
theorem el4 (s : List Int) (ps : List Int) (tot x y : Int) (a b c : Option D) (e1 : ps.length < 16777216) : sX (eMut 2 isLstD true appM (aCons (eOp2 modF (eOp2 modF (eOp1 intF (eOp2 addF (eOp2 mulF (eVar 8) (eC (.int 16807))) (eVar 7))) (eC (.int 2147483587))) (eC (.int 2520))) aNil)) (F9 s ps tot a b c (some (.int x)) (some (.int y))) = .ok .nx (F9 s (ps ++ [(y * 16807 + x) % 2147483587 % 2520]) tot a b c (some (.int x)) (some (.int y))) := by simp [startF, outsOf, sSeq, sIf, sRet, sRetN, sSet, sSetF, sX, sNx, sBrk, sCnt, bE, bAnd, bOr, bNot, bTru, truB, eAnd, eOr, eNot, eIf, eChain, eOp2, eOp1, eC, eVar, ePl, eFz, aNil, aCons, eTup, eLst, eCall, argC, ioV, ioP, setP, eMut, isLstD, isDctD, pick, look, pers, isCell, ofO, lenF, eqF, neF, eqB, scalE, intF, absF, addF, subF, mulF, fdivF, modF, powF, negF, ltF, leF, gtF, geF, leA, orF, isNF, notNF, isNon, appM, extM, popM, revM, ixF, eSl, eSlF, slF, slFL, cutD, oNone, oSome, sRetV, sRetF, min2F, max2F, tupF, lstF, strF, isiF, isiTF, tyI, isT, isAny, lsI, sz, e1]
theorem pool_els (s : List Int) (ps : List Int) (tot cell : Int) (b c d e : Option D) (hl : ps.length < 10000) : ∃ (y1 y2 : Int) (x7 x8 : Option D), (sSeq (sSet 7 (eOp2 modF (eOp1 intF (eOp2 addF (eOp2 addF (eOp2 mulF (eVar 4) (eC (.int 48271))) (eOp2 mulF (eOp1 lenF (ePl 2)) (eC (.int 69621)))) (eC (.int 11)))) (eC (.int 2147483647))))
  (sSeq (sSet 8 (eOp2 modF (eOp1 intF (eOp2 addF (eOp2 mulF (eVar 7) (eVar 7)) (eC (.int 5)))) (eC (.int 2147483629))))
  (sSeq (sX (eMut 2 isLstD true appM (aCons (eOp2 modF (eOp1 intF (eOp2 fdivF (eVar 8) (eC (.int 7)))) (eC (.int 2520))) aNil)))
  (sSeq (sX (eMut 2 isLstD true appM (aCons (eOp2 modF (eOp2 modF (eOp1 intF (eOp2 addF (eOp2 mulF (eVar 8) (eC (.int 16807))) (eVar 7))) (eC (.int 2147483587))) (eC (.int 2520))) aNil)))
  sNx)))) (F9 s ps tot (some (.int cell)) b c d e) = .ok .nx (F9 s (ps ++ [y1] ++ [y2]) tot (some (.int cell)) b c x7 x8) := by
  obtain ⟨L, hL⟩ : ∃ L : Int, (ps.length : Int) = L := ⟨_, rfl⟩
  have zx : 0 ≤ (cell * 48271 + L * 69621 + 11) % 2147483647 ∧ (cell * 48271 + L * 69621 + 11) % 2147483647 < 2147483647 := by omega
  have h1 := el1 s ps tot cell L b c d e hL
  generalize (cell * 48271 + L * 69621 + 11) % 2147483647 = x at h1 zx
  have h2 := el2 s ps tot cell x b c e (by omega)
  generalize (x * x + 5) % 2147483629 = y at h2
  have h3 := el3 s ps tot x y (some (.int cell)) b c (by omega)
  have h4 := el4 s (ps ++ [y / 7 % 2520]) tot x y (some (.int cell)) b c (by rw [List.length_append, List.length_singleton]; omega)
  refine ⟨y / 7 % 2520, (y * 16807 + x) % 2147483587 % 2520, some (.int x), some (.int y), ?_⟩
  rw [sSeq, h1, bind_ok]
  dsimp only
  rw [sSeq, h2, bind_ok]
  dsimp only
  rw [sSeq, h3, bind_ok]
  dsimp only
  rw [sSeq, h4, bind_ok]
  rfl
end Lk11
namespace Lk11
open PySem KS
/-- the first loop's body -/
theorem pool_cell (s : List Int) (ps : List Int) (tot cell : Int) (b c d e : Option D) (hl : ps.length < 10000) :
    Ends ((sSeq (sSet 5 (eOp1 intF (eOp1 absF (eVar 4))))
  (sSeq (sIf (bE (eOp2 geF (eVar 5) (eOp2 powF (eC (.int 10)) (eC (.int 18)))))
  (sSeq (sFor (iRg1 (eOp2 min2F (eC (.int 60)) (eOp2 subF (eVar 1) (eOp1 lenF (ePl 2))))) (tgN 6)
  (sSeq (sX (eMut 2 isLstD true appM (aCons (eOp2 modF (eOp1 intF (eVar 5)) (eC (.int 2520))) aNil)))
  (sSeq (sSet 5 (eOp2 fdivF (eVar 5) (eC (.int 2520))))
  (sSeq (sIf (bE (eOp2 eqF (eVar 5) (eC (.int 0))))
  (sSeq sBrk
  sNx)
  sNx)
  sNx))))
  sNx)
  (sSeq (sSet 7 (eOp2 modF (eOp1 intF (eOp2 addF (eOp2 addF (eOp2 mulF (eVar 4) (eC (.int 48271))) (eOp2 mulF (eOp1 lenF (ePl 2)) (eC (.int 69621)))) (eC (.int 11)))) (eC (.int 2147483647))))
  (sSeq (sSet 8 (eOp2 modF (eOp1 intF (eOp2 addF (eOp2 mulF (eVar 7) (eVar 7)) (eC (.int 5)))) (eC (.int 2147483629))))
  (sSeq (sX (eMut 2 isLstD true appM (aCons (eOp2 modF (eOp1 intF (eOp2 fdivF (eVar 8) (eC (.int 7)))) (eC (.int 2520))) aNil)))
  (sSeq (sX (eMut 2 isLstD true appM (aCons (eOp2 modF (eOp2 modF (eOp1 intF (eOp2 addF (eOp2 mulF (eVar 8) (eC (.int 16807))) (eVar 7))) (eC (.int 2147483587))) (eC (.int 2520))) aNil)))
  sNx)))))
  (sSeq (sSet 3 (eOp2 modF (eOp1 intF (eOp2 addF (eOp2 mulF (eVar 3) (eC (.int 263))) (eVar 4))) (eC (.int 1000003))))
  sNx))) (F9 s ps tot (some (.int cell)) b c d e)) (Turned (fun fr => ∃ qs t2 b c d e, fr = F9 s (ps ++ qs) t2 (some (.int cell)) b c d e ∧ qs.length ≤ 60) (fun _ _ => False)) := by
  refine seq_ends ?_
  have h1 : ∃ r, sSet 5 (eOp1 intF (eOp1 absF (eVar 4))) (F9 s ps tot (some (.int cell)) b c d e) = .ok .nx (F9 s ps tot (some (.int cell)) (some (.int r)) c d e) := ⟨if cell < 0 then -cell else cell, by simp [startF, outsOf, sSeq, sIf, sRet, sRetN, sSet, sSetF, sX, sNx, sBrk, sCnt, bE, bAnd, bOr, bNot, bTru, truB, eAnd, eOr, eNot, eIf, eChain, eOp2, eOp1, eC, eVar, ePl, eFz, aNil, aCons, eTup, eLst, eCall, argC, ioV, ioP, setP, eMut, isLstD, isDctD, pick, look, pers, isCell, ofO, lenF, eqF, neF, eqB, scalE, intF, absF, addF, subF, mulF, fdivF, modF, powF, negF, ltF, leF, gtF, geF, leA, orF, isNF, notNF, isNon, appM, extM, popM, revM, ixF, eSl, eSlF, slF, slFL, cutD, oNone, oSome, sRetV, sRetF, min2F, max2F, tupF, lstF, strF, isiF, isiTF, tyI, isT, isAny, lsI]⟩
  obtain ⟨r, h1⟩ := h1
  rw [h1, ends_ok]
  dsimp only
  refine seq_ends ?_
  have h2 : bE (eOp2 geF (eVar 5) (eOp2 powF (eC (.int 10)) (eC (.int 18)))) (F9 s ps tot (some (.int cell)) (some (.int r)) c d e) = .ok (decide (10 ^ 18 ≤ r)) (F9 s ps tot (some (.int cell)) (some (.int r)) c d e) := by simp [startF, outsOf, sSeq, sIf, sRet, sRetN, sSet, sSetF, sX, sNx, sBrk, sCnt, bE, bAnd, bOr, bNot, bTru, truB, eAnd, eOr, eNot, eIf, eChain, eOp2, eOp1, eC, eVar, ePl, eFz, aNil, aCons, eTup, eLst, eCall, argC, ioV, ioP, setP, eMut, isLstD, isDctD, pick, look, pers, isCell, ofO, lenF, eqF, neF, eqB, scalE, intF, absF, addF, subF, mulF, fdivF, modF, powF, negF, ltF, leF, gtF, geF, leA, orF, isNF, notNF, isNon, appM, extM, popM, revM, ixF, eSl, eSlF, slF, slFL, cutD, oNone, oSome, sRetV, sRetF, min2F, max2F, tupF, lstF, strF, isiF, isiTF, tyI, isT, isAny, lsI]
  refine if_ends h2 ?_
  have fin : ∀ (qs : List Int) (b c d e : Option D), qs.length ≤ 60 → Ends (sSeq (sSet 3 (eOp2 modF (eOp1 intF (eOp2 addF (eOp2 mulF (eVar 3) (eC (.int 263))) (eVar 4))) (eC (.int 1000003)))) sNx (F9 s (ps ++ qs) tot (some (.int cell)) b c d e)) (Turned (fun fr => ∃ qs t2 b c d e, fr = F9 s (ps ++ qs) t2 (some (.int cell)) b c d e ∧ qs.length ≤ 60) (fun _ _ => False)) := fun qs b c d e hq => by
    simp [startF, outsOf, sSeq, sIf, sRet, sRetN, sSet, sSetF, sX, sNx, sBrk, sCnt, bE, bAnd, bOr, bNot, bTru, truB, eAnd, eOr, eNot, eIf, eChain, eOp2, eOp1, eC, eVar, ePl, eFz, aNil, aCons, eTup, eLst, eCall, argC, ioV, ioP, setP, eMut, isLstD, isDctD, pick, look, pers, isCell, ofO, lenF, eqF, neF, eqB, scalE, intF, absF, addF, subF, mulF, fdivF, modF, powF, negF, ltF, leF, gtF, geF, leA, orF, isNF, notNF, isNon, appM, extM, popM, revM, ixF, eSl, eSlF, slF, slFL, cutD, oNone, oSome, sRetV, sRetF, min2F, max2F, tupF, lstF, strF, isiF, isiTF, tyI, isT, isAny, lsI, Turned]
    exact ⟨qs, rfl, hq⟩
  by_cases hb : 10 ^ 18 ≤ r
  · simp only [hb, decide_true, if_true]
    refine seq_ends ?_
    have h3 : ∃ m : Nat, m ≤ 60 ∧ iRg1 (eOp2 min2F (eC (.int 60)) (eOp2 subF (eVar 1) (eOp1 lenF (ePl 2)))) (F9 s ps tot (some (.int cell)) (some (.int r)) c d e) = .ok (rangeD 0 m) (F9 s ps tot (some (.int cell)) (some (.int r)) c d e) := by
      refine ⟨(if (300 - (ps.length : Int)) < 60 then 300 - (ps.length : Int) else 60).toNat, by split <;> omega, ?_⟩
      have hk : okI (if (300 - (ps.length : Int)) < 60 then 300 - (ps.length : Int) else 60) = true := by
        unfold okI
        rw [decide_eq_true_eq]
        split <;> omega
      simp [startF, outsOf, sSeq, sIf, sRet, sRetN, sSet, sSetF, sX, sNx, sBrk, sCnt, bE, bAnd, bOr, bNot, bTru, truB, eAnd, eOr, eNot, eIf, eChain, eOp2, eOp1, eC, eVar, ePl, eFz, aNil, aCons, eTup, eLst, eCall, argC, ioV, ioP, setP, eMut, isLstD, isDctD, pick, look, pers, isCell, ofO, lenF, eqF, neF, eqB, scalE, intF, absF, addF, subF, mulF, fdivF, modF, powF, negF, ltF, leF, gtF, geF, leA, orF, isNF, notNF, isNon, appM, extM, popM, revM, ixF, eSl, eSlF, slF, slFL, cutD, oNone, oSome, sRetV, sRetF, min2F, max2F, tupF, lstF, strF, isiF, isiTF, tyI, isT, isAny, lsI, iRg1, hk]
    obtain ⟨m, hm, h3⟩ := h3
    refine for_ends h3 ?_
    refine Ends.imp (loop_ends (I := fun ds fr => ∃ qs r2 k, fr = F9 s (ps ++ qs) tot (some (.int cell)) (some (.int r2)) k d e ∧ qs.length + ds.length ≤ 60)
      (R := fun fl fr => fl = .nx ∧ ∃ qs r2 k, fr = F9 s (ps ++ qs) tot (some (.int cell)) (some (.int r2)) k d e ∧ qs.length ≤ 60) ?_ ?_ (rangeD 0 m) _ ⟨[], r, c, by simp, by simpa [rangeD] using hm⟩) ?_
    · rintro dd ds fr ⟨qs, r2, k, rfl, hq⟩
      refine ⟨_, rfl, ?_⟩
      have hq' : qs.length + 1 ≤ 60 := by simp at hq; omega
      refine Ends.imp (pool_in s (ps ++ qs) tot r2 (some (.int cell)) (some dd) d e (by simp; omega)) fun fl fr h => ?_
      cases fl with
      | nx =>
        obtain ⟨r3, rfl⟩ := h
        exact ⟨qs ++ [r2 % 2520], r3, some dd, by simp, by simp at hq ⊢; omega⟩
      | cnt =>
        obtain ⟨r3, rfl⟩ := h
        exact ⟨qs ++ [r2 % 2520], r3, some dd, by simp, by simp at hq ⊢; omega⟩
      | brk =>
        obtain ⟨_, r3, rfl⟩ := h
        exact ⟨rfl, qs ++ [r2 % 2520], r3, some dd, by simp, by simp; omega⟩
      | ret v =>
        exact absurd h.1 (by simp)
    · rintro fr ⟨qs, r2, k, rfl, hq⟩
      exact ⟨rfl, qs, r2, k, rfl, by simpa using hq⟩
    · rintro fl fr ⟨rfl, qs, r2, k, rfl, hq⟩
      simp only [sNx, ends_ok]
      exact fin qs _ _ _ _ hq
  · simp only [hb, decide_false, Bool.false_eq_true, if_false]
    obtain ⟨y1, y2, x7, x8, e⟩ := pool_els s ps tot cell (some (.int r)) c d e hl
    rw [e, ends_ok]
    dsimp only
    rw [List.append_assoc]
    exact fin [y1, y2] _ _ _ _ (by simp)
theorem F9_step (s ps : List Int) (tot : Int) (a b c d e : Option D) (v : D) : tgN 4 v (F9 s ps tot a b c d e) = some (F9 s ps tot (some v) b c d e) := rfl
theorem pool (s : List Int) (h : s.length ≤ 63) : ∃ (ps : List Int) (outs : List D), fn_law_pool [.scr s, .int 300] = .ok (lsI ps) outs := by
  suffices hs : Ends (g_law_pool (startF 9 [.scr s, .int 300])) (fun fl fr => ∃ d, fl = .ret d ∧ ∃ ps, d = lsI ps) by
    obtain ⟨d, outs, e, ps, rfl⟩ := run_endsD (k := 2) hs
    exact ⟨ps, outs, e⟩
  unfold g_law_pool
  refine seq_ends ?_
  have e1 : sSetF 2 (eLst aNil) (startF 9 [.scr s, .int 300]) = .ok .nx [some (.scr s), some (.int 300), some (lsI []), none, none, none, none, none, none] := by rfl
  rw [e1, ends_ok]
  dsimp only
  refine seq_ends ?_
  have e2 : sSet 3 (eC (.int 1)) [some (.scr s), some (.int 300), some (lsI []), none, none, none, none, none, none] = .ok .nx (F9 s [] 1 none none none none none) := by simp [startF, outsOf, sSeq, sIf, sRet, sRetN, sSet, sSetF, sX, sNx, sBrk, sCnt, bE, bAnd, bOr, bNot, bTru, truB, eAnd, eOr, eNot, eIf, eChain, eOp2, eOp1, eC, eVar, ePl, eFz, aNil, aCons, eTup, eLst, eCall, argC, ioV, ioP, setP, eMut, isLstD, isDctD, pick, look, pers, isCell, ofO, lenF, eqF, neF, eqB, scalE, intF, absF, addF, subF, mulF, fdivF, modF, powF, negF, ltF, leF, gtF, geF, leA, orF, isNF, notNF, isNon, appM, extM, popM, revM, ixF, eSl, eSlF, slF, slFL, cutD, oNone, oSome, sRetV, sRetF, min2F, max2F, tupF, lstF, strF, isiF, isiTF, tyI, isT, isAny]
  rw [e2, ends_ok]
  dsimp only
  refine seq_ends ?_
  have e3 : iVal (eVar 0) (F9 s [] 1 none none none none none) = .ok (s.map D.int) (F9 s [] 1 none none none none none) := by simp [startF, outsOf, sSeq, sIf, sRet, sRetN, sSet, sSetF, sX, sNx, sBrk, sCnt, bE, bAnd, bOr, bNot, bTru, truB, eAnd, eOr, eNot, eIf, eChain, eOp2, eOp1, eC, eVar, ePl, eFz, aNil, aCons, eTup, eLst, eCall, argC, ioV, ioP, setP, eMut, isLstD, isDctD, pick, look, pers, isCell, ofO, lenF, eqF, neF, eqB, scalE, intF, absF, addF, subF, mulF, fdivF, modF, powF, negF, ltF, leF, gtF, geF, leA, orF, isNF, notNF, isNon, appM, extM, popM, revM, ixF, eSl, eSlF, slF, slFL, cutD, oNone, oSome, sRetV, sRetF, min2F, max2F, tupF, lstF, strF, isiF, isiTF, tyI, isT, isAny, iVal, seqD]
  refine for_ends e3 ?_
  refine Ends.imp (loop_ends (I := fun ds fr => ∃ ps tot a b c d e ts, ds = List.map D.int ts ∧ fr = F9 s ps tot a b c d e ∧ ps.length + 60 * ts.length ≤ 3780) (R := fun fl fr => fl = .nx ∧ ∃ ps tot a b c d e, fr = F9 s ps tot a b c d e ∧ ps.length ≤ 3780) ?_ ?_ (s.map D.int) _ ⟨[], 1, none, none, none, none, none, s, rfl, rfl, by simp; omega⟩) ?_
  · rintro dd ds fr ⟨ps, tot, a, b, c, d, e, ts, hts, rfl, hl⟩
    cases ts with
    | nil => cases hts
    | cons t ts =>
      rw [List.map_cons] at hts
      injection hts with h1 h2
      subst h1
      refine ⟨_, rfl, ?_⟩
      refine Ends.imp (pool_cell s ps tot t b c d e (by simp at hl; omega)) fun fl fr h => ?_
      cases fl with
      | nx =>
        obtain ⟨qs, t2, b, c, d, e, rfl, hq⟩ := h
        exact ⟨ps ++ qs, t2, _, b, c, d, e, ts, h2, rfl, by simp at hl ⊢; omega⟩
      | cnt =>
        obtain ⟨qs, t2, b, c, d, e, rfl, hq⟩ := h
        exact ⟨ps ++ qs, t2, _, b, c, d, e, ts, h2, rfl, by simp at hl ⊢; omega⟩
      | brk => exact h.elim
      | ret v => exact h.elim
  · rintro fr ⟨ps, tot, a, b, c, d, e, ts, hts, rfl, hl⟩
    exact ⟨rfl, ps, tot, a, b, c, d, e, rfl, by omega⟩
  rintro fl fr ⟨rfl, ps, tot, a, b, c, d, e, rfl, hl⟩
  dsimp only
  refine seq_ends ?_
  have e4 : iRg1 (eVar 1) (F9 s ps tot a b c d e) = .ok (rangeD 0 300) (F9 s ps tot a b c d e) := by
    have : okI 300 = true := by decide
    simp [startF, outsOf, sSeq, sIf, sRet, sRetN, sSet, sSetF, sX, sNx, sBrk, sCnt, bE, bAnd, bOr, bNot, bTru, truB, eAnd, eOr, eNot, eIf, eChain, eOp2, eOp1, eC, eVar, ePl, eFz, aNil, aCons, eTup, eLst, eCall, argC, ioV, ioP, setP, eMut, isLstD, isDctD, pick, look, pers, isCell, ofO, lenF, eqF, neF, eqB, scalE, intF, absF, addF, subF, mulF, fdivF, modF, powF, negF, ltF, leF, gtF, geF, leA, orF, isNF, notNF, isNon, appM, extM, popM, revM, ixF, eSl, eSlF, slF, slFL, cutD, oNone, oSome, sRetV, sRetF, min2F, max2F, tupF, lstF, strF, isiF, isiTF, tyI, isT, isAny, iRg1, this]
  refine for_ends e4 ?_
  refine Ends.imp (loop_ends (I := fun ds fr => ∃ ps tot a b c d e, fr = F9 s ps tot a b c d e ∧ ps.length + ds.length ≤ 5000 ∧ ∀ v ∈ ds, ∃ i, v = D.int i) (R := fun fl fr => fl = .nx ∧ ∃ ps tot a b c d e, fr = F9 s ps tot a b c d e ∧ ps.length ≤ 5000) ?_ ?_ (rangeD 0 300) _ ⟨ps, tot, a, b, c, d, e, rfl, by simp [rangeD]; omega, by simp [rangeD]⟩) ?_
  · rintro dd ds fr ⟨ps, tot, a, b, c, d, e, rfl, hl, hv⟩
    obtain ⟨i, rfl⟩ := hv dd (List.mem_cons_self ..)
    refine ⟨_, rfl, ?_⟩
    have q1 : ps.length < 16777216 := by simp at hl; omega
    simp [startF, outsOf, sSeq, sIf, sRet, sRetN, sSet, sSetF, sX, sNx, sBrk, sCnt, bE, bAnd, bOr, bNot, bTru, truB, eAnd, eOr, eNot, eIf, eChain, eOp2, eOp1, eC, eVar, ePl, eFz, aNil, aCons, eTup, eLst, eCall, argC, ioV, ioP, setP, eMut, isLstD, isDctD, pick, look, pers, isCell, ofO, lenF, eqF, neF, eqB, scalE, intF, absF, addF, subF, mulF, fdivF, modF, powF, negF, ltF, leF, gtF, geF, leA, orF, isNF, notNF, isNon, appM, extM, popM, revM, ixF, eSl, eSlF, slF, slFL, cutD, oNone, oSome, sRetV, sRetF, min2F, max2F, tupF, lstF, strF, isiF, isiTF, tyI, isT, isAny, lsI, sz, q1, Turned]
    exact ⟨ps ++ [(tot * 48271 + i * 69621 + 17) % 2147483647 / 5 % 2520], by simp, by simp at hl ⊢; omega, fun v hv' => hv v (List.mem_cons_of_mem _ hv')⟩
  · rintro fr ⟨ps, tot, a, b, c, d, e, rfl, hl, _⟩
    exact ⟨rfl, ps, tot, a, b, c, d, e, rfl, by simpa using hl⟩
  rintro fl fr ⟨rfl, ps, tot, a, b, c, d, e, rfl, hl⟩
  simp [startF, outsOf, sSeq, sIf, sRet, sRetN, sSet, sSetF, sX, sNx, sBrk, sCnt, bE, bAnd, bOr, bNot, bTru, truB, eAnd, eOr, eNot, eIf, eChain, eOp2, eOp1, eC, eVar, ePl, eFz, aNil, aCons, eTup, eLst, eCall, argC, ioV, ioP, setP, eMut, isLstD, isDctD, pick, look, pers, isCell, ofO, lenF, eqF, neF, eqB, scalE, intF, absF, addF, subF, mulF, fdivF, modF, powF, negF, ltF, leF, gtF, geF, leA, orF, isNF, notNF, isNon, appM, extM, popM, revM, ixF, eSl, eSlF, slF, slFL, cutD, oNone, oSome, sRetV, sRetF, min2F, max2F, tupF, lstF, strF, isiF, isiTF, tyI, isT, isAny, lsI, sz]
  refine ⟨(List.take (HT.sIx ps.length ps.length (some 300) - HT.sIx ps.length 0 none) (List.drop (HT.sIx ps.length 0 none) ps)).reverse, ?_⟩
  rw [← List.map_drop, ← List.map_take, List.map_reverse]
end Lk11
namespace Lk11
open PySem KS
def dkT (ks : List PP) : TD := ks.map fun p => (kP p, D.bl true)
def insP (p : PP) (ks : List PP) : List PP := if p ∈ ks then ks else ks ++ [p]
theorem kP_inj {p q : PP} : kP p = kP q ↔ p = q := by
  obtain ⟨a, b⟩ := p
  obtain ⟨c, d⟩ := q
  simp [kP]
theorem any_dk (p : PP) (ks : List PP) : ((dkT ks).any fun kv => decide (kv.1 = kP p)) = decide (p ∈ ks) := by
  induction ks with
  | nil => rfl
  | cons q ks ih =>
    unfold dkT at ih ⊢
    rw [List.map_cons, List.any_cons, ih]
    by_cases e : q = p
    · simp [e]
    · have : ¬ kP q = kP p := fun z => e (kP_inj.mp z)
      have e' : ¬ p = q := fun z => e z.symm
      simp [this, e']
theorem put_dk (p : PP) (ks : List PP) : putK' (dkT ks) (kP p) (.bl true) = dkT (insP p ks) := by
  unfold putK' insP
  rw [any_dk]
  by_cases h : p ∈ ks
  · simp only [h, decide_true, if_true]
    unfold dkT
    rw [List.map_map]
    refine List.map_congr_left fun q _ => ?_
    simp only [Function.comp]
    split <;> rfl
  · simp only [h, decide_false, Bool.false_eq_true, if_false]
    unfold dkT
    rw [List.map_append]
    rfl
theorem val_dk (p : PP) (ks : List PP) : valV' (dkT ks) (kP p) = if p ∈ ks then some (.bl true) else none := by
  induction ks with
  | nil => rfl
  | cons q ks ih =>
    unfold valV' dkT at ih ⊢
    rw [List.map_cons, List.find?_cons]
    by_cases e : q = p
    · simp [e]
    · have : ¬ kP q = kP p := fun z => e (kP_inj.mp z)
      have e' : ¬ p = q := fun z => e z.symm
      simp only [this, decide_false]
      rw [ih]
      simp [e']
theorem drop_dk (p : PP) (ks : List PP) : dropK' (dkT ks) (kP p) = dkT (ks.filter fun q => decide (q ≠ p)) := by
  unfold dropK' dkT
  rw [List.filter_map]
  congr 1
  refine List.filter_congr fun q _ => ?_
  simp [Function.comp, kP_inj]
theorem keys_dk (ks : List PP) : (dkT ks).map (·.1) = ks.map kP := by
  unfold dkT
  rw [List.map_map]
  rfl
/-- the arcs of a net of n places -/
def VKs (n : Int) (ks : List PP) : Prop := ks.Nodup ∧ ∀ p ∈ ks, (0 ≤ p.1 ∧ p.1 < n) ∧ (0 ≤ p.2 ∧ p.2 < n) ∧ p.1 ≠ p.2
theorem VKs.ins {n : Int} {ks : List PP} {p : PP} (h : VKs n ks) (hp : (0 ≤ p.1 ∧ p.1 < n) ∧ (0 ≤ p.2 ∧ p.2 < n) ∧ p.1 ≠ p.2) : VKs n (insP p ks) := by
  unfold insP
  split
  · exact h
  · next hn =>
    refine ⟨?_, fun q hq => ?_⟩
    · rw [List.nodup_append]
      exact ⟨h.1, by simp, fun a ha b hb e => by rw [List.mem_singleton.mp hb] at e; exact hn (e ▸ ha)⟩
    · rcases List.mem_append.mp hq with z | z
      · exact h.2 q z
      · rw [List.mem_singleton.mp z]; exact hp
theorem insP_len {p : PP} {ks : List PP} : (insP p ks).length ≤ ks.length + 1 := by
  unfold insP
  split
  · omega
  · simp
theorem VKs.drop {n : Int} {ks : List PP} (p : PP) (h : VKs n ks) : VKs n (ks.filter fun q => decide (q ≠ p)) :=
  ⟨h.1.filter _, fun q hq => h.2 q (List.mem_filter.mp hq).1⟩
theorem toKeys2 (x y : Int) : toKeys [.int x, .int y] = some (kP (x, y)) := rfl
theorem ev {i : Nat} {fr : Fr} {d : D} (h : fr[i]? = some (some d)) : eVar i fr = .ok d fr := eVar_at h
theorem args2 {fr : Fr} {a b : Nat} {x y : Int} (ha : fr[a]? = some (some (.int x))) (hb : fr[b]? = some (some (.int y))) : aCons (eVar a) (aCons (eVar b) aNil) fr = .ok [.int x, .int y] fr := by
  simp [aCons, ev ha, ev hb, aNil]
theorem dput_ok {fr : Fr} {a b : Nat} {x y : Int} {ks : List PP} (h4 : fr[4]? = some (some (dTm (dkT ks)))) (ha : fr[a]? = some (some (.int x))) (hb : fr[b]? = some (some (.int y))) (hl : ks.length < 10000) :
    sDput 4 (aCons (eVar a) (aCons (eVar b) aNil)) (eC (.bl true)) fr = .ok .nx (fr.set 4 (some (dTm (dkT (insP (x, y) ks))))) := by
  have z : (dkT ks).length < sizeLine ∧ ([D.int x, D.int y]).length ≤ sizeLine := by
    rw [sz]
    refine ⟨?_, show 2 ≤ 16777216 by decide⟩
    unfold dkT
    rw [List.length_map]
    omega
  unfold sDput eC
  simp only [bind_ok, pers, if_true, h4]
  rw [if_pos (show isDctD (dTm (dkT ks)) = true from rfl)]
  simp only [args2 ha hb, bind_ok, h4, toKeys2, unT_dTm]
  rw [if_pos z, put_dk]
theorem din_ok {fr : Fr} {a b : Nat} {x y : Int} {ks : List PP} (h4 : fr[4]? = some (some (dTm (dkT ks)))) (ha : fr[a]? = some (some (.int x))) (hb : fr[b]? = some (some (.int y))) :
    eDin 4 (aCons (eVar a) (aCons (eVar b) aNil)) fr = .ok (.bl (decide ((x, y) ∈ ks))) fr := by
  unfold eDin
  have z : ([D.int x, D.int y]).length ≤ sizeLine := by rw [sz]; exact (show 2 ≤ 16777216 by decide)
  simp only [args2 ha hb, bind_ok, h4, toKeys2, unT_dTm, val_dk]
  rw [if_pos z]
  by_cases h : (x, y) ∈ ks <;> simp [h]
theorem dpop_ok {fr : Fr} {a b : Nat} {x y : Int} {ks : List PP} (h4 : fr[4]? = some (some (dTm (dkT ks)))) (ha : fr[a]? = some (some (.int x))) (hb : fr[b]? = some (some (.int y))) (hm : (x, y) ∈ ks) :
    eDpop 4 (aCons (eVar a) (aCons (eVar b) aNil)) fr = .ok (.bl true) (fr.set 4 (some (dTm (dkT (ks.filter fun q => decide (q ≠ (x, y))))))) := by
  unfold eDpop
  simp only [h4]
  rw [if_pos (show isDctD (dTm (dkT ks)) = true from rfl)]
  have z : ([D.int x, D.int y]).length ≤ sizeLine := by rw [sz]; exact (show 2 ≤ 16777216 by decide)
  simp only [args2 ha hb, bind_ok, h4, toKeys2, unT_dTm, val_dk, hm, if_true, drop_dk]
  rw [if_pos z]
theorem draw_ok {fr : Fr} {ps : List Int} {m : Int} {e : Ev} (h0 : fr[0]? = some (some (lsI ps))) (he : e fr = .ok (.int m) fr) (hm : 0 < m) : ∃ (r : Int) (ps' : List Int), eCall [true, false] fn_law_draw (aCons (ePl 0) (aCons e aNil)) fr = .ok (.int r) (fr.set 0 (some (lsI ps'))) ∧ 0 ≤ r ∧ r < m := by
  obtain ⟨r, ps', hd, h1, h2⟩ := draw ps m hm
  refine ⟨r, ps', ?_, h1, h2⟩
  have hp : ePl 0 fr = .ok (.var 0) fr := ePl_at h0 rfl
  unfold eCall
  simp [aCons, hp, he, aNil, argC, h0, isCell, lsI, pers, ioV]
  have hd' : fn_law_draw [D.lst (List.map D.int ps), D.int m] = .ok (.int r) [lsI ps', .int m] := hd
  rw [hd']
  simp [ioP, setP, lsI]
end Lk11
namespace Lk11
open PySem KS
abbrev G13 (ps : List Int) (mo od n : Int) (ks : List PP) (a b c d e f g h : Option D) : Fr := [some (lsI ps), some (.int mo), some (.int od), some (.int n), some (dTm (dkT ks)), a, b, c, d, e, f, g, h]
theorem nx_seq {g h : Sv} {fr fr1 : Fr} {P : Fl → Fr → Prop} (e : g fr = .ok .nx fr1) (k : Ends (h fr1) P) : Ends (sSeq g h fr) P := by
  refine seq_ends ?_
  rw [e, ends_ok]
  exact k
theorem range_ints {lo : Int} {m : Nat} {v : D} (h : v ∈ rangeD lo m) : ∃ i : Int, v = .int i ∧ lo ≤ i ∧ i < lo + m := by
  unfold rangeD at h
  obtain ⟨k, hk, rfl⟩ := List.mem_map.mp h
  exact ⟨lo + k, rfl, by omega, by have := List.mem_range.mp hk; omega⟩
theorem rg_ok {f : Ev} {fr fr1 : Fr} {j : Int} (hf : f fr = .ok (.int j) fr1) (h : 0 ≤ j ∧ j < 1000) : iRg1 f fr = .ok (rangeD 0 j.toNat) fr1 := by
  have hk : okI j = true := by
    unfold okI
    rw [decide_eq_true_eq]
    omega
  unfold iRg1
  rw [hf, bind_ok]
  simp [look, hk]
theorem range_len {lo : Int} {m : Nat} : (rangeD lo m).length = m := by simp [rangeD]
/-- the first way: a ring of five, both ways, some arcs turned -/
theorem ring_put (ps : List Int) (mo od turn step k : Int) (ks : List PP) (a b c d e f : Option D) (hs : step = 1 ∨ step = 2) (ht : 0 ≤ turn ∧ turn < 5) (hk : 0 ≤ k ∧ k < 5) (hv : VKs 5 ks) (hl : ks.length < 9000) :
    Ends ((sSeq (sSet 8 (eOp2 modF (eOp1 intF (eOp2 addF (eVar 5) (eOp2 mulF (eVar 7) (eVar 6)))) (eC (.int 5))))
  (sSeq (sSet 9 (eOp2 modF (eOp1 intF (eOp2 addF (eOp2 addF (eVar 5) (eOp2 mulF (eVar 7) (eVar 6))) (eVar 6))) (eC (.int 5))))
  (sSeq (sDput 4 (aCons (eVar 8) (aCons (eVar 9) aNil)) (eC (.bl true)))
  (sSeq (sDput 4 (aCons (eVar 9) (aCons (eVar 8) aNil)) (eC (.bl true)))
  sNx)))) (G13 ps mo od 5 ks (some (.int turn)) (some (.int step)) (some (.int k)) b c d e f))
    (Turned (fun fr => ∃ ks' b c, fr = G13 ps mo od 5 ks' (some (.int turn)) (some (.int step)) (some (.int k)) b c d e f ∧ VKs 5 ks' ∧ ks'.length ≤ ks.length + 2) (fun _ _ => False)) := by
  have hm : eOp2 mulF (eVar 7) (eVar 6) (G13 ps mo od 5 ks (some (.int turn)) (some (.int step)) (some (.int k)) b c d e f) = .ok (.int (k * step)) _ := op2i (by rfl) (by rfl) (mul_c k step (by omega))
  have h1 : sSet 8 (eOp2 modF (eOp1 intF (eOp2 addF (eVar 5) (eOp2 mulF (eVar 7) (eVar 6)))) (eC (.int 5))) (G13 ps mo od 5 ks (some (.int turn)) (some (.int step)) (some (.int k)) b c d e f) = .ok .nx (G13 ps mo od 5 ks (some (.int turn)) (some (.int step)) (some (.int k)) (some (.int ((turn + k * step) % 5))) c d e f) :=
    set_ok (op2i (i := turn + k * step) (j := 5) (op1_ok (op2i (i := turn) (j := k * step) (by rfl) hm (by rfl)) (by rfl) (by rfl)) (by rfl) (mod_c _ 5 (by omega))) rfl
  refine nx_seq h1 ?_
  have hm : eOp2 mulF (eVar 7) (eVar 6) (G13 ps mo od 5 ks (some (.int turn)) (some (.int step)) (some (.int k)) (some (.int ((turn + k * step) % 5))) c d e f) = .ok (.int (k * step)) _ := op2i (by rfl) (by rfl) (mul_c k step (by omega))
  have h2 : sSet 9 (eOp2 modF (eOp1 intF (eOp2 addF (eOp2 addF (eVar 5) (eOp2 mulF (eVar 7) (eVar 6))) (eVar 6))) (eC (.int 5))) (G13 ps mo od 5 ks (some (.int turn)) (some (.int step)) (some (.int k)) (some (.int ((turn + k * step) % 5))) c d e f) = .ok .nx (G13 ps mo od 5 ks (some (.int turn)) (some (.int step)) (some (.int k)) (some (.int ((turn + k * step) % 5))) (some (.int ((turn + k * step + step) % 5))) d e f) :=
    set_ok (op2i (i := turn + k * step + step) (j := 5) (op1_ok (op2i (i := turn + k * step) (j := step) (op2i (i := turn) (j := k * step) (by rfl) hm (by rfl)) (by rfl) (by rfl)) (by rfl) (by rfl)) (by rfl) (mod_c _ 5 (by omega))) rfl
  refine nx_seq h2 ?_
  generalize turn + k * step = X
  have p1 : (0 ≤ X % 5 ∧ X % 5 < 5) ∧ (0 ≤ (X + step) % 5 ∧ (X + step) % 5 < 5) ∧ X % 5 ≠ (X + step) % 5 := by rcases hs with rfl | rfl <;> omega
  refine nx_seq (dput_ok (a := 8) (b := 9) (by rfl) (by rfl) (by rfl) (by omega)) ?_
  have l1 := insP_len (p := (X % 5, (X + step) % 5)) (ks := ks)
  have v1 := hv.ins (p := (X % 5, (X + step) % 5)) p1
  refine nx_seq (dput_ok (ks := insP (X % 5, (X + step) % 5) ks) (a := 9) (b := 8) (x := (X + step) % 5) (y := X % 5) (by rfl) (by rfl) (by rfl) (by omega)) ?_
  have l2 := insP_len (p := ((X + step) % 5, X % 5)) (ks := insP (X % 5, (X + step) % 5) ks)
  have v2 := v1.ins (p := ((X + step) % 5, X % 5)) ⟨p1.2.1, p1.1, fun z => p1.2.2 z.symm⟩
  exact ends_ok.mpr ⟨_, _, _, rfl, v2, by omega⟩
theorem toggle (ps : List Int) (mo od : Int) (ks : List PP) (a b c d e f g h : Option D) (hv : VKs 5 ks) (hl : ks.length < 9000) :
    Ends ((sSeq (sSet 8 (eCall [true, false] fn_law_draw (aCons (ePl 0) (aCons (eC (.int 5)) aNil))))
  (sSeq (sSet 9 (eOp2 modF (eOp1 intF (eOp2 addF (eOp2 addF (eVar 8) (eC (.int 1))) (eCall [true, false] fn_law_draw (aCons (ePl 0) (aCons (eC (.int 4)) aNil))))) (eC (.int 5))))
  (sSeq (sIf (bE (eDin 4 (aCons (eVar 8) (aCons (eVar 9) aNil))))
  (sSeq (sX (eDpop 4 (aCons (eVar 8) (aCons (eVar 9) aNil))))
  sNx)
  (sSeq (sDput 4 (aCons (eVar 8) (aCons (eVar 9) aNil)) (eC (.bl true)))
  sNx))
  sNx))) (G13 ps mo od 5 ks a b c d e f g h))
    (Turned (fun fr => ∃ ps' ks' d e, fr = G13 ps' mo od 5 ks' a b c d e f g h ∧ VKs 5 ks' ∧ ks'.length ≤ ks.length + 1) (fun _ _ => False)) := by
  obtain ⟨x, ps1, e1, x0, x5⟩ := draw_ok (fr := G13 ps mo od 5 ks a b c d e f g h) (e := eC (.int 5)) (m := 5) (by rfl) (by rfl) (by omega)
  refine nx_seq (set_ok e1 (by rfl)) ?_
  obtain ⟨y, ps2, e2, y0, y4⟩ := draw_ok (fr := G13 ps1 mo od 5 ks a b c (some (.int x)) e f g h) (e := eC (.int 4)) (m := 4) (by rfl) (by rfl) (by omega)
  have e3 : eOp2 addF (eVar 8) (eC (.int 1)) (G13 ps1 mo od 5 ks a b c (some (.int x)) e f g h) = .ok (.int (x + 1)) _ := op2i (by rfl) (by rfl) rfl
  refine nx_seq (set_ok (op2_ok (x := .int (x + 1 + y)) (y := .int 5) (op1_ok (op2_ok (x := .int (x + 1)) (y := .int y) e3 e2 (by rfl) (by rfl) (by rfl)) (by rfl) (by rfl)) (by rfl) (by rfl) (by rfl) (mod_c _ 5 (by omega))) (by rfl)) ?_
  have p1 : (0 ≤ x ∧ x < 5) ∧ (0 ≤ (x + 1 + y) % 5 ∧ (x + 1 + y) % 5 < 5) ∧ x ≠ (x + 1 + y) % 5 := by omega
  generalize (x + 1 + y) % 5 = z at p1
  have e4 : bE (eDin 4 (aCons (eVar 8) (aCons (eVar 9) aNil))) (G13 ps2 mo od 5 ks a b c (some (.int x)) (some (.int z)) f g h) = .ok (decide ((x, z) ∈ ks)) (G13 ps2 mo od 5 ks a b c (some (.int x)) (some (.int z)) f g h) := by
    unfold bE
    rw [din_ok (a := 8) (b := 9) (x := x) (y := z) (ks := ks) (by rfl) (by rfl) rfl, bind_ok]
  refine seq_ends (if_ends e4 ?_)
  by_cases hm : (x, z) ∈ ks
  · simp only [hm, decide_true, if_true]
    have e5 : sX (eDpop 4 (aCons (eVar 8) (aCons (eVar 9) aNil))) (G13 ps2 mo od 5 ks a b c (some (.int x)) (some (.int z)) f g h) = .ok .nx (G13 ps2 mo od 5 (ks.filter fun q => decide (q ≠ (x, z))) a b c (some (.int x)) (some (.int z)) f g h) := by
      unfold sX
      rw [dpop_ok (a := 8) (b := 9) (x := x) (y := z) (ks := ks) (by rfl) (by rfl) (by rfl) hm, bind_ok]
      rfl
    refine nx_seq e5 (ends_ok.mpr (ends_ok.mpr ⟨_, _, _, _, rfl, hv.drop _, ?_⟩))
    exact Nat.le_trans (List.length_filter_le _ _) (Nat.le_succ _)
  · simp only [hm, decide_false, Bool.false_eq_true, if_false]
    refine nx_seq (dput_ok (a := 8) (b := 9) (x := x) (y := z) (ks := ks) (by rfl) (by rfl) (by rfl) (by omega)) (ends_ok.mpr (ends_ok.mpr ⟨_, _, _, _, rfl, hv.ins p1, insP_len⟩))
/-- one place of the second way -/
theorem sown (ps : List Int) (mo od n many i j : Int) (ks : List PP) (a b c d e : Option D) (hi : 0 ≤ i ∧ i < n) (hj : 0 ≤ j ∧ j < n) (hv : VKs n ks) (hl : ks.length < 9000) :
    Ends ((sSeq (sIf (bAnd (bE (eOp2 neF (eVar 11) (eVar 12))) (bE (eOp2 ltF (eCall [true, false] fn_law_draw (aCons (ePl 0) (aCons (eC (.int 6)) aNil))) (eVar 10))))
  (sSeq (sDput 4 (aCons (eVar 11) (aCons (eVar 12) aNil)) (eC (.bl true)))
  sNx)
  sNx)
  sNx) (G13 ps mo od n ks a b c d e (some (.int many)) (some (.int i)) (some (.int j))))
    (Turned (fun fr => ∃ ps' ks', fr = G13 ps' mo od n ks' a b c d e (some (.int many)) (some (.int i)) (some (.int j)) ∧ VKs n ks' ∧ ks'.length ≤ ks.length + 1) (fun _ _ => False)) := by
  have e1 : bE (eOp2 neF (eVar 11) (eVar 12)) (G13 ps mo od n ks a b c d e (some (.int many)) (some (.int i)) (some (.int j))) = .ok (!decide (i = j)) (G13 ps mo od n ks a b c d e (some (.int many)) (some (.int i)) (some (.int j))) := by
    unfold bE
    rw [op2i (F := neF) (i := i) (j := j) (z := .bl (!decide (i = j))) (by rfl) (by rfl) (by simp [neF, eqB, scalE]), bind_ok]
  obtain ⟨r, ps1, e2, r0, r6⟩ := draw_ok (fr := G13 ps mo od n ks a b c d e (some (.int many)) (some (.int i)) (some (.int j))) (e := eC (.int 6)) (m := 6) (by rfl) (by rfl) (by omega)
  have e3 : bE (eOp2 ltF (eCall [true, false] fn_law_draw (aCons (ePl 0) (aCons (eC (.int 6)) aNil))) (eVar 10)) (G13 ps mo od n ks a b c d e (some (.int many)) (some (.int i)) (some (.int j))) = .ok (decide (r < many)) (G13 ps1 mo od n ks a b c d e (some (.int many)) (some (.int i)) (some (.int j))) := by
    unfold bE
    rw [op2_ok (F := ltF) (z := .bl (decide (r < many))) (y := .int many) e2 (by rfl) (by rfl) (by rfl) (by rfl), bind_ok]
    rfl
  by_cases hij : i = j
  · have e4 : bAnd (bE (eOp2 neF (eVar 11) (eVar 12))) (bE (eOp2 ltF (eCall [true, false] fn_law_draw (aCons (ePl 0) (aCons (eC (.int 6)) aNil))) (eVar 10))) (G13 ps mo od n ks a b c d e (some (.int many)) (some (.int i)) (some (.int j))) = .ok false (G13 ps mo od n ks a b c d e (some (.int many)) (some (.int i)) (some (.int j))) := by
      unfold bAnd
      rw [e1, bind_ok]
      simp [hij]
    exact seq_ends (if_ends e4 (ends_ok.mpr (ends_ok.mpr ⟨_, _, rfl, hv, by omega⟩)))
  · have e4 : bAnd (bE (eOp2 neF (eVar 11) (eVar 12))) (bE (eOp2 ltF (eCall [true, false] fn_law_draw (aCons (ePl 0) (aCons (eC (.int 6)) aNil))) (eVar 10))) (G13 ps mo od n ks a b c d e (some (.int many)) (some (.int i)) (some (.int j))) = .ok (decide (r < many)) (G13 ps1 mo od n ks a b c d e (some (.int many)) (some (.int i)) (some (.int j))) := by
      unfold bAnd
      rw [e1, bind_ok]
      simp only [hij, decide_false, Bool.not_false, if_true]
      exact e3
    refine seq_ends (if_ends e4 ?_)
    by_cases hr : r < many
    · simp only [hr, decide_true, if_true]
      exact nx_seq (dput_ok (a := 11) (b := 12) (x := i) (y := j) (ks := ks) (by rfl) (by rfl) (by rfl) (by omega)) (ends_ok.mpr (ends_ok.mpr ⟨_, _, rfl, hv.ins ⟨hi, hj, hij⟩, insP_len⟩))
    · simp only [hr, decide_false, Bool.false_eq_true, if_false]
      exact ends_ok.mpr (ends_ok.mpr ⟨_, _, rfl, hv, by omega⟩)
end Lk11
namespace Lk11
open PySem KS
def netD (n : Int) (as : List PP) : D := .tup [.int n, .tup (as.map dPP)]
theorem arcs (ps : List Int) (mo od : Int) (hmo : 5 ≤ mo ∧ mo ≤ 90) : ∃ (n : Int) (ks : List PP) (ps' : List Int), fn_law_arcs [lsI ps, .int mo, .int od] = .ok (netD n (ks.mergeSort leP)) [lsI ps', .int mo, .int od] ∧ (1 ≤ n ∧ n ≤ mo) ∧ VKs n ks ∧ ks.length ≤ 9000 := by
  suffices hs : Ends (g_law_arcs (startF 13 [lsI ps, .int mo, .int od])) (fun fl fr => ∃ (n : Int) (ks : List PP) (ps' : List Int) (r : Fr), fl = .ret (netD n (ks.mergeSort leP)) ∧ fr = some (lsI ps') :: some (.int mo) :: some (.int od) :: r ∧ (1 ≤ n ∧ n ≤ mo) ∧ VKs n ks ∧ ks.length ≤ 9000) by
    obtain ⟨fl, fr, e, n, ks, ps', r, rfl, rfl, hn, hv⟩ := hs
    exact ⟨n, ks, ps', by unfold fn_law_arcs runFn; rw [e]; rfl, hn, hv⟩
  unfold g_law_arcs
  have st : startF 13 [lsI ps, .int mo, .int od] = [some (lsI ps), some (.int mo), some (.int od), none, none, none, none, none, none, none, none, none, none] := rfl
  rw [st]
  obtain ⟨r, ps1, e1, r0, rm⟩ := draw_ok (fr := [some (lsI ps), some (.int mo), some (.int od), none, none, none, none, none, none, none, none, none, none]) (e := eVar 1) (m := mo) (by rfl) (by rfl) (by omega)
  have s1 : sSet 3 (eOp2 addF (eC (.int 1)) (eCall [true, false] fn_law_draw (aCons (ePl 0) (aCons (eVar 1) aNil)))) [some (lsI ps), some (.int mo), some (.int od), none, none, none, none, none, none, none, none, none, none] = .ok .nx [some (lsI ps1), some (.int mo), some (.int od), some (.int (1 + r)), none, none, none, none, none, none, none, none, none] :=
    set_ok (op2_ok (x := .int 1) (z := .int (1 + r)) (by rfl) e1 (by rfl) (by rfl) (by rfl)) (by rfl)
  refine nx_seq s1 ?_
  have s2 : sSetF 4 (eC (dTm [])) [some (lsI ps1), some (.int mo), some (.int od), some (.int (1 + r)), none, none, none, none, none, none, none, none, none] = .ok .nx (G13 ps1 mo od (1 + r) [] none none none none none none none none) := rfl
  refine nx_seq s2 ?_
  obtain ⟨r2, ps2, e2, r20, r26⟩ := draw_ok (fr := G13 ps1 mo od (1 + r) [] none none none none none none none none) (e := eC (.int 6)) (m := 6) (by rfl) (by rfl) (by omega)
  have e3 : bE (eOp2 ltF (eCall [true, false] fn_law_draw (aCons (ePl 0) (aCons (eC (.int 6)) aNil))) (eVar 2)) (G13 ps1 mo od (1 + r) [] none none none none none none none none) = .ok (decide (r2 < od)) (G13 ps2 mo od (1 + r) [] none none none none none none none none) := by
    unfold bE
    rw [op2_ok (F := ltF) (z := .bl (decide (r2 < od))) (y := .int od) e2 (by rfl) (by rfl) (by rfl) (by rfl), bind_ok]
    rfl
  refine seq_ends (if_ends e3 ?_)
  -- the end, from either way
  have fin : ∀ (n : Int) (ks : List PP) (qs : List Int) (a b c d e f g h : Option D), (1 ≤ n ∧ n ≤ mo) → VKs n ks → ks.length ≤ 9000 → Ends (sSeq (sRet (eTup (aCons (eVar 3) (aCons (eOp1 tupF (eSortD 4)) aNil)))) sNx (G13 qs mo od n ks a b c d e f g h)) (fun fl fr => ∃ (n : Int) (ks : List PP) (ps' : List Int) (r : Fr), fl = .ret (netD n (ks.mergeSort leP)) ∧ fr = some (lsI ps') :: some (.int mo) :: some (.int od) :: r ∧ (1 ≤ n ∧ n ≤ mo) ∧ VKs n ks ∧ ks.length ≤ 9000) := by
    intro n ks qs a b c d e f g h hn hv hl9
    have k1 : eSortD 4 (G13 qs mo od n ks a b c d e f g h) = .ok (.lst ((ks.mergeSort leP).map dPP)) (G13 qs mo od n ks a b c d e f g h) := by
      unfold eSortD
      simp only [List.getElem?_cons_succ, List.getElem?_cons_zero, unT_dTm, keys_dk, toPPs_kP]
    have k2 : eOp1 tupF (eSortD 4) (G13 qs mo od n ks a b c d e f g h) = .ok (.tup ((ks.mergeSort leP).map dPP)) (G13 qs mo od n ks a b c d e f g h) := op1_ok k1 (by rfl) (by rfl)
    have k3 : sRet (eTup (aCons (eVar 3) (aCons (eOp1 tupF (eSortD 4)) aNil))) (G13 qs mo od n ks a b c d e f g h) = .ok (.ret (netD n (ks.mergeSort leP))) (G13 qs mo od n ks a b c d e f g h) := by
      unfold sRet eTup aCons
      have v3 : eVar 3 (G13 qs mo od n ks a b c d e f g h) = .ok (.int n) (G13 qs mo od n ks a b c d e f g h) := rfl
      rw [v3, bind_ok]
      simp only [bind_ok, k2, aNil]
      simp [sz, netD, pers]
    unfold sSeq
    rw [k3, bind_ok]
    exact ⟨_, _, rfl, n, ks, qs, _, rfl, rfl, hn, hv, hl9⟩
  by_cases hb : r2 < od
  · simp only [hb, decide_true, if_true]
    have s3 : sSet 3 (eC (.int 5)) (G13 ps2 mo od (1 + r) [] none none none none none none none none) = .ok .nx (G13 ps2 mo od 5 [] none none none none none none none none) := rfl
    refine nx_seq s3 ?_
    obtain ⟨t, ps3, e4, t0, t5⟩ := draw_ok (fr := G13 ps2 mo od 5 [] none none none none none none none none) (e := eC (.int 5)) (m := 5) (by rfl) (by rfl) (by omega)
    refine nx_seq (set_ok e4 (by rfl)) ?_
    obtain ⟨u, ps4, e5, u0, u2⟩ := draw_ok (fr := G13 ps3 mo od 5 [] (some (.int t)) none none none none none none none) (e := eC (.int 2)) (m := 2) (by rfl) (by rfl) (by omega)
    refine nx_seq (set_ok (op2_ok (x := .int 1) (z := .int (1 + u)) (by rfl) e5 (by rfl) (by rfl) (by rfl)) (by rfl)) ?_
    have g1 : iRg1 (eC (.int 5)) (G13 ps4 mo od 5 [] (some (.int t)) (some (.int (1 + u))) none none none none none none) = .ok (rangeD 0 5) _ := rg_ok (j := 5) (by rfl) (by omega)
    refine seq_ends (for_ends g1 ?_)
    refine Ends.imp (loop_ends (I := fun ds fr => ∃ ks a b c, fr = G13 ps4 mo od 5 ks (some (.int t)) (some (.int (1 + u))) a b c none none none ∧ VKs 5 ks ∧ ks.length + 2 * ds.length ≤ 10 ∧ ∀ v ∈ ds, ∃ i : Int, v = .int i ∧ 0 ≤ i ∧ i < 5)
      (R := fun fl fr => fl = .nx ∧ ∃ ks a b c, fr = G13 ps4 mo od 5 ks (some (.int t)) (some (.int (1 + u))) a b c none none none ∧ VKs 5 ks ∧ ks.length ≤ 10) ?_ ?_ _ _ ⟨[], none, none, none, rfl, ⟨by simp, by simp⟩, by simp [rangeD], fun v hv => by
        obtain ⟨i, rfl, h1, h2⟩ := range_ints hv
        exact ⟨i, rfl, h1, by omega⟩⟩) ?_
    · rintro dd ds fr ⟨ks, a, b, c, rfl, hv, hl, hd⟩
      obtain ⟨i, rfl, i0, i5⟩ := hd dd (List.mem_cons_self ..)
      refine ⟨_, rfl, ?_⟩
      rw [List.length_cons] at hl
      refine Ends.imp (ring_put ps4 mo od t (1 + u) i ks a b c none none none (by omega) ⟨t0, t5⟩ ⟨i0, i5⟩ hv (by omega)) fun fl fr h => ?_
      cases fl with
      | nx =>
        obtain ⟨ks', b', c', rfl, h1, h2⟩ := h
        exact ⟨ks', _, _, _, rfl, h1, by omega, fun v hv => hd v (List.mem_cons_of_mem _ hv)⟩
      | cnt =>
        obtain ⟨ks', b', c', rfl, h1, h2⟩ := h
        exact ⟨ks', _, _, _, rfl, h1, by omega, fun v hv => hd v (List.mem_cons_of_mem _ hv)⟩
      | brk => exact h.elim
      | ret v => exact h.elim
    · rintro fr ⟨ks, a, b, c, rfl, hv, hl, _⟩
      exact ⟨rfl, ks, a, b, c, rfl, hv, by simpa using hl⟩
    rintro fl fr ⟨rfl, ks, a, b, c, rfl, hv, hl⟩
    dsimp only
    obtain ⟨m, ps5, e6, m0, m4⟩ := draw_ok (fr := G13 ps4 mo od 5 ks (some (.int t)) (some (.int (1 + u))) a b c none none none) (e := eC (.int 4)) (m := 4) (by rfl) (by rfl) (by omega)
    have g2 : iRg1 (eCall [true, false] fn_law_draw (aCons (ePl 0) (aCons (eC (.int 4)) aNil))) (G13 ps4 mo od 5 ks (some (.int t)) (some (.int (1 + u))) a b c none none none) = .ok (rangeD 0 m.toNat) (G13 ps5 mo od 5 ks (some (.int t)) (some (.int (1 + u))) a b c none none none) := rg_ok e6 (by omega)
    refine seq_ends (for_ends g2 ?_)
    refine Ends.imp (loop_ends (I := fun ds fr => ∃ qs ks a b c, fr = G13 qs mo od 5 ks (some (.int t)) (some (.int (1 + u))) a b c none none none ∧ VKs 5 ks ∧ ks.length + ds.length ≤ 20)
      (R := fun fl fr => fl = .nx ∧ ∃ qs ks a b c, fr = G13 qs mo od 5 ks (some (.int t)) (some (.int (1 + u))) a b c none none none ∧ VKs 5 ks ∧ ks.length ≤ 20) ?_ ?_ _ _ ⟨ps5, ks, a, b, c, rfl, hv, by rw [range_len]; omega⟩) ?_
    · rintro dd ds fr ⟨qs, ks, a, b, c, rfl, hv, hl⟩
      refine ⟨_, rfl, ?_⟩
      rw [List.length_cons] at hl
      refine Ends.imp (toggle qs mo od ks _ _ _ b c none none none hv (by omega)) fun fl fr h => ?_
      cases fl with
      | nx =>
        obtain ⟨qs', ks', b', c', rfl, h1, h2⟩ := h
        exact ⟨qs', ks', _, _, _, rfl, h1, by omega⟩
      | cnt =>
        obtain ⟨qs', ks', b', c', rfl, h1, h2⟩ := h
        exact ⟨qs', ks', _, _, _, rfl, h1, by omega⟩
      | brk => exact h.elim
      | ret v => exact h.elim
    · rintro fr ⟨qs, ks, a, b, c, rfl, hv, hl⟩
      exact ⟨rfl, qs, ks, a, b, c, rfl, hv, by simpa using hl⟩
    rintro fl fr ⟨rfl, qs, ks, a, b, c, rfl, hv, hl⟩
    simp only [sNx, ends_ok]
    exact fin 5 ks qs _ _ _ _ _ _ _ _ (by omega) hv (by omega)
  · simp only [hb, decide_false, Bool.false_eq_true, if_false]
    obtain ⟨q, ps3, e4, q0, q5⟩ := draw_ok (fr := G13 ps2 mo od (1 + r) [] none none none none none none none none) (e := eC (.int 5)) (m := 5) (by rfl) (by rfl) (by omega)
    have s3 : ∃ many : Int, sSet 10 (eOp2 ixF (eLst (aCons (eC (.int 1)) (aCons (eC (.int 2)) (aCons (eC (.int 3)) (aCons (eC (.int 5)) (aCons (eC (.int 6)) aNil)))))) (eCall [true, false] fn_law_draw (aCons (ePl 0) (aCons (eC (.int 5)) aNil)))) (G13 ps2 mo od (1 + r) [] none none none none none none none none) = .ok .nx (G13 ps3 mo od (1 + r) [] none none none none none (some (.int many)) none none) := by
      have : q = 0 ∨ q = 1 ∨ q = 2 ∨ q = 3 ∨ q = 4 := by omega
      rcases this with rfl | rfl | rfl | rfl | rfl
      · exact ⟨1, set_ok (op2_ok (x := .lst [.int 1, .int 2, .int 3, .int 5, .int 6]) (by rfl) e4 (by rfl) (by rfl) (by rfl)) (by rfl)⟩
      · exact ⟨2, set_ok (op2_ok (x := .lst [.int 1, .int 2, .int 3, .int 5, .int 6]) (by rfl) e4 (by rfl) (by rfl) (by rfl)) (by rfl)⟩
      · exact ⟨3, set_ok (op2_ok (x := .lst [.int 1, .int 2, .int 3, .int 5, .int 6]) (by rfl) e4 (by rfl) (by rfl) (by rfl)) (by rfl)⟩
      · exact ⟨5, set_ok (op2_ok (x := .lst [.int 1, .int 2, .int 3, .int 5, .int 6]) (by rfl) e4 (by rfl) (by rfl) (by rfl)) (by rfl)⟩
      · exact ⟨6, set_ok (op2_ok (x := .lst [.int 1, .int 2, .int 3, .int 5, .int 6]) (by rfl) e4 (by rfl) (by rfl) (by rfl)) (by rfl)⟩
    obtain ⟨many, s3⟩ := s3
    refine nx_seq s3 ?_
    have g1 : iRg1 (eVar 3) (G13 ps3 mo od (1 + r) [] none none none none none (some (.int many)) none none) = .ok (rangeD 0 (1 + r).toNat) _ := rg_ok (j := 1 + r) (by rfl) (by omega)
    refine seq_ends (for_ends g1 ?_)
    refine Ends.imp (loop_ends (I := fun ds fr => ∃ qs ks a b, fr = G13 qs mo od (1 + r) ks none none none none none (some (.int many)) a b ∧ VKs (1 + r) ks ∧ ks.length + 91 * ds.length ≤ 8500 ∧ ∀ v ∈ ds, ∃ i : Int, v = .int i ∧ 0 ≤ i ∧ i < 1 + r)
      (R := fun fl fr => fl = .nx ∧ ∃ qs ks a b, fr = G13 qs mo od (1 + r) ks none none none none none (some (.int many)) a b ∧ VKs (1 + r) ks ∧ ks.length ≤ 8500) ?_ ?_ _ _ ⟨ps3, [], none, none, rfl, ⟨by simp, by simp⟩, by rw [range_len]; simp; omega, fun v hv => by
        obtain ⟨i, rfl, h1, h2⟩ := range_ints hv
        exact ⟨i, rfl, h1, by omega⟩⟩) ?_
    · rintro dd ds fr ⟨qs, ks, a, b, rfl, hv, hl, hd⟩
      obtain ⟨i, rfl, i0, i5⟩ := hd dd (List.mem_cons_self ..)
      refine ⟨_, rfl, ?_⟩
      rw [List.length_cons] at hl
      have g2 : iRg1 (eVar 3) (G13 qs mo od (1 + r) ks none none none none none (some (.int many)) (some (.int i)) b) = .ok (rangeD 0 (1 + r).toNat) _ := rg_ok (j := 1 + r) (by rfl) (by omega)
      refine seq_ends (for_ends g2 ?_)
      refine Ends.imp (loop_ends (I := fun ds2 fr => ∃ qs ks b, fr = G13 qs mo od (1 + r) ks none none none none none (some (.int many)) (some (.int i)) b ∧ VKs (1 + r) ks ∧ ks.length + ds2.length + 91 * ds.length ≤ 8500 ∧ ∀ v ∈ ds2, ∃ i : Int, v = .int i ∧ 0 ≤ i ∧ i < 1 + r)
        (R := fun fl fr => fl = .nx ∧ ∃ qs ks b, fr = G13 qs mo od (1 + r) ks none none none none none (some (.int many)) (some (.int i)) b ∧ VKs (1 + r) ks ∧ ks.length + 91 * ds.length ≤ 8500) ?_ ?_ _ _ ⟨qs, ks, b, rfl, hv, by rw [range_len]; omega, fun v hv => by
          obtain ⟨i, rfl, h1, h2⟩ := range_ints hv
          exact ⟨i, rfl, h1, by omega⟩⟩) ?_
      · rintro dd ds2 fr ⟨qs, ks, b, rfl, hv, hl, hd2⟩
        obtain ⟨j, rfl, j0, j5⟩ := hd2 dd (List.mem_cons_self ..)
        refine ⟨_, rfl, ?_⟩
        rw [List.length_cons] at hl
        refine Ends.imp (sown qs mo od (1 + r) many i j ks _ _ _ _ _ ⟨i0, i5⟩ ⟨j0, j5⟩ hv (by omega)) fun fl fr h => ?_
        cases fl with
        | nx =>
          obtain ⟨qs', ks', rfl, h1, h2⟩ := h
          exact ⟨qs', ks', _, rfl, h1, by omega, fun v hv => hd2 v (List.mem_cons_of_mem _ hv)⟩
        | cnt =>
          obtain ⟨qs', ks', rfl, h1, h2⟩ := h
          exact ⟨qs', ks', _, rfl, h1, by omega, fun v hv => hd2 v (List.mem_cons_of_mem _ hv)⟩
        | brk => exact h.elim
        | ret v => exact h.elim
      · rintro fr ⟨qs, ks, b, rfl, hv, hl, _⟩
        exact ⟨rfl, qs, ks, b, rfl, hv, by simpa using hl⟩
      rintro fl fr ⟨rfl, qs, ks, b, rfl, hv, hl⟩
      exact ends_ok.mpr ⟨qs, ks, _, _, rfl, hv, hl, fun v hv => hd v (List.mem_cons_of_mem _ hv)⟩
    · rintro fr ⟨qs, ks, a, b, rfl, hv, hl, _⟩
      exact ⟨rfl, qs, ks, a, b, rfl, hv, by simpa using hl⟩
    rintro fl fr ⟨rfl, qs, ks, a, b, rfl, hv, hl⟩
    simp only [sNx, ends_ok]
    exact fin (1 + r) ks qs _ _ _ _ _ _ _ _ (by omega) hv (by omega)
end Lk11
namespace Lk11
open PySem KS
def ltP (p q : PP) : Prop := p.1 < q.1 ∨ (p.1 = q.1 ∧ p.2 < q.2)
structure VN (n : Int) (as : List PP) : Prop where
  lo : 1 ≤ n
  hi : n ≤ 12
  rng : ∀ p ∈ as, (0 ≤ p.1 ∧ p.1 < n) ∧ (0 ≤ p.2 ∧ p.2 < n) ∧ p.1 ≠ p.2
  ord : as.Pairwise ltP
  len : as.length ≤ 9000
theorem below (x m : Int) : fn_is_below [.int x, .int m] = .ok (.bl (decide (0 ≤ x ∧ x < m))) [.int x, .int m] := by
  unfold fn_is_below runFn g_is_below
  by_cases h1 : 0 ≤ x
  · by_cases h2 : x < m
    · simp [startF, outsOf, sSeq, sIf, sRet, sRetN, sSet, sSetF, sX, sNx, sBrk, sCnt, bE, bAnd, bOr, bNot, bTru, truB, eAnd, eOr, eNot, eIf, eChain, eOp2, eOp1, eC, eVar, ePl, eFz, aNil, aCons, eTup, eLst, eCall, argC, ioV, ioP, setP, eMut, isLstD, isDctD, pick, look, pers, isCell, ofO, lenF, eqF, neF, eqB, scalE, intF, absF, addF, subF, mulF, fdivF, modF, powF, negF, ltF, leF, gtF, geF, leA, orF, isNF, notNF, isNon, appM, extM, popM, revM, ixF, eSl, eSlF, slF, slFL, cutD, oNone, oSome, sRetV, sRetF, min2F, max2F, tupF, lstF, strF, isiF, isiTF, tyI, isT, isAny, h1, h2]; rfl
    · simp [startF, outsOf, sSeq, sIf, sRet, sRetN, sSet, sSetF, sX, sNx, sBrk, sCnt, bE, bAnd, bOr, bNot, bTru, truB, eAnd, eOr, eNot, eIf, eChain, eOp2, eOp1, eC, eVar, ePl, eFz, aNil, aCons, eTup, eLst, eCall, argC, ioV, ioP, setP, eMut, isLstD, isDctD, pick, look, pers, isCell, ofO, lenF, eqF, neF, eqB, scalE, intF, absF, addF, subF, mulF, fdivF, modF, powF, negF, ltF, leF, gtF, geF, leA, orF, isNF, notNF, isNon, appM, extM, popM, revM, ixF, eSl, eSlF, slF, slFL, cutD, oNone, oSome, sRetV, sRetF, min2F, max2F, tupF, lstF, strF, isiF, isiTF, tyI, isT, isAny, h1, h2]; rfl
  · simp [startF, outsOf, sSeq, sIf, sRet, sRetN, sSet, sSetF, sX, sNx, sBrk, sCnt, bE, bAnd, bOr, bNot, bTru, truB, eAnd, eOr, eNot, eIf, eChain, eOp2, eOp1, eC, eVar, ePl, eFz, aNil, aCons, eTup, eLst, eCall, argC, ioV, ioP, setP, eMut, isLstD, isDctD, pick, look, pers, isCell, ofO, lenF, eqF, neF, eqB, scalE, intF, absF, addF, subF, mulF, fdivF, modF, powF, negF, ltF, leF, gtF, geF, leA, orF, isNF, notNF, isNon, appM, extM, popM, revM, ixF, eSl, eSlF, slF, slFL, cutD, oNone, oSome, sRetV, sRetF, min2F, max2F, tupF, lstF, strF, isiF, isiTF, tyI, isT, isAny, h1]; rfl
theorem below_call {fr : Fr} {a b : Ev} {x m : Int} (ha : a fr = .ok (.int x) fr) (hb : b fr = .ok (.int m) fr) : eCall [false, false] fn_is_below (aCons a (aCons b aNil)) fr = .ok (.bl (decide (0 ≤ x ∧ x < m))) fr :=
  call_val (ds := [.int x, .int m]) (by simp [aCons, ha, hb, aNil]) (by simp [argC, pers]) (by simp [ioV]) (below x m) rfl (by simp [ioP])
abbrev F6 (n : Int) (C : D) (a b c d : Option D) : Fr := [some (.int n), some C, a, b, c, d]
theorem leTs_pp (p q : PP) : leTs [p.1, p.2] [q.1, q.2] = decide (p.1 < q.1 ∨ (p.1 = q.1 ∧ p.2 ≤ q.2)) := by
  unfold leTs
  show Ob.lexAt _ _ _ 0 2 = _
  rw [Ob.lexAt_succ, Ob.lexAt_succ, Ob.lexAt_zero]
  simp only [List.getD_cons_zero, List.getD_cons_succ, Nat.zero_add]
  by_cases h1 : p.1 = q.1
  · by_cases h2 : p.2 = q.2
    · simp [h1, h2]
    · simp [h1, h2]
  · simp [h1]
    omega
theorem arc_step (n k : Int) (C : D) (p q : PP) (d : Option D) (hp : (0 ≤ p.1 ∧ p.1 < n) ∧ (0 ≤ p.2 ∧ p.2 < n) ∧ p.1 ≠ p.2) (hq : ltP q p) :
    Ends ((sSeq (sIf (bOr (bNot (bE (eOp1 (isiF .tup) (eVar 4)))) (bOr (bE (eOp2 neF (eOp1 lenF (eVar 4)) (eC (.int 2)))) (bNot (bE (eOp1 allF (eComp [5] (iVal (eVar 4)) (tgN 5) bYes (eCall [false, false] fn_is_below (aCons (eVar 5) (aCons (eVar 0) aNil)))))))))
  (sSeq (sRet (eVar 3))
  sNx)
  sNx)
  (sSeq (sIf (bOr (bE (eOp2 eqF (eOp2 ixF (eVar 4) (eC (.int 0))) (eOp2 ixF (eVar 4) (eC (.int 1))))) (bE (eOp2 leA (eVar 4) (eVar 2))))
  (sSeq (sRet (eVar 3))
  sNx)
  sNx)
  (sSeq (sSet 2 (eVar 4))
  sNx))) (F6 n C (some (dPP q)) (some (.int k)) (some (dPP p)) d)) (Turned (fun fr => fr = F6 n C (some (dPP p)) (some (.int k)) (some (dPP p)) d) (fun _ _ => False)) := by
  have hc : eComp [5] (iVal (eVar 4)) (tgN 5) bYes (eCall [false, false] fn_is_below (aCons (eVar 5) (aCons (eVar 0) aNil))) (F6 n C (some (dPP q)) (some (.int k)) (some (dPP p)) d) = .ok (.lst [.bl true, .bl true]) (F6 n C (some (dPP q)) (some (.int k)) (some (dPP p)) d) := by
    refine (comp_ok (vs := [5]) (ds := [.int p.1, .int p.2]) (F6 n C (some (dPP q)) (some (.int k)) (some (dPP p)) none) (fun v => F6 n C (some (dPP q)) (some (.int k)) (some (dPP p)) (some v)) (fun _ => true) (fun _ => .bl true) (by rfl) (by simp) (by rfl) (fun _ _ => rfl) (fun _ _ => rfl) (fun v hv _ => ?_) (fun _ => rfl) (by rfl) (fun _ => rfl)).trans (by rfl)
    refine ⟨?_, rfl⟩
    have hx : ∃ x, v = .int x ∧ 0 ≤ x ∧ x < n := by
      rcases List.mem_cons.mp hv with rfl | hv
      · exact ⟨_, rfl, hp.1.1, hp.1.2⟩
      · rw [List.mem_singleton.mp hv]
        exact ⟨_, rfl, hp.2.1.1, hp.2.1.2⟩
    obtain ⟨x, rfl, h1, h2⟩ := hx
    rw [below_call (x := x) (m := n) (by rfl) (by rfl)]
    simp [h1, h2]
  have t1 : bOr (bNot (bE (eOp1 (isiF .tup) (eVar 4)))) (bOr (bE (eOp2 neF (eOp1 lenF (eVar 4)) (eC (.int 2)))) (bNot (bE (eOp1 allF (eComp [5] (iVal (eVar 4)) (tgN 5) bYes (eCall [false, false] fn_is_below (aCons (eVar 5) (aCons (eVar 0) aNil)))))))) (F6 n C (some (dPP q)) (some (.int k)) (some (dPP p)) d) = .ok false (F6 n C (some (dPP q)) (some (.int k)) (some (dPP p)) d) := by
    have ha : eOp1 allF (eComp [5] (iVal (eVar 4)) (tgN 5) bYes (eCall [false, false] fn_is_below (aCons (eVar 5) (aCons (eVar 0) aNil)))) (F6 n C (some (dPP q)) (some (.int k)) (some (dPP p)) d) = .ok (.bl true) (F6 n C (some (dPP q)) (some (.int k)) (some (dPP p)) d) := op1_ok hc (by rfl) (by rfl)
    unfold bOr bNot bE
    have hb : eOp1 (isiF .tup) (eVar 4) (F6 n C (some (dPP q)) (some (.int k)) (some (dPP p)) d) = .ok (.bl true) (F6 n C (some (dPP q)) (some (.int k)) (some (dPP p)) d) := rfl
    have hl : eOp2 neF (eOp1 lenF (eVar 4)) (eC (.int 2)) (F6 n C (some (dPP q)) (some (.int k)) (some (dPP p)) d) = .ok (.bl false) (F6 n C (some (dPP q)) (some (.int k)) (some (dPP p)) d) := rfl
    rw [hb, bind_ok, bind_ok, bind_ok, if_neg (by simp), hl, bind_ok, bind_ok, if_neg (by simp), ha, bind_ok, bind_ok]
    rfl
  refine seq_ends (if_ends t1 ?_)
  rw [if_neg (by simp)]
  refine ends_ok.mpr ?_
  dsimp only
  have t2 : bOr (bE (eOp2 eqF (eOp2 ixF (eVar 4) (eC (.int 0))) (eOp2 ixF (eVar 4) (eC (.int 1))))) (bE (eOp2 leA (eVar 4) (eVar 2))) (F6 n C (some (dPP q)) (some (.int k)) (some (dPP p)) d) = .ok false (F6 n C (some (dPP q)) (some (.int k)) (some (dPP p)) d) := by
    have h1 : eOp2 ixF (eVar 4) (eC (.int 0)) (F6 n C (some (dPP q)) (some (.int k)) (some (dPP p)) d) = .ok (.int p.1) (F6 n C (some (dPP q)) (some (.int k)) (some (dPP p)) d) := rfl
    have h2 : eOp2 ixF (eVar 4) (eC (.int 1)) (F6 n C (some (dPP q)) (some (.int k)) (some (dPP p)) d) = .ok (.int p.2) (F6 n C (some (dPP q)) (some (.int k)) (some (dPP p)) d) := rfl
    have h3 : eOp2 eqF (eOp2 ixF (eVar 4) (eC (.int 0))) (eOp2 ixF (eVar 4) (eC (.int 1))) (F6 n C (some (dPP q)) (some (.int k)) (some (dPP p)) d) = .ok (.bl false) (F6 n C (some (dPP q)) (some (.int k)) (some (dPP p)) d) := op2i h1 h2 (by simp [eqF, eqB, scalE, hp.2.2])
    have h4 : eOp2 leA (eVar 4) (eVar 2) (F6 n C (some (dPP q)) (some (.int k)) (some (dPP p)) d) = .ok (.bl false) (F6 n C (some (dPP q)) (some (.int k)) (some (dPP p)) d) := by
      refine op2_ok (x := dPP p) (y := dPP q) (by rfl) (by rfl) (by rfl) (by rfl) ?_
      have : leTs [p.1, p.2] [q.1, q.2] = false := by
        rw [leTs_pp, decide_eq_false_iff_not]
        unfold ltP at hq
        omega
      show leTF (dPP p) (dPP q) = _
      unfold dPP leTF
      simp [intsOf, this]
    unfold bOr bE
    rw [h3, bind_ok, bind_ok, if_neg (by simp), h4, bind_ok]
  refine seq_ends (if_ends t2 ?_)
  rw [if_neg (by simp)]
  refine ends_ok.mpr ?_
  dsimp only
  exact nx_seq (fr1 := F6 n C (some (dPP p)) (some (.int k)) (some (dPP p)) d) (set_ok (d := dPP p) (by rfl) (by rfl)) (ends_ok.mpr rfl)
theorem fwa (n : Int) (as : List PP) (C : D) (hC : C = .tup (as.map dPP) ∨ C = .lst (as.map dPP)) (h : VN n as) : ∃ outs, fn_first_wrong_arc [.int n, C] = .ok .non outs ∧ outs.length = 2 := by
  suffices hs : Ends (g_first_wrong_arc (startF 6 [.int n, C])) (fun fl fr => fl = .ret .non) by
    obtain ⟨outs, e⟩ := run_ends (k := 2) hs
    obtain ⟨fl, fr, e2, rfl⟩ := hs
    refine ⟨outsOf 2 fr, ?_, outs_len⟩
    unfold fn_first_wrong_arc runFn
    rw [e2]
  have hpC : pers C = true := by rcases hC with rfl | rfl <;> rfl
  unfold g_first_wrong_arc
  have st : startF 6 [.int n, C] = F6 n C none none none none := rfl
  rw [st]
  have t1 : bNot (bE (eOp1 (isiTF [.lst, .tup]) (eVar 1))) (F6 n C none none none none) = .ok false (F6 n C none none none none) := by
    rcases hC with rfl | rfl <;> rfl
  refine seq_ends (if_ends t1 ?_)
  rw [if_neg (by simp)]
  refine ends_ok.mpr ?_
  dsimp only
  refine nx_seq (fr1 := F6 n C (some (dPP (-1, -1))) none none none) (by rfl) ?_
  have g1 : iEn (eVar 1) (F6 n C (some (dPP (-1, -1))) none none none) = .ok (iotaD (as.map dPP)) (F6 n C (some (dPP (-1, -1))) none none none) := by
    rcases hC with rfl | rfl <;> rfl
  refine seq_ends (for_ends g1 ?_)
  have hio : iotaD (as.map dPP) = (as.zipIdx).map fun z => .tup [.int (z.2 : Nat), dPP z.1] := by
    unfold iotaD
    rw [List.zipIdx_map, List.map_map]
    rfl
  rw [hio]
  refine Ends.imp (loop_ends (I := fun ds fr => ∃ (l : List (PP × Nat)), ∃ q b c d, ds = l.map (fun z => D.tup [.int (z.2 : Nat), dPP z.1]) ∧ fr = F6 n C (some (dPP q)) b c d ∧ (∀ z ∈ l, ltP q z.1) ∧ (l.map (·.1)).Pairwise ltP ∧ ∀ z ∈ l, (0 ≤ z.1.1 ∧ z.1.1 < n) ∧ (0 ≤ z.1.2 ∧ z.1.2 < n) ∧ z.1.1 ≠ z.1.2)
    (R := fun fl fr => fl = .nx) ?_ ?_ _ _ ⟨as.zipIdx, (-1, -1), none, none, none, rfl, rfl, fun z hz => ?_, ?_, fun z hz => ?_⟩) ?_
  · rintro dd ds fr ⟨l, q, b, c, d, hl, rfl, hq, hp, hr⟩
    cases l with
    | nil => cases hl
    | cons z l =>
      rw [List.map_cons] at hl
      injection hl with h1 h2
      subst h1
      refine ⟨F6 n C (some (dPP q)) (some (.int (z.2 : Nat))) (some (dPP z.1)) d, rfl, ?_⟩
      refine Ends.imp (arc_step n z.2 C z.1 q d (hr z (List.mem_cons_self ..)) (hq z (List.mem_cons_self ..))) fun fl fr hh => ?_
      rw [List.map_cons, List.pairwise_cons] at hp
      cases fl with
      | nx => exact ⟨l, z.1, _, _, d, h2, hh, fun y hy => hp.1 _ (List.mem_map_of_mem hy), hp.2, fun y hy => hr y (List.mem_cons_of_mem _ hy)⟩
      | cnt => exact ⟨l, z.1, _, _, d, h2, hh, fun y hy => hp.1 _ (List.mem_map_of_mem hy), hp.2, fun y hy => hr y (List.mem_cons_of_mem _ hy)⟩
      | brk => exact hh.elim
      | ret v => exact hh.elim
  · rintro fr ⟨l, q, b, c, d, hl, rfl, hq, hp, hr⟩
    rfl
  · have hm : z.1 ∈ as := by
      have := List.mem_map_of_mem (f := fun z : PP × Nat => z.1) hz
      rwa [List.zipIdx_map_fst] at this
    have := h.rng z.1 hm
    exact .inl (by omega)
  · rw [List.zipIdx_map_fst]
    exact h.ord
  · have hm : z.1 ∈ as := by
      have := List.mem_map_of_mem (f := fun z : PP × Nat => z.1) hz
      rwa [List.zipIdx_map_fst] at this
    exact h.rng z.1 hm
  rintro fl fr rfl
  dsimp only
  unfold sSeq
  rw [ret_ok (fr1 := fr) (d := .non) (by rfl) (by rfl), bind_ok]
  exact ends_ok.mpr rfl
end Lk11
namespace Lk11
open PySem KS
def kn (as : List PP) (i : Int) : List Int := (as.filter fun p => decide (p.1 = i)).map (·.2)
def knT (as : List PP) (i : Int) : D := .tup ((kn as i).map D.int)
def knows (n : Int) (as : List PP) : List D := (List.range n.toNat).map fun k => knT as (0 + (k : Nat))
def netO (n : Int) (as : List PP) : D := .obj 0 [0, 1, 2] [.int n, .tup (as.map dPP), .tup (knows n as)]
def fstD : D → D
  | .tup [a, _] => a
  | _ => .non
def sndD : D → D
  | .tup [_, b] => b
  | _ => .non
def isI (i : Int) : D → Bool
  | .tup [.int a, _] => decide (a = i)
  | _ => false
theorem kn_eq (as : List PP) (i : Int) : ((as.map dPP).filter (isI i)).map sndD = (kn as i).map D.int := by
  unfold kn
  rw [List.filter_map, List.map_map, List.map_map]
  rfl
abbrev F7 (o : D) (n : Int) (C : D) (a b c d : Option D) : Fr := [some o, some (.int n), some C, a, b, c, d]
theorem kn_comp (o : D) (n i : Int) (C a c d : Option D) (as : List PP) (ho : o = .obj 0 [0, 1] [.int n, .tup (as.map dPP)]) (hl : as.length ≤ 9000) (C' : D) :
    eOp1 tupF (eComp [5, 6] (iVal (eAttr [0] 1 (ePl 0))) (tgT [5, 6]) (bE (eOp2 eqF (eVar 5) (eVar 4))) (eVar 6)) (F7 o n C' a (some (.int i)) c d) = .ok (knT as i) (F7 o n C' a (some (.int i)) c d) := by
  subst ho
  have h1 := comp_ok (vs := [5, 6]) (h := iVal (eAttr [0] 1 (ePl 0))) (t := tgT [5, 6]) (c := bE (eOp2 eqF (eVar 5) (eVar 4))) (e := eVar 6) (fr0 := F7 (.obj 0 [0, 1] [.int n, .tup (as.map dPP)]) n C' a (some (.int i)) c d) (ds := as.map dPP)
    (F7 (.obj 0 [0, 1] [.int n, .tup (as.map dPP)]) n C' a (some (.int i)) none none) (fun v => F7 (.obj 0 [0, 1] [.int n, .tup (as.map dPP)]) n C' a (some (.int i)) (some (fstD v)) (some (sndD v))) (isI i) sndD (by rfl) (by rw [List.length_map]; omega) (by rfl)
    (fun v hv => by obtain ⟨p, _, rfl⟩ := List.mem_map.mp hv; rfl)
    (fun v hv => by
      obtain ⟨p, _, rfl⟩ := List.mem_map.mp hv
      unfold bE
      rw [op2i (F := eqF) (i := p.1) (j := i) (z := .bl (decide (p.1 = i))) (by rfl) (by rfl) (by simp [eqF, eqB, scalE]), bind_ok]
      rfl)
    (fun v hv _ => by obtain ⟨p, _, rfl⟩ := List.mem_map.mp hv; exact ⟨rfl, rfl⟩) (fun _ => rfl) (by rfl) (fun _ => rfl)
  rw [kn_eq] at h1
  exact op1_ok h1 (by rfl) (by rfl)
theorem init (n : Int) (as : List PP) (C : D) (hC : C = .tup (as.map dPP) ∨ C = .lst (as.map dPP)) (h : VN n as) : fn_Net_init [.obj 0 [] [], .int n, C] = .ok .non [netO n as, .int n, C] := by
  have hpC : pers C = true := by rcases hC with rfl | rfl <;> rfl
  have h13 : n < 13 := by have := h.hi; omega
  have h1 := h.lo
  suffices hs : g_Net_init (startF 7 [.obj 0 [] [], .int n, C]) = .ok .nx (F7 (netO n as) n C (some .non) none none none) by
    unfold fn_Net_init runFn
    rw [hs]
    rfl
  unfold g_Net_init
  have st : startF 7 [.obj 0 [] [], .int n, C] = F7 (.obj 0 [] []) n C none none none none := rfl
  rw [st]
  have t1 : bOr (bNot (bE (eCall [false, false] fn_is_below (aCons (eVar 1) (aCons (eOp2 addF (eC (.int 12)) (eC (.int 1))) aNil))))) (bE (eOp2 ltF (eVar 1) (eC (.int 1)))) (F7 (.obj 0 [] []) n C none none none none) = .ok false (F7 (.obj 0 [] []) n C none none none none) := by
    unfold bOr bNot bE
    rw [below_call (x := n) (m := 13) (by rfl) (by rfl), bind_ok]
    have e1 : decide (0 ≤ n ∧ n < 13) = true := decide_eq_true ⟨by omega, h13⟩
    rw [e1, bind_ok, bind_ok, if_neg (by simp), op2i (F := ltF) (i := n) (j := 1) (z := .bl (decide (n < 1))) (by rfl) (by rfl) (by rfl), bind_ok]
    have e2 : decide (n < 1) = false := decide_eq_false (by omega)
    rw [e2]
  have s1 : sIf (bOr (bNot (bE (eCall [false, false] fn_is_below (aCons (eVar 1) (aCons (eOp2 addF (eC (.int 12)) (eC (.int 1))) aNil))))) (bE (eOp2 ltF (eVar 1) (eC (.int 1))))) (sSeq (sRaise 0 2 (aCons (eC (.str (PySem.Str.ofString "size"))) (aCons (eC (.int 0)) aNil))) sNx) sNx (F7 (.obj 0 [] []) n C none none none none) = .ok .nx (F7 (.obj 0 [] []) n C none none none none) := by
    unfold sIf
    rw [t1, bind_ok, if_neg (by simp)]
    rfl
  rw [seq_nx s1]
  obtain ⟨outs, hf, hlen⟩ := fwa n as C hC h
  have c2 : eCall [false, false] fn_first_wrong_arc (aCons (eVar 1) (aCons (eVar 2) aNil)) (F7 (.obj 0 [] []) n C none none none none) = .ok .non (F7 (.obj 0 [] []) n C none none none none) :=
    call_val (ds := [.int n, C]) (by rfl) (by rcases hC with rfl | rfl <;> rfl) (by rfl) hf hlen (by
      match outs, hlen with
      | [_, _], _ => rcases hC with rfl | rfl <;> rfl)
  rw [seq_nx (set_ok (i := 3) c2 rfl)]
  have s3 : sIf (bE (eOp2 notNF (eVar 3) (eC .non))) (sSeq (sRaise 0 2 (aCons (eC (.str (PySem.Str.ofString "arcs"))) (aCons (eVar 3) aNil))) sNx) sNx (F7 (.obj 0 [] []) n C (some .non) none none none) = .ok .nx (F7 (.obj 0 [] []) n C (some .non) none none none) := rfl
  rw [show List.set (F7 (.obj 0 [] []) n C none none none none) 3 (some D.non) = F7 (.obj 0 [] []) n C (some .non) none none none from rfl, seq_nx s3]
  have s4 : sFldS 0 0 [0] (eVar 1) (F7 (.obj 0 [] []) n C (some .non) none none none) = .ok .nx (F7 (.obj 0 [0] [.int n]) n C (some .non) none none none) := rfl
  rw [seq_nx s4]
  have s5 : sFldS 0 1 [0] (eOp1 tupF (eVar 2)) (F7 (.obj 0 [0] [.int n]) n C (some .non) none none none) = .ok .nx (F7 (.obj 0 [0, 1] [.int n, .tup (as.map dPP)]) n C (some .non) none none none) := by
    rcases hC with rfl | rfl <;> rfl
  rw [seq_nx s5]
  have g6 : iRg1 (eVar 1) (F7 (.obj 0 [0, 1] [.int n, .tup (as.map dPP)]) n C (some .non) none none none) = .ok (rangeD 0 n.toNat) (F7 (.obj 0 [0, 1] [.int n, .tup (as.map dPP)]) n C (some .non) none none none) := rg_ok (j := n) (by rfl) (by omega)
  have c6 := comp_ok (vs := [4]) (h := iRg1 (eVar 1)) (t := tgN 4) (c := bYes) (e := eOp1 tupF (eComp [5, 6] (iVal (eAttr [0] 1 (ePl 0))) (tgT [5, 6]) (bE (eOp2 eqF (eVar 5) (eVar 4))) (eVar 6))) (fr0 := F7 (.obj 0 [0, 1] [.int n, .tup (as.map dPP)]) n C (some .non) none none none) (ds := rangeD 0 n.toNat)
    (F7 (.obj 0 [0, 1] [.int n, .tup (as.map dPP)]) n C (some .non) none none none) (fun v => F7 (.obj 0 [0, 1] [.int n, .tup (as.map dPP)]) n C (some .non) (some v) none none) (fun _ => true) (fun v => match v with | .int i => knT as i | _ => .non) g6 (by rw [range_len]; omega) (by rfl) (fun _ _ => rfl) (fun _ _ => rfl)
    (fun v hv _ => by
      obtain ⟨i, rfl, _, _⟩ := range_ints hv
      exact ⟨kn_comp _ n i none (some .non) none none as rfl h.len C, rfl⟩) (fun _ => rfl) (by rfl) (fun _ => rfl)
  have e6 : ((rangeD 0 n.toNat).filter fun _ => true).map (fun v => match v with | .int i => knT as i | _ => .non) = knows n as := by
    rw [List.filter_eq_self.mpr (fun _ _ => rfl)]
    unfold rangeD knows
    rw [List.map_map]
    rfl
  rw [e6] at c6
  have c7 : eOp1 tupF (eComp [4] (iRg1 (eVar 1)) (tgN 4) bYes (eOp1 tupF (eComp [5, 6] (iVal (eAttr [0] 1 (ePl 0))) (tgT [5, 6]) (bE (eOp2 eqF (eVar 5) (eVar 4))) (eVar 6)))) (F7 (.obj 0 [0, 1] [.int n, .tup (as.map dPP)]) n C (some .non) none none none) = .ok (.tup (knows n as)) (F7 (.obj 0 [0, 1] [.int n, .tup (as.map dPP)]) n C (some .non) none none none) := op1_ok c6 (by rfl) (by rfl)
  have s7 : sFldS 0 2 [0] (eOp1 tupF (eComp [4] (iRg1 (eVar 1)) (tgN 4) bYes (eOp1 tupF (eComp [5, 6] (iVal (eAttr [0] 1 (ePl 0))) (tgT [5, 6]) (bE (eOp2 eqF (eVar 5) (eVar 4))) (eVar 6))))) (F7 (.obj 0 [0, 1] [.int n, .tup (as.map dPP)]) n C (some .non) none none none) = .ok .nx (F7 (netO n as) n C (some .non) none none none) := by
    unfold sFldS
    rw [c7, bind_ok]
    rfl
  rw [seq_nx s7]
  rfl
end Lk11
namespace Lk11
open PySem KS
/-- plain data, k deep -/
def Pl : Nat → D → Prop
  | 0, _ => False
  | _ + 1, .int _ => True
  | _ + 1, .str _ => True
  | k + 1, .tup ds => ds.length ≤ 100000 ∧ ∀ d ∈ ds, Pl k d
  | _, _ => False
abbrev F3 (a b : D) (c : Option D) : Fr := [some a, some b, c]
theorem same_int (F : Fn) (i : Int) : runFn 2 3 (g_law_same F) [.int i, .int i] = .ok (.bl true) [.int i, .int i] := by
  unfold runFn g_law_same
  simp [startF, outsOf, sSeq, sIf, sRet, sRetN, sSet, sSetF, sX, sNx, sBrk, sCnt, bE, bAnd, bOr, bNot, bTru, truB, eAnd, eOr, eNot, eIf, eChain, eOp2, eOp1, eC, eVar, ePl, eFz, aNil, aCons, eTup, eLst, eCall, argC, ioV, ioP, setP, eMut, isLstD, isDctD, pick, look, pers, isCell, ofO, lenF, eqF, neF, eqB, scalE, intF, absF, addF, subF, mulF, fdivF, modF, powF, negF, ltF, leF, gtF, geF, leA, orF, isNF, notNF, isNon, appM, extM, popM, revM, ixF, eSl, eSlF, slF, slFL, cutD, oNone, oSome, sRetV, sRetF, min2F, max2F, tupF, lstF, strF, isiF, isiTF, tyI, isT, isAny]
  rfl
theorem same_str (F : Fn) (x : Str) : runFn 2 3 (g_law_same F) [.str x, .str x] = .ok (.bl true) [.str x, .str x] := by
  unfold runFn g_law_same
  simp [startF, outsOf, sSeq, sIf, sRet, sRetN, sSet, sSetF, sX, sNx, sBrk, sCnt, bE, bAnd, bOr, bNot, bTru, truB, eAnd, eOr, eNot, eIf, eChain, eOp2, eOp1, eC, eVar, ePl, eFz, aNil, aCons, eTup, eLst, eCall, argC, ioV, ioP, setP, eMut, isLstD, isDctD, pick, look, pers, isCell, ofO, lenF, eqF, neF, eqB, scalE, intF, absF, addF, subF, mulF, fdivF, modF, powF, negF, ltF, leF, gtF, geF, leA, orF, isNF, notNF, isNon, appM, extM, popM, revM, ixF, eSl, eSlF, slF, slFL, cutD, oNone, oSome, sRetV, sRetF, min2F, max2F, tupF, lstF, strF, isiF, isiTF, tyI, isT, isAny]
  rfl
theorem ix_tup {ds : List D} {i : Int} {d : D} (h0 : 0 ≤ i) (h : ds[i.toNat]? = some d) : ixF (.tup ds) (.int i) = some d := by
  show L2.atI ds i = some d
  have e : i = ((i.toNat : Nat) : Int) := by omega
  rw [e]
  exact L2.atI_nat h
theorem same_tup (F : Fn) (ds : List D) (hl : ds.length ≤ 100000) (hd : ∀ d ∈ ds, pers d = true ∧ ∃ outs, F [d, d] = .ok (.bl true) outs ∧ outs.length = 2) : ∃ outs, runFn 2 3 (g_law_same F) [.tup ds, .tup ds] = .ok (.bl true) outs ∧ outs.length = 2 := by
  suffices hs : Ends (g_law_same F (startF 3 [.tup ds, .tup ds])) (fun fl fr => fl = .ret (.bl true)) by
    obtain ⟨fl, fr, e2, rfl⟩ := hs
    exact ⟨outsOf 2 fr, by unfold runFn; rw [e2], outs_len⟩
  unfold g_law_same
  have st : startF 3 [.tup ds, .tup ds] = F3 (.tup ds) (.tup ds) none := rfl
  rw [st]
  have t1 : bE (eOp1 (isiF .tup) (eVar 1)) (F3 (.tup ds) (.tup ds) none) = .ok true (F3 (.tup ds) (.tup ds) none) := rfl
  refine seq_ends (if_ends t1 ?_)
  rw [if_pos rfl]
  have t2 : bOr (bNot (bE (eOp1 (isiF .tup) (eVar 0)))) (bE (eOp2 neF (eOp1 lenF (eVar 0)) (eOp1 lenF (eVar 1)))) (F3 (.tup ds) (.tup ds) none) = .ok false (F3 (.tup ds) (.tup ds) none) := by
    obtain ⟨L, hL⟩ : ∃ L : Int, (ds.length : Int) = L := ⟨_, rfl⟩
    have l0 : eOp1 lenF (eVar 0) (F3 (.tup ds) (.tup ds) none) = .ok (.int L) (F3 (.tup ds) (.tup ds) none) := op1_ok (a := .tup ds) (by rfl) (by rfl) (by simp [lenF, hL])
    have l1 : eOp1 lenF (eVar 1) (F3 (.tup ds) (.tup ds) none) = .ok (.int L) (F3 (.tup ds) (.tup ds) none) := op1_ok (a := .tup ds) (by rfl) (by rfl) (by simp [lenF, hL])
    have z : eOp1 (isiF .tup) (eVar 0) (F3 (.tup ds) (.tup ds) none) = .ok (.bl true) (F3 (.tup ds) (.tup ds) none) := rfl
    unfold bOr bNot bE
    rw [z, bind_ok, bind_ok, bind_ok, if_neg (by simp), op2i l0 l1 (z := .bl false) (by simp [neF, eqB, scalE]), bind_ok]
  refine seq_ends (if_ends t2 ?_)
  rw [if_neg (by simp)]
  refine ends_ok.mpr ?_
  dsimp only
  have g1 : iRg1 (eOp1 lenF (eVar 1)) (F3 (.tup ds) (.tup ds) none) = .ok (rangeD 0 ds.length) (F3 (.tup ds) (.tup ds) none) := by
    have hk : okI (ds.length : Int) = true := by
      unfold okI
      rw [decide_eq_true_eq]
      omega
    have l1 : eOp1 lenF (eVar 1) (F3 (.tup ds) (.tup ds) none) = .ok (.int (ds.length : Int)) (F3 (.tup ds) (.tup ds) none) := op1_ok (a := .tup ds) (by rfl) (by rfl) (by simp [lenF])
    unfold iRg1
    rw [l1, bind_ok]
    simp [look, hk]
  refine seq_ends (for_ends g1 ?_)
  refine Ends.imp (loop_ends (I := fun xs fr => ∃ c, fr = F3 (.tup ds) (.tup ds) c ∧ ∀ v ∈ xs, ∃ i : Int, v = .int i ∧ 0 ≤ i ∧ i < ds.length) (R := fun fl fr => fl = .nx ∧ ∃ c, fr = F3 (.tup ds) (.tup ds) c) ?_ ?_ _ _ ⟨none, rfl, fun v hv => by
      obtain ⟨i, rfl, h1, h2⟩ := range_ints hv
      exact ⟨i, rfl, h1, by omega⟩⟩) ?_
  · rintro dd xs fr ⟨c, rfl, hv⟩
    obtain ⟨i, rfl, i0, il⟩ := hv dd (List.mem_cons_self ..)
    refine ⟨F3 (.tup ds) (.tup ds) (some (.int i)), rfl, ?_⟩
    have hi : ds[i.toNat]? = some (ds[i.toNat]'(by omega)) := List.getElem?_eq_getElem _
    obtain ⟨hp, outs, hF, ho⟩ := hd _ (List.getElem_mem (by omega : i.toNat < ds.length))
    generalize ds[i.toNat]'(by omega) = d at hi hp hF
    have a0 : eOp2 ixF (eVar 0) (eVar 2) (F3 (.tup ds) (.tup ds) (some (.int i))) = .ok d (F3 (.tup ds) (.tup ds) (some (.int i))) := op2_ok (x := .tup ds) (y := .int i) (by rfl) (by rfl) (by rfl) (by rfl) (ix_tup i0 hi)
    have a1 : eOp2 ixF (eVar 1) (eVar 2) (F3 (.tup ds) (.tup ds) (some (.int i))) = .ok d (F3 (.tup ds) (.tup ds) (some (.int i))) := op2_ok (x := .tup ds) (y := .int i) (by rfl) (by rfl) (by rfl) (by rfl) (ix_tup i0 hi)
    have c1 : eCall [false, false] F (aCons (eOp2 ixF (eVar 0) (eVar 2)) (aCons (eOp2 ixF (eVar 1) (eVar 2)) aNil)) (F3 (.tup ds) (.tup ds) (some (.int i))) = .ok (.bl true) (F3 (.tup ds) (.tup ds) (some (.int i))) :=
      call_val (ds := [d, d]) (by unfold aCons; rw [a0, bind_ok, a1, bind_ok]; rfl) (by unfold argC argC argC; rw [if_pos hp, if_pos hp]; rfl) (by cases d <;> rfl) hF ho (by
        match outs, ho with
        | [_, _], _ => cases d <;> rfl)
    have t3 : bNot (bE (eCall [false, false] F (aCons (eOp2 ixF (eVar 0) (eVar 2)) (aCons (eOp2 ixF (eVar 1) (eVar 2)) aNil)))) (F3 (.tup ds) (.tup ds) (some (.int i))) = .ok false (F3 (.tup ds) (.tup ds) (some (.int i))) := by
      unfold bNot bE
      rw [c1, bind_ok, bind_ok]
      rfl
    refine seq_ends (if_ends t3 ?_)
    rw [if_neg (by simp)]
    refine ends_ok.mpr (ends_ok.mpr ⟨_, rfl, fun v h => hv v (List.mem_cons_of_mem _ h)⟩)
  · rintro fr ⟨c, rfl, _⟩
    exact ⟨rfl, c, rfl⟩
  rintro fl fr ⟨rfl, c, rfl⟩
  dsimp only
  have r1 : sSeq (sRet (eC (.bl true))) sNx (F3 (.tup ds) (.tup ds) c) = .ok (.ret (.bl true)) (F3 (.tup ds) (.tup ds) c) := rfl
  rw [r1]
  refine ends_ok.mpr ?_
  rfl
theorem Pl.pers : ∀ {k : Nat} {d : D}, Pl k d → pers d = true
  | 0, _, h => h.elim
  | k + 1, d, h => by cases d <;> first | rfl | exact h.elim
theorem same : ∀ (k : Nat) (d : D), Pl k d → ∃ outs, fn_law_sameN k [d, d] = .ok (.bl true) outs ∧ outs.length = 2
  | 0, _, h => h.elim
  | k + 1, d, h => by
    cases d with
    | int i => exact ⟨_, same_int _ i, rfl⟩
    | str x => exact ⟨_, same_str _ x, rfl⟩
    | tup ds => exact same_tup _ ds h.1 fun d hd => ⟨(h.2 d hd).pers, same k d (h.2 d hd)⟩
    | _ => exact h.elim
theorem same_call {fr : Fr} {a b : Ev} {d : D} (hp : Pl 6 d) (ha : a fr = .ok d fr) (hb : b fr = .ok d fr) : eCall [false, false] fn_law_same (aCons a (aCons b aNil)) fr = .ok (.bl true) fr := by
  obtain ⟨outs, h, ho⟩ := same 6 d hp
  refine call_val (ds := [d, d]) (by unfold aCons; rw [ha, bind_ok, hb, bind_ok]; rfl) (by unfold argC argC argC; rw [if_pos hp.pers, if_pos hp.pers]; rfl) (by have := hp.pers; cases d <;> rfl) h ho ?_
  match outs, ho with
  | [_, _], _ => cases d <;> rfl
/-! own == -/
def encP (p : PP) : PyData := .tuple [.int p.1, .int p.2]
theorem pyL (as : List PP) : pyOfL (as.map dPP) = some (as.map encP) := by
  induction as with
  | nil => rfl
  | cons p as ih =>
    rw [List.map_cons, List.map_cons, pyOfL, ih]
    rfl
theorem can (as : List PP) : PyData.canLayAll0 (as.map encP) = true := by
  induction as with
  | nil => rfl
  | cons p as ih => rw [List.map_cons, PyData.canLayAll0, ih]; rfl
theorem dep (as : List PP) : PyData.depthAll (as.map encP) ≤ 8 := by
  induction as with
  | nil => simp [PyData.depthAll]
  | cons p as ih =>
    rw [List.map_cons, PyData.depthAll]
    have : (encP p).depth ≤ 8 := by simp [encP, PyData.depth, PyData.depthAll]
    omega
theorem arcs_eq (as : List PP) : eqF (.tup (as.map dPP)) (.tup (as.map dPP)) = some (.bl true) := by
  have hp : pyOf (.tup (as.map dPP)) = some (.tuple (as.map encP)) := by rw [pyOf, pyL]; rfl
  have hs : PySem.SeqAt.shaped (.tuple (as.map encP)) = true := by
    unfold PySem.SeqAt.shaped
    rw [PyData.canLay0, can]
    have := dep as
    simp [PyData.depth]
    omega
  have he : PyData.eqv (.tuple (as.map encP)) (.tuple (as.map encP)) = true := PySem.SeqAt.eqv_refl _ (by rw [PyData.canLay0, can])
  unfold eqF eqB
  have sc : scalE (.tup (as.map dPP)) (.tup (as.map dPP)) = none := rfl
  rw [sc]
  dsimp only
  rw [hp]
  dsimp only
  rw [hs, he]
  rfl
theorem net_eq (n : Int) (as : List PP) : ∃ outs, fn_Net_eq [netO n as, netO n as] = .ok (.bl true) outs := by
  refine ⟨_, run_ok (fr := [some (netO n as), some (netO n as)]) ?_⟩
  have a1 : eOp2 eqF (eAttr [0] 0 (eVar 0)) (eAttr [0] 0 (eVar 1)) [some (netO n as), some (netO n as)] = .ok (.bl true) [some (netO n as), some (netO n as)] := op2i (i := n) (j := n) (by rfl) (by rfl) (by simp [eqF, eqB, scalE])
  have a2 : eOp2 eqF (eAttr [0] 1 (eVar 0)) (eAttr [0] 1 (eVar 1)) [some (netO n as), some (netO n as)] = .ok (.bl true) [some (netO n as), some (netO n as)] := op2_ok (x := .tup (as.map dPP)) (y := .tup (as.map dPP)) (by rfl) (by rfl) (by rfl) (by rfl) (arcs_eq as)
  have a0 : eOp1 (isiCF kc_Net) (eVar 1) [some (netO n as), some (netO n as)] = .ok (.bl true) [some (netO n as), some (netO n as)] := rfl
  have a3 : eAnd (eOp1 (isiCF kc_Net) (eVar 1)) (eAnd (eOp2 eqF (eAttr [0] 0 (eVar 0)) (eAttr [0] 0 (eVar 1))) (eOp2 eqF (eAttr [0] 1 (eVar 0)) (eAttr [0] 1 (eVar 1)))) [some (netO n as), some (netO n as)] = .ok (.bl true) [some (netO n as), some (netO n as)] := by
    unfold eAnd
    rw [a0, bind_ok]
    dsimp only
    rw [a1, bind_ok]
    dsimp only
    rw [a2]
  unfold g_Net_eq
  exact ret_seq (ret_ok a3 rfl)
end Lk11
namespace Lk11
open PySem KS
abbrev numS (i : Int) : Str := Str.ofString (toString i)
abbrev sCom : Str := PySem.Str.ofString ","
abbrev sNl : Str := PySem.Str.ofString "\n"
abbrev sDash : Str := PySem.Str.ofString "-"
abbrev sNet : Str := PySem.Str.ofString "net "
def lineS (as : List PP) (i : Int) : Str := if kn as i = [] then sDash else Txt.join sCom ((kn as i).map numS)
def linesS (n : Int) (as : List PP) : List Str := (List.range n.toNat).map fun k => lineS as (0 + (k : Nat))
def TT (n : Int) (as : List PP) : Str := Txt.join sNl ((sNet ++ numS n) :: linesS n as)
theorem small {x : Int} (h : 0 ≤ x ∧ x ≤ 12) {P : Int → Prop} (k : ∀ y ∈ ([0, 1, 2, 3, 4, 5, 6, 7, 8, 9, 10, 11, 12] : List Int), P y) : P x := by
  refine k x ?_
  have : x = 0 ∨ x = 1 ∨ x = 2 ∨ x = 3 ∨ x = 4 ∨ x = 5 ∨ x = 6 ∨ x = 7 ∨ x = 8 ∨ x = 9 ∨ x = 10 ∨ x = 11 ∨ x = 12 := by omega
  rcases this with rfl | rfl | rfl | rfl | rfl | rfl | rfl | rfl | rfl | rfl | rfl | rfl | rfl <;> simp
theorem log_ok {x : Int} (h : 0 ≤ x ∧ x ≤ 12) : x.natAbs.log2 < 1920 := small h (P := fun x => x.natAbs.log2 < 1920) (by decide)
theorem num_len {x : Int} (h : 0 ≤ x ∧ x ≤ 12) : (numS x).length ≤ 2 := small h (P := fun x => (numS x).length ≤ 2) (by decide +kernel)
theorem kn_rng {n : Int} {as : List PP} (h : VN n as) (i : Int) : ∀ x ∈ kn as i, 0 ≤ x ∧ x ≤ 12 := by
  intro x hx
  unfold kn at hx
  obtain ⟨p, hp, rfl⟩ := List.mem_map.mp hx
  have := h.rng p (List.mem_filter.mp hp).1
  have := h.hi
  omega
theorem kn_len {n : Int} {as : List PP} (h : VN n as) (i : Int) : (kn as i).length ≤ 9000 := by
  unfold kn
  rw [List.length_map]
  exact Nat.le_trans (List.length_filter_le _ _) h.len
theorem sum_le {l : List Nat} {c : Nat} (h : ∀ x ∈ l, x ≤ c) : l.sum ≤ c * l.length := by
  induction l with
  | nil => simp
  | cons x l ih =>
    have h1 := h x (List.mem_cons_self ..)
    have h2 := ih fun y hy => h y (List.mem_cons_of_mem _ hy)
    rw [List.sum_cons, List.length_cons, Nat.mul_succ]
    omega
theorem len_app (a b : Str) : (a ++ b).length = a.length + b.length := by
  show (a.cps ++ b.cps).size = _
  rw [Array.size_append]
  rfl
theorem join_len (sep : Str) : ∀ ys : List Str, (Str.join sep ys).length ≤ (ys.map (·.length)).sum + ys.length * sep.length
  | [] => by simp [Str.join, Str.empty, Str.length]
  | [x] => by simp [Str.join]
  | x :: y :: r => by
    have ih := join_len sep (y :: r)
    show (x ++ sep ++ Str.join sep (y :: r)).length ≤ _
    rw [len_app, len_app]
    simp only [List.map_cons, List.sum_cons, List.length_cons, Nat.add_mul] at ih ⊢
    omega
theorem nums_sum {n : Int} {as : List PP} (h : VN n as) (i : Int) : (((kn as i).map numS).map (·.length)).sum + ((kn as i).map numS).length * sCom.length ≤ 30000 := by
  have h1 := sum_le (l := ((kn as i).map numS).map (·.length)) (c := 2) fun x hx => by
    obtain ⟨s, hs, rfl⟩ := List.mem_map.mp hx
    obtain ⟨j, hj, rfl⟩ := List.mem_map.mp hs
    exact num_len (kn_rng h i j hj)
  have h2 := kn_len h i
  have h3 : sCom.length = 1 := by decide +kernel
  rw [h3]
  simp only [List.length_map] at h1 ⊢
  omega
theorem line_len {n : Int} {as : List PP} (h : VN n as) (i : Int) : (lineS as i).length ≤ 30000 := by
  unfold lineS
  split
  · decide +kernel
  · rw [TL.join_eq]
    exact Nat.le_trans (join_len _ _) (nums_sum h i)
theorem head_len {n : Int} (h : 0 ≤ n ∧ n ≤ 12) : (sNet ++ numS n).length ≤ 6 := by
  rw [len_app]
  have h1 := num_len h
  have h2 : sNet.length = 4 := by decide +kernel
  omega
theorem all_sum {n : Int} {as : List PP} (h : VN n as) : ((((sNet ++ numS n) :: linesS n as)).map (·.length)).sum + ((sNet ++ numS n) :: linesS n as).length * sNl.length ≤ 400000 := by
  have h1 := sum_le (l := (linesS n as).map (·.length)) (c := 30000) fun x hx => by
    obtain ⟨s, hs, rfl⟩ := List.mem_map.mp hx
    obtain ⟨j, _, rfl⟩ := List.mem_map.mp hs
    exact line_len h _
  have h2 : (linesS n as).length ≤ 12 := by
    unfold linesS
    rw [List.length_map, List.length_range]
    have := h.hi
    omega
  have h3 := head_len (n := n) ⟨by have := h.lo; omega, h.hi⟩
  have h4 : sNl.length = 1 := by decide +kernel
  rw [h4]
  simp only [List.map_cons, List.sum_cons, List.length_cons, List.length_map] at h1 ⊢
  omega
theorem strs_map (ys : List Str) : strsOf (ys.map D.str) = some ys := by
  induction ys with
  | nil => rfl
  | cons y ys ih => rw [List.map_cons, strsOf, ih]; rfl
theorem join_run (sep : Str) (ys : List Str) (h : (ys.map (·.length)).sum + ys.length * sep.length ≤ 16777216) : joinF (.str sep) (.lst (ys.map D.str)) = some (.str (Txt.join sep ys)) := by
  unfold joinF
  dsimp only
  rw [strs_map]
  dsimp only
  rw [if_pos h]
theorem str_run {x : Int} (h : 0 ≤ x ∧ x ≤ 12) : strF (.int x) = some (.str (numS x)) := by
  unfold strF
  dsimp only
  rw [if_pos (log_ok h)]
/-- the numbers' texts, joined -/
theorem nums_comp {fr W : Fr} {T : D → Fr} {i : Nat} {f : Ev} {ks : List Int} (hf : f fr = .ok (.tup (ks.map D.int)) fr) (hk : ∀ x ∈ ks, 0 ≤ x ∧ x ≤ 12) (hl : ks.length ≤ 9000) (hW : wipeF fr [i] = W) (ht : ∀ v, tgN i v W = some (T v)) (hv : ∀ v, eVar i (T v) = .ok v (T v)) (hw : ∀ d, wipeF (T d) [i] = W) (hr0 : restF fr fr [i] = fr) (hr : ∀ d, restF fr (T d) [i] = fr) :
    eComp [i] (iVal f) (tgN i) bYes (eOp1 strF (eVar i)) fr = .ok (.lst ((ks.map numS).map D.str)) fr := by
  have h := comp_ok (vs := [i]) (t := tgN i) (c := bYes) (e := eOp1 strF (eVar i)) W T (fun _ => true) (fun v => match v with | .int x => .str (numS x) | _ => .non) (val_tup hf) (by rw [List.length_map]; omega) hW (fun v _ => ht v) (fun _ _ => rfl) (fun v hv' _ => by
    obtain ⟨x, hx, rfl⟩ := List.mem_map.mp hv'
    exact ⟨op1_ok (hv _) (by rfl) (str_run (hk x hx)), rfl⟩) hw hr0 hr
  rw [h, List.filter_eq_self.mpr (fun _ _ => rfl), List.map_map, List.map_map]
  rfl
end Lk11
namespace Lk11
open PySem KS
theorem netD_rfl (n : Int) (as : List PP) : netD n as = .tup [.int n, .tup (as.map dPP)] := rfl
theorem knows_run (n i : Int) (as : List PP) (hl : as.length ≤ 9000) : fn_law_knows [netD n as, .int i] = .ok (knT as i) [netD n as, .int i] := by
  have h1 := comp_ok (vs := [2]) (h := iVal (eOp2 ixF (eVar 0) (eC (.int 1)))) (t := tgN 2) (c := bE (eOp2 eqF (eOp2 ixF (eVar 2) (eC (.int 0))) (eVar 1))) (e := eOp2 ixF (eVar 2) (eC (.int 1))) (fr0 := F3 (netD n as) (.int i) none) (ds := as.map dPP)
    (F3 (netD n as) (.int i) none) (fun v => F3 (netD n as) (.int i) (some v)) (isI i) sndD (by rfl) (by rw [List.length_map]; omega) (by rfl) (fun _ _ => rfl)
    (fun v hv => by
      obtain ⟨p, _, rfl⟩ := List.mem_map.mp hv
      unfold bE
      rw [op2i (F := eqF) (i := p.1) (j := i) (z := .bl (decide (p.1 = i))) (by rfl) (by rfl) (by simp [eqF, eqB, scalE]), bind_ok]
      rfl)
    (fun v hv _ => by obtain ⟨p, _, rfl⟩ := List.mem_map.mp hv; exact ⟨rfl, rfl⟩) (fun _ => rfl) (by rfl) (fun _ => rfl)
  rw [kn_eq] at h1
  have h2 := op1_ok (F := tupF) h1 (by rfl) (z := knT as i) (by rfl)
  unfold fn_law_knows
  exact run_ok (k := 2) (fr := F3 (netD n as) (.int i) none) (ret_seq (ret_ok h2 rfl))
abbrev F5 (n : D) (l : List Str) (a b c : Option D) : Fr := [some n, some (.lst (l.map D.str)), a, b, c]
theorem snoc_str (l : List Str) (s : Str) : l.map D.str ++ [D.str s] = (l ++ [s]).map D.str := by simp
theorem text_step {n : Int} {as : List PP} (h : VN n as) (l : List Str) (i : Int) (b c : Option D) (hl : l.length < 1000) :
    Ends ((sSeq (sSet 3 (eCall [false, false] fn_law_knows (aCons (eVar 0) (aCons (eVar 2) aNil))))
  (sSeq (sX (eMut 1 isLstD true appM (aCons (eOp2 ixF (eLst (aCons (eM1 joinF (eC (.str (PySem.Str.ofString ","))) (eComp [4] (iVal (eVar 3)) (tgN 4) bYes (eOp1 strF (eVar 4)))) (aCons (eC (.str (PySem.Str.ofString "-"))) aNil))) (eOp1 intF (eOp2 eqF (eOp1 lenF (eVar 3)) (eC (.int 0))))) aNil)))
  sNx)) (F5 (netD n as) l (some (.int i)) b c)) (Turned (fun fr => ∃ b, fr = F5 (netD n as) (l ++ [lineS as i]) (some (.int i)) b c) (fun _ _ => False)) := by
  have c1 : eCall [false, false] fn_law_knows (aCons (eVar 0) (aCons (eVar 2) aNil)) (F5 (netD n as) l (some (.int i)) b c) = .ok (knT as i) (F5 (netD n as) l (some (.int i)) b c) := call_val (ds := [netD n as, .int i]) (by rfl) (by rfl) (by rfl) (knows_run n i as h.len) rfl (by rfl)
  refine nx_seq (fr1 := F5 (netD n as) l (some (.int i)) (some (knT as i)) c) (set_ok c1 rfl) ?_
  have k1 : eComp [4] (iVal (eVar 3)) (tgN 4) bYes (eOp1 strF (eVar 4)) (F5 (netD n as) l (some (.int i)) (some (knT as i)) c) = .ok (.lst (((kn as i).map numS).map D.str)) (F5 (netD n as) l (some (.int i)) (some (knT as i)) c) :=
    nums_comp (W := F5 (netD n as) l (some (.int i)) (some (knT as i)) none) (T := fun v => F5 (netD n as) l (some (.int i)) (some (knT as i)) (some v)) (by rfl) (kn_rng h i) (kn_len h i) (by rfl) (fun _ => rfl) (fun _ => rfl) (fun _ => rfl) (by rfl) (fun _ => rfl)
  have k2 : eM1 joinF (eC (.str (PySem.Str.ofString ","))) (eComp [4] (iVal (eVar 3)) (tgN 4) bYes (eOp1 strF (eVar 4))) (F5 (netD n as) l (some (.int i)) (some (knT as i)) c) = .ok (.str (Txt.join sCom ((kn as i).map numS))) (F5 (netD n as) l (some (.int i)) (some (knT as i)) c) :=
    m1_ok (by rfl) k1 (by rfl) (join_run _ _ (Nat.le_trans (nums_sum h i) (by decide)))
  have k3 : eLst (aCons (eM1 joinF (eC (.str (PySem.Str.ofString ","))) (eComp [4] (iVal (eVar 3)) (tgN 4) bYes (eOp1 strF (eVar 4)))) (aCons (eC (.str (PySem.Str.ofString "-"))) aNil)) (F5 (netD n as) l (some (.int i)) (some (knT as i)) c) = .ok (.lst [.str (Txt.join sCom ((kn as i).map numS)), .str sDash]) (F5 (netD n as) l (some (.int i)) (some (knT as i)) c) := by
    unfold eLst aCons
    rw [k2, bind_ok]
    rfl
  have k4 : eOp1 intF (eOp2 eqF (eOp1 lenF (eVar 3)) (eC (.int 0))) (F5 (netD n as) l (some (.int i)) (some (knT as i)) c) = .ok (.int (if kn as i = [] then 1 else 0)) (F5 (netD n as) l (some (.int i)) (some (knT as i)) c) := by
    obtain ⟨L, hL⟩ : ∃ L : Int, ((kn as i).length : Int) = L := ⟨_, rfl⟩
    have l0 : eOp1 lenF (eVar 3) (F5 (netD n as) l (some (.int i)) (some (knT as i)) c) = .ok (.int L) (F5 (netD n as) l (some (.int i)) (some (knT as i)) c) := op1_ok (a := knT as i) (by rfl) (by rfl) (by simp [lenF, knT, hL])
    have e : decide (L = 0) = decide (kn as i = []) := by
      cases hk : kn as i with
      | nil => rw [hk] at hL; simp at hL; simp [← hL]
      | cons x r => rw [hk] at hL; simp at hL; simp; omega
    refine op1_ok (x := .bl (decide (L = 0))) (op2i l0 (by rfl) (by simp [eqF, eqB, scalE])) (by rfl) ?_
    rw [e]
    by_cases hk : kn as i = [] <;> simp [intF, hk]
  have k5 : eOp2 ixF (eLst (aCons (eM1 joinF (eC (.str (PySem.Str.ofString ","))) (eComp [4] (iVal (eVar 3)) (tgN 4) bYes (eOp1 strF (eVar 4)))) (aCons (eC (.str (PySem.Str.ofString "-"))) aNil))) (eOp1 intF (eOp2 eqF (eOp1 lenF (eVar 3)) (eC (.int 0)))) (F5 (netD n as) l (some (.int i)) (some (knT as i)) c) = .ok (.str (lineS as i)) (F5 (netD n as) l (some (.int i)) (some (knT as i)) c) := by
    refine op2_ok k3 k4 (by rfl) (by rfl) ?_
    unfold lineS
    by_cases hk : kn as i = []
    · rw [if_pos hk, if_pos hk]; rfl
    · rw [if_neg hk, if_neg hk]; rfl
  have k6 : sX (eMut 1 isLstD true appM (aCons (eOp2 ixF (eLst (aCons (eM1 joinF (eC (.str (PySem.Str.ofString ","))) (eComp [4] (iVal (eVar 3)) (tgN 4) bYes (eOp1 strF (eVar 4)))) (aCons (eC (.str (PySem.Str.ofString "-"))) aNil))) (eOp1 intF (eOp2 eqF (eOp1 lenF (eVar 3)) (eC (.int 0))))) aNil)) (F5 (netD n as) l (some (.int i)) (some (knT as i)) c) = .ok .nx (F5 (netD n as) (l ++ [lineS as i]) (some (.int i)) (some (knT as i)) c) := by
    have := app_ok (i := 1) (ds0 := l.map D.str) (ds := l.map D.str) (by rfl) k5 rfl (by rfl) (by rw [List.length_map]; omega)
    rw [snoc_str] at this
    exact this
  exact nx_seq k6 (ends_ok.mpr ⟨_, rfl⟩)
theorem range_snoc (f : Nat → Str) (k : Nat) : (List.range k).map f ++ [f k] = (List.range (k + 1)).map f := by
  rw [List.range_succ, List.map_append]
  rfl
theorem text_run {n : Int} {as : List PP} (h : VN n as) : ∃ outs, fn_law_text [netD n as] = .ok (.str (TT n as)) outs ∧ outs.length = 1 := by
  have hlo := h.lo
  have hhi := h.hi
  suffices hs : Ends (g_law_text (startF 5 [netD n as])) (fun fl fr => fl = .ret (.str (TT n as))) by
    obtain ⟨fl, fr, e2, rfl⟩ := hs
    exact ⟨outsOf 1 fr, by unfold fn_law_text runFn; rw [e2], outs_len⟩
  unfold g_law_text
  have st : startF 5 [netD n as] = [some (netD n as), none, none, none, none] := rfl
  rw [st]
  have s1 : sSetF 1 (eLst (aCons (eOp2 addF (eC (.str (PySem.Str.ofString "net "))) (eOp1 strF (eOp2 ixF (eVar 0) (eC (.int 0))))) aNil)) [some (netD n as), none, none, none, none] = .ok .nx (F5 (netD n as) [sNet ++ numS n] none none none) := by
    have a1 : eOp1 strF (eOp2 ixF (eVar 0) (eC (.int 0))) [some (netD n as), none, none, none, none] = .ok (.str (numS n)) [some (netD n as), none, none, none, none] := op1_ok (x := .int n) (by rfl) (by rfl) (str_run ⟨by omega, hhi⟩)
    have hz := head_len (n := n) ⟨by omega, hhi⟩
    rw [len_app] at hz
    have a2 : eOp2 addF (eC (.str (PySem.Str.ofString "net "))) (eOp1 strF (eOp2 ixF (eVar 0) (eC (.int 0)))) [some (netD n as), none, none, none, none] = .ok (.str (sNet ++ numS n)) [some (netD n as), none, none, none, none] := op2_ok (x := .str sNet) (by rfl) a1 (by rfl) (by rfl) (by
      unfold addF
      dsimp only
      rw [if_pos (show sNet.length + (numS n).length ≤ sizeLine from Nat.le_trans hz (by decide))])
    refine setF_ok (fr1 := [some (netD n as), none, none, none, none]) ?_
    unfold eLst aCons
    rw [a2, bind_ok]
    rfl
  refine nx_seq s1 ?_
  have g1 : iRg1 (eOp2 ixF (eVar 0) (eC (.int 0))) (F5 (netD n as) [sNet ++ numS n] none none none) = .ok (rangeD 0 n.toNat) (F5 (netD n as) [sNet ++ numS n] none none none) := rg_ok (j := n) (by rfl) (by omega)
  refine seq_ends (for_ends g1 ?_)
  refine Ends.imp (loop_ends (I := fun ds fr => ∃ k b c d, ds = (rangeD 0 n.toNat).drop k ∧ k ≤ n.toNat ∧ fr = F5 (netD n as) ((sNet ++ numS n) :: (List.range k).map fun j => lineS as (0 + (j : Nat))) b c d) (R := fun fl fr => fl = .nx ∧ ∃ b c d, fr = F5 (netD n as) ((sNet ++ numS n) :: linesS n as) b c d) ?_ ?_ _ _ ⟨0, none, none, none, rfl, Nat.zero_le _, rfl⟩) ?_
  · rintro dd ds fr ⟨k, b, c, d, hds, hk, rfl⟩
    have hk' : k < n.toNat := by
      rcases Nat.lt_or_ge k n.toNat with z | z
      · exact z
      · rw [List.drop_eq_nil_of_le (by rw [range_len]; exact z)] at hds
        cases hds
    have hg : (rangeD 0 n.toNat)[k]? = some (.int (0 + (k : Nat))) := by
      unfold rangeD
      rw [List.getElem?_map, List.getElem?_range hk']
      rfl
    obtain ⟨hl, e⟩ := List.getElem?_eq_some_iff.mp hg
    rw [List.drop_eq_getElem_cons hl, e] at hds
    injection hds with h1 h2
    subst h1
    refine ⟨F5 (netD n as) ((sNet ++ numS n) :: (List.range k).map fun j => lineS as (0 + (j : Nat))) (some (.int (0 + (k : Nat)))) c d, rfl, ?_⟩
    refine Ends.imp (text_step h ((sNet ++ numS n) :: (List.range k).map fun j => lineS as (0 + (j : Nat))) (0 + (k : Nat)) c d (by simp; omega)) fun fl fr hh => ?_
    have nxt : ∀ fr, (∃ b, fr = F5 (netD n as) (((sNet ++ numS n) :: (List.range k).map fun j => lineS as (0 + (j : Nat))) ++ [lineS as (0 + (k : Nat))]) (some (.int (0 + (k : Nat)))) b d) → ∃ k b c d, ds = (rangeD 0 n.toNat).drop k ∧ k ≤ n.toNat ∧ fr = F5 (netD n as) ((sNet ++ numS n) :: (List.range k).map fun j => lineS as (0 + (j : Nat))) b c d := by
      rintro fr ⟨b, rfl⟩
      refine ⟨k + 1, some (.int (0 + (k : Nat))), b, d, h2, hk', ?_⟩
      rw [List.cons_append, range_snoc (fun j => lineS as (0 + (j : Nat)))]
    cases fl with
    | nx => exact nxt fr hh
    | cnt => exact nxt fr hh
    | brk => exact hh.elim
    | ret v => exact hh.elim
  · rintro fr ⟨k, b, c, d, hds, hk, rfl⟩
    have : k = n.toNat := by
      rcases Nat.lt_or_ge k n.toNat with z | z
      · have := congrArg List.length hds
        rw [List.length_drop, range_len] at this
        simp at this
        omega
      · omega
    subst this
    exact ⟨rfl, b, c, d, rfl⟩
  rintro fl fr ⟨rfl, b, c, d, rfl⟩
  dsimp only
  have r1 : eM1 joinF (eC (.str (PySem.Str.ofString "\n"))) (ePl 1) (F5 (netD n as) ((sNet ++ numS n) :: linesS n as) b c d) = .ok (.str (TT n as)) (F5 (netD n as) ((sNet ++ numS n) :: linesS n as) b c d) :=
    m1_ok (by rfl) (y := .var 1) (by rfl) (b := .lst (((sNet ++ numS n) :: linesS n as).map D.str)) (by rfl) (join_run _ _ (Nat.le_trans (all_sum h) (by decide)))
  rw [ret_seq (ret_ok r1 rfl)]
  exact ends_ok.mpr rfl
end Lk11
namespace Lk11
open PySem KS
theorem number_run {x : Int} (h : 0 ≤ x ∧ x ≤ 12) : fn_number_of [.str (numS x)] = .ok (.int x) [.str (numS x)] := by
  refine small h (P := fun x => fn_number_of [.str (numS x)] = .ok (.int x) [.str (numS x)]) fun y hy => ?_
  simp only [List.mem_cons, List.mem_nil_iff, or_false] at hy
  rcases hy with rfl | rfl | rfl | rfl | rfl | rfl | rfl | rfl | rfl | rfl | rfl | rfl | rfl <;> kernel_rfl
theorem size_run {x : Int} (h : 1 ≤ x ∧ x ≤ 12) : fn_size_of [.str (sNet ++ numS x)] = .ok (.int x) [.str (sNet ++ numS x)] := by
  have : x = 1 ∨ x = 2 ∨ x = 3 ∨ x = 4 ∨ x = 5 ∨ x = 6 ∨ x = 7 ∨ x = 8 ∨ x = 9 ∨ x = 10 ∨ x = 11 ∨ x = 12 := by omega
  rcases this with rfl | rfl | rfl | rfl | rfl | rfl | rfl | rfl | rfl | rfl | rfl | rfl <;> kernel_rfl
abbrev F4 (n : D) (l : List Str) (a b : Option D) : Fr := [some n, some (.lst (l.map D.str)), a, b]
theorem empty_app (s : Str) : Str.empty ++ s = s := by
  show Str.mk (#[] ++ s.cps) = s
  rw [Array.empty_append]
theorem write_step {n : Int} {as : List PP} (h : VN n as) (o : D) (l : List Str) (i : Int) (c : Option D) (hl : l.length < 1000) :
    Ends ((sSeq (sX (eMut 1 isLstD true appM (aCons (eIf (bTru (eVar 2)) (eM1 joinF (eC (.str (PySem.Str.ofString ","))) (eComp [3] (iVal (eVar 2)) (tgN 3) bYes (eOp1 strF (eVar 3)))) (eC (.str (PySem.Str.ofString "-")))) aNil)))
  sNx) (F4 o l (some (knT as i)) c)) (Turned (fun fr => fr = F4 o (l ++ [lineS as i]) (some (knT as i)) c) (fun _ _ => False)) := by
  have k1 : eComp [3] (iVal (eVar 2)) (tgN 3) bYes (eOp1 strF (eVar 3)) (F4 o l (some (knT as i)) c) = .ok (.lst (((kn as i).map numS).map D.str)) (F4 o l (some (knT as i)) c) :=
    nums_comp (W := F4 o l (some (knT as i)) none) (T := fun v => F4 o l (some (knT as i)) (some v)) (by rfl) (kn_rng h i) (kn_len h i) (by rfl) (fun _ => rfl) (fun _ => rfl) (fun _ => rfl) (by rfl) (fun _ => rfl)
  have k2 : eM1 joinF (eC (.str (PySem.Str.ofString ","))) (eComp [3] (iVal (eVar 2)) (tgN 3) bYes (eOp1 strF (eVar 3))) (F4 o l (some (knT as i)) c) = .ok (.str (Txt.join sCom ((kn as i).map numS))) (F4 o l (some (knT as i)) c) :=
    m1_ok (by rfl) k1 (by rfl) (join_run _ _ (Nat.le_trans (nums_sum h i) (by decide)))
  have t : bTru (eVar 2) (F4 o l (some (knT as i)) c) = .ok (!((kn as i).map D.int).isEmpty) (F4 o l (some (knT as i)) c) := rfl
  have k5 : eIf (bTru (eVar 2)) (eM1 joinF (eC (.str (PySem.Str.ofString ","))) (eComp [3] (iVal (eVar 2)) (tgN 3) bYes (eOp1 strF (eVar 3)))) (eC (.str (PySem.Str.ofString "-"))) (F4 o l (some (knT as i)) c) = .ok (.str (lineS as i)) (F4 o l (some (knT as i)) c) := by
    unfold eIf
    rw [t, bind_ok, k2]
    unfold lineS
    by_cases hk : kn as i = []
    · rw [hk, if_pos rfl]; rfl
    · rw [if_neg hk]
      cases hq : kn as i with
      | nil => exact absurd hq hk
      | cons x r => rfl
  have := app_ok (i := 1) (ds0 := l.map D.str) (ds := l.map D.str) (by rfl) k5 rfl (by rfl) (by rw [List.length_map]; omega)
  rw [snoc_str] at this
  exact nx_seq (fr1 := F4 o (l ++ [lineS as i]) (some (knT as i)) c) this (ends_ok.mpr rfl)
theorem write_run {n : Int} {as : List PP} (h : VN n as) : ∃ outs, fn_write_net [netO n as] = .ok (.str (TT n as)) outs ∧ outs.length = 1 := by
  have hlo := h.lo
  have hhi := h.hi
  suffices hs : Ends (g_write_net (startF 4 [netO n as])) (fun fl fr => fl = .ret (.str (TT n as))) by
    obtain ⟨fl, fr, e2, rfl⟩ := hs
    exact ⟨outsOf 1 fr, by unfold fn_write_net runFn; rw [e2], outs_len⟩
  unfold g_write_net
  have st : startF 4 [netO n as] = [some (netO n as), none, none, none] := rfl
  rw [st]
  have hz := head_len (n := n) ⟨by omega, hhi⟩
  have s1 : sSetF 1 (eLst (aCons (eFs [(eC (.str (PySem.Str.ofString "net "))), (eOp1 (fun d => (fmtF d).map D.str) (eAttr [0] 0 (eVar 0)))] PySem.Str.empty) aNil)) [some (netO n as), none, none, none] = .ok .nx (F4 (netO n as) [sNet ++ numS n] none none) := by
    have a1 : eOp1 (fun d => (fmtF d).map D.str) (eAttr [0] 0 (eVar 0)) [some (netO n as), none, none, none] = .ok (.str (numS n)) [some (netO n as), none, none, none] := op1_ok (x := .int n) (by rfl) (by rfl) (by
      unfold fmtF
      dsimp only
      rw [if_pos (log_ok ⟨by omega, hhi⟩)]
      rfl)
    have a2 : eFs [(eC (.str (PySem.Str.ofString "net "))), (eOp1 (fun d => (fmtF d).map D.str) (eAttr [0] 0 (eVar 0)))] PySem.Str.empty [some (netO n as), none, none, none] = .ok (.str (sNet ++ numS n)) [some (netO n as), none, none, none] := by
      have q : eC (.str (PySem.Str.ofString "net ")) [some (netO n as), none, none, none] = .ok (.str sNet) [some (netO n as), none, none, none] := rfl
      unfold eFs eFs eFs
      rw [q, bind_ok]
      dsimp only
      rw [empty_app, if_pos (show sNet.length ≤ sizeLine from by rw [len_app] at hz; exact Nat.le_trans (Nat.le_trans (Nat.le_add_right _ _) hz) (by decide)), a1, bind_ok]
      dsimp only
      rw [if_pos (show (sNet ++ numS n).length ≤ sizeLine from Nat.le_trans hz (by decide))]
    refine setF_ok (fr1 := [some (netO n as), none, none, none]) ?_
    unfold eLst aCons
    rw [a2, bind_ok]
    rfl
  refine nx_seq s1 ?_
  have g1 : iVal (eAttr [0] 2 (eVar 0)) (F4 (netO n as) [sNet ++ numS n] none none) = .ok (knows n as) (F4 (netO n as) [sNet ++ numS n] none none) := val_tup (by rfl)
  refine seq_ends (for_ends g1 ?_)
  have klen : (knows n as).length = n.toNat := by unfold knows; rw [List.length_map, List.length_range]
  refine Ends.imp (loop_ends (I := fun ds fr => ∃ k b c, ds = (knows n as).drop k ∧ k ≤ n.toNat ∧ fr = F4 (netO n as) ((sNet ++ numS n) :: (List.range k).map fun j => lineS as (0 + (j : Nat))) b c) (R := fun fl fr => fl = .nx ∧ ∃ b c, fr = F4 (netO n as) ((sNet ++ numS n) :: linesS n as) b c) ?_ ?_ _ _ ⟨0, none, none, rfl, Nat.zero_le _, rfl⟩) ?_
  · rintro dd ds fr ⟨k, b, c, hds, hk, rfl⟩
    have hk' : k < n.toNat := by
      rcases Nat.lt_or_ge k n.toNat with z | z
      · exact z
      · rw [List.drop_eq_nil_of_le (by rw [klen]; exact z)] at hds
        cases hds
    have hg : (knows n as)[k]? = some (knT as (0 + (k : Nat))) := by
      unfold knows
      rw [List.getElem?_map, List.getElem?_range hk']
      rfl
    obtain ⟨hl, e⟩ := List.getElem?_eq_some_iff.mp hg
    rw [List.drop_eq_getElem_cons hl, e] at hds
    injection hds with h1 h2
    subst h1
    refine ⟨F4 (netO n as) ((sNet ++ numS n) :: (List.range k).map fun j => lineS as (0 + (j : Nat))) (some (knT as (0 + (k : Nat)))) c, rfl, ?_⟩
    refine Ends.imp (write_step h (netO n as) ((sNet ++ numS n) :: (List.range k).map fun j => lineS as (0 + (j : Nat))) (0 + (k : Nat)) c (by simp; omega)) fun fl fr hh => ?_
    have nxt : ∀ fr, fr = F4 (netO n as) (((sNet ++ numS n) :: (List.range k).map fun j => lineS as (0 + (j : Nat))) ++ [lineS as (0 + (k : Nat))]) (some (knT as (0 + (k : Nat)))) c → ∃ k b c, ds = (knows n as).drop k ∧ k ≤ n.toNat ∧ fr = F4 (netO n as) ((sNet ++ numS n) :: (List.range k).map fun j => lineS as (0 + (j : Nat))) b c := by
      rintro fr rfl
      refine ⟨k + 1, some (knT as (0 + (k : Nat))), c, h2, hk', ?_⟩
      rw [List.cons_append, range_snoc (fun j => lineS as (0 + (j : Nat)))]
    cases fl with
    | nx => exact nxt fr hh
    | cnt => exact nxt fr hh
    | brk => exact hh.elim
    | ret v => exact hh.elim
  · rintro fr ⟨k, b, c, hds, hk, rfl⟩
    have : k = n.toNat := by
      rcases Nat.lt_or_ge k n.toNat with z | z
      · have := congrArg List.length hds
        rw [List.length_drop, klen] at this
        simp at this
        omega
      · omega
    subst this
    exact ⟨rfl, b, c, rfl⟩
  rintro fl fr ⟨rfl, b, c, rfl⟩
  dsimp only
  have r1 : eM1 joinF (eC (.str (PySem.Str.ofString "\n"))) (ePl 1) (F4 (netO n as) ((sNet ++ numS n) :: linesS n as) b c) = .ok (.str (TT n as)) (F4 (netO n as) ((sNet ++ numS n) :: linesS n as) b c) :=
    m1_ok (by rfl) (y := .var 1) (by rfl) (b := .lst (((sNet ++ numS n) :: linesS n as).map D.str)) (by rfl) (join_run _ _ (Nat.le_trans (all_sum h) (by decide)))
  rw [ret_seq (ret_ok r1 rfl)]
  exact ends_ok.mpr rfl
end Lk11
namespace Lk11
open PySem KS
theorem all_true (ds : List D) (h : ∀ d ∈ ds, d = .bl true) : allF (.lst ds) = some (.bl true) := by
  have : ∃ k, blsOf ds = some k ∧ k.all id = true := by
    induction ds with
    | nil => exact ⟨[], rfl, rfl⟩
    | cons d ds ih =>
      obtain ⟨k, h1, h2⟩ := ih fun x hx => h x (List.mem_cons_of_mem _ hx)
      rw [h d (List.mem_cons_self ..)]
      exact ⟨true :: k, by rw [blsOf, h1]; rfl, by simpa using h2⟩
  obtain ⟨k, h1, h2⟩ := this
  unfold allF
  dsimp only
  rw [h1, Option.map_some, h2]
theorem zip_tail {R : Int → Int → Prop} : ∀ {l : List Int}, l.Pairwise R → ∀ p ∈ l.zip (l.drop 1), R p.1 p.2
  | [], _, p, h => by cases h
  | [x], _, p, h => by simp at h
  | x :: y :: r, hp, p, h => by
    rw [List.pairwise_cons] at hp
    rw [List.drop_succ_cons, List.drop_zero, List.zip_cons_cons, List.mem_cons] at h
    rcases h with rfl | h
    · exact hp.1 _ (List.mem_cons_self ..)
    · exact zip_tail hp.2 p h
theorem cut_tail {α : Type} (xs : List α) : cutD xs (some 1) none = xs.drop 1 := by
  have h1 : HT.sIx xs.length 0 (some ((1 : Nat) : Int)) = min 1 xs.length := HT.sIx_nat _ _ _
  have h2 : HT.sIx xs.length xs.length none = xs.length := rfl
  unfold cutD
  rw [show (some (1 : Int)) = some ((1 : Nat) : Int) from rfl, h1, h2]
  cases xs with
  | nil => rfl
  | cons x r =>
    have : min 1 (x :: r).length = 1 := by rw [List.length_cons]; omega
    rw [this, List.take_of_length_le]
    rw [List.length_drop]
    omega
theorem kn_spec {n : Int} {as : List PP} (h : VN n as) (i : Int) : (∀ x ∈ kn as i, (0 ≤ x ∧ x < n) ∧ x ≠ i) ∧ (kn as i).Pairwise (· < ·) := by
  unfold kn
  constructor
  · intro x hx
    obtain ⟨p, hp, rfl⟩ := List.mem_map.mp hx
    obtain ⟨h1, h2⟩ := List.mem_filter.mp hp
    have h3 := h.rng p h1
    have h4 := of_decide_eq_true h2
    exact ⟨h3.2.1, fun e => h3.2.2 (by rw [h4, e])⟩
  · rw [List.pairwise_map]
    refine List.Pairwise.imp_of_mem (fun {a b} ha hb hh => ?_) (h.ord.filter _)
    have h1 := of_decide_eq_true (List.mem_filter.mp ha).2
    have h2 := of_decide_eq_true (List.mem_filter.mp hb).2
    unfold ltP at hh
    omega
theorem num_sig {x : Int} (h : 0 ≤ x ∧ x ≤ 12) : (44 ∉ TL.tl (numS x)) ∧ (10 ∉ TL.tl (numS x)) ∧ numS x ≠ sDash :=
  small h (P := fun x => (44 ∉ TL.tl (numS x)) ∧ (10 ∉ TL.tl (numS x)) ∧ numS x ≠ sDash) (by decide +kernel)
theorem split_line {n : Int} {as : List PP} (h : VN n as) {i : Int} (hk : kn as i ≠ []) : Txt.split (Txt.join sCom ((kn as i).map numS)) sCom = (kn as i).map numS := by
  refine TL.split_join (s := 44) (S := []) (by decide +kernel) (by decide +kernel) (fun e => hk (List.map_eq_nil_iff.mp e)) fun p hp => ?_
  obtain ⟨x, hx, rfl⟩ := List.mem_map.mp hp
  exact (num_sig (kn_rng h i x hx)).1
theorem line_ne {n : Int} {as : List PP} (h : VN n as) {i : Int} (hk : kn as i ≠ []) : Txt.join sCom ((kn as i).map numS) ≠ sDash := by
  intro e
  have h1 := split_line h hk
  rw [e] at h1
  have h2 : Txt.split sDash sCom = [sDash] := by decide +kernel
  rw [h2] at h1
  cases hq : kn as i with
  | nil => exact hk hq
  | cons x r =>
    rw [hq, List.map_cons] at h1
    injection h1 with h3 h4
    exact (num_sig (kn_rng h i x (by rw [hq]; exact List.mem_cons_self ..))).2.2 h3.symm
abbrev F8 (L : Str) (i n : Int) (a b c d e : Option D) : Fr := [some (.str L), some (.int i), some (.int n), a, b, c, d, e]
theorem known_run {n : Int} {as : List PP} (h : VN n as) (i : Int) : ∃ outs, fn_known_of [.str (lineS as i), .int i, .int n] = .ok (.lst ((kn as i).map D.int)) outs ∧ outs.length = 3 := by
  suffices hs : Ends (g_known_of (startF 8 [.str (lineS as i), .int i, .int n])) (fun fl fr => fl = .ret (.lst ((kn as i).map D.int))) by
    obtain ⟨fl, fr, e2, rfl⟩ := hs
    exact ⟨outsOf 3 fr, by unfold fn_known_of runFn; rw [e2], outs_len⟩
  have st : startF 8 [.str (lineS as i), .int i, .int n] = F8 (lineS as i) i n none none none none none := rfl
  rw [st]
  unfold g_known_of
  by_cases hk : kn as i = []
  · have e : lineS as i = sDash := by unfold lineS; rw [if_pos hk]
    rw [e, hk]
    have t : bE (eOp2 eqF (eVar 0) (eC (.str (PySem.Str.ofString "-")))) (F8 sDash i n none none none none none) = .ok true (F8 sDash i n none none none none none) := by
      unfold bE
      rw [op2_ok (F := eqF) (x := .str sDash) (y := .str sDash) (z := .bl true) (by rfl) (by rfl) (by rfl) (by rfl) (by simp [eqF, eqB, scalE]), bind_ok]
    refine seq_ends (if_ends t ?_)
    rw [if_pos rfl]
    have r1 : sRet (eLst aNil) (F8 sDash i n none none none none none) = .ok (.ret (.lst [])) (F8 sDash i n none none none none none) := rfl
    rw [ret_seq r1]
    exact ends_ok.mpr rfl
  have e : lineS as i = Txt.join sCom ((kn as i).map numS) := by unfold lineS; rw [if_neg hk]
  have hne := line_ne h hk
  have hsp := split_line h hk
  have hln := line_len h i
  rw [e] at hln ⊢
  generalize Txt.join sCom ((kn as i).map numS) = L at hne hsp hln ⊢
  obtain ⟨hr, ho⟩ := kn_spec h i
  have hr12 := kn_rng h i
  have hl9 := kn_len h i
  generalize kn as i = ks at hr ho hr12 hl9 hsp
  have t : bE (eOp2 eqF (eVar 0) (eC (.str (PySem.Str.ofString "-")))) (F8 L i n none none none none none) = .ok false (F8 L i n none none none none none) := by
    unfold bE
    rw [op2_ok (F := eqF) (x := .str L) (y := .str sDash) (z := .bl false) (by rfl) (by rfl) (by rfl) (by rfl) (by simp [eqF, eqB, scalE, hne]), bind_ok]
  refine seq_ends (if_ends t ?_)
  rw [if_neg (by simp)]
  refine ends_ok.mpr ?_
  dsimp only
  have q1 : eM1 splF (eVar 0) (eC (.str (PySem.Str.ofString ","))) (F8 L i n none none none none none) = .ok (.lst ((ks.map numS).map D.str)) (F8 L i n none none none none none) :=
    m1_ok (b := .str sCom) (by rfl) (by rfl) (by rfl) (by
      unfold splF
      dsimp only
      rw [if_pos (⟨by decide +kernel, by have : sizeLine = 16777216 := rfl
                                         omega⟩), hsp])
  have q2 : eComp [4] (iVal (eM1 splF (eVar 0) (eC (.str (PySem.Str.ofString ","))))) (tgN 4) bYes (eCall [false] fn_number_of (aCons (eVar 4) aNil)) (F8 L i n none none none none none) = .ok (.lst (ks.map D.int)) (F8 L i n none none none none none) := by
    have z := comp_ok (vs := [4]) (t := tgN 4) (c := bYes) (e := eCall [false] fn_number_of (aCons (eVar 4) aNil)) (F8 L i n none none none none none) (fun v => F8 L i n none (some v) none none none) (fun _ => true)
      (fun v => match fn_number_of [v] with | .ok d _ => d | _ => .non) (val_lst q1) (by rw [List.length_map, List.length_map]; omega) (by rfl) (fun _ _ => rfl) (fun _ _ => rfl)
      (fun v hv _ => by
        obtain ⟨s, hs, rfl⟩ := List.mem_map.mp hv
        obtain ⟨x, hx, rfl⟩ := List.mem_map.mp hs
        have hn := number_run (hr12 x hx)
        rw [hn]
        exact ⟨call_val (ds := [.str (numS x)]) (by rfl) (by rfl) (by rfl) hn (by rfl) (by rfl), rfl⟩) (fun _ => rfl) (by rfl) (fun _ => rfl)
    rw [z, List.filter_eq_self.mpr (fun _ _ => rfl), List.map_map, List.map_map]
    congr 2
    refine List.map_congr_left fun x hx => ?_
    simp only [Function.comp]
    rw [number_run (hr12 x hx)]
  refine nx_seq (fr1 := F8 L i n (some (.lst (ks.map D.int))) none none none none) (set_ok q2 (by rfl)) ?_
  have q3 : eComp [5] (iVal (eVar 3)) (tgN 5) bYes (eAnd (eChain leA ltF (eC (.int 0)) (eVar 5) (eVar 2)) (eOp2 neF (eVar 5) (eVar 1))) (F8 L i n (some (.lst (ks.map D.int))) none none none none) = .ok (.lst (((ks.map D.int).filter fun _ => true).map fun _ => .bl true)) (F8 L i n (some (.lst (ks.map D.int))) none none none none) :=
    comp_ok (F8 L i n (some (.lst (ks.map D.int))) none none none none) (fun v => F8 L i n (some (.lst (ks.map D.int))) none (some v) none none) (fun _ => true) (fun _ => .bl true) (val_lst (by rfl)) (by rw [List.length_map]; omega) (by rfl) (fun _ _ => rfl) (fun _ _ => rfl)
      (fun v hv _ => by
        obtain ⟨x, hx, rfl⟩ := List.mem_map.mp hv
        obtain ⟨⟨h1, h2⟩, h3⟩ := hr x hx
        have c1 : eChain leA ltF (eC (.int 0)) (eVar 5) (eVar 2) (F8 L i n (some (.lst (ks.map D.int))) none (some (.int x)) none none) = .ok (.bl true) (F8 L i n (some (.lst (ks.map D.int))) none (some (.int x)) none none) := by
          simp [startF, outsOf, sSeq, sIf, sRet, sRetN, sSet, sSetF, sX, sNx, sBrk, sCnt, bE, bAnd, bOr, bNot, bTru, truB, eAnd, eOr, eNot, eIf, eChain, eOp2, eOp1, eC, eVar, ePl, eFz, aNil, aCons, eTup, eLst, eCall, argC, ioV, ioP, setP, eMut, isLstD, isDctD, pick, look, pers, isCell, ofO, lenF, eqF, neF, eqB, scalE, intF, absF, addF, subF, mulF, fdivF, modF, powF, negF, ltF, leF, gtF, geF, leA, orF, isNF, notNF, isNon, appM, extM, popM, revM, ixF, eSl, eSlF, slF, slFL, cutD, oNone, oSome, sRetV, sRetF, min2F, max2F, tupF, lstF, strF, isiF, isiTF, tyI, isT, isAny, h1, h2]
        have c2 : eOp2 neF (eVar 5) (eVar 1) (F8 L i n (some (.lst (ks.map D.int))) none (some (.int x)) none none) = .ok (.bl true) (F8 L i n (some (.lst (ks.map D.int))) none (some (.int x)) none none) :=
          op2i (i := x) (j := i) (by rfl) (by rfl) (by simp [neF, eqB, scalE, h3])
        refine ⟨?_, rfl⟩
        unfold eAnd
        rw [c1, bind_ok]
        exact c2) (fun _ => rfl) (by rfl) (fun _ => rfl)
  have q4 : bNot (bE (eOp1 allF (eComp [5] (iVal (eVar 3)) (tgN 5) bYes (eAnd (eChain leA ltF (eC (.int 0)) (eVar 5) (eVar 2)) (eOp2 neF (eVar 5) (eVar 1)))))) (F8 L i n (some (.lst (ks.map D.int))) none none none none) = .ok false (F8 L i n (some (.lst (ks.map D.int))) none none none none) := by
    unfold bNot bE
    rw [op1_ok q3 (by rfl) (all_true _ fun d hd => by obtain ⟨_, _, rfl⟩ := List.mem_map.mp hd; rfl), bind_ok, bind_ok]
    rfl
  refine seq_ends (if_ends q4 ?_)
  rw [if_neg (by simp)]
  refine ends_ok.mpr ?_
  dsimp only
  have q5 : eSlF (eVar 3) (oSome (eC (.int 1))) oNone (F8 L i n (some (.lst (ks.map D.int))) none none none none) = .ok (.lst ((ks.drop 1).map D.int)) (F8 L i n (some (.lst (ks.map D.int))) none none none none) := by
    have : eSlF (eVar 3) (oSome (eC (.int 1))) oNone (F8 L i n (some (.lst (ks.map D.int))) none none none none) = .ok (.lst (cutD (ks.map D.int) (some 1) none)) (F8 L i n (some (.lst (ks.map D.int))) none none none none) := rfl
    rw [this, cut_tail, List.map_drop]
  have q6 : iZp (eVar 3) (eSlF (eVar 3) (oSome (eC (.int 1))) oNone) (F8 L i n (some (.lst (ks.map D.int))) none none none none) = .ok ((ks.zip (ks.drop 1)).map fun p => .tup [.int p.1, .int p.2]) (F8 L i n (some (.lst (ks.map D.int))) none none none none) := by
    have v3 : eVar 3 (F8 L i n (some (.lst (ks.map D.int))) none none none none) = .ok (.lst (ks.map D.int)) (F8 L i n (some (.lst (ks.map D.int))) none none none none) := rfl
    unfold iZp
    rw [v3, bind_ok, if_pos (show pers (D.lst (ks.map D.int)) = true from rfl), q5, bind_ok, if_pos (show pers (D.lst ((ks.drop 1).map D.int)) = true from rfl)]
    dsimp only
    unfold zipD
    rw [List.zip_map, List.map_map]
    rfl
  have q7 : eComp [6, 7] (iZp (eVar 3) (eSlF (eVar 3) (oSome (eC (.int 1))) oNone)) (tgT [6, 7]) bYes (eOp2 ltF (eVar 6) (eVar 7)) (F8 L i n (some (.lst (ks.map D.int))) none none none none) = .ok (.lst ((((ks.zip (ks.drop 1)).map fun p => D.tup [.int p.1, .int p.2]).filter fun _ => true).map fun _ => .bl true)) (F8 L i n (some (.lst (ks.map D.int))) none none none none) :=
    comp_ok (F8 L i n (some (.lst (ks.map D.int))) none none none none) (fun v => F8 L i n (some (.lst (ks.map D.int))) none none (some (fstD v)) (some (sndD v))) (fun _ => true) (fun _ => .bl true) q6 (by rw [List.length_map, List.length_zip]; omega) (by rfl)
      (fun v hv => by obtain ⟨p, _, rfl⟩ := List.mem_map.mp hv; rfl) (fun _ _ => rfl)
      (fun v hv _ => by
        obtain ⟨p, hp, rfl⟩ := List.mem_map.mp hv
        have := zip_tail ho p hp
        exact ⟨op2i (i := p.1) (j := p.2) (by rfl) (by rfl) (by simp [ltF, this]), rfl⟩) (fun _ => rfl) (by rfl) (fun _ => rfl)
  have q8 : bNot (bE (eOp1 allF (eComp [6, 7] (iZp (eVar 3) (eSlF (eVar 3) (oSome (eC (.int 1))) oNone)) (tgT [6, 7]) bYes (eOp2 ltF (eVar 6) (eVar 7))))) (F8 L i n (some (.lst (ks.map D.int))) none none none none) = .ok false (F8 L i n (some (.lst (ks.map D.int))) none none none none) := by
    unfold bNot bE
    rw [op1_ok q7 (by rfl) (all_true _ fun d hd => by obtain ⟨_, _, rfl⟩ := List.mem_map.mp hd; rfl), bind_ok, bind_ok]
    rfl
  refine seq_ends (if_ends q8 ?_)
  rw [if_neg (by simp)]
  refine ends_ok.mpr ?_
  dsimp only
  rw [ret_seq (ret_ok (fr1 := F8 L i n (some (.lst (ks.map D.int))) none none none none) (d := .lst (ks.map D.int)) (by rfl) (by rfl))]
  exact ends_ok.mpr rfl
end Lk11
namespace Lk11
open PySem KS
/-! the arcs, person by person -/
def lowP (as : List PP) (k : Int) : List PP := as.filter fun p => decide (p.1 < k)
theorem low_succ (k : Int) : ∀ {as : List PP}, as.Pairwise ltP → lowP as (k + 1) = lowP as k ++ as.filter fun p => decide (p.1 = k)
  | [], _ => rfl
  | a :: r, h => by
    rw [List.pairwise_cons] at h
    have ih := low_succ k h.2
    unfold lowP at ih ⊢
    rcases Int.lt_trichotomy a.1 k with h1 | h1 | h1
    · rw [List.filter_cons_of_pos (by simp; omega), List.filter_cons_of_pos (by simp; omega), List.filter_cons_of_neg (by simp; omega), ih]
      rfl
    · have e : (r.filter fun p => decide (p.1 < k)) = [] := by
        rw [List.filter_eq_nil_iff]
        intro p hp
        have := h.1 p hp
        unfold ltP at this
        simp
        omega
      rw [List.filter_cons_of_pos (by simp; omega), List.filter_cons_of_neg (by simp; omega), List.filter_cons_of_pos (by simp; omega), ih, e]
      rfl
    · rw [List.filter_cons_of_neg (by simp; omega), List.filter_cons_of_neg (by simp; omega), List.filter_cons_of_neg (by simp; omega), ih]
theorem kn_back (as : List PP) (k : Int) : (kn as k).map (fun x => (k, x)) = as.filter fun p => decide (p.1 = k) := by
  unfold kn
  rw [List.map_map]
  refine (List.map_congr_left fun p hp => ?_).trans (List.map_id _)
  have := of_decide_eq_true (List.mem_filter.mp hp).2
  show (k, p.2) = p
  rw [← this]
theorem low_zero {n : Int} {as : List PP} (h : VN n as) : lowP as (0 + ((0 : Nat) : Int)) = [] := by
  unfold lowP
  rw [List.filter_eq_nil_iff]
  intro p hp
  have := h.rng p hp
  simp
  omega
theorem low_all {n : Int} {as : List PP} (h : VN n as) : lowP as (0 + ((n.toNat : Nat) : Int)) = as := by
  unfold lowP
  rw [List.filter_eq_self]
  intro p hp
  have := h.rng p hp
  have := h.lo
  simp
  omega
/-! the lines, read back -/
theorem join_not {s : Nat} {y : Str} (hy : s ∉ TL.tl y) : ∀ {ps : List Str}, (∀ p ∈ ps, s ∉ TL.tl p) → s ∉ TL.tl (Str.join y ps)
  | [], _ => by intro h; cases h
  | [x], h => h x (List.mem_singleton.mpr rfl)
  | x :: z :: r, h => by
    show s ∉ TL.tl (x ++ y ++ Str.join y (z :: r))
    rw [TL.tl_append, TL.tl_append, List.mem_append, List.mem_append]
    rintro ((k | k) | k)
    · exact h x (List.mem_cons_self ..) k
    · exact hy k
    · exact join_not hy (fun p hp => h p (List.mem_cons_of_mem _ hp)) k
theorem line_sig {n : Int} {as : List PP} (h : VN n as) (i : Int) : 10 ∉ TL.tl (lineS as i) := by
  unfold lineS
  split
  · decide +kernel
  · rw [TL.join_eq]
    refine join_not (by decide +kernel) fun p hp => ?_
    obtain ⟨x, hx, rfl⟩ := List.mem_map.mp hp
    exact (num_sig (kn_rng h i x hx)).2.1
theorem head_sig {x : Int} (h : 0 ≤ x ∧ x ≤ 12) : 10 ∉ TL.tl (sNet ++ numS x) := small h (P := fun x => 10 ∉ TL.tl (sNet ++ numS x)) (by decide +kernel)
theorem split_text {n : Int} {as : List PP} (h : VN n as) : Txt.split (TT n as) sNl = (sNet ++ numS n) :: linesS n as := by
  have hlo := h.lo
  have hhi := h.hi
  unfold TT
  refine TL.split_join (s := 10) (S := []) (by decide +kernel) (by decide +kernel) (by simp) fun p hp => ?_
  rcases List.mem_cons.mp hp with rfl | hp
  · exact head_sig ⟨by omega, hhi⟩
  · unfold linesS at hp
    obtain ⟨k, _, rfl⟩ := List.mem_map.mp hp
    exact line_sig h _
theorem text_len {n : Int} {as : List PP} (h : VN n as) : (TT n as).length ≤ 400000 := by
  unfold TT
  rw [TL.join_eq]
  exact Nat.le_trans (join_len _ _) (all_sum h)
theorem lines_len (n : Int) (as : List PP) : (linesS n as).length = n.toNat := by unfold linesS; rw [List.length_map, List.length_range]
theorem lines_at {n : Int} {as : List PP} {k : Nat} (h : k < n.toNat) : (linesS n as)[k]? = some (lineS as (0 + (k : Nat))) := by
  unfold linesS
  rw [List.getElem?_map, List.getElem?_range h]
  rfl
abbrev R9 (T : Str) (ls : List Str) (n z : Int) (as : List PP) (a b c d : Option D) : Fr := [some (.str T), some (.lst (ls.map D.str)), some (.int n), some (.int z), some (.lst (as.map dPP)), a, b, c, d]
theorem len_str {fr : Fr} {f : Ev} {s : Str} (h : f fr = .ok (.str s) fr) (hs : s.length ≤ 30000) : ∃ L : Int, 0 ≤ L ∧ eOp1 lenF f fr = .ok (.int L) fr := by
  obtain ⟨L, hL⟩ : ∃ L : Int, (s.length : Int) = L := ⟨_, rfl⟩
  exact ⟨L, by omega, op1_ok (a := .str s) h (by rfl) (by
    unfold lenF
    dsimp only
    rw [if_pos (show s.length ≤ sizeLine from Nat.le_trans hs (by decide)), hL])⟩
theorem one_ok {e : Ev} {fr fr1 : Fr} {d : D} (h : e fr = .ok d fr1) : aCons e aNil fr = .ok [d] fr1 := by
  unfold aCons
  rw [h, bind_ok]
  rfl
theorem ix_lst0 {ds : List D} {d : D} (h : ds[0]? = some d) : ixF (.lst ds) (.int 0) = some d := by
  show L2.atI ds ((0 : Nat) : Int) = some d
  exact L2.atI_nat h
theorem read_step {n : Int} {as : List PP} (h : VN n as) (T : Str) (ls : List Str) (z : Int) (k : Nat) (hk : k < n.toNat) (c d : Option D) :
    Ends ((sSeq (sSet 7 (eIf (bE (eOp2 ltF (eVar 5) (eVar 2))) (eCall [false, false, false] fn_known_of (aCons (eVar 6) (aCons (eVar 5) (aCons (eVar 2) aNil)))) (eC .non)))
  (sSeq (sIf (bE (eOp2 isNF (eVar 7) (eC .non)))
  (sSeq (sRaise 1 2 (aCons (eVar 0) (aCons (eVar 3) aNil)))
  sNx)
  sNx)
  (sSeq (sX (eMut 4 isLstD false extM (aCons (eComp [8] (iVal (eVar 7)) (tgN 8) bYes (eTup (aCons (eVar 5) (aCons (eVar 8) aNil)))) aNil)))
  (sSeq (sAug 3 iaddF (eOp2 addF (eOp1 lenF (eVar 6)) (eC (.int 1))))
  sNx)))) (R9 T ls n z (lowP as (0 + (k : Nat))) (some (.int (0 + (k : Nat)))) (some (.str (lineS as (0 + (k : Nat))))) c d)) (Turned (fun fr => ∃ z a b c, fr = R9 T ls n z (lowP as (0 + ((k + 1 : Nat) : Nat))) a b c d) (fun _ _ => False)) := by
  obtain ⟨outs, hkn, hol⟩ := known_run h (0 + (k : Nat))
  have hlow := low_succ (0 + (k : Nat)) h.ord
  have hback := kn_back as (0 + (k : Nat))
  have hl9 := kn_len h (0 + (k : Nat))
  have htot : (lowP as (0 + (k : Nat) + 1)).length ≤ 9000 := Nat.le_trans (List.length_filter_le _ _) h.len
  have hkk : (0 + (k : Nat) : Int) < n := by omega
  rw [show (0 + ((k + 1 : Nat) : Int)) = 0 + (k : Nat) + 1 by omega]
  rw [hlow] at htot ⊢
  rw [← hback] at htot ⊢
  rw [List.length_append, List.length_map] at htot
  generalize lowP as (0 + (k : Nat)) = lo at htot
  generalize (0 + (k : Nat) : Int) = i at hkn hl9 hkk htot
  have hLn := line_len h i
  generalize lineS as i = L at hkn hLn
  generalize kn as i = ks at hkn hl9 htot
  have c1 : eCall [false, false, false] fn_known_of (aCons (eVar 6) (aCons (eVar 5) (aCons (eVar 2) aNil))) (R9 T ls n z lo (some (.int i)) (some (.str L)) c d) = .ok (.lst (ks.map D.int)) (R9 T ls n z lo (some (.int i)) (some (.str L)) c d) :=
    call_val (ds := [.str L, .int i, .int n]) (by rfl) (by rfl) (by rfl) hkn hol (by
      match outs, hol with
      | [_, _, _], _ => rfl)
  have t1 : bE (eOp2 ltF (eVar 5) (eVar 2)) (R9 T ls n z lo (some (.int i)) (some (.str L)) c d) = .ok true (R9 T ls n z lo (some (.int i)) (some (.str L)) c d) := by
    unfold bE
    rw [op2i (F := ltF) (i := i) (j := n) (z := .bl (decide (i < n))) (by rfl) (by rfl) (by rfl), bind_ok, decide_eq_true hkk]
  have c2 : eIf (bE (eOp2 ltF (eVar 5) (eVar 2))) (eCall [false, false, false] fn_known_of (aCons (eVar 6) (aCons (eVar 5) (aCons (eVar 2) aNil)))) (eC .non) (R9 T ls n z lo (some (.int i)) (some (.str L)) c d) = .ok (.lst (ks.map D.int)) (R9 T ls n z lo (some (.int i)) (some (.str L)) c d) := by
    unfold eIf
    rw [t1, bind_ok, if_pos rfl, c1]
  refine nx_seq (fr1 := R9 T ls n z lo (some (.int i)) (some (.str L)) (some (.lst (ks.map D.int))) d) (set_ok c2 (by rfl)) ?_
  have s2 : sIf (bE (eOp2 isNF (eVar 7) (eC .non))) (sSeq (sRaise 1 2 (aCons (eVar 0) (aCons (eVar 3) aNil))) sNx) sNx (R9 T ls n z lo (some (.int i)) (some (.str L)) (some (.lst (ks.map D.int))) d) = .ok .nx (R9 T ls n z lo (some (.int i)) (some (.str L)) (some (.lst (ks.map D.int))) d) := rfl
  refine nx_seq s2 ?_
  have q := comp_ok (vs := [8]) (h := iVal (eVar 7)) (t := tgN 8) (c := bYes) (e := eTup (aCons (eVar 5) (aCons (eVar 8) aNil))) (fr0 := R9 T ls n z lo (some (.int i)) (some (.str L)) (some (.lst (ks.map D.int))) d) (R9 T ls n z lo (some (.int i)) (some (.str L)) (some (.lst (ks.map D.int))) none)
    (fun v => R9 T ls n z lo (some (.int i)) (some (.str L)) (some (.lst (ks.map D.int))) (some v)) (fun _ => true) (fun v => .tup [.int i, v]) (fr := R9 T ls n z lo (some (.int i)) (some (.str L)) (some (.lst (ks.map D.int))) d) (ds := ks.map D.int) (by rfl) (by rw [List.length_map]; omega) (by rfl) (fun _ _ => rfl) (fun _ _ => rfl)
    (fun v hv _ => by
      obtain ⟨x, hx, rfl⟩ := List.mem_map.mp hv
      exact ⟨by rfl, by rfl⟩) (fun _ => rfl) (by rfl) (fun _ => rfl)
  rw [List.filter_eq_self.mpr (fun _ _ => rfl), List.map_map] at q
  have q' : (ks.map ((fun v => D.tup [.int i, v]) ∘ D.int)) = (ks.map fun x => (i, x)).map dPP := by rw [List.map_map]; rfl
  rw [q'] at q
  have s3 : sX (eMut 4 isLstD false extM (aCons (eComp [8] (iVal (eVar 7)) (tgN 8) bYes (eTup (aCons (eVar 5) (aCons (eVar 8) aNil)))) aNil)) (R9 T ls n z lo (some (.int i)) (some (.str L)) (some (.lst (ks.map D.int))) d) = .ok .nx (R9 T ls n z (lo ++ ks.map fun x => (i, x)) (some (.int i)) (some (.str L)) (some (.lst (ks.map D.int))) d) := by
    have ha : aCons (eComp [8] (iVal (eVar 7)) (tgN 8) bYes (eTup (aCons (eVar 5) (aCons (eVar 8) aNil)))) aNil (R9 T ls n z lo (some (.int i)) (some (.str L)) (some (.lst (ks.map D.int))) d) = .ok [.lst ((ks.map fun x => (i, x)).map dPP)] (R9 T ls n z lo (some (.int i)) (some (.str L)) (some (.lst (ks.map D.int))) d) := by
      exact one_ok q
    have hE : extM (.lst (lo.map dPP)) [.lst ((ks.map fun x => (i, x)).map dPP)] = some (.non, .lst ((lo ++ ks.map fun x => (i, x)).map dPP)) := by
      unfold extM
      dsimp only
      rw [if_pos, List.map_append]
      rw [List.length_map, List.length_map, List.length_map]
      have : sizeLine = 16777216 := rfl
      omega
    have hM : eMut 4 isLstD false extM (aCons (eComp [8] (iVal (eVar 7)) (tgN 8) bYes (eTup (aCons (eVar 5) (aCons (eVar 8) aNil)))) aNil) (R9 T ls n z lo (some (.int i)) (some (.str L)) (some (.lst (ks.map D.int))) d) = .ok .non (R9 T ls n z (lo ++ ks.map fun x => (i, x)) (some (.int i)) (some (.str L)) (some (.lst (ks.map D.int))) d) := by
      unfold eMut
      have g4 : (R9 T ls n z lo (some (.int i)) (some (.str L)) (some (.lst (ks.map D.int))) d)[4]? = some (some (.lst (lo.map dPP))) := rfl
      rw [g4]
      dsimp only
      rw [if_pos (show isLstD (.lst (lo.map dPP)) = true from rfl), ha, bind_ok, g4]
      dsimp only
      rw [if_pos (show isCell (.lst (lo.map dPP)) = true from rfl), if_pos (fun e => absurd e (by simp))]
      have hpk : pick (R9 T ls n z lo (some (.int i)) (some (.str L)) (some (.lst (ks.map D.int))) d) [.lst ((ks.map fun x => (i, x)).map dPP)] = some [.lst ((ks.map fun x => (i, x)).map dPP)] := rfl
      rw [hpk]
      dsimp only
      rw [hE]
      rfl
    unfold sX
    rw [hM, bind_ok]
  refine nx_seq s3 ?_
  obtain ⟨m, _, hm⟩ := len_str (fr := R9 T ls n z (lo ++ ks.map fun x => (i, x)) (some (.int i)) (some (.str L)) (some (.lst (ks.map D.int))) d) (f := eVar 6) (s := L) rfl hLn
  have s4 : sAug 3 iaddF (eOp2 addF (eOp1 lenF (eVar 6)) (eC (.int 1))) (R9 T ls n z (lo ++ ks.map fun x => (i, x)) (some (.int i)) (some (.str L)) (some (.lst (ks.map D.int))) d) = .ok .nx (R9 T ls n (z + (m + 1)) (lo ++ ks.map fun x => (i, x)) (some (.int i)) (some (.str L)) (some (.lst (ks.map D.int))) d) := by
    unfold sAug
    have g3 : (R9 T ls n z (lo ++ ks.map fun x => (i, x)) (some (.int i)) (some (.str L)) (some (.lst (ks.map D.int))) d)[3]? = some (some (.int z)) := rfl
    rw [g3]
    dsimp only
    rw [if_pos (show pers (.int z) = true from rfl), op2i (F := addF) (i := m) (j := 1) (z := .int (m + 1)) hm (by rfl) (by rfl), bind_ok]
    rfl
  exact nx_seq s4 (ends_ok.mpr ⟨_, _, _, _, rfl⟩)
theorem read_run {n : Int} {as : List PP} (h : VN n as) : ∃ outs, fn_read_net [.str (TT n as)] = .ok (netO n as) outs ∧ outs.length = 1 := by
  have hlo := h.lo
  have hhi := h.hi
  suffices hs : Ends (g_read_net (startF 9 [.str (TT n as)])) (fun fl fr => fl = .ret (netO n as)) by
    obtain ⟨fl, fr, e2, rfl⟩ := hs
    exact ⟨outsOf 1 fr, by unfold fn_read_net runFn; rw [e2], outs_len⟩
  unfold g_read_net
  have st : startF 9 [.str (TT n as)] = [some (.str (TT n as)), none, none, none, none, none, none, none, none] := rfl
  rw [st]
  have hsp := split_text h
  have htl := text_len h
  generalize TT n as = T at hsp htl
  have q1 : eM1 splF (eVar 0) (eC (.str (PySem.Str.ofString "\n"))) [some (.str T), none, none, none, none, none, none, none, none] = .ok (.lst (((sNet ++ numS n) :: linesS n as).map D.str)) [some (.str T), none, none, none, none, none, none, none, none] :=
    m1_ok (b := .str sNl) (by rfl) (by rfl) (by rfl) (by
      unfold splF
      dsimp only
      rw [if_pos (⟨by decide +kernel, by have : sizeLine = 16777216 := rfl
                                         omega⟩), hsp])
  have hll := lines_len n as
  have hla : ∀ k : Nat, k < n.toNat → (linesS n as)[k]? = some (lineS as (0 + (k : Nat))) := fun k => lines_at
  generalize linesS n as = ls at q1 hll hla
  obtain ⟨H, hH⟩ : ∃ H, sNet ++ numS n = H := ⟨_, rfl⟩
  have hsz := size_run (x := n) ⟨hlo, hhi⟩
  have hHl := head_len (n := n) ⟨by omega, hhi⟩
  rw [hH] at q1 hsz hHl
  refine nx_seq (fr1 := [some (.str T), some (.lst ((H :: ls).map D.str)), none, none, none, none, none, none, none]) (set_ok q1 (by rfl)) ?_
  have i0 : ∀ (a b c d e f g : Option D), eOp2 ixF (eVar 1) (eC (.int 0)) [some (.str T), some (.lst ((H :: ls).map D.str)), a, b, c, d, e, f, g] = .ok (.str H) [some (.str T), some (.lst ((H :: ls).map D.str)), a, b, c, d, e, f, g] := fun a b c d e f g =>
    op2_ok (x := .lst ((H :: ls).map D.str)) (y := .int 0) (by rfl) (by rfl) (by rfl) (by rfl) (ix_lst0 rfl)
  have c1 : eCall [false] fn_size_of (aCons (eOp2 ixF (eVar 1) (eC (.int 0))) aNil) [some (.str T), some (.lst ((H :: ls).map D.str)), none, none, none, none, none, none, none] = .ok (.int n) [some (.str T), some (.lst ((H :: ls).map D.str)), none, none, none, none, none, none, none] :=
    call_val (ds := [.str H]) (one_ok (i0 _ _ _ _ _ _ _)) (by rfl) (by rfl) hsz (by rfl) (by rfl)
  refine nx_seq (fr1 := [some (.str T), some (.lst ((H :: ls).map D.str)), some (.int n), none, none, none, none, none, none]) (set_ok c1 (by rfl)) ?_
  have t1 : bE (eOp2 eqF (eVar 2) (eC (.int 0))) [some (.str T), some (.lst ((H :: ls).map D.str)), some (.int n), none, none, none, none, none, none] = .ok false [some (.str T), some (.lst ((H :: ls).map D.str)), some (.int n), none, none, none, none, none, none] := by
    unfold bE
    rw [op2i (F := eqF) (i := n) (j := 0) (z := .bl false) (by rfl) (by rfl) (by simp [eqF, eqB, scalE]; omega), bind_ok]
  refine seq_ends (if_ends t1 ?_)
  rw [if_neg (by simp)]
  refine ends_ok.mpr ?_
  dsimp only
  obtain ⟨m, _, hm⟩ := len_str (i0 (some (.int n)) none none none none none none) (Nat.le_trans hHl (by decide))
  refine nx_seq (fr1 := [some (.str T), some (.lst ((H :: ls).map D.str)), some (.int n), some (.int (m + 1)), none, none, none, none, none]) (set_ok (op2i (i := m) (j := 1) hm (by rfl) (by rfl)) (by rfl)) ?_
  refine nx_seq (fr1 := R9 T (H :: ls) n (m + 1) [] none none none none) (by rfl) ?_
  have g1 : iEn (eSl (eVar 1) (oSome (eC (.int 1))) oNone) (R9 T (H :: ls) n (m + 1) [] none none none none) = .ok (iotaD (ls.map D.str)) (R9 T (H :: ls) n (m + 1) [] none none none none) := by
    have : eSl (eVar 1) (oSome (eC (.int 1))) oNone (R9 T (H :: ls) n (m + 1) [] none none none none) = .ok (.lst (cutD ((H :: ls).map D.str) (some 1) none)) (R9 T (H :: ls) n (m + 1) [] none none none none) := rfl
    unfold iEn
    rw [this, cut_tail, bind_ok]
    rfl
  refine seq_ends (for_ends g1 ?_)
  have hil : (iotaD (ls.map D.str)).length = n.toNat := by rw [iota_len, List.length_map, hll]
  refine Ends.imp (loop_ends (I := fun ds fr => ∃ k z a b c, ds = (iotaD (ls.map D.str)).drop k ∧ k ≤ n.toNat ∧ fr = R9 T (H :: ls) n z (lowP as (0 + (k : Nat))) a b c none) (R := fun fl fr => fl = .nx ∧ ∃ z a b c, fr = R9 T (H :: ls) n z as a b c none) ?_ ?_ _ _ ⟨0, m + 1, none, none, none, rfl, Nat.zero_le _, by rw [low_zero h]⟩) ?_
  · rintro dd ds fr ⟨k, z, a, b, c, hds, hk, rfl⟩
    have hk' : k < n.toNat := by
      rcases Nat.lt_or_ge k n.toNat with z | z
      · exact z
      · rw [List.drop_eq_nil_of_le (by rw [hil]; exact z)] at hds
        cases hds
    have hg : (iotaD (ls.map D.str))[k]? = some (.tup [.int (k : Nat), .str (lineS as (0 + (k : Nat)))]) := iota_get (by rw [List.getElem?_map, hla k hk']; rfl)
    obtain ⟨hl, e⟩ := List.getElem?_eq_some_iff.mp hg
    rw [List.drop_eq_getElem_cons hl, e] at hds
    injection hds with h1 h2
    subst h1
    refine ⟨R9 T (H :: ls) n z (lowP as (0 + (k : Nat))) (some (.int (k : Nat))) (some (.str (lineS as (0 + (k : Nat))))) c none, rfl, ?_⟩
    have hst := read_step h T (H :: ls) z k hk' c none
    rw [show (some (D.int (0 + (k : Nat)))) = some (D.int (k : Nat)) by rw [Int.zero_add]] at hst
    refine Ends.imp hst fun fl fr hh => ?_
    have nxt : ∀ fr, (∃ z a b c, fr = R9 T (H :: ls) n z (lowP as (0 + ((k + 1 : Nat) : Nat))) a b c none) → ∃ k z a b c, ds = (iotaD (ls.map D.str)).drop k ∧ k ≤ n.toNat ∧ fr = R9 T (H :: ls) n z (lowP as (0 + (k : Nat))) a b c none := by
      rintro fr ⟨z, a, b, c, rfl⟩
      exact ⟨k + 1, z, a, b, c, h2, hk', rfl⟩
    cases fl with
    | nx => exact nxt fr hh
    | cnt => exact nxt fr hh
    | brk => exact hh.elim
    | ret v => exact hh.elim
  · rintro fr ⟨k, z, a, b, c, hds, hk, rfl⟩
    have : k = n.toNat := by
      rcases Nat.lt_or_ge k n.toNat with z | z
      · have := congrArg List.length hds
        rw [List.length_drop, hil] at this
        simp at this
        omega
      · omega
    subst this
    exact ⟨rfl, z, a, b, c, by rw [low_all h]⟩
  rintro fl fr ⟨rfl, z, a, b, c, rfl⟩
  dsimp only
  have t2 : bE (eOp2 leA (eOp1 lenF (eVar 1)) (eVar 2)) (R9 T (H :: ls) n z as a b c none) = .ok false (R9 T (H :: ls) n z as a b c none) := by
    obtain ⟨N, hN⟩ : ∃ N : Int, (((H :: ls).length : Nat) : Int) = N := ⟨_, rfl⟩
    have hN' : N = n + 1 := by rw [← hN, List.length_cons, hll]; omega
    have l1 : eOp1 lenF (eVar 1) (R9 T (H :: ls) n z as a b c none) = .ok (.int N) (R9 T (H :: ls) n z as a b c none) := op1_ok (a := .lst ((H :: ls).map D.str)) (by rfl) (by rfl) (by
      unfold lenF
      dsimp only
      rw [List.length_map, hN])
    unfold bE
    rw [op2i (F := leA) (i := N) (j := n) (z := .bl false) l1 (by rfl) (by simp [leA, orF, leF]; omega), bind_ok]
  refine seq_ends (if_ends t2 ?_)
  rw [if_neg (by simp)]
  refine ends_ok.mpr ?_
  dsimp only
  have hi := init n as (.lst (as.map dPP)) (.inr rfl) h
  have m1 : eMake 0 fn_Net_init (aCons (eVar 2) (aCons (eFz 4) aNil)) (R9 T (H :: ls) n z as a b c none) = .ok (netO n as) [some (.str T), some (.lst ((H :: ls).map D.str)), some (.int n), some (.int z), some (.tup [.lst (as.map dPP)]), a, b, c, none] := by
    have hg : aCons (eVar 2) (aCons (eFz 4) aNil) (R9 T (H :: ls) n z as a b c none) = .ok [.int n, .lst (as.map dPP)] [some (.str T), some (.lst ((H :: ls).map D.str)), some (.int n), some (.int z), some (.tup [.lst (as.map dPP)]), a, b, c, none] := rfl
    unfold eMake
    rw [hg, bind_ok, if_pos (by rfl), hi]
  rw [ret_seq (ret_ok m1 (by rfl))]
  exact ends_ok.mpr rfl
end Lk11
namespace Lk11
open PySem KS
theorem vn_sort {n : Int} {ks : List PP} (h : VKs n ks) (hl : ks.length ≤ 9000) (hn : 1 ≤ n ∧ n ≤ 12) : VN n (ks.mergeSort leP) := by
  refine ⟨hn.1, hn.2, fun p hp => h.2 p (List.mem_mergeSort.mp hp), ?_, by rw [List.length_mergeSort]; exact hl⟩
  have h1 : (ks.mergeSort leP).Pairwise fun a b => leP a b = true := List.pairwise_mergeSort (fun a b c h1 h2 => by
    unfold leP at *
    simp only [decide_eq_true_eq] at *
    omega) (fun a b => by
    unfold leP
    simp only [Bool.or_eq_true, decide_eq_true_eq]
    omega) ks
  have h2 : (ks.mergeSort leP).Nodup := (List.mergeSort_perm ks leP).nodup_iff.mpr h.1
  refine (h1.and h2).imp fun {a b} hh => ?_
  obtain ⟨g1, g2⟩ := hh
  unfold leP at g1
  rw [decide_eq_true_eq] at g1
  unfold ltP
  rcases g1 with g | ⟨g, g'⟩
  · exact .inl g
  · refine .inr ⟨g, ?_⟩
    rcases Int.lt_or_eq_of_le g' with z | z
    · exact z
    · exact absurd (Prod.ext g z) g2
theorem vn_cut {n : Int} {as : List PP} (h : VN n as) (k : Nat) : VN n (as.take k ++ as.drop (k + 1)) := by
  have s : (as.take k ++ as.drop (k + 1)).Sublist as := by
    rw [← List.eraseIdx_eq_take_drop_succ]
    exact List.eraseIdx_sublist ..
  exact ⟨h.lo, h.hi, fun p hp => h.rng p (s.subset hp), h.ord.sublist s, Nat.le_trans s.length_le h.len⟩
theorem net_pl {n : Int} {as : List PP} (h : VN n as) : Pl 6 (netD n as) := by
  unfold netD
  refine ⟨show (2 : Nat) ≤ 100000 by decide, fun d hd => ?_⟩
  rcases List.mem_cons.mp hd with rfl | hd
  · trivial
  rw [List.mem_singleton.mp hd]
  refine ⟨by rw [List.length_map]; exact Nat.le_trans h.len (by decide), fun e he => ?_⟩
  obtain ⟨p, _, rfl⟩ := List.mem_map.mp he
  refine ⟨show (2 : Nat) ≤ 100000 by decide, fun d hd => ?_⟩
  rcases List.mem_cons.mp hd with rfl | hd
  · trivial
  rw [List.mem_singleton.mp hd]
  trivial
abbrev T4 (n : Int) (as : List PP) (T : Str) (a b : Option D) : Fr := [some (netD n as), some (.str T), a, b]
theorem call1 {F : Fn} {e : Ev} {fr : Fr} {d r : D} (he : e fr = .ok d fr) (hp : pers d = true) (hF : ∃ outs, F [d] = .ok r outs ∧ outs.length = 1) : eCall [false] F (aCons e aNil) fr = .ok r fr := by
  obtain ⟨outs, h, ho⟩ := hF
  refine call_val (ds := [d]) (one_ok he) (by unfold argC argC; rw [if_pos hp]; rfl) (by cases d <;> first | rfl | cases hp) h ho ?_
  match outs, ho with
  | [_], _ => cases d <;> first | rfl | cases hp
theorem told_run {n : Int} {as : List PP} (h : VN n as) : ∃ outs, fn_law_told [netD n as] = .ok (.bl true) outs ∧ outs.length = 1 := by
  suffices hs : g_law_told (startF 4 [netD n as]) = .ok (.ret (.bl true)) (T4 n as (TT n as) (some (netO n as)) (some (netO n as))) by
    exact ⟨_, run_ok hs, outs_len⟩
  unfold g_law_told
  have st : startF 4 [netD n as] = [some (netD n as), none, none, none] := rfl
  rw [st]
  have c1 : eCall [false] fn_law_text (aCons (eVar 0) aNil) [some (netD n as), none, none, none] = .ok (.str (TT n as)) [some (netD n as), none, none, none] := call1 (by rfl) (by rfl) (text_run h)
  rw [seq_nx (set_ok (i := 1) c1 rfl)]
  have e1 : List.set [some (netD n as), none, none, none] 1 (some (D.str (TT n as))) = T4 n as (TT n as) none none := rfl
  rw [e1]
  have hi := init n as (.tup (as.map dPP)) (.inl rfl) h
  have hr := read_run h
  have hw := write_run h
  have hpl := net_pl h
  obtain ⟨oe, he⟩ := net_eq n as
  generalize TT n as = T at hr hw
  have m1 : eMake 0 fn_Net_init (aCons (eOp2 ixF (eVar 0) (eC (.int 0))) (aCons (eOp2 ixF (eVar 0) (eC (.int 1))) aNil)) (T4 n as T none none) = .ok (netO n as) (T4 n as T none none) := by
    have hg : aCons (eOp2 ixF (eVar 0) (eC (.int 0))) (aCons (eOp2 ixF (eVar 0) (eC (.int 1))) aNil) (T4 n as T none none) = .ok [.int n, .tup (as.map dPP)] (T4 n as T none none) := rfl
    unfold eMake
    rw [hg, bind_ok, if_pos (by rfl), hi]
  rw [seq_nx (set_ok (i := 2) m1 rfl)]
  have e2 : List.set (T4 n as T none none) 2 (some (netO n as)) = T4 n as T (some (netO n as)) none := rfl
  rw [e2]
  have c3 : eCall [false] fn_read_net (aCons (eVar 1) aNil) (T4 n as T (some (netO n as)) none) = .ok (netO n as) (T4 n as T (some (netO n as)) none) := call1 (by rfl) (by rfl) hr
  rw [seq_nx (set_ok (i := 3) c3 rfl)]
  have e3 : List.set (T4 n as T (some (netO n as)) none) 3 (some (netO n as)) = T4 n as T (some (netO n as)) (some (netO n as)) := rfl
  rw [e3]
  have w2 : eCall [false] fn_write_net (aCons (eVar 2) aNil) (T4 n as T (some (netO n as)) (some (netO n as))) = .ok (.str T) (T4 n as T (some (netO n as)) (some (netO n as))) := call1 (by rfl) (by rfl) hw
  have w3 : eCall [false] fn_write_net (aCons (eVar 3) aNil) (T4 n as T (some (netO n as)) (some (netO n as))) = .ok (.str T) (T4 n as T (some (netO n as)) (some (netO n as))) := call1 (by rfl) (by rfl) hw
  have s2 : eCall [false, false] fn_law_same (aCons (eCall [false] fn_write_net (aCons (eVar 2) aNil)) (aCons (eVar 1) aNil)) (T4 n as T (some (netO n as)) (some (netO n as))) = .ok (.bl true) (T4 n as T (some (netO n as)) (some (netO n as))) := same_call (d := .str T) trivial w2 rfl
  have s3 : eCall [false, false] fn_law_same (aCons (eCall [false] fn_write_net (aCons (eVar 3) aNil)) (aCons (eVar 1) aNil)) (T4 n as T (some (netO n as)) (some (netO n as))) = .ok (.bl true) (T4 n as T (some (netO n as)) (some (netO n as))) := same_call (d := .str T) trivial w3 rfl
  have s4 : eCall [false, false] fn_law_same (aCons (eTup (aCons (eAttr [0] 0 (eVar 3)) (aCons (eAttr [0] 1 (eVar 3)) aNil))) (aCons (eVar 0) aNil)) (T4 n as T (some (netO n as)) (some (netO n as))) = .ok (.bl true) (T4 n as T (some (netO n as)) (some (netO n as))) := same_call (d := netD n as) hpl rfl rfl
  have q : eEqO 0 fn_Net_eq (eVar 3) (eVar 2) (T4 n as T (some (netO n as)) (some (netO n as))) = .ok (.bl true) (T4 n as T (some (netO n as)) (some (netO n as))) := by
    have v3 : eVar 3 (T4 n as T (some (netO n as)) (some (netO n as))) = .ok (netO n as) (T4 n as T (some (netO n as)) (some (netO n as))) := rfl
    have v2 : eVar 2 (T4 n as T (some (netO n as)) (some (netO n as))) = .ok (netO n as) (T4 n as T (some (netO n as)) (some (netO n as))) := rfl
    unfold eEqO
    rw [v3, bind_ok, v2, bind_ok, if_pos ⟨rfl, rfl⟩]
    unfold netO
    dsimp only
    unfold netO at he
    rw [if_pos ⟨rfl, rfl⟩, he]
    rfl
  have t : bOr (bNot (bE (eCall [false, false] fn_law_same (aCons (eCall [false] fn_write_net (aCons (eVar 2) aNil)) (aCons (eVar 1) aNil))))) (bNot (bE (eEqO 0 fn_Net_eq (eVar 3) (eVar 2)))) (T4 n as T (some (netO n as)) (some (netO n as))) = .ok false (T4 n as T (some (netO n as)) (some (netO n as))) := by
    unfold bOr bNot bE
    rw [s2, bind_ok, bind_ok, bind_ok, if_neg (by simp), q, bind_ok, bind_ok]
    rfl
  have i1 : sIf (bOr (bNot (bE (eCall [false, false] fn_law_same (aCons (eCall [false] fn_write_net (aCons (eVar 2) aNil)) (aCons (eVar 1) aNil))))) (bNot (bE (eEqO 0 fn_Net_eq (eVar 3) (eVar 2))))) (sSeq (sRet (eC (.bl false))) sNx) sNx (T4 n as T (some (netO n as)) (some (netO n as))) = .ok .nx (T4 n as T (some (netO n as)) (some (netO n as))) := by
    unfold sIf
    rw [t, bind_ok, if_neg (by simp)]
    rfl
  rw [seq_nx i1]
  have a1 : eAnd (eCall [false, false] fn_law_same (aCons (eTup (aCons (eAttr [0] 0 (eVar 3)) (aCons (eAttr [0] 1 (eVar 3)) aNil))) (aCons (eVar 0) aNil))) (eCall [false, false] fn_law_same (aCons (eCall [false] fn_write_net (aCons (eVar 3) aNil)) (aCons (eVar 1) aNil))) (T4 n as T (some (netO n as)) (some (netO n as))) = .ok (.bl true) (T4 n as T (some (netO n as)) (some (netO n as))) := by
    unfold eAnd
    rw [s4, bind_ok]
    exact s3
  exact ret_seq (ret_ok a1 rfl)
theorem run_len {k n : Nat} {g : Sv} {ds outs : List D} {d : D} (h : runFn k n g ds = .ok d outs) : outs.length = k := by
  unfold runFn at h
  cases e : g (startF n ds) with
  | bad => rw [e] at h; cases h
  | exc c fs fr => rw [e] at h; cases h
  | ok fl fr =>
    rw [e] at h
    cases fl <;> first | (cases h; exact outs_len) | cases h
theorem cut_take {α : Type} (xs : List α) (k : Nat) (h : k ≤ xs.length) : cutD xs none (some (k : Nat)) = xs.take k := by
  have h1 : HT.sIx xs.length 0 none = 0 := rfl
  have h2 : HT.sIx xs.length xs.length (some ((k : Nat) : Int)) = min k xs.length := HT.sIx_nat _ _ _
  unfold cutD
  rw [h1, h2, List.drop_zero, Nat.min_eq_left h, Nat.sub_zero]
theorem cut_drop {α : Type} (xs : List α) (k : Nat) (h : k ≤ xs.length) : cutD xs (some (k : Nat)) none = xs.drop k := by
  have h1 : HT.sIx xs.length 0 (some ((k : Nat) : Int)) = min k xs.length := HT.sIx_nat _ _ _
  have h2 : HT.sIx xs.length xs.length none = xs.length := rfl
  unfold cutD
  rw [h1, h2, Nat.min_eq_left h, List.take_of_length_le]
  rw [List.length_drop]
  omega
abbrev L4 (s ps : List Int) (a b : Option D) : Fr := [some (.scr s), some (lsI ps), a, b]
theorem law_true (ns : List Int) (h : ns.length ≤ 63) (hb : ∀ z ∈ ns, Builtin.Int.intBits z ≤ 1048576) : ∃ outs, fn_law [.scr ns] = .ok (.bl true) outs := by
  suffices hs : ∃ fr, g_law (startF 4 [.scr ns]) = .ok (.ret (.bl true)) fr by
    obtain ⟨fr, e⟩ := hs
    exact ⟨_, run_ok e⟩
  unfold g_law
  have st : startF 4 [.scr ns] = [some (.scr ns), none, none, none] := rfl
  rw [st]
  obtain ⟨ps, outs, hp⟩ := pool ns h
  have hpl : outs.length = 2 := run_len hp
  have c1 : eCall [false, false] fn_law_pool (aCons (eVar 0) (aCons (eC (.int 300)) aNil)) [some (.scr ns), none, none, none] = .ok (lsI ps) [some (.scr ns), none, none, none] :=
    call_val (ds := [.scr ns, .int 300]) (by rfl) (by rfl) (by rfl) hp hpl (by
      match outs, hpl with
      | [_, _], _ => rfl)
  rw [seq_nx (setF_ok (i := 1) c1)]
  have e1 : List.set [some (.scr ns), none, none, none] 1 (some (lsI ps)) = L4 ns ps none none := rfl
  rw [e1]
  obtain ⟨n, ks, qs, ha, hn, hv, hl⟩ := arcs ps 12 2 (by omega)
  have hvn := vn_sort hv hl ⟨hn.1, hn.2⟩
  generalize ks.mergeSort leP = as at ha hvn
  have c2 : eCall [true, false, false] fn_law_arcs (aCons (ePl 1) (aCons (eC (.int 12)) (aCons (eC (.int 2)) aNil))) (L4 ns ps none none) = .ok (netD n as) (L4 ns qs none none) := by
    have p1 : ePl 1 (L4 ns ps none none) = .ok (.var 1) (L4 ns ps none none) := ePl_at (d := lsI ps) rfl rfl
    have hg : aCons (ePl 1) (aCons (eC (.int 12)) (aCons (eC (.int 2)) aNil)) (L4 ns ps none none) = .ok [.var 1, .int 12, .int 2] (L4 ns ps none none) := by
      unfold aCons
      rw [p1, bind_ok]
      rfl
    have hc : argC (L4 ns ps none none) [true, false, false] [.var 1, .int 12, .int 2] = some [lsI ps, .int 12, .int 2] := rfl
    unfold eCall
    rw [hg, bind_ok, hc]
    dsimp only
    rw [if_pos (by decide), ha]
    dsimp only
    rw [if_pos (by rfl)]
    rfl
  rw [seq_nx (set_ok (i := 2) c2 rfl)]
  have e2 : List.set (L4 ns qs none none) 2 (some (netD n as)) = L4 ns qs (some (netD n as)) none := rfl
  rw [e2]
  have told1 : eCall [false] fn_law_told (aCons (eVar 2) aNil) (L4 ns qs (some (netD n as)) none) = .ok (.bl true) (L4 ns qs (some (netD n as)) none) := call1 (by rfl) (by rfl) (told_run hvn)
  have i1 : sIf (bNot (bE (eCall [false] fn_law_told (aCons (eVar 2) aNil)))) (sSeq (sRet (eC (.bl false))) sNx) sNx (L4 ns qs (some (netD n as)) none) = .ok .nx (L4 ns qs (some (netD n as)) none) := by
    unfold sIf bNot bE
    rw [told1, bind_ok, bind_ok, bind_ok, if_neg (by simp)]
    rfl
  rw [seq_nx i1]
  obtain ⟨N, hN⟩ : ∃ N : Nat, as.length = N := ⟨_, rfl⟩
  have n1 : ∀ fr3, eOp2 ixF (eVar 2) (eC (.int 1)) [some (.scr ns), some (lsI qs), some (netD n as), fr3] = .ok (.tup (as.map dPP)) [some (.scr ns), some (lsI qs), some (netD n as), fr3] := fun _ => rfl
  have l1 : eOp1 lenF (eOp2 ixF (eVar 2) (eC (.int 1))) (L4 ns qs (some (netD n as)) none) = .ok (.int (N : Nat)) (L4 ns qs (some (netD n as)) none) := op1_ok (n1 _) (by rfl) (by
    unfold lenF
    dsimp only
    rw [List.length_map, hN])
  by_cases h0 : N = 0
  · have t : bE (eOp2 eqF (eOp1 lenF (eOp2 ixF (eVar 2) (eC (.int 1)))) (eC (.int 0))) (L4 ns qs (some (netD n as)) none) = .ok true (L4 ns qs (some (netD n as)) none) := by
      unfold bE
      rw [op2i (F := eqF) (j := 0) (z := .bl true) l1 (by rfl) (by simp [eqF, eqB, scalE, h0]), bind_ok]
    have i2 : sIf (bE (eOp2 eqF (eOp1 lenF (eOp2 ixF (eVar 2) (eC (.int 1)))) (eC (.int 0)))) (sSeq (sRet (eC (.bl true))) sNx) sNx (L4 ns qs (some (netD n as)) none) = .ok (.ret (.bl true)) (L4 ns qs (some (netD n as)) none) := by
      unfold sIf
      rw [t, bind_ok, if_pos rfl]
      rfl
    exact ⟨_, ret_seq i2⟩
  have t : bE (eOp2 eqF (eOp1 lenF (eOp2 ixF (eVar 2) (eC (.int 1)))) (eC (.int 0))) (L4 ns qs (some (netD n as)) none) = .ok false (L4 ns qs (some (netD n as)) none) := by
    unfold bE
    rw [op2i (F := eqF) (j := 0) (z := .bl false) l1 (by rfl) (by simp [eqF, eqB, scalE]; omega), bind_ok]
  have i2 : sIf (bE (eOp2 eqF (eOp1 lenF (eOp2 ixF (eVar 2) (eC (.int 1)))) (eC (.int 0)))) (sSeq (sRet (eC (.bl true))) sNx) sNx (L4 ns qs (some (netD n as)) none) = .ok .nx (L4 ns qs (some (netD n as)) none) := by
    unfold sIf
    rw [t, bind_ok, if_neg (by simp)]
    rfl
  rw [seq_nx i2]
  have dr : ∃ (r : Int) (qs' : List Int), eCall [true, false] fn_law_draw (aCons (ePl 1) (aCons (eOp1 lenF (eOp2 ixF (eVar 2) (eC (.int 1)))) aNil)) (L4 ns qs (some (netD n as)) none) = .ok (.int r) (L4 ns qs' (some (netD n as)) none) ∧ 0 ≤ r ∧ r < (N : Nat) := by
    obtain ⟨r, ps', hd, h1, h2⟩ := draw qs (N : Nat) (by omega)
    refine ⟨r, ps', ?_, h1, h2⟩
    have p1 : ePl 1 (L4 ns qs (some (netD n as)) none) = .ok (.var 1) (L4 ns qs (some (netD n as)) none) := ePl_at (d := lsI qs) rfl rfl
    have hg : aCons (ePl 1) (aCons (eOp1 lenF (eOp2 ixF (eVar 2) (eC (.int 1)))) aNil) (L4 ns qs (some (netD n as)) none) = .ok [.var 1, .int (N : Nat)] (L4 ns qs (some (netD n as)) none) := by
      have w := one_ok l1
      show (ePl 1 (L4 ns qs (some (netD n as)) none)).bind _ = _
      rw [p1, bind_ok, w]
      rfl
    have hc : argC (L4 ns qs (some (netD n as)) none) [true, false] [.var 1, .int (N : Nat)] = some [lsI qs, .int (N : Nat)] := rfl
    unfold eCall
    rw [hg, bind_ok, hc]
    dsimp only
    rw [if_pos (show (ioV [true, false] [D.var 1, D.int (N : Nat)]).Nodup from (show ([1] : List Nat).Nodup by decide)), hd]
    dsimp only
    rw [if_pos (by rfl)]
    rfl
  obtain ⟨r, qs', hd, r0, rN⟩ := dr
  rw [seq_nx (set_ok (i := 3) hd rfl)]
  obtain ⟨k, rfl⟩ : ∃ k : Nat, r = (k : Nat) := ⟨r.toNat, by omega⟩
  have e3 : List.set (L4 ns qs' (some (netD n as)) none) 3 (some (D.int (k : Nat))) = L4 ns qs' (some (netD n as)) (some (.int (k : Nat))) := rfl
  rw [e3]
  have n0 : eOp2 ixF (eVar 2) (eC (.int 0)) (L4 ns qs' (some (netD n as)) (some (.int (k : Nat)))) = .ok (.int n) (L4 ns qs' (some (netD n as)) (some (.int (k : Nat)))) := rfl
  have n2 : eOp2 ixF (eVar 2) (eC (.int 1)) (L4 ns qs' (some (netD n as)) (some (.int (k : Nat)))) = .ok (.tup (as.map dPP)) (L4 ns qs' (some (netD n as)) (some (.int (k : Nat)))) := rfl
  have u1 : eSl (eOp2 ixF (eVar 2) (eC (.int 1))) oNone (oSome (eVar 3)) (L4 ns qs' (some (netD n as)) (some (.int (k : Nat)))) = .ok (.tup ((as.take k).map dPP)) (L4 ns qs' (some (netD n as)) (some (.int (k : Nat)))) := by
    have : eSl (eOp2 ixF (eVar 2) (eC (.int 1))) oNone (oSome (eVar 3)) (L4 ns qs' (some (netD n as)) (some (.int (k : Nat)))) = .ok (.tup (cutD (as.map dPP) none (some (k : Nat)))) (L4 ns qs' (some (netD n as)) (some (.int (k : Nat)))) := rfl
    rw [this, cut_take _ _ (by rw [List.length_map]; omega), List.map_take]
  have u2 : eSl (eOp2 ixF (eVar 2) (eC (.int 1))) (oSome (eOp2 addF (eVar 3) (eC (.int 1)))) oNone (L4 ns qs' (some (netD n as)) (some (.int (k : Nat)))) = .ok (.tup ((as.drop (k + 1)).map dPP)) (L4 ns qs' (some (netD n as)) (some (.int (k : Nat)))) := by
    have : eSl (eOp2 ixF (eVar 2) (eC (.int 1))) (oSome (eOp2 addF (eVar 3) (eC (.int 1)))) oNone (L4 ns qs' (some (netD n as)) (some (.int (k : Nat)))) = .ok (.tup (cutD (as.map dPP) (some ((k : Nat) + 1)) none)) (L4 ns qs' (some (netD n as)) (some (.int (k : Nat)))) := rfl
    rw [this, show ((k : Nat) + 1 : Int) = ((k + 1 : Nat) : Int) by omega, cut_drop _ _ (by rw [List.length_map]; omega), List.map_drop]
  have hcut := vn_cut hvn k
  have u3 : eOp2 addF (eSl (eOp2 ixF (eVar 2) (eC (.int 1))) oNone (oSome (eVar 3))) (eSl (eOp2 ixF (eVar 2) (eC (.int 1))) (oSome (eOp2 addF (eVar 3) (eC (.int 1)))) oNone) (L4 ns qs' (some (netD n as)) (some (.int (k : Nat)))) = .ok (.tup ((as.take k ++ as.drop (k + 1)).map dPP)) (L4 ns qs' (some (netD n as)) (some (.int (k : Nat)))) := by
    refine op2_ok u1 u2 (by rfl) (by rfl) ?_
    have hl := hcut.len
    rw [List.length_append] at hl
    unfold addF
    dsimp only
    rw [if_pos, List.map_append]
    rw [List.length_map, List.length_map]
    have : sizeLine = 16777216 := rfl
    omega
  generalize as.take k ++ as.drop (k + 1) = bs at hcut u3
  have u4 : eTup (aCons (eOp2 ixF (eVar 2) (eC (.int 0))) (aCons (eOp2 addF (eSl (eOp2 ixF (eVar 2) (eC (.int 1))) oNone (oSome (eVar 3))) (eSl (eOp2 ixF (eVar 2) (eC (.int 1))) (oSome (eOp2 addF (eVar 3) (eC (.int 1)))) oNone)) aNil)) (L4 ns qs' (some (netD n as)) (some (.int (k : Nat)))) = .ok (netD n bs) (L4 ns qs' (some (netD n as)) (some (.int (k : Nat)))) := by
    have w := one_ok u3
    have w2 : aCons (eOp2 ixF (eVar 2) (eC (.int 0))) (aCons (eOp2 addF (eSl (eOp2 ixF (eVar 2) (eC (.int 1))) oNone (oSome (eVar 3))) (eSl (eOp2 ixF (eVar 2) (eC (.int 1))) (oSome (eOp2 addF (eVar 3) (eC (.int 1)))) oNone)) aNil) (L4 ns qs' (some (netD n as)) (some (.int (k : Nat)))) = .ok [.int n, .tup (bs.map dPP)] (L4 ns qs' (some (netD n as)) (some (.int (k : Nat)))) := by
      show (eOp2 ixF (eVar 2) (eC (.int 0)) (L4 ns qs' (some (netD n as)) (some (.int (k : Nat))))).bind _ = _
      rw [n0, bind_ok, w]
      rfl
    unfold eTup
    rw [w2, bind_ok]
    rfl
  exact ⟨_, ret_seq (ret_ok (call1 u4 (by rfl) (told_run hcut)) rfl)⟩
end Lk11
namespace Lk11
open PySem PySem.Spec L2 KS PyProof.Rows
def fldF : Nat → Str
  | 0 => (PySem.Str.ofString "size")
  | 1 => (PySem.Str.ofString "arcs")
  | 2 => (PySem.Str.ofString "knows")
  | _ => (PySem.Str.ofString "?")
theorem injF_size : ∀ m, fldF m = fldF 0 → m = 0
  | 0, _ => rfl
  | 1, h => absurd h (show ¬ ((PySem.Str.ofString "arcs") = (PySem.Str.ofString "size")) by decide +kernel)
  | 2, h => absurd h (show ¬ ((PySem.Str.ofString "knows") = (PySem.Str.ofString "size")) by decide +kernel)
  | _ + 3, h => absurd h (show ¬ ((PySem.Str.ofString "?") = (PySem.Str.ofString "size")) by decide +kernel)
theorem injF_arcs : ∀ m, fldF m = fldF 1 → m = 1
  | 0, h => absurd h (show ¬ ((PySem.Str.ofString "size") = (PySem.Str.ofString "arcs")) by decide +kernel)
  | 1, _ => rfl
  | 2, h => absurd h (show ¬ ((PySem.Str.ofString "knows") = (PySem.Str.ofString "arcs")) by decide +kernel)
  | _ + 3, h => absurd h (show ¬ ((PySem.Str.ofString "?") = (PySem.Str.ofString "arcs")) by decide +kernel)
theorem injF_knows : ∀ m, fldF m = fldF 2 → m = 2
  | 0, h => absurd h (show ¬ ((PySem.Str.ofString "size") = (PySem.Str.ofString "knows")) by decide +kernel)
  | 1, h => absurd h (show ¬ ((PySem.Str.ofString "arcs") = (PySem.Str.ofString "knows")) by decide +kernel)
  | 2, _ => rfl
  | _ + 3, h => absurd h (show ¬ ((PySem.Str.ofString "?") = (PySem.Str.ofString "knows")) by decide +kernel)
def spLaw (K : PySem.W.Frag) : Sp := fun vs H Q _ => ∃ (a : Addr) (ns : List Int), vs = [.ref a] ∧ SqL K H a (ns.map V.int) ∧ ns.length ≤ 63 ∧ (∀ z ∈ ns, Builtin.Int.intBits z ≤ 1048576) ∧ ∀ H', Q (.bl true) H'
theorem sp_law {G : SE} (ht : G.tabs = []) (vs : List V) (H : Hp) (Q : VK) (E : XK) (h : spLaw G.K vs H Q E) : spOf G [false] false fn_law vs H Q E := by
  obtain ⟨a, ns, rfl, hs, hl, hb, q⟩ := h
  refine ⟨[.scr ns], H, ⟨.refl _, (by rw [ht]; intro P hP; cases hP), rfl, rfl, fun i d hm hd => ?_, fun i d hm hd => ?_, fun i j a' hij hi hj => ?_⟩, ?_⟩
  · cases i with
    | zero =>
      have e : D.scr ns = d := Option.some.inj hd
      subst e
      refine ⟨_, rfl, ?_⟩
      simp only [Rep]
      exact ⟨a, rfl, hs⟩
    | succ i => simp at hd
  · cases i with
    | zero => cases hm
    | succ i => simp at hm
  · cases i with
    | zero => cases hi
    | succ i => simp at hi
  · obtain ⟨outs, e⟩ := law_true ns hl hb
    rw [e]
    intro v H' Hv' _ ret
    have ret : Rep G Hv' (.bl true) v := by
      unfold RetR at ret
      rwa [if_neg Bool.false_ne_true] at ret
    rw [Rep.bl_iff.mp ret]
    exact q H'
theorem all_mk {l : PySem.W.OpenLaw} {w : World} {K : PySem.W.Frag} {h : Heap} {mg : Str → Option Value} {fa f_law_pool f_law_draw f_law_arcs f_law_knows f_law_text f_is_below f_first_wrong_arc f_Net_init f_number_of f_size_of f_known_of f_read_net f_law_same f_Net_eq f_write_net f_law_told f_law C_Net X_InvalidNet of_InvalidNet X_InvalidText of_InvalidText : Addr} (X : K.In h) (G : h.Ns mainGlobals mg) (hfa : mg "law" = some (.ref fa))
    {od_law_pool an_law_pool od_law_draw an_law_draw od_law_arcs an_law_arcs od_law_knows an_law_knows od_law_text an_law_text od_is_below an_is_below od_first_wrong_arc an_first_wrong_arc od_Net_init an_Net_init od_number_of an_number_of od_size_of an_size_of od_known_of an_known_of od_read_net an_read_net od_law_same an_law_same od_Net_eq an_Net_eq od_write_net an_write_net od_law_told an_law_told od_law an_law od_InvalidNet an_InvalidNet od_InvalidText an_InvalidText : Option Addr} {sl_law_pool sl_law_draw sl_law_arcs sl_law_knows sl_law_text sl_is_below sl_first_wrong_arc sl_Net_init sl_number_of sl_size_of sl_known_of sl_read_net sl_law_same sl_Net_eq sl_write_net sl_law_told sl_law sl_InvalidNet sl_InvalidText : Array (Option Value)} {oc_law_pool kV_law_pool dc_law_pool pm_law_pool cd_law_pool ct_law_pool oc_law_draw kV_law_draw dc_law_draw pm_law_draw cd_law_draw ct_law_draw oc_law_arcs kV_law_arcs dc_law_arcs pm_law_arcs cd_law_arcs ct_law_arcs oc_law_knows kV_law_knows dc_law_knows pm_law_knows cd_law_knows ct_law_knows oc_law_text kV_law_text dc_law_text pm_law_text cd_law_text ct_law_text oc_is_below kV_is_below dc_is_below pm_is_below cd_is_below ct_is_below oc_first_wrong_arc kV_first_wrong_arc dc_first_wrong_arc pm_first_wrong_arc cd_first_wrong_arc ct_first_wrong_arc oc_Net_init kV_Net_init dc_Net_init pm_Net_init cd_Net_init ct_Net_init oc_number_of kV_number_of dc_number_of pm_number_of cd_number_of ct_number_of oc_size_of kV_size_of dc_size_of pm_size_of cd_size_of ct_size_of oc_known_of kV_known_of dc_known_of pm_known_of cd_known_of ct_known_of oc_read_net kV_read_net dc_read_net pm_read_net cd_read_net ct_read_net oc_law_same kV_law_same dc_law_same pm_law_same cd_law_same ct_law_same oc_Net_eq kV_Net_eq dc_Net_eq pm_Net_eq cd_Net_eq ct_Net_eq oc_write_net kV_write_net dc_write_net pm_write_net cd_write_net ct_write_net oc_law_told kV_law_told dc_law_told pm_law_told cd_law_told ct_law_told oc_law kV_law dc_law pm_law cd_law ct_law oc_InvalidNet kV_InvalidNet dc_InvalidNet pm_InvalidNet cd_InvalidNet ct_InvalidNet oc_InvalidText kV_InvalidText dc_InvalidText pm_InvalidText cd_InvalidText ct_InvalidText : Value} {t_FIGURES t_MOST_PLACES : Tok}
    (aC_Net : PySem.W.nsIn K mainGlobals (PySem.Str.ofString "Net") = some (some (.ref C_Net)))
    (xC_InvalidNet : PySem.W.nsIn K mainGlobals (PySem.Str.ofString "InvalidNet") = some (some (.ref X_InvalidNet)))
    (xC_InvalidText : PySem.W.nsIn K mainGlobals (PySem.Str.ofString "InvalidText") = some (some (.ref X_InvalidText)))
    (a_law_pool : PySem.W.nsIn K mainGlobals (PySem.Str.ofString "_law_pool") = some (some (.ref f_law_pool)))
    (l_law_pool : K.lookup f_law_pool = some ⟨oc_law_pool, od_law_pool, .func (PySem.W.fnOf (PySem.Str.ofString "_law_pool") (PySem.Str.ofString "_law_pool") (defArgs st_law_pool) (defBody st_law_pool) (defScope st_law_pool) .none kV_law_pool dc_law_pool pm_law_pool an_law_pool cd_law_pool ct_law_pool), sl_law_pool⟩)
    (c_law_pool : PySem.W.codeIn K cd_law_pool (PySem.Str.ofString "_law_pool") = true)
    (k_law_pool : PySem.W.keepIn K (.ref f_law_pool) = true)
    (a_law_draw : PySem.W.nsIn K mainGlobals (PySem.Str.ofString "_law_draw") = some (some (.ref f_law_draw)))
    (l_law_draw : K.lookup f_law_draw = some ⟨oc_law_draw, od_law_draw, .func (PySem.W.fnOf (PySem.Str.ofString "_law_draw") (PySem.Str.ofString "_law_draw") (defArgs st_law_draw) (defBody st_law_draw) (defScope st_law_draw) .none kV_law_draw dc_law_draw pm_law_draw an_law_draw cd_law_draw ct_law_draw), sl_law_draw⟩)
    (c_law_draw : PySem.W.codeIn K cd_law_draw (PySem.Str.ofString "_law_draw") = true)
    (k_law_draw : PySem.W.keepIn K (.ref f_law_draw) = true)
    (a_law_arcs : PySem.W.nsIn K mainGlobals (PySem.Str.ofString "_law_arcs") = some (some (.ref f_law_arcs)))
    (l_law_arcs : K.lookup f_law_arcs = some ⟨oc_law_arcs, od_law_arcs, .func (PySem.W.fnOf (PySem.Str.ofString "_law_arcs") (PySem.Str.ofString "_law_arcs") (defArgs st_law_arcs) (defBody st_law_arcs) (defScope st_law_arcs) .none kV_law_arcs dc_law_arcs pm_law_arcs an_law_arcs cd_law_arcs ct_law_arcs), sl_law_arcs⟩)
    (c_law_arcs : PySem.W.codeIn K cd_law_arcs (PySem.Str.ofString "_law_arcs") = true)
    (k_law_arcs : PySem.W.keepIn K (.ref f_law_arcs) = true)
    (a_law_knows : PySem.W.nsIn K mainGlobals (PySem.Str.ofString "_law_knows") = some (some (.ref f_law_knows)))
    (l_law_knows : K.lookup f_law_knows = some ⟨oc_law_knows, od_law_knows, .func (PySem.W.fnOf (PySem.Str.ofString "_law_knows") (PySem.Str.ofString "_law_knows") (defArgs st_law_knows) (defBody st_law_knows) (defScope st_law_knows) .none kV_law_knows dc_law_knows pm_law_knows an_law_knows cd_law_knows ct_law_knows), sl_law_knows⟩)
    (c_law_knows : PySem.W.codeIn K cd_law_knows (PySem.Str.ofString "_law_knows") = true)
    (k_law_knows : PySem.W.keepIn K (.ref f_law_knows) = true)
    (a_law_text : PySem.W.nsIn K mainGlobals (PySem.Str.ofString "_law_text") = some (some (.ref f_law_text)))
    (l_law_text : K.lookup f_law_text = some ⟨oc_law_text, od_law_text, .func (PySem.W.fnOf (PySem.Str.ofString "_law_text") (PySem.Str.ofString "_law_text") (defArgs st_law_text) (defBody st_law_text) (defScope st_law_text) .none kV_law_text dc_law_text pm_law_text an_law_text cd_law_text ct_law_text), sl_law_text⟩)
    (c_law_text : PySem.W.codeIn K cd_law_text (PySem.Str.ofString "_law_text") = true)
    (k_law_text : PySem.W.keepIn K (.ref f_law_text) = true)
    (a_is_below : PySem.W.nsIn K mainGlobals (PySem.Str.ofString "is_below") = some (some (.ref f_is_below)))
    (l_is_below : K.lookup f_is_below = some ⟨oc_is_below, od_is_below, .func (PySem.W.fnOf (PySem.Str.ofString "is_below") (PySem.Str.ofString "is_below") (defArgs st_is_below) (defBody st_is_below) (defScope st_is_below) .none kV_is_below dc_is_below pm_is_below an_is_below cd_is_below ct_is_below), sl_is_below⟩)
    (c_is_below : PySem.W.codeIn K cd_is_below (PySem.Str.ofString "is_below") = true)
    (k_is_below : PySem.W.keepIn K (.ref f_is_below) = true)
    (a_first_wrong_arc : PySem.W.nsIn K mainGlobals (PySem.Str.ofString "first_wrong_arc") = some (some (.ref f_first_wrong_arc)))
    (l_first_wrong_arc : K.lookup f_first_wrong_arc = some ⟨oc_first_wrong_arc, od_first_wrong_arc, .func (PySem.W.fnOf (PySem.Str.ofString "first_wrong_arc") (PySem.Str.ofString "first_wrong_arc") (defArgs st_first_wrong_arc) (defBody st_first_wrong_arc) (defScope st_first_wrong_arc) .none kV_first_wrong_arc dc_first_wrong_arc pm_first_wrong_arc an_first_wrong_arc cd_first_wrong_arc ct_first_wrong_arc), sl_first_wrong_arc⟩)
    (c_first_wrong_arc : PySem.W.codeIn K cd_first_wrong_arc (PySem.Str.ofString "first_wrong_arc") = true)
    (k_first_wrong_arc : PySem.W.keepIn K (.ref f_first_wrong_arc) = true)
    (a_Net_init : PySem.W.findIn K (.ref C_Net) (PySem.Str.ofString "__init__") = some (some (.ref f_Net_init)))
    (i_Net_init : PySem.W.isFn K (.ref f_Net_init) = true)
    (l_Net_init : K.lookup f_Net_init = some ⟨oc_Net_init, od_Net_init, .func (PySem.W.fnOf (PySem.Str.ofString "__init__") (PySem.Str.ofString "Net.__init__") (defArgs st_Net_init) (defBody st_Net_init) (defScope st_Net_init) .none kV_Net_init dc_Net_init pm_Net_init an_Net_init cd_Net_init ct_Net_init), sl_Net_init⟩)
    (c_Net_init : PySem.W.codeIn K cd_Net_init (PySem.Str.ofString "Net.__init__") = true)
    (k_Net_init : PySem.W.keepIn K (.ref f_Net_init) = true)
    (a_number_of : PySem.W.nsIn K mainGlobals (PySem.Str.ofString "number_of") = some (some (.ref f_number_of)))
    (l_number_of : K.lookup f_number_of = some ⟨oc_number_of, od_number_of, .func (PySem.W.fnOf (PySem.Str.ofString "number_of") (PySem.Str.ofString "number_of") (defArgs st_number_of) (defBody st_number_of) (defScope st_number_of) .none kV_number_of dc_number_of pm_number_of an_number_of cd_number_of ct_number_of), sl_number_of⟩)
    (c_number_of : PySem.W.codeIn K cd_number_of (PySem.Str.ofString "number_of") = true)
    (k_number_of : PySem.W.keepIn K (.ref f_number_of) = true)
    (a_size_of : PySem.W.nsIn K mainGlobals (PySem.Str.ofString "size_of") = some (some (.ref f_size_of)))
    (l_size_of : K.lookup f_size_of = some ⟨oc_size_of, od_size_of, .func (PySem.W.fnOf (PySem.Str.ofString "size_of") (PySem.Str.ofString "size_of") (defArgs st_size_of) (defBody st_size_of) (defScope st_size_of) .none kV_size_of dc_size_of pm_size_of an_size_of cd_size_of ct_size_of), sl_size_of⟩)
    (c_size_of : PySem.W.codeIn K cd_size_of (PySem.Str.ofString "size_of") = true)
    (k_size_of : PySem.W.keepIn K (.ref f_size_of) = true)
    (a_known_of : PySem.W.nsIn K mainGlobals (PySem.Str.ofString "known_of") = some (some (.ref f_known_of)))
    (l_known_of : K.lookup f_known_of = some ⟨oc_known_of, od_known_of, .func (PySem.W.fnOf (PySem.Str.ofString "known_of") (PySem.Str.ofString "known_of") (defArgs st_known_of) (defBody st_known_of) (defScope st_known_of) .none kV_known_of dc_known_of pm_known_of an_known_of cd_known_of ct_known_of), sl_known_of⟩)
    (c_known_of : PySem.W.codeIn K cd_known_of (PySem.Str.ofString "known_of") = true)
    (k_known_of : PySem.W.keepIn K (.ref f_known_of) = true)
    (a_read_net : PySem.W.nsIn K mainGlobals (PySem.Str.ofString "read_net") = some (some (.ref f_read_net)))
    (l_read_net : K.lookup f_read_net = some ⟨oc_read_net, od_read_net, .func (PySem.W.fnOf (PySem.Str.ofString "read_net") (PySem.Str.ofString "read_net") (defArgs st_read_net) (defBody st_read_net) (defScope st_read_net) .none kV_read_net dc_read_net pm_read_net an_read_net cd_read_net ct_read_net), sl_read_net⟩)
    (c_read_net : PySem.W.codeIn K cd_read_net (PySem.Str.ofString "read_net") = true)
    (k_read_net : PySem.W.keepIn K (.ref f_read_net) = true)
    (a_law_same : PySem.W.nsIn K mainGlobals (PySem.Str.ofString "_law_same") = some (some (.ref f_law_same)))
    (l_law_same : K.lookup f_law_same = some ⟨oc_law_same, od_law_same, .func (PySem.W.fnOf (PySem.Str.ofString "_law_same") (PySem.Str.ofString "_law_same") (defArgs st_law_same) (defBody st_law_same) (defScope st_law_same) .none kV_law_same dc_law_same pm_law_same an_law_same cd_law_same ct_law_same), sl_law_same⟩)
    (c_law_same : PySem.W.codeIn K cd_law_same (PySem.Str.ofString "_law_same") = true)
    (k_law_same : PySem.W.keepIn K (.ref f_law_same) = true)
    (a_Net_eq : PySem.W.findIn K (.ref C_Net) (PySem.Str.ofString "__eq__") = some (some (.ref f_Net_eq)))
    (i_Net_eq : PySem.W.isFn K (.ref f_Net_eq) = true)
    (l_Net_eq : K.lookup f_Net_eq = some ⟨oc_Net_eq, od_Net_eq, .func (PySem.W.fnOf (PySem.Str.ofString "__eq__") (PySem.Str.ofString "Net.__eq__") (defArgs st_Net_eq) (defBody st_Net_eq) (defScope st_Net_eq) .none kV_Net_eq dc_Net_eq pm_Net_eq an_Net_eq cd_Net_eq ct_Net_eq), sl_Net_eq⟩)
    (c_Net_eq : PySem.W.codeIn K cd_Net_eq (PySem.Str.ofString "Net.__eq__") = true)
    (k_Net_eq : PySem.W.keepIn K (.ref f_Net_eq) = true)
    (a_write_net : PySem.W.nsIn K mainGlobals (PySem.Str.ofString "write_net") = some (some (.ref f_write_net)))
    (l_write_net : K.lookup f_write_net = some ⟨oc_write_net, od_write_net, .func (PySem.W.fnOf (PySem.Str.ofString "write_net") (PySem.Str.ofString "write_net") (defArgs st_write_net) (defBody st_write_net) (defScope st_write_net) .none kV_write_net dc_write_net pm_write_net an_write_net cd_write_net ct_write_net), sl_write_net⟩)
    (c_write_net : PySem.W.codeIn K cd_write_net (PySem.Str.ofString "write_net") = true)
    (k_write_net : PySem.W.keepIn K (.ref f_write_net) = true)
    (a_law_told : PySem.W.nsIn K mainGlobals (PySem.Str.ofString "_law_told") = some (some (.ref f_law_told)))
    (l_law_told : K.lookup f_law_told = some ⟨oc_law_told, od_law_told, .func (PySem.W.fnOf (PySem.Str.ofString "_law_told") (PySem.Str.ofString "_law_told") (defArgs st_law_told) (defBody st_law_told) (defScope st_law_told) .none kV_law_told dc_law_told pm_law_told an_law_told cd_law_told ct_law_told), sl_law_told⟩)
    (c_law_told : PySem.W.codeIn K cd_law_told (PySem.Str.ofString "_law_told") = true)
    (k_law_told : PySem.W.keepIn K (.ref f_law_told) = true)
    (a_law : PySem.W.nsIn K mainGlobals (PySem.Str.ofString "law") = some (some (.ref f_law)))
    (l_law : K.lookup f_law = some ⟨oc_law, od_law, .func (PySem.W.fnOf (PySem.Str.ofString "law") (PySem.Str.ofString "law") (defArgs st_law) (defBody st_law) (defScope st_law) .none kV_law dc_law pm_law an_law cd_law ct_law), sl_law⟩)
    (c_law : PySem.W.codeIn K cd_law (PySem.Str.ofString "law") = true)
    (k_law : PySem.W.keepIn K (.ref f_law) = true)
    (pg_Net : PySem.W.plainGet K C_Net Str.empty = true)
    (hd_Net : PySem.W.hasDictIn K C_Net = true)
    (po_Net : PySem.W.plainOver K C_Net = true)
    (sa_Net : PySem.W.findIn K (.ref C_Net) "__setattr__" = some (some (.builtin "object.__setattr__")))
    (mk_Net : PySem.W.makesIn K C_Net = true)
    (kq_Net : PySem.W.keepIn K (.ref C_Net) = true)
    (ha_Net : PySem.W.findIn K (.ref C_Net) "__class__" = some (some (.builtin "object.__class__")))
    (hn_Net : PySem.W.specialIn K (.builtin "object.__class__") "__get__" = some (some (.builtin "getset_descriptor.__get__")))
    (ht_Net : PySem.W.takesIn K (.builtin "object.__class__") = some true)
    (hm_Net : PySem.W.mroIn K C_Net (.type "object") = some true)
    (nf_Net_size : PySem.W.findIn K (.ref C_Net) (PySem.Str.ofString "size") = some none)
    (nf_Net_arcs : PySem.W.findIn K (.ref C_Net) (PySem.Str.ofString "arcs") = some none)
    (nf_Net_knows : PySem.W.findIn K (.ref C_Net) (PySem.Str.ofString "knows") = some none)
    (xa_InvalidNet : PySem.W.findIn K (.ref X_InvalidNet) "__init__" = some (some (.ref of_InvalidNet)))
    (xt_InvalidNet : PySem.W.typeIn K (.ref of_InvalidNet) = some (.type "function"))
    (xl_InvalidNet : K.lookup of_InvalidNet = some ⟨oc_InvalidNet, od_InvalidNet, .func (PySem.W.fnOf "__init__" (PySem.Str.ofString "InvalidNet.__init__") (defArgs st_xInvalidNet) (defBody st_xInvalidNet) (defScope st_xInvalidNet) .none kV_InvalidNet dc_InvalidNet pm_InvalidNet an_InvalidNet cd_InvalidNet ct_InvalidNet), sl_InvalidNet⟩)
    (xc_InvalidNet : PySem.W.codeIn K cd_InvalidNet (PySem.Str.ofString "InvalidNet.__init__") = true)
    (xk_InvalidNet : PySem.W.keepIn K (.ref of_InvalidNet) = true)
    (xs_InvalidNet : PySem.W.findIn K (.ref X_InvalidNet) "__setattr__" = some (some (.builtin "object.__setattr__")))
    (xe_InvalidNet : PySem.W.subIn K (.ref X_InvalidNet) (.type "BaseException") = some true)
    (xy_InvalidNet : PySem.W.typeIn K (.ref X_InvalidNet) = some (.type "type"))
    (xp_InvalidNet : PySem.W.keepIn K (.ref X_InvalidNet) = true)
    (xo_InvalidNet : ∃ nm q N bs bm sn sub ab col dd k0 k1 k2 k3 k5, K.lookup X_InvalidNet = some (excClassObj nm q X_InvalidNet N bs bm true sn sub ab col dd k0 k1 k2 k3 k5 "ValueError.__new__") ∧ PySem.HandSPX.refsVE bm = true)
    (xf_InvalidNet_part : PySem.W.findIn K (.ref X_InvalidNet) (PySem.Str.ofString "part") = some none)
    (xf_InvalidNet_place : PySem.W.findIn K (.ref X_InvalidNet) (PySem.Str.ofString "place") = some none)
    (xa_InvalidText : PySem.W.findIn K (.ref X_InvalidText) "__init__" = some (some (.ref of_InvalidText)))
    (xt_InvalidText : PySem.W.typeIn K (.ref of_InvalidText) = some (.type "function"))
    (xl_InvalidText : K.lookup of_InvalidText = some ⟨oc_InvalidText, od_InvalidText, .func (PySem.W.fnOf "__init__" (PySem.Str.ofString "InvalidText.__init__") (defArgs st_xInvalidText) (defBody st_xInvalidText) (defScope st_xInvalidText) .none kV_InvalidText dc_InvalidText pm_InvalidText an_InvalidText cd_InvalidText ct_InvalidText), sl_InvalidText⟩)
    (xc_InvalidText : PySem.W.codeIn K cd_InvalidText (PySem.Str.ofString "InvalidText.__init__") = true)
    (xk_InvalidText : PySem.W.keepIn K (.ref of_InvalidText) = true)
    (xs_InvalidText : PySem.W.findIn K (.ref X_InvalidText) "__setattr__" = some (some (.builtin "object.__setattr__")))
    (xe_InvalidText : PySem.W.subIn K (.ref X_InvalidText) (.type "BaseException") = some true)
    (xy_InvalidText : PySem.W.typeIn K (.ref X_InvalidText) = some (.type "type"))
    (xp_InvalidText : PySem.W.keepIn K (.ref X_InvalidText) = true)
    (xo_InvalidText : ∃ nm q N bs bm sn sub ab col dd k0 k1 k2 k3 k5, K.lookup X_InvalidText = some (excClassObj nm q X_InvalidText N bs bm true sn sub ab col dd k0 k1 k2 k3 k5 "ValueError.__new__") ∧ PySem.HandSPX.refsVE bm = true)
    (xf_InvalidText_text : PySem.W.findIn K (.ref X_InvalidText) (PySem.Str.ofString "text") = some none)
    (xf_InvalidText_at : PySem.W.findIn K (.ref X_InvalidText) (PySem.Str.ofString "at") = some none)
    (z_abs : PySem.W.nsIn K mainGlobals (PySem.Str.ofString "abs") = some none)
    (z_all : PySem.W.nsIn K mainGlobals (PySem.Str.ofString "all") = some none)
    (z_bool : PySem.W.nsIn K mainGlobals (PySem.Str.ofString "bool") = some none)
    (z_enumerate : PySem.W.nsIn K mainGlobals (PySem.Str.ofString "enumerate") = some none)
    (z_int : PySem.W.nsIn K mainGlobals (PySem.Str.ofString "int") = some none)
    (z_isinstance : PySem.W.nsIn K mainGlobals (PySem.Str.ofString "isinstance") = some none)
    (z_len : PySem.W.nsIn K mainGlobals (PySem.Str.ofString "len") = some none)
    (z_list : PySem.W.nsIn K mainGlobals (PySem.Str.ofString "list") = some none)
    (z_min : PySem.W.nsIn K mainGlobals (PySem.Str.ofString "min") = some none)
    (z_range : PySem.W.nsIn K mainGlobals (PySem.Str.ofString "range") = some none)
    (z_sorted : PySem.W.nsIn K mainGlobals (PySem.Str.ofString "sorted") = some none)
    (z_str : PySem.W.nsIn K mainGlobals (PySem.Str.ofString "str") = some none)
    (z_tuple : PySem.W.nsIn K mainGlobals (PySem.Str.ofString "tuple") = some none)
    (z_zip : PySem.W.nsIn K mainGlobals (PySem.Str.ofString "zip") = some none)
    (g_FIGURES : PySem.W.nsIn K mainGlobals (PySem.Str.ofString "FIGURES") = some (some (.str (PySem.Str.ofString "0123456789") t_FIGURES)))
    (g_MOST_PLACES : PySem.W.nsIn K mainGlobals (PySem.Str.ofString "MOST_PLACES") = some (some (.int 12 t_MOST_PLACES))) :
    ∃ fd : FuncData, (∀ (s : Shared) (v : Value), BindsTo s fd ⟨[v], []⟩ [((PySem.Str.ofString "_law_script"), v)]) ∧ ∀ base : Heap, K.In base → base.Ns mainGlobals mg → FnOk l.prog w K mg base (L2.CX l.prog w) 9 fa fd [(PySem.Str.ofString "_law_script")] (spLaw K) := by
  have e := hfa.symm.trans (PySem.W.mg_of X G a_law)
  cases e
  have F_law_pool := fun_mk (st := st_law_pool) l_law_pool c_law_pool k_law_pool
  have b_law_pool := F_law_pool.binds (ps := [(PySem.Str.ofString "_law_script"), (PySem.Str.ofString "_law_many")]) fun _ _ _ _ _ _ us hl => match us, hl with | [_, _], _ => rfl
  have F_law_draw := fun_mk (st := st_law_draw) l_law_draw c_law_draw k_law_draw
  have b_law_draw := F_law_draw.binds (ps := [(PySem.Str.ofString "_law_pool_here"), (PySem.Str.ofString "_law_many")]) fun _ _ _ _ _ _ us hl => match us, hl with | [_, _], _ => rfl
  have F_law_arcs := fun_mk (st := st_law_arcs) l_law_arcs c_law_arcs k_law_arcs
  have b_law_arcs := F_law_arcs.binds (ps := [(PySem.Str.ofString "_law_pool_here"), (PySem.Str.ofString "_law_most"), (PySem.Str.ofString "_law_odds")]) fun _ _ _ _ _ _ us hl => match us, hl with | [_, _, _], _ => rfl
  have F_law_knows := fun_mk (st := st_law_knows) l_law_knows c_law_knows k_law_knows
  have b_law_knows := F_law_knows.binds (ps := [(PySem.Str.ofString "_law_net"), (PySem.Str.ofString "_law_i")]) fun _ _ _ _ _ _ us hl => match us, hl with | [_, _], _ => rfl
  have F_law_text := fun_mk (st := st_law_text) l_law_text c_law_text k_law_text
  have b_law_text := F_law_text.binds (ps := [(PySem.Str.ofString "_law_net")]) fun _ _ _ _ _ _ us hl => match us, hl with | [_], _ => rfl
  have F_is_below := fun_mk (st := st_is_below) l_is_below c_is_below k_is_below
  have b_is_below := F_is_below.binds (ps := [(PySem.Str.ofString "value"), (PySem.Str.ofString "many")]) fun _ _ _ _ _ _ us hl => match us, hl with | [_, _], _ => rfl
  have F_first_wrong_arc := fun_mk (st := st_first_wrong_arc) l_first_wrong_arc c_first_wrong_arc k_first_wrong_arc
  have b_first_wrong_arc := F_first_wrong_arc.binds (ps := [(PySem.Str.ofString "size"), (PySem.Str.ofString "arcs")]) fun _ _ _ _ _ _ us hl => match us, hl with | [_, _], _ => rfl
  have F_Net_init := fun_mk (st := st_Net_init) l_Net_init c_Net_init k_Net_init
  have b_Net_init := F_Net_init.binds (ps := [(PySem.Str.ofString "self"), (PySem.Str.ofString "size"), (PySem.Str.ofString "arcs")]) fun _ _ _ _ _ _ us hl => match us, hl with | [_, _, _], _ => rfl
  have F_number_of := fun_mk (st := st_number_of) l_number_of c_number_of k_number_of
  have b_number_of := F_number_of.binds (ps := [(PySem.Str.ofString "word")]) fun _ _ _ _ _ _ us hl => match us, hl with | [_], _ => rfl
  have F_size_of := fun_mk (st := st_size_of) l_size_of c_size_of k_size_of
  have b_size_of := F_size_of.binds (ps := [(PySem.Str.ofString "line")]) fun _ _ _ _ _ _ us hl => match us, hl with | [_], _ => rfl
  have F_known_of := fun_mk (st := st_known_of) l_known_of c_known_of k_known_of
  have b_known_of := F_known_of.binds (ps := [(PySem.Str.ofString "line"), (PySem.Str.ofString "place"), (PySem.Str.ofString "size")]) fun _ _ _ _ _ _ us hl => match us, hl with | [_, _, _], _ => rfl
  have F_read_net := fun_mk (st := st_read_net) l_read_net c_read_net k_read_net
  have b_read_net := F_read_net.binds (ps := [(PySem.Str.ofString "text")]) fun _ _ _ _ _ _ us hl => match us, hl with | [_], _ => rfl
  have F_law_same := fun_mk (st := st_law_same) l_law_same c_law_same k_law_same
  have b_law_same := F_law_same.binds (ps := [(PySem.Str.ofString "_law_told_here"), (PySem.Str.ofString "_law_due")]) fun _ _ _ _ _ _ us hl => match us, hl with | [_, _], _ => rfl
  have F_Net_eq := fun_mk (st := st_Net_eq) l_Net_eq c_Net_eq k_Net_eq
  have b_Net_eq := F_Net_eq.binds (ps := [(PySem.Str.ofString "self"), (PySem.Str.ofString "other")]) fun _ _ _ _ _ _ us hl => match us, hl with | [_, _], _ => rfl
  have F_write_net := fun_mk (st := st_write_net) l_write_net c_write_net k_write_net
  have b_write_net := F_write_net.binds (ps := [(PySem.Str.ofString "net")]) fun _ _ _ _ _ _ us hl => match us, hl with | [_], _ => rfl
  have F_law_told := fun_mk (st := st_law_told) l_law_told c_law_told k_law_told
  have b_law_told := F_law_told.binds (ps := [(PySem.Str.ofString "_law_net")]) fun _ _ _ _ _ _ us hl => match us, hl with | [_], _ => rfl
  have F_law := fun_mk (st := st_law) l_law c_law k_law
  have b_law := F_law.binds (ps := [(PySem.Str.ofString "_law_script")]) fun _ _ _ _ _ _ us hl => match us, hl with | [_], _ => rfl
  have oF_InvalidNet := fun_mk (st := st_xInvalidNet) xl_InvalidNet xc_InvalidNet xk_InvalidNet
  have ob_InvalidNet := oF_InvalidNet.binds (ps := [(PySem.Str.ofString "self"), (PySem.Str.ofString "part"), (PySem.Str.ofString "place")]) fun _ _ _ _ _ _ us hl => match us, hl with | [_, _, _], _ => rfl
  have oF_InvalidText := fun_mk (st := st_xInvalidText) xl_InvalidText xc_InvalidText xk_InvalidText
  have ob_InvalidText := oF_InvalidText.binds (ps := [(PySem.Str.ofString "self"), (PySem.Str.ofString "text"), (PySem.Str.ofString "at")]) fun _ _ _ _ _ _ us hl => match us, hl with | [_, _, _], _ => rfl
  have cl_Net : Cls K C_Net := ⟨pg_Net, hd_Net, po_Net, sa_Net⟩
  have me_Net : PySem.W.kitOne K (.ref C_Net) (.ref C_Net) = some true := by unfold PySem.W.kitOne; simp
  have ic_Net : C8.InsC K C_Net := ⟨cl_Net, ha_Net, hn_Net, ht_Net, hm_Net, me_Net⟩
  refine ⟨PySem.W.fnOf "law" "law" (defArgs st_law) (defBody st_law) (defScope st_law) .none kV_law dc_law pm_law an_law cd_law ct_law, fun s v => .of_eq rfl, fun base _ _ => ?_⟩
  let S : SE := ⟨l.prog, w, K, mg, base, [], fun c => if c = 0 then C_Net else 0, fldF, fun c => if c = 0 then X_InvalidNet else if c = 1 then X_InvalidText else 0, fun c => if c = 0 then [(PySem.Str.ofString "part"), (PySem.Str.ofString "place")] else if c = 1 then [(PySem.Str.ofString "text"), (PySem.Str.ofString "at")] else []⟩
  let T : Txt S := {
      f_law_pool := f_law_pool, fd_law_pool := _, F_law_pool := F_law_pool, b_law_pool := b_law_pool, m_law_pool := PySem.W.mg_of X G a_law_pool,
      f_law_draw := f_law_draw, fd_law_draw := _, F_law_draw := F_law_draw, b_law_draw := b_law_draw, m_law_draw := PySem.W.mg_of X G a_law_draw,
      f_law_arcs := f_law_arcs, fd_law_arcs := _, F_law_arcs := F_law_arcs, b_law_arcs := b_law_arcs, m_law_arcs := PySem.W.mg_of X G a_law_arcs,
      f_law_knows := f_law_knows, fd_law_knows := _, F_law_knows := F_law_knows, b_law_knows := b_law_knows, m_law_knows := PySem.W.mg_of X G a_law_knows,
      f_law_text := f_law_text, fd_law_text := _, F_law_text := F_law_text, b_law_text := b_law_text, m_law_text := PySem.W.mg_of X G a_law_text,
      f_is_below := f_is_below, fd_is_below := _, F_is_below := F_is_below, b_is_below := b_is_below, m_is_below := PySem.W.mg_of X G a_is_below,
      f_first_wrong_arc := f_first_wrong_arc, fd_first_wrong_arc := _, F_first_wrong_arc := F_first_wrong_arc, b_first_wrong_arc := b_first_wrong_arc, m_first_wrong_arc := PySem.W.mg_of X G a_first_wrong_arc,
      f_Net_init := f_Net_init, fd_Net_init := _, F_Net_init := F_Net_init, b_Net_init := b_Net_init,
      f_number_of := f_number_of, fd_number_of := _, F_number_of := F_number_of, b_number_of := b_number_of, m_number_of := PySem.W.mg_of X G a_number_of,
      f_size_of := f_size_of, fd_size_of := _, F_size_of := F_size_of, b_size_of := b_size_of, m_size_of := PySem.W.mg_of X G a_size_of,
      f_known_of := f_known_of, fd_known_of := _, F_known_of := F_known_of, b_known_of := b_known_of, m_known_of := PySem.W.mg_of X G a_known_of,
      f_read_net := f_read_net, fd_read_net := _, F_read_net := F_read_net, b_read_net := b_read_net, m_read_net := PySem.W.mg_of X G a_read_net,
      f_law_same := f_law_same, fd_law_same := _, F_law_same := F_law_same, b_law_same := b_law_same, m_law_same := PySem.W.mg_of X G a_law_same,
      f_Net_eq := f_Net_eq, fd_Net_eq := _, F_Net_eq := F_Net_eq, b_Net_eq := b_Net_eq,
      f_write_net := f_write_net, fd_write_net := _, F_write_net := F_write_net, b_write_net := b_write_net, m_write_net := PySem.W.mg_of X G a_write_net,
      f_law_told := f_law_told, fd_law_told := _, F_law_told := F_law_told, b_law_told := b_law_told, m_law_told := PySem.W.mg_of X G a_law_told,
      f_law := _, fd_law := _, F_law := F_law, b_law := b_law, m_law := PySem.W.mg_of X G a_law,
      n_abs := PySem.W.mg_none_of X G z_abs,
      n_all := PySem.W.mg_none_of X G z_all,
      n_bool := PySem.W.mg_none_of X G z_bool,
      n_enumerate := PySem.W.mg_none_of X G z_enumerate,
      n_int := PySem.W.mg_none_of X G z_int,
      n_isinstance := PySem.W.mg_none_of X G z_isinstance,
      n_len := PySem.W.mg_none_of X G z_len,
      n_list := PySem.W.mg_none_of X G z_list,
      n_min := PySem.W.mg_none_of X G z_min,
      n_range := PySem.W.mg_none_of X G z_range,
      n_sorted := PySem.W.mg_none_of X G z_sorted,
      n_str := PySem.W.mg_none_of X G z_str,
      n_tuple := PySem.W.mg_none_of X G z_tuple,
      n_zip := PySem.W.mg_none_of X G z_zip,
      c_FIGURES := ⟨_, PySem.W.mg_of X G g_FIGURES, ⟨_, rfl⟩⟩,
      c_MOST_PLACES := ⟨_, PySem.W.mg_of X G g_MOST_PLACES, ⟨_, rfl⟩⟩,
      m_Net := PySem.W.mg_of X G aC_Net,
      mk_Net := ⟨mk_Net, a_Net_init, i_Net_init, kq_Net⟩,
      eqf_Net := a_Net_eq, eqi_Net := i_Net_eq,
      kc_Net := fun c b h => (by
        unfold Lk11.kc_Net at h
        split at h
        · next e => cases e; cases h; exact ⟨ic_Net, me_Net⟩
        · cases h),
      fx_size := rfl, inj_size := injF_size,
      fc_size := fun c hc => (by
        rcases List.mem_cons.mp hc with rfl | hc
        · exact ⟨cl_Net, nf_Net_size⟩
        cases hc),
      f1_Net_size := fun c hc => (by
        rcases List.mem_cons.mp hc with rfl | hc
        · exact ⟨cl_Net, nf_Net_size⟩
        cases hc),
      fx_arcs := rfl, inj_arcs := injF_arcs,
      fc_arcs := fun c hc => (by
        rcases List.mem_cons.mp hc with rfl | hc
        · exact ⟨cl_Net, nf_Net_arcs⟩
        cases hc),
      f1_Net_arcs := fun c hc => (by
        rcases List.mem_cons.mp hc with rfl | hc
        · exact ⟨cl_Net, nf_Net_arcs⟩
        cases hc),
      fx_knows := rfl, inj_knows := injF_knows,
      fc_knows := fun c hc => (by
        rcases List.mem_cons.mp hc with rfl | hc
        · exact ⟨cl_Net, nf_Net_knows⟩
        cases hc),
      f1_Net_knows := fun c hc => (by
        rcases List.mem_cons.mp hc with rfl | hc
        · exact ⟨cl_Net, nf_Net_knows⟩
        cases hc),
      of_InvalidNet := of_InvalidNet, od_InvalidNet := _, ox_InvalidNet := ⟨xo_InvalidNet, xs_InvalidNet, xe_InvalidNet, xy_InvalidNet, xp_InvalidNet⟩, oi_InvalidNet := xa_InvalidNet, ot_InvalidNet := xt_InvalidNet, oF_InvalidNet := oF_InvalidNet, ob_InvalidNet := ob_InvalidNet, om_InvalidNet := PySem.W.mg_of X G xC_InvalidNet, oe_InvalidNet := rfl,
      on_InvalidNet := fun n hn => (by
        rcases List.mem_cons.mp hn with rfl | hn
        · exact xf_InvalidNet_part
        rcases List.mem_cons.mp hn with rfl | hn
        · exact xf_InvalidNet_place
        cases hn),
      of_InvalidText := of_InvalidText, od_InvalidText := _, ox_InvalidText := ⟨xo_InvalidText, xs_InvalidText, xe_InvalidText, xy_InvalidText, xp_InvalidText⟩, oi_InvalidText := xa_InvalidText, ot_InvalidText := xt_InvalidText, oF_InvalidText := oF_InvalidText, ob_InvalidText := ob_InvalidText, om_InvalidText := PySem.W.mg_of X G xC_InvalidText, oe_InvalidText := rfl,
      on_InvalidText := fun n hn => (by
        rcases List.mem_cons.mp hn with rfl | hn
        · exact xf_InvalidText_text
        rcases List.mem_cons.mp hn with rfl | hn
        · exact xf_InvalidText_at
        cases hn) }
  exact (ok_law T).imp (sp_law (G := S) rfl)
theorem walk {l : PySem.W.OpenLaw} {q : Program} {loose : List Str} {XP : (Str → Option Value) → Heap → Prop} {YP : World → Heap → Prop} {d : DefRec} {K : Params → PySem.W.Frag} (hn : l.most = some 63) (hdf : d.params.defaults = [])
    (hY : ∀ (w : World) (h : Heap), YP w h → (K w.params).In h)
    (F : ∀ (w : World) (mg : Str → Option Value) (fa : Addr) (h : Heap), (K w.params).In h → h.Ns mainGlobals mg → mg d.name = some (.ref fa) →
      ∃ fd : FuncData, (∀ (s : Shared) (u : Value), BindsTo s fd ⟨[u], []⟩ [((PySem.Str.ofString "_law_script"), u)]) ∧ ∀ base : Heap, (K w.params).In base → base.Ns mainGlobals mg → FnOk l.prog w (K w.params) mg base (L2.CX l.prog w) 9 fa fd [(PySem.Str.ofString "_law_script")] (spLaw (K w.params))) :
    PySem.W.WalkO q loose XP YP l.row.toRowW d [] (fun f vs => PySem.call f vs) :=
  L2.walk_ofB (n := 63) (k := 9) (x := (PySem.Str.ofString "_law_script")) (CX := fun w => L2.CX l.prog w) (sp := fun w => spLaw (K w.params)) hn (by decide) hdf ⟨rfl, by decide, by decide⟩ hY F (fun _ _ a ns hl hb _ hS => ⟨a, ns, rfl, hS, hl, hb, fun _ => rfl⟩) fun _ _ _ _ _ h => by
    obtain ⟨_, _, _, _, _, _, _, _, _, _, _, _, z⟩ := h
    exact z.elim
end Lk11
open PySem PySem.W PyProof.Rows in
set_option maxRecDepth 100000 in
set_option maxHeartbeats 0 in
theorem PySem.Challenge.cw_keptandsaid_k11_texts_of_nets_holds : PySem.Challenge.rw_keptandsaid_k11_texts_of_nets.Holds := by
  w_on; o_law; k_head; (case hw => w_witness2)
  k_fill
  refine Lk11.walk (l := PySem.Challenge.rw_keptandsaid_k11_texts_of_nets) rfl rfl (fun w h Y => PySem.W.kIn_of Y) ?F
  case F =>
    intro w mg fa h KX G hmg
    refine' Lk11.all_mk KX G hmg ?aC_Net ?xC_InvalidNet ?xC_InvalidText ?a_law_pool ?l_law_pool ?c_law_pool ?k_law_pool ?a_law_draw ?l_law_draw ?c_law_draw ?k_law_draw ?a_law_arcs ?l_law_arcs ?c_law_arcs ?k_law_arcs ?a_law_knows ?l_law_knows ?c_law_knows ?k_law_knows ?a_law_text ?l_law_text ?c_law_text ?k_law_text ?a_is_below ?l_is_below ?c_is_below ?k_is_below ?a_first_wrong_arc ?l_first_wrong_arc ?c_first_wrong_arc ?k_first_wrong_arc ?a_Net_init ?i_Net_init ?l_Net_init ?c_Net_init ?k_Net_init ?a_number_of ?l_number_of ?c_number_of ?k_number_of ?a_size_of ?l_size_of ?c_size_of ?k_size_of ?a_known_of ?l_known_of ?c_known_of ?k_known_of ?a_read_net ?l_read_net ?c_read_net ?k_read_net ?a_law_same ?l_law_same ?c_law_same ?k_law_same ?a_Net_eq ?i_Net_eq ?l_Net_eq ?c_Net_eq ?k_Net_eq ?a_write_net ?l_write_net ?c_write_net ?k_write_net ?a_law_told ?l_law_told ?c_law_told ?k_law_told ?a_law ?l_law ?c_law ?k_law ?pg_Net ?hd_Net ?po_Net ?sa_Net ?mk_Net ?kq_Net ?ha_Net ?hn_Net ?ht_Net ?hm_Net ?nf_Net_size ?nf_Net_arcs ?nf_Net_knows ?xa_InvalidNet ?xt_InvalidNet ?xl_InvalidNet ?xc_InvalidNet ?xk_InvalidNet ?xs_InvalidNet ?xe_InvalidNet ?xy_InvalidNet ?xp_InvalidNet ?xo_InvalidNet ?xf_InvalidNet_part ?xf_InvalidNet_place ?xa_InvalidText ?xt_InvalidText ?xl_InvalidText ?xc_InvalidText ?xk_InvalidText ?xs_InvalidText ?xe_InvalidText ?xy_InvalidText ?xp_InvalidText ?xo_InvalidText ?xf_InvalidText_text ?xf_InvalidText_at ?z_abs ?z_all ?z_bool ?z_enumerate ?z_int ?z_isinstance ?z_len ?z_list ?z_min ?z_range ?z_sorted ?z_str ?z_tuple ?z_zip ?g_FIGURES ?g_MOST_PLACES
    (case aC_Net => k_is)
    (case xC_InvalidNet => k_is)
    (case xC_InvalidText => k_is)
    (case a_law_pool => k_is)
    (case l_law_pool => k_is)
    (case c_law_pool => k_is)
    (case k_law_pool => k_is)
    (case a_law_draw => k_is)
    (case l_law_draw => k_is)
    (case c_law_draw => k_is)
    (case k_law_draw => k_is)
    (case a_law_arcs => k_is)
    (case l_law_arcs => k_is)
    (case c_law_arcs => k_is)
    (case k_law_arcs => k_is)
    (case a_law_knows => k_is)
    (case l_law_knows => k_is)
    (case c_law_knows => k_is)
    (case k_law_knows => k_is)
    (case a_law_text => k_is)
    (case l_law_text => k_is)
    (case c_law_text => k_is)
    (case k_law_text => k_is)
    (case a_is_below => k_is)
    (case l_is_below => k_is)
    (case c_is_below => k_is)
    (case k_is_below => k_is)
    (case a_first_wrong_arc => k_is)
    (case l_first_wrong_arc => k_is)
    (case c_first_wrong_arc => k_is)
    (case k_first_wrong_arc => k_is)
    (case a_Net_init => k_is)
    (case i_Net_init => k_is)
    (case l_Net_init => k_is)
    (case c_Net_init => k_is)
    (case k_Net_init => k_is)
    (case a_number_of => k_is)
    (case l_number_of => k_is)
    (case c_number_of => k_is)
    (case k_number_of => k_is)
    (case a_size_of => k_is)
    (case l_size_of => k_is)
    (case c_size_of => k_is)
    (case k_size_of => k_is)
    (case a_known_of => k_is)
    (case l_known_of => k_is)
    (case c_known_of => k_is)
    (case k_known_of => k_is)
    (case a_read_net => k_is)
    (case l_read_net => k_is)
    (case c_read_net => k_is)
    (case k_read_net => k_is)
    (case a_law_same => k_is)
    (case l_law_same => k_is)
    (case c_law_same => k_is)
    (case k_law_same => k_is)
    (case a_Net_eq => k_is)
    (case i_Net_eq => k_is)
    (case l_Net_eq => k_is)
    (case c_Net_eq => k_is)
    (case k_Net_eq => k_is)
    (case a_write_net => k_is)
    (case l_write_net => k_is)
    (case c_write_net => k_is)
    (case k_write_net => k_is)
    (case a_law_told => k_is)
    (case l_law_told => k_is)
    (case c_law_told => k_is)
    (case k_law_told => k_is)
    (case a_law => k_is)
    (case l_law => k_is)
    (case c_law => k_is)
    (case k_law => k_is)
    (case pg_Net => k_is)
    (case hd_Net => k_is)
    (case po_Net => k_is)
    (case sa_Net => k_is)
    (case mk_Net => k_is)
    (case kq_Net => k_is)
    (case ha_Net => k_is)
    (case hn_Net => k_is)
    (case ht_Net => k_is)
    (case hm_Net => k_is)
    (case nf_Net_size => k_is)
    (case nf_Net_arcs => k_is)
    (case nf_Net_knows => k_is)
    (case xa_InvalidNet => k_is)
    (case xt_InvalidNet => k_is)
    (case xl_InvalidNet => k_is)
    (case xc_InvalidNet => k_is)
    (case xk_InvalidNet => k_is)
    (case xs_InvalidNet => k_is)
    (case xe_InvalidNet => k_is)
    (case xy_InvalidNet => k_is)
    (case xp_InvalidNet => k_is)
    (case xo_InvalidNet => exact ⟨_, _, _, _, [.ref _, .type "ValueError", .type "Exception", .type "BaseException", .type "object"], _, _, _, _, _, _, _, _, _, _, (by k_is), (by decide +kernel)⟩)
    (case xf_InvalidNet_part => k_is)
    (case xf_InvalidNet_place => k_is)
    (case xa_InvalidText => k_is)
    (case xt_InvalidText => k_is)
    (case xl_InvalidText => k_is)
    (case xc_InvalidText => k_is)
    (case xk_InvalidText => k_is)
    (case xs_InvalidText => k_is)
    (case xe_InvalidText => k_is)
    (case xy_InvalidText => k_is)
    (case xp_InvalidText => k_is)
    (case xo_InvalidText => exact ⟨_, _, _, _, [.ref _, .type "ValueError", .type "Exception", .type "BaseException", .type "object"], _, _, _, _, _, _, _, _, _, _, (by k_is), (by decide +kernel)⟩)
    (case xf_InvalidText_text => k_is)
    (case xf_InvalidText_at => k_is)
    (case z_abs => k_is)
    (case z_all => k_is)
    (case z_bool => k_is)
    (case z_enumerate => k_is)
    (case z_int => k_is)
    (case z_isinstance => k_is)
    (case z_len => k_is)
    (case z_list => k_is)
    (case z_min => k_is)
    (case z_range => k_is)
    (case z_sorted => k_is)
    (case z_str => k_is)
    (case z_tuple => k_is)
    (case z_zip => k_is)
    (case g_FIGURES => k_is)
    (case g_MOST_PLACES => k_is)
